import PyProof.Rows.All
import Wide.All
import OpenK.AllK
import Wide.FinOn
import HandS.ForMost
import HandS.ForExc
import HandS.Flow
import HandS.Star
import HandS.TryOnly
import HandS.Style
import HandS.Defaults
import HandS.MakeKw
import HandS.MakeKwOnly
import PyProof.NeKinds
import HandS.TupAny
import HandS.TupMul
import HandS.Text
import HandS.IsInst
import HandS.Iter
import HandS.Zip
import HandS.AnyAll
import HandS.DictComp
import HandS.Small
import HandS.WordsDict
import HandS.More
import HandS.SlotsOwn
import PyProof.Rows.StrMeet
import KE.KSuper
import HandS.ClsMeth
import HandS.Head0
import HandS.Head1
import HandS.Head2
import HandS.HeadEnd
import HandS.HeadHook1
import HandS.HeadHook2
import HandS.Words
import PySem.Challenge.RW_shutlids_k01_things_made
set_option Elab.async false
set_option linter.all false
set_option maxRecDepth 100000
set_option maxHeartbeats 1000000
/-! SK1: values as trees, owners, the relation to the layer's heap, readings that are functions. -/
namespace SK
open PySem L2

abbrev Sg := List Nat

inductive Val where
  | non | bl (b : Bool) | int (i : Int) | str (x : Sg)
  | tup (xs : List Val) | lst (xs : List Val)
  | dic (ks : List Val) (vs : List Val)
  | ins (c : Nat) (fs : List Nat) (vs : List Val)
  | scr (ns : List Int)
instance : Inhabited Val := ⟨.non⟩

/-- who owns a mutable object: a slot of the frame at hand, a field of such a slot's instance, somebody further out -/
inductive Ow where
  | sl (i : Nat) | fl (i f : Nat) | out | tmp
  deriving DecidableEq
abbrev Own := Addr → Option Ow

/-- the program's tables: classes, field names, which fields own their lists, constant dicts -/
structure Tb where
  cl : Nat → Addr
  nf : Nat
  fld : Nat → Str
  own : Nat → Nat → Bool
  kd : Addr → List (Key × V) → Prop

/-- what a slot owned and gave away by value: it stands there still, to be read -/
def FRZ : Nat := 999999
def fz (v : Val) : Val := .ins FRZ [] [v]
def unfz : Val → Val
  | .ins c [] [v] => if c = FRZ then v else .ins c [] [v]
  | v => v
def isFz : Val → Bool
  | .ins c [] [_] => decide (c = FRZ)
  | _ => false
theorem unfz_not : ∀ {v : Val}, isFz v = false → unfz v = v
  | .ins c [] [v], h => by
    have : ¬ c = FRZ := of_decide_eq_false h
    exact if_neg this
  | .ins c [] [], _ => rfl
  | .ins c [] (_ :: _ :: _), _ => rfl
  | .ins c (_ :: _) vs, _ => rfl
  | .non, _ => rfl
  | .bl _, _ => rfl
  | .int _, _ => rfl
  | .str _, _ => rfl
  | .tup _, _ => rfl
  | .lst _, _ => rfl
  | .dic _ _, _ => rfl
  | .scr _, _ => rfl
theorem isFz_fz (v : Val) : isFz (fz v) = true := by simp [isFz, fz]
theorem unfz_fz (v : Val) : unfz (fz v) = v := by simp [unfz, fz]
def kVal : Key → Val
  | .inl i => .int i
  | .inr x => .str x.cps.toList

section
variable (K : PySem.W.Frag) (T : Tb) (O : Own) (H : Hp)

def TupAt (a : Addr) (vs : List V) : Prop := (H a = some (.tup vs) ∧ O a = none) ∨ (∀ H', SqT K H' a vs)
def LstAt (a : Addr) (vs : List V) : Prop := H a = some (.lst vs) ∧ O a = none
def ScrAt (a : Addr) (vs : List V) : Prop := (H a = some (.lst vs) ∧ O a = none) ∨ ((∃ o, H a = some (.frz o (.lst vs))) ∧ O a = none) ∨ (∀ H', SqL K H' a vs)
def DicAt (a : Addr) (kvs : List (Key × V)) : Prop := (H a = some (.dK kvs) ∧ O a = none) ∨ T.kd a kvs
/-- the fields of an instance, by name -/
def FsR (fs : List Nat) (ws : List V) (fs' : List (Str × V)) : Prop := fs.length = ws.length ∧ fs'.length = fs.length ∧ (∀ g ∈ fs, g < T.nf) ∧ ∀ nm : Str, fs'.lookup nm = ((fs.map T.fld).zip ws).lookup nm

mutual
def VR : Val → V → Prop
  | .non, x => x = .non
  | .bl b, x => x = .bl b
  | .int i, x => x = .int i
  | .str s, x => ∃ z : Str, x = .str z ∧ z.cps.toList = s
  | .tup xs, x => ∃ a vs, x = .ref a ∧ TupAt K O H a vs ∧ VRs xs vs
  | .lst xs, x => ∃ a vs, x = .ref a ∧ LstAt O H a vs ∧ VRs xs vs
  | .dic ks vs, x => ∃ a kvs, x = .ref a ∧ DicAt T O H a kvs ∧ ks = kvs.map (fun p => kVal p.1) ∧ VRs vs (kvs.map (·.2))
  | .ins c fs vs, x => ∃ a dx fs' ws, x = .ref a ∧ H a = some (.ins (T.cl c) dx fs') ∧ O a = none ∧ FsR T fs ws fs' ∧ VRs vs ws
  | .scr ns, x => ∃ a, x = .ref a ∧ ScrAt K O H a (ns.map V.int)
def VRs : List Val → List V → Prop
  | [], ys => ys = []
  | x :: xs, ys => ∃ y r, ys = y :: r ∧ VR x y ∧ VRs xs r
end

/-- a list or dict that ow owns -/
def OwL (ow : Ow) : Val → V → Prop
  | .lst xs, x => ∃ a vs, x = .ref a ∧ O a = some ow ∧ H a = some (.lst vs) ∧ VRs K T O H xs vs
  | .dic ks vs, x => ∃ a kvs, x = .ref a ∧ O a = some ow ∧ H a = some (.dK kvs) ∧ ks = kvs.map (fun p => kVal p.1) ∧ VRs K T O H vs (kvs.map (·.2))
  | _, _ => False
def FRs (c i : Nat) : List Nat → List Val → List V → Prop
  | f :: fs, v :: vs, w :: ws => (if T.own c f = true then OwL K T O H (.fl i f) v w else VR K T O H v w) ∧ FRs c i fs vs ws
  | [], [], [] => True
  | _, _, _ => False
/-- what slot i owns -/
def OwR (i : Nat) : Val → V → Prop
  | .ins c fs vs, x => ∃ a dx fs' ws, x = .ref a ∧ O a = some (.sl i) ∧ H a = some (.ins (T.cl c) dx fs') ∧ FsR T fs ws fs' ∧ FRs K T O H c i fs vs ws
  | v, x => OwL K T O H (.sl i) v x
/-- a list or dict by value, or lent to be read -/
def BoL (v : Val) (x : V) : Prop := VR K T O H v x ∨ OwL K T O H .out v x
def BFs (c : Nat) : List Nat → List Val → List V → Prop
  | f :: fs, v :: vs, w :: ws => (if T.own c f = true then BoL K T O H v w else VR K T O H v w) ∧ BFs c fs vs ws
  | [], [], [] => True
  | _, _, _ => False
def LdI : Val → V → Prop
  | .ins c fs vs, x => ∃ a dx fs' ws, x = .ref a ∧ O a = some .out ∧ H a = some (.ins (T.cl c) dx fs') ∧ FsR T fs ws fs' ∧ BFs K T O H c fs vs ws
  | _, _ => False
/-- a value, or a thing that is lent to be read -/
def BoR (v : Val) (x : V) : Prop := BoL K T O H v x ∨ LdI K T O H v x
/-- mu (BOR + i): the slot i is lent to be read -/
def BOR : Nat := 2000000
/-- the slot of what a def gives back, where that is owned -/
def RES : Nat := 1000000
/-- what a def gives back -/
def RsR (mu : Nat → Bool) (v : Val) (x : V) : Prop := if mu RES = true then OwR K T O H RES v x else VR K T O H v x
def SlR (mu : Nat → Bool) (i : Nat) (v : Val) (x : V) : Prop := if mu i = true then (if isFz v = true then VR K T O H (unfz v) x else OwR K T O H i v x) else if mu (BOR + i) = true then BoR K T O H v x else VR K T O H v x
end

abbrev Fr := List (Option Val)
structure Rl (K : PySem.W.Frag) (T : Tb) (mu : Nat → Bool) (io : List (Nat × V)) (O : Own) (fr : Fr) (σ : St) (H : Hp) : Prop where
  len : fr.length = σ.length
  sl : ∀ i v, fr[i]? = some (some v) → ∃ x, σ[i]? = some (some x) ∧ SlR K T O H mu i v x
  trk : ∀ a, O a ≠ none → H a ≠ none
  io : ∀ p ∈ io, σ[p.1]? = some (some p.2)

/-- what is nobody's (by value) stays; what is owned further out stays -/
structure Fm (O : Own) (H : Hp) (O' : Own) (H' : Hp) : Prop where
  byv : ∀ a o, H a = some o → O a = none → H' a = some o ∧ O' a = none
  out : ∀ a o, H a = some o → O a = some .out → H' a = some o ∧ O' a = some .out
  tmp : ∀ a o, H a = some o → O a = some .tmp → H' a = some o ∧ O' a = some .tmp
  no : ∀ a, O' a = some .out → O a = some .out
/-- what is nobody's stays so -/
def Fb (O : Own) (H : Hp) (O' : Own) (H' : Hp) : Prop := ∀ a o, H a = some o → O a = none → H' a = some o ∧ O' a = none
theorem Fm.b {O H O' H'} (f : Fm O H O' H') : Fb O H O' H' := f.byv
theorem Fb.refl (O : Own) (H : Hp) : Fb O H O H := fun _ _ h n => ⟨h, n⟩
theorem Fb.trans {O H O1 H1 O2 H2} (a : Fb O H O1 H1) (b : Fb O1 H1 O2 H2) : Fb O H O2 H2 := fun x o h n => let ⟨h1, n1⟩ := a x o h n; b x o h1 n1
theorem Fm.refl (O : Own) (H : Hp) : Fm O H O H := ⟨fun _ _ h n => ⟨h, n⟩, fun _ _ h n => ⟨h, n⟩, fun _ _ h n => ⟨h, n⟩, fun _ h => h⟩
theorem Fm.trans {O H O1 H1 O2 H2} (a : Fm O H O1 H1) (b : Fm O1 H1 O2 H2) : Fm O H O2 H2 :=
  ⟨fun x o h n => let ⟨h1, n1⟩ := a.byv x o h n; b.byv x o h1 n1, fun x o h n => let ⟨h1, n1⟩ := a.out x o h n; b.out x o h1 n1, fun x o h n => let ⟨h1, n1⟩ := a.tmp x o h n; b.tmp x o h1 n1, fun x h => a.no x (b.no x h)⟩
/-- the heap has grown -/
def Hx (H H' : Hp) : Prop := ∀ a o, H a = some o → H' a = some o
theorem Hx.refl (H : Hp) : Hx H H := fun _ _ h => h
theorem Hx.trans {H H1 H2} (a : Hx H H1) (b : Hx H1 H2) : Hx H H2 := fun x o h => b x o (a x o h)
theorem Hx.upd {H : Hp} {p : Addr} {o : HO} (h : H p = none) : Hx H (upd H p o) := fun a u e => by
  rw [upd_ne (ne_of_none e h)]; exact e
theorem Hx.fm {O : Own} {H H' : Hp} (h : Hx H H') : Fm O H O H' := ⟨fun a o e n => ⟨h a o e, n⟩, fun a o e n => ⟨h a o e, n⟩, fun a o e n => ⟨h a o e, n⟩, fun _ e => e⟩
theorem Hx.free {H H' : Hp} (h : Hx H H') {a : Addr} (e : H' a = none) : H a = none := by
  cases q : H a with
  | none => rfl
  | some o => rw [h a o q] at e; cases e

section
variable {K : PySem.W.Frag} {T : Tb} {O O' : Own} {H H' : Hp}
theorem TupAt.monoB (f : Fb O H O' H') {a vs} : TupAt K O H a vs → TupAt K O' H' a vs
  | .inl ⟨h, n⟩ => .inl (f _ _ h n)
  | .inr h => .inr h
theorem LstAt.monoB (f : Fb O H O' H') {a vs} : LstAt O H a vs → LstAt O' H' a vs
  | ⟨h, n⟩ => f _ _ h n
theorem ScrAt.monoB (f : Fb O H O' H') {a vs} : ScrAt K O H a vs → ScrAt K O' H' a vs
  | .inl ⟨h, n⟩ => .inl (f _ _ h n)
  | .inr (.inl ⟨⟨o, h⟩, n⟩) => .inr (.inl (let ⟨x, y⟩ := f _ _ h n; ⟨⟨o, x⟩, y⟩))
  | .inr (.inr h) => .inr (.inr h)
theorem DicAt.monoB (f : Fb O H O' H') {a kvs} : DicAt T O H a kvs → DicAt T O' H' a kvs
  | .inl ⟨h, n⟩ => .inl (f _ _ h n)
  | .inr h => .inr h
mutual
theorem VR.monoB (f : Fb O H O' H') : ∀ (v : Val) (x : V), VR K T O H v x → VR K T O' H' v x
  | .non, _, h => by unfold VR at h ⊢; exact h
  | .bl _, _, h => by unfold VR at h ⊢; exact h
  | .int _, _, h => by unfold VR at h ⊢; exact h
  | .str _, _, h => by unfold VR at h ⊢; exact h
  | .tup xs, x, h => by
    unfold VR at h ⊢
    obtain ⟨a, vs, e, t, r⟩ := h
    exact ⟨a, vs, e, t.monoB f, VRs.monoB f xs vs r⟩
  | .lst xs, x, h => by
    unfold VR at h ⊢
    obtain ⟨a, vs, e, t, r⟩ := h
    exact ⟨a, vs, e, t.monoB f, VRs.monoB f xs vs r⟩
  | .dic ks vs, x, h => by
    unfold VR at h ⊢
    obtain ⟨a, kvs, e, t, q, r⟩ := h
    exact ⟨a, kvs, e, t.monoB f, q, VRs.monoB f vs _ r⟩
  | .ins c fs vs, x, h => by
    unfold VR at h ⊢
    obtain ⟨a, dx, fs', ws, e, t, n, q, r⟩ := h
    obtain ⟨t', n'⟩ := f _ _ t n
    exact ⟨a, dx, fs', ws, e, t', n', q, VRs.monoB f vs _ r⟩
  | .scr ns, x, h => by
    unfold VR at h ⊢
    obtain ⟨a, e, t⟩ := h
    exact ⟨a, e, t.monoB f⟩
theorem VRs.monoB (f : Fb O H O' H') : ∀ (vs : List Val) (xs : List V), VRs K T O H vs xs → VRs K T O' H' vs xs
  | [], _, h => by unfold VRs at h ⊢; exact h
  | v :: vs, _, h => by
    unfold VRs at h ⊢
    obtain ⟨y, r, e, a, b⟩ := h
    exact ⟨y, r, e, VR.monoB f v y a, VRs.monoB f vs r b⟩
end
theorem TupAt.mono (f : Fm O H O' H') {a vs} (h : TupAt K O H a vs) : TupAt K O' H' a vs := h.monoB f.b
theorem LstAt.mono (f : Fm O H O' H') {a vs} (h : LstAt O H a vs) : LstAt O' H' a vs := h.monoB f.b
theorem DicAt.mono (f : Fm O H O' H') {a kvs} (h : DicAt T O H a kvs) : DicAt T O' H' a kvs := h.monoB f.b
theorem VR.mono (f : Fm O H O' H') (v : Val) (x : V) (h : VR K T O H v x) : VR K T O' H' v x := VR.monoB f.b v x h
theorem VRs.mono (f : Fm O H O' H') (v : List Val) (x : List V) (h : VRs K T O H v x) : VRs K T O' H' v x := VRs.monoB f.b v x h
theorem VRs.nil : VRs K T O H [] [] := by unfold VRs; rfl
theorem VRs.cons {v vs x xs} (a : VR K T O H v x) (b : VRs K T O H vs xs) : VRs K T O H (v :: vs) (x :: xs) := by
  unfold VRs; exact ⟨x, xs, rfl, a, b⟩
theorem VRs.inv {v vs xs} (h : VRs K T O H (v :: vs) xs) : ∃ y r, xs = y :: r ∧ VR K T O H v y ∧ VRs K T O H vs r := by
  unfold VRs at h; exact h
theorem VRs.inv0 {xs} (h : VRs K T O H [] xs) : xs = [] := by unfold VRs at h; exact h
theorem VRs.len : ∀ {vs xs}, VRs K T O H vs xs → vs.length = xs.length
  | [], _, h => by rw [h.inv0]; rfl
  | _ :: _, _, h => by obtain ⟨y, r, rfl, _, b⟩ := h.inv; rw [List.length_cons, List.length_cons, b.len]
theorem VRs.app : ∀ {vs xs ws ys}, VRs K T O H vs xs → VRs K T O H ws ys → VRs K T O H (vs ++ ws) (xs ++ ys)
  | [], _, _, _, h, g => by rw [h.inv0]; exact g
  | _ :: _, _, _, _, h, g => by obtain ⟨y, r, rfl, a, b⟩ := h.inv; exact .cons a (b.app g)
theorem VRs.get : ∀ {vs xs} {i : Nat} {v}, VRs K T O H vs xs → vs[i]? = some v → ∃ x, xs[i]? = some x ∧ VR K T O H v x
  | [], _, _, _, _, e => by simp at e
  | w :: _, _, 0, v, h, e => by
    obtain ⟨y, r, rfl, a, b⟩ := h.inv
    simp at e; subst e; exact ⟨y, rfl, a⟩
  | _ :: _, _, i + 1, v, h, e => by
    obtain ⟨y, r, rfl, a, b⟩ := h.inv
    simp at e
    obtain ⟨x, h1, h2⟩ := b.get e
    exact ⟨x, by simpa using h1, h2⟩
theorem VRs.getR : ∀ {vs xs} {i : Nat} {x}, VRs K T O H vs xs → xs[i]? = some x → ∃ v, vs[i]? = some v ∧ VR K T O H v x
  | [], _, _, _, h, e => by rw [h.inv0] at e; simp at e
  | w :: _, _, 0, v, h, e => by
    obtain ⟨y, r, rfl, a, b⟩ := h.inv
    simp at e; subst e; exact ⟨w, rfl, a⟩
  | _ :: _, _, i + 1, v, h, e => by
    obtain ⟨y, r, rfl, a, b⟩ := h.inv
    simp at e
    obtain ⟨x, h1, h2⟩ := b.getR e
    exact ⟨x, by simpa using h1, h2⟩
theorem VRs.take : ∀ {vs xs} (n : Nat), VRs K T O H vs xs → VRs K T O H (vs.take n) (xs.take n)
  | _, _, 0, _ => by simpa using VRs.nil
  | [], _, n + 1, h => by rw [h.inv0]; exact VRs.nil
  | _ :: _, _, n + 1, h => by obtain ⟨y, r, rfl, a, b⟩ := h.inv; exact .cons a (b.take n)
theorem VRs.drop : ∀ {vs xs} (n : Nat), VRs K T O H vs xs → VRs K T O H (vs.drop n) (xs.drop n)
  | _, _, 0, h => by simpa using h
  | [], _, n + 1, h => by rw [h.inv0]; exact VRs.nil
  | _ :: _, _, n + 1, h => by obtain ⟨y, r, rfl, a, b⟩ := h.inv; exact b.drop n
theorem VRs.rev : ∀ {vs xs}, VRs K T O H vs xs → VRs K T O H vs.reverse xs.reverse
  | [], _, h => by rw [h.inv0]; exact VRs.nil
  | _ :: _, _, h => by
    obtain ⟨y, r, rfl, a, b⟩ := h.inv
    rw [List.reverse_cons, List.reverse_cons]
    exact b.rev.app (.cons a .nil)
theorem VRs.set {v x} (r : VR K T O H v x) : ∀ {vs xs} (i : Nat), VRs K T O H vs xs → VRs K T O H (vs.set i v) (xs.set i x)
  | [], _, _, h => by rw [h.inv0]; exact VRs.nil
  | _ :: _, _, 0, h => by obtain ⟨y, q, rfl, a, b⟩ := h.inv; exact .cons r b
  | _ :: _, _, i + 1, h => by obtain ⟨y, q, rfl, a, b⟩ := h.inv; exact .cons a (b.set r i)

theorem OwL.monoB (ow : Ow) (f : Fb O H O' H') (hk : ∀ a o, H a = some o → O a = some ow → H' a = some o ∧ O' a = some ow) : ∀ {v x}, OwL K T O H ow v x → OwL K T O' H' ow v x
  | .lst xs, x, ⟨a, vs, e, o, h, r⟩ => let ⟨h', o'⟩ := hk a _ h o; ⟨a, vs, e, o', h', r.monoB f⟩
  | .dic ks ws, x, ⟨a, kvs, e, o, h, q, r⟩ => let ⟨h', o'⟩ := hk a _ h o; ⟨a, kvs, e, o', h', q, r.monoB f⟩
  | .non, _, h => h.elim
  | .bl _, _, h => h.elim
  | .int _, _, h => h.elim
  | .str _, _, h => h.elim
  | .tup _, _, h => h.elim
  | .ins _ _ _, _, h => h.elim
  | .scr _, _, h => h.elim
theorem FRs.monoB {c i : Nat} (f : Fb O H O' H') (hk : ∀ a o g, H a = some o → O a = some (.fl i g) → H' a = some o ∧ O' a = some (.fl i g)) : ∀ {fs vs ws}, FRs K T O H c i fs vs ws → FRs K T O' H' c i fs vs ws
  | [], [], [], _ => trivial
  | g :: fs, v :: vs, w :: ws, ⟨a, b⟩ => by
    refine ⟨?_, b.monoB f hk⟩
    by_cases h : T.own c g = true
    · rw [if_pos h] at a ⊢; exact OwL.monoB _ f (fun a o => hk a o g) a
    · rw [if_neg h] at a ⊢; exact VR.monoB f _ _ a
  | [], _ :: _, _, h => h.elim
  | [], [], _ :: _, h => h.elim
  | _ :: _, [], _, h => h.elim
  | _ :: _, _ :: _, [], h => h.elim
def ofSlot (i : Nat) (w : Ow) : Prop := w = .sl i ∨ ∃ g, w = .fl i g
theorem OwR.monoB {i : Nat} (f : Fb O H O' H') (hk : ∀ a o w, H a = some o → O a = some w → ofSlot i w → H' a = some o ∧ O' a = some w) : ∀ {v x}, OwR K T O H i v x → OwR K T O' H' i v x
  | .ins c fs vs, x, ⟨a, dx, fs', ws, e, o, h, q, r⟩ => let ⟨h', o'⟩ := hk a _ _ h o (.inl rfl); ⟨a, dx, fs', ws, e, o', h', q, r.monoB f fun a o g h n => hk a o _ h n (.inr ⟨g, rfl⟩)⟩
  | .lst xs, x, h => show OwL K T O' H' (.sl i) (.lst xs) x from OwL.monoB _ f (fun a o h n => hk a o _ h n (.inl rfl)) (show OwL K T O H (.sl i) (.lst xs) x from h)
  | .dic ks ws, x, h => show OwL K T O' H' (.sl i) (.dic ks ws) x from OwL.monoB _ f (fun a o h n => hk a o _ h n (.inl rfl)) (show OwL K T O H (.sl i) (.dic ks ws) x from h)
  | .non, _, h => h.elim
  | .bl _, _, h => h.elim
  | .int _, _, h => h.elim
  | .str _, _, h => h.elim
  | .tup _, _, h => h.elim
  | .scr _, _, h => h.elim
/-- what is lent stays -/
def Fo (O : Own) (H : Hp) (O' : Own) (H' : Hp) : Prop := ∀ a o, H a = some o → O a = some .out → H' a = some o ∧ O' a = some .out
theorem BoL.monoB (f : Fb O H O' H') (g : Fo O H O' H') {v x} (h : BoL K T O H v x) : BoL K T O' H' v x := by
  rcases h with h | h
  · exact .inl (h.monoB f)
  · exact .inr (OwL.monoB _ f (fun a o => g a o) h)
theorem BFs.monoB {c : Nat} (f : Fb O H O' H') (g : Fo O H O' H') : ∀ {fs vs ws}, BFs K T O H c fs vs ws → BFs K T O' H' c fs vs ws
  | [], [], [], _ => trivial
  | k :: fs, v :: vs, w :: ws, ⟨a, b⟩ => by
    refine ⟨?_, b.monoB f g⟩
    by_cases h : T.own c k = true
    · rw [if_pos h] at a ⊢; exact BoL.monoB f g a
    · rw [if_neg h] at a ⊢; exact VR.monoB f _ _ a
  | [], _ :: _, _, h => h.elim
  | [], [], _ :: _, h => h.elim
  | _ :: _, [], _, h => h.elim
  | _ :: _, _ :: _, [], h => h.elim
theorem LdI.monoB (f : Fb O H O' H') (g : Fo O H O' H') : ∀ {v x}, LdI K T O H v x → LdI K T O' H' v x
  | .ins c fs vs, x, ⟨a, dx, fs', ws, e, o, h, q, r⟩ => let ⟨h', o'⟩ := g a _ h o; ⟨a, dx, fs', ws, e, o', h', q, r.monoB f g⟩
  | .non, _, h => h.elim
  | .bl _, _, h => h.elim
  | .int _, _, h => h.elim
  | .str _, _, h => h.elim
  | .tup _, _, h => h.elim
  | .lst _, _, h => h.elim
  | .dic _ _, _, h => h.elim
  | .scr _, _, h => h.elim
theorem BoR.monoB (f : Fb O H O' H') (g : Fo O H O' H') {v x} (h : BoR K T O H v x) : BoR K T O' H' v x := by
  rcases h with h | h
  · exact .inl (h.monoB f g)
  · exact .inr (h.monoB f g)
theorem VR.nf : ∀ {v : Val} {x : V}, VR K T O H v x → isFz v = false
  | .ins c [] [v], x, h => by
    unfold VR at h
    obtain ⟨a, dx, fs', ws, e, t, n, q, r⟩ := h
    have h1 := q.1
    have h2 := r.len
    rw [← h1] at h2
    simp at h2
  | .ins c [] [], _, _ => rfl
  | .ins c [] (_ :: _ :: _), _, _ => rfl
  | .ins c (_ :: _) vs, _, _ => rfl
  | .non, _, _ => rfl
  | .bl _, _, _ => rfl
  | .int _, _, _ => rfl
  | .str _, _, _ => rfl
  | .tup _, _, _ => rfl
  | .lst _, _, _ => rfl
  | .dic _ _, _, _ => rfl
  | .scr _, _, _ => rfl
theorem OwL.nf {w : Ow} : ∀ {v : Val} {x : V}, OwL K T O H w v x → isFz v = false
  | .ins _ _ _, _, h => h.elim
  | .non, _, _ => rfl
  | .bl _, _, _ => rfl
  | .int _, _, _ => rfl
  | .str _, _, _ => rfl
  | .tup _, _, _ => rfl
  | .lst _, _, _ => rfl
  | .dic _ _, _, _ => rfl
  | .scr _, _, _ => rfl
theorem LdI.nf : ∀ {v : Val} {x : V}, LdI K T O H v x → isFz v = false
  | .ins c [] [v], x, ⟨a, dx, fs', ws, e, o, h, q, r⟩ => by cases ws <;> exact r.elim
  | .ins c [] [], _, _ => rfl
  | .ins c [] (_ :: _ :: _), _, _ => rfl
  | .ins c (_ :: _) vs, _, _ => rfl
  | .non, _, _ => rfl
  | .bl _, _, _ => rfl
  | .int _, _, _ => rfl
  | .str _, _, _ => rfl
  | .tup _, _, _ => rfl
  | .lst _, _, _ => rfl
  | .dic _ _, _, _ => rfl
  | .scr _, _, _ => rfl
theorem BoR.nf {v : Val} {x : V} (h : BoR K T O H v x) : isFz v = false := by
  rcases h with (h | h) | h
  · exact h.nf
  · exact h.nf
  · exact h.nf
theorem Fm.o (f : Fm O H O' H') : Fo O H O' H' := f.out
theorem SlR.monoB {mu : Nat → Bool} {i : Nat} (f : Fb O H O' H') (g : Fo O H O' H') (hk : mu i = true → ∀ a o w, H a = some o → O a = some w → ofSlot i w → H' a = some o ∧ O' a = some w) {v x} (h : SlR K T O H mu i v x) : SlR K T O' H' mu i v x := by
  unfold SlR at h ⊢
  by_cases m : mu i = true
  · rw [if_pos m] at h ⊢
    split at h
    · rename_i z; rw [if_pos z]; exact VR.monoB f _ _ h
    · rename_i z; rw [if_neg z]; exact OwR.monoB f (hk m) h
  · rw [if_neg m] at h ⊢
    by_cases b : mu (BOR + i) = true
    · rw [if_pos b] at h ⊢; exact BoR.monoB f g h
    · rw [if_neg b] at h ⊢; exact VR.monoB f _ _ h
theorem OwR.mono {i : Nat} (f : Fm O H O' H') (hk : ∀ a o w, H a = some o → O a = some w → ofSlot i w → H' a = some o ∧ O' a = some w) {v x} (h : OwR K T O H i v x) : OwR K T O' H' i v x := OwR.monoB f.b hk h
theorem SlR.mono {mu : Nat → Bool} {i : Nat} (f : Fm O H O' H') (hk : mu i = true → ∀ a o w, H a = some o → O a = some w → ofSlot i w → H' a = some o ∧ O' a = some w) {v x} (h : SlR K T O H mu i v x) : SlR K T O' H' mu i v x := SlR.monoB f.b f.o hk h
/-- another heap, other owners: what the slots own stands -/
theorem Rl.monoB {mu io fr σ} (r : Rl K T mu io O fr σ H) (f : Fb O H O' H') (g : Fo O H O' H') (hk : ∀ i, mu i = true → ∀ a o w, H a = some o → O a = some w → ofSlot i w → H' a = some o ∧ O' a = some w) (tr : ∀ a, O' a ≠ none → H' a ≠ none) : Rl K T mu io O' fr σ H' :=
  ⟨r.len, fun i v e => let ⟨x, e1, s⟩ := r.sl i v e; ⟨x, e1, SlR.monoB f g (hk i) s⟩, tr, r.io⟩
/-- the heap grows, the owners stay -/
theorem Rl.hx {mu io fr σ} (r : Rl K T mu io O fr σ H) (h : Hx H H') : Rl K T mu io O fr σ H' :=
  ⟨r.len, fun i v e => let ⟨x, e1, s⟩ := r.sl i v e; ⟨x, e1, SlR.mono h.fm (fun _ a o w e n _ => ⟨h a o e, n⟩) s⟩,
    fun a n q => r.trk a n (h.free q), r.io⟩
theorem Rl.val {mu io fr σ} (r : Rl K T mu io O fr σ H) {i v} (e : fr[i]? = some (some v)) (m : mu i = false) (b : mu (BOR + i) = false) : ∃ x, σ[i]? = some (some x) ∧ VR K T O H v x := by
  obtain ⟨x, e1, s⟩ := r.sl i v e
  unfold SlR at s
  rw [if_neg (by rw [m]; exact Bool.false_ne_true), if_neg (by rw [b]; exact Bool.false_ne_true)] at s
  exact ⟨x, e1, s⟩
theorem Rl.bor {mu io fr σ} (r : Rl K T mu io O fr σ H) {i v} (e : fr[i]? = some (some v)) (m : mu i = false) (b : mu (BOR + i) = true) : ∃ x, σ[i]? = some (some x) ∧ BoR K T O H v x := by
  obtain ⟨x, e1, s⟩ := r.sl i v e
  unfold SlR at s
  rw [if_neg (by rw [m]; exact Bool.false_ne_true), if_pos b] at s
  exact ⟨x, e1, s⟩
theorem Rl.owned {mu io fr σ} (r : Rl K T mu io O fr σ H) {i v} (e : fr[i]? = some (some v)) (m : mu i = true) (z : isFz v = false) : ∃ x, σ[i]? = some (some x) ∧ OwR K T O H i v x := by
  obtain ⟨x, e1, s⟩ := r.sl i v e
  unfold SlR at s
  rw [if_pos m, if_neg (by rw [z]; exact Bool.false_ne_true)] at s
  exact ⟨x, e1, s⟩
end

/-! ### results -/
inductive R (α : Type) where
  | ok (a : α) | exc (e : Val) | bad
def R.bind {α β : Type} : R α → (α → R β) → R β
  | .ok a, f => f a
  | .exc e, _ => .exc e
  | .bad, _ => .bad
@[simp] theorem R.bind_ok {α β} (a : α) (f : α → R β) : (R.ok a).bind f = f a := rfl
@[simp] theorem R.bind_exc {α β} (e : Val) (f : α → R β) : (R.exc e).bind f = .exc e := rfl
@[simp] theorem R.bind_bad {α β} (f : α → R β) : (R.bad).bind f = .bad := rfl
theorem R.bind_eq {α β} {r : R α} {f : α → R β} {b : β} (h : r.bind f = .ok b) : ∃ a, r = .ok a ∧ f a = .ok b := by
  cases r with
  | ok a => exact ⟨a, rfl, h⟩
  | exc e => cases h
  | bad => cases h
def ofO {α} : Option α → R α
  | some a => .ok a
  | none => .bad

abbrev EM := Fr → R (Val × Fr)
abbrev TM := Fr → R (Bool × Fr)
abbrev AM := Fr → R (List Val × Fr)
inductive Fl where
  | nx | rt (v : Val) | bk | ct
abbrev SM := Fr → R (Fl × Fr)

/-- the exception e as a class, its own dict, a heap: its fields by value -/
def ExR (K : PySem.W.Frag) (T : Tb) (O : Own) (H : Hp) (e : Val) (cv : Value) (d : Option Addr) : Prop :=
  ∃ c fs vs ws fs' da, e = .ins c fs vs ∧ cv = .ref (T.cl c) ∧ d = some da ∧ H da = some (.xd fs') ∧ FsR T fs ws fs' ∧ VRs K T O H vs ws

section
variable (K : PySem.W.Frag) (T : Tb) (E : XK) (mu : Nat → Bool) (io : List (Nat × V))
/-- what follows an exception -/
def pEx (O : Own) (H : Hp) (e : Val) : Prop := ∀ O' H' c d, Fm O H O' H' → ExR K T O' H' e c d → E c d H'
def pE (O : Own) (σ : St) (H : Hp) (Q : VK) : R (Val × Fr) → Prop
  | .ok (v, fr') => ∀ O' H' x, Fm O H O' H' → Rl K T mu io O' fr' σ H' → VR K T O' H' v x → Q x H'
  | .exc e => pEx K T E O H e
  | .bad => False
def rE (m : EM) : TE := fun σ H Q => ∃ O fr, Rl K T mu io O fr σ H ∧ pE K T E mu io O σ H Q (m fr)
def pT (O : Own) (σ : St) (H : Hp) (Q : Bool → Hp → Prop) : R (Bool × Fr) → Prop
  | .ok (b, fr') => ∀ O' H', Fm O H O' H' → Rl K T mu io O' fr' σ H' → Q b H'
  | .exc e => pEx K T E O H e
  | .bad => False
def rT (m : TM) : TT := fun σ H Q => ∃ O fr, Rl K T mu io O fr σ H ∧ pT K T E mu io O σ H Q (m fr)
def pA (O : Own) (σ : St) (H : Hp) (Q : List V → Hp → Prop) : R (List Val × Fr) → Prop
  | .ok (vs, fr') => ∀ O' H' xs, Fm O H O' H' → Rl K T mu io O' fr' σ H' → VRs K T O' H' vs xs → Q xs H'
  | .exc e => pEx K T E O H e
  | .bad => False
def rA (m : AM) : TA := fun σ H Q => ∃ O fr, Rl K T mu io O fr σ H ∧ pA K T E mu io O σ H Q (m fr)
def pS (O : Own) (D : Ends) (H : Hp) : R (Fl × Fr) → Prop
  | .ok (.nx, fr') => ∀ O' H' σ', Fm O H O' H' → Rl K T mu io O' fr' σ' H' → D.nx σ' H'
  | .ok (.bk, fr') => ∀ O' H' σ', Fm O H O' H' → Rl K T mu io O' fr' σ' H' → D.bk σ' H'
  | .ok (.ct, fr') => ∀ O' H' σ', Fm O H O' H' → Rl K T mu io O' fr' σ' H' → D.ct σ' H'
  | .ok (.rt v, fr') => ∀ O' H' σ' x, Fm O H O' H' → Rl K T mu io O' fr' σ' H' → RsR K T O' H' mu v x → D.rt x H'
  | .exc e => pEx K T E O H e
  | .bad => False
def rS (m : SM) : TS := fun D σ H => ∃ O fr, Rl K T mu io O fr σ H ∧ pS K T E mu io O D H (m fr)
end

section
variable {K : PySem.W.Frag} {T : Tb} {E : XK} {mu : Nat → Bool} {io : List (Nat × V)} {O O1 : Own} {σ : St} {H H1 : Hp}
theorem pEx.back (f : Fm O H O1 H1) {e} (h : pEx K T E O H e) : pEx K T E O1 H1 e := fun O' H' c d g x => h O' H' c d (f.trans g) x
theorem pE.back (f : Fm O H O1 H1) {Q r} (h : pE K T E mu io O σ H Q r) : pE K T E mu io O1 σ H1 Q r := by
  cases r with
  | ok a => obtain ⟨v, fr'⟩ := a; exact fun O' H' x g => h O' H' x (f.trans g)
  | exc e => exact pEx.back f h
  | bad => exact h
theorem pT.back (f : Fm O H O1 H1) {Q r} (h : pT K T E mu io O σ H Q r) : pT K T E mu io O1 σ H1 Q r := by
  cases r with
  | ok a => obtain ⟨v, fr'⟩ := a; exact fun O' H' g => h O' H' (f.trans g)
  | exc e => exact pEx.back f h
  | bad => exact h
theorem pA.back (f : Fm O H O1 H1) {Q r} (h : pA K T E mu io O σ H Q r) : pA K T E mu io O1 σ H1 Q r := by
  cases r with
  | ok a => obtain ⟨v, fr'⟩ := a; exact fun O' H' x g => h O' H' x (f.trans g)
  | exc e => exact pEx.back f h
  | bad => exact h
theorem pS.back (f : Fm O H O1 H1) {D r} (h : pS K T E mu io O D H r) : pS K T E mu io O1 D H1 r := by
  cases r with
  | ok a =>
    obtain ⟨v, fr'⟩ := a
    cases v with
    | nx => exact fun O' H' s g => h O' H' s (f.trans g)
    | bk => exact fun O' H' s g => h O' H' s (f.trans g)
    | ct => exact fun O' H' s g => h O' H' s (f.trans g)
    | rt v => exact fun O' H' s x g => h O' H' s x (f.trans g)
  | exc e => exact pEx.back f h
  | bad => exact h
end
theorem PE.imp {X : Cx} {e : Expr} {t t' : TE} (h : PE X e t) (w : ∀ σ H Q, t' σ H Q → t σ H Q) : PE X e t' := ⟨fun pins s σ H Q I q => h.run pins s σ H Q I (w σ H Q q)⟩
theorem PT.imp {X : Cx} {e : Expr} {t t' : TT} (h : PT X e t) (w : ∀ σ H Q, t' σ H Q → t σ H Q) : PT X e t' := ⟨fun pins s σ H Q I q => h.run pins s σ H Q I (w σ H Q q)⟩
theorem PW.imp {X : Cx} {e : Expr} {t t' : TT} (h : PW X e t) (w : ∀ σ H Q, t' σ H Q → t σ H Q) : PW X e t' := ⟨fun whole pins s σ H Q I q => h.run whole pins s σ H Q I (w σ H Q q)⟩
theorem PA.imp {X : Cx} {e : List Expr} {t t' : TA} (h : PA X e t) (w : ∀ σ H Q, t' σ H Q → t σ H Q) : PA X e t' := ⟨fun p pins s σ H Q I q => h.run p pins s σ H Q I (w σ H Q q)⟩
theorem PS.imp {X : Cx} {e : Stmt} {t t' : TS} (h : PS X e t) (w : ∀ D σ H, t' D σ H → t D σ H) : PS X e t' := ⟨fun pins s σ H D I q => h.run pins s σ H D I (w D σ H q)⟩
theorem PSs.imp {X : Cx} {e : List Stmt} {t t' : TS} (h : PSs X e t) (w : ∀ D σ H, t' D σ H → t D σ H) : PSs X e t' := ⟨fun pins s σ H D I q => h.run pins s σ H D I (w D σ H q)⟩
end SK

set_option maxHeartbeats 1000000
/-! SK2: expressions, tests, argument lists, statements: the functions and their simulation. -/
namespace SK
open PySem L2

/-- the parameters that are lent, where they stand -/
theorem io_ne {iop : List Nat} {vs : List V} {i : Nat} (h : iop.contains i = false) : ∀ p ∈ iop.map (fun j => (j, vs.getD j .non)), p.1 ≠ i := fun p hp e => by
  obtain ⟨j, hj, rfl⟩ := List.mem_map.mp hp
  have : iop.contains i = true := by rw [← e]; simpa using hj
  rw [h] at this; cases this
theorem io_ne2 {iop : List Nat} {vs : List V} {i k : Nat} (h : iop.contains i = false) (h2 : iop.contains k = false) : ∀ p ∈ iop.map (fun j => (j, vs.getD j .non)), p.1 ≠ i ∧ p.1 ≠ k := fun p hp => ⟨io_ne h p hp, io_ne h2 p hp⟩
theorem io_own {iop own : List Nat} {vs : List V} (h : iop.all (fun j => !own.contains j) = true) : ∀ p ∈ iop.map (fun j => (j, vs.getD j .non)), p.1 ∉ own := fun p hp e => by
  obtain ⟨j, hj, rfl⟩ := List.mem_map.mp hp
  have := List.all_eq_true.mp h j hj
  simp at this
  exact this e
/-! ### the functions -/
def eC (v : Val) : EM := fun fr => .ok (v, fr)
def eV (i : Nat) : EM := fun fr => match fr[i]? with
  | some (some v) => .ok (v, fr)
  | _ => .bad
/-- the slot's own object is handed on by value; it is only read from now on -/
def eMv (i : Nat) : EM := fun fr => match fr[i]? with
  | some (some v) => .ok (unfz v, fr.set i (some (fz (unfz v))))
  | _ => .bad
def e1 (f : Val → Option Val) (a : EM) : EM := fun fr => (a fr).bind fun x => (ofO (f x.1)).bind fun v => .ok (v, x.2)
def e2 (f : Val → Val → Option Val) (a b : EM) : EM := fun fr => (a fr).bind fun x => (b x.2).bind fun y => (ofO (f x.1 y.1)).bind fun v => .ok (v, y.2)
def truth : Val → Option Bool
  | .non => some false
  | .bl b => some b
  | .int i => some (i != 0)
  | .str s => if s.length ≤ 16777216 then some (!s.isEmpty) else none
  | .tup xs => some (!xs.isEmpty)
  | .lst xs => some (!xs.isEmpty)
  | .dic _ _ => none
  | .ins _ _ _ => none
  | .scr _ => none
def tV (a : EM) : TM := fun fr => (a fr).bind fun x => (ofO (truth x.1)).bind fun b => .ok (b, x.2)
def isB : Val → Option Bool
  | .bl b => some b
  | _ => none
def tBl (a : EM) : TM := fun fr => (a fr).bind fun x => (ofO (isB x.1)).bind fun b => .ok (b, x.2)
def tAn (a b : TM) : TM := fun fr => (a fr).bind fun x => if x.1 = true then b x.2 else .ok (false, x.2)
def tOr (a b : TM) : TM := fun fr => (a fr).bind fun x => if x.1 = true then .ok (true, x.2) else b x.2
def tNo (a : TM) : TM := fun fr => (a fr).bind fun x => .ok (!x.1, x.2)
def eIf (t : TM) (a b : EM) : EM := fun fr => (t fr).bind fun x => if x.1 = true then a x.2 else b x.2
def eAn (a b : EM) : EM := fun fr => (a fr).bind fun x => (ofO (truth x.1)).bind fun k => if k = true then b x.2 else .ok x
def eOr (a b : EM) : EM := fun fr => (a fr).bind fun x => (ofO (truth x.1)).bind fun k => if k = true then .ok x else b x.2
def eNo (a : EM) : EM := fun fr => (a fr).bind fun x => (ofO (truth x.1)).bind fun k => .ok (.bl (!k), x.2)
/-- a op b op' c -/
def eCh (f g : Val → Val → Option Val) (a b c : EM) : EM := fun fr => (a fr).bind fun x => (b x.2).bind fun y => (ofO (f x.1 y.1)).bind fun z => (ofO (isB z)).bind fun k =>
  if k = true then (c y.2).bind fun u => (ofO (g y.1 u.1)).bind fun v => .ok (v, u.2) else .ok (.bl false, y.2)
def aN : AM := fun fr => .ok ([], fr)
def aC (a : EM) (b : AM) : AM := fun fr => (a fr).bind fun x => (b x.2).bind fun y => .ok (x.1 :: y.1, y.2)
def seqOf : Val → Option (List Val)
  | .tup xs => some xs
  | .lst xs => some xs
  | _ => none
def aS (a : EM) (b : AM) : AM := fun fr => (a fr).bind fun x => (ofO (seqOf x.1)).bind fun xs => (b x.2).bind fun y => .ok (xs ++ y.1, y.2)
def lim : Nat := 16777216
def fits (n : Nat) : Option Unit := if n ≤ 16777216 then some () else none
def eTup (a : AM) : EM := fun fr => (a fr).bind fun x => (ofO (fits x.1.length)).bind fun _ => .ok (.tup x.1, x.2)
def eLst (a : AM) : EM := fun fr => (a fr).bind fun x => (ofO (fits x.1.length)).bind fun _ => .ok (.lst x.1, x.2)

def sNil : SM := fun fr => .ok (.nx, fr)
def sSeq (a b : SM) : SM := fun fr => (a fr).bind fun x => match x.1 with
  | .nx => b x.2
  | f => .ok (f, x.2)
def sEx (a : EM) : SM := fun fr => (a fr).bind fun x => .ok (.nx, x.2)
def sRet (a : EM) : SM := fun fr => (a fr).bind fun x => .ok (.rt x.1, x.2)
def sRetN : SM := fun fr => .ok (.rt .non, fr)
def sSet (i : Nat) (a : EM) : SM := fun fr => (a fr).bind fun x => .ok (.nx, x.2.set i (some x.1))
def sIf (t : TM) (a b : SM) : SM := fun fr => (t fr).bind fun x => if x.1 = true then a x.2 else b x.2
def sBk : SM := fun fr => .ok (.bk, fr)
def sCt : SM := fun fr => .ok (.ct, fr)

/-! ### their simulation -/
section
variable {X : Cx} {T : Tb} {E : XK} {mu : Nat → Bool} {io : List (Nat × V)}
abbrev SE (X : Cx) (T : Tb) (E : XK) (mu : Nat → Bool) (io : List (Nat × V)) (e : Expr) (m : EM) : Prop := PE X e (rE X.K T E mu io m)
abbrev ST (X : Cx) (T : Tb) (E : XK) (mu : Nat → Bool) (io : List (Nat × V)) (e : Expr) (m : TM) : Prop := PT X e (rT X.K T E mu io m)
abbrev SW (X : Cx) (T : Tb) (E : XK) (mu : Nat → Bool) (io : List (Nat × V)) (e : Expr) (m : TM) : Prop := PW X e (rT X.K T E mu io m)
abbrev SA (X : Cx) (T : Tb) (E : XK) (mu : Nat → Bool) (io : List (Nat × V)) (es : List Expr) (m : AM) : Prop := PA X es (rA X.K T E mu io m)
abbrev SS (X : Cx) (T : Tb) (E : XK) (mu : Nat → Bool) (io : List (Nat × V)) (s : Stmt) (m : SM) : Prop := PS X s (rS X.K T E mu io m)
abbrev SSs (X : Cx) (T : Tb) (E : XK) (mu : Nat → Bool) (io : List (Nat × V)) (s : List Stmt) (m : SM) : Prop := PSs X s (rS X.K T E mu io m)

theorem se_c {v : Val} {x : V} {e : Expr} (h : PE X e (tC x)) (r : ∀ K T O H, VR K T O H v x) : SE X T E mu io e (eC v) :=
  PE.imp h fun σ H Q ⟨O, fr, R, q⟩ => q O H x (Fm.refl _ _) R (r _ _ _ _)
theorem se_int {i : Int} {j pos} : SE X T E mu io (.Constant (.int i) j pos) (eC (.int i)) := se_c pe_int fun _ _ _ _ => by unfold VR; rfl
theorem se_bl {b : Bool} {j pos} : SE X T E mu io (.Constant (.bool b) j pos) (eC (.bl b)) := se_c pe_bl fun _ _ _ _ => by unfold VR; rfl
theorem se_non {j pos} : SE X T E mu io (.Constant .none j pos) (eC .non) := se_c pe_non fun _ _ _ _ => by unfold VR; rfl
theorem se_str {x : Str} {s : Sg} {j pos} (h : x.cps.toList = s) : SE X T E mu io (.Constant (.str x) j pos) (eC (.str s)) := se_c pe_str fun _ _ _ _ => by unfold VR; exact ⟨x, rfl, h⟩
theorem se_v {i : Nat} {x : Str} {pos : Pos} (hN : X.N[i]? = some x := by rfl) (hv : Vis X.env.scope x := by first | exact .inl rfl | exact .inr (.inl rfl) | exact .inr (.inr rfl)) (hm : mu i = false := by rfl) (hb : mu (BOR + i) = false := by rfl) (hd : (x == ("__debug__" : Str)) = false := by decide) (hcd : (x == ("__classdict__" : Str)) = false := by decide) :
    SE X T E mu io (.Name x pos) (eV i) :=
  PE.imp (pe_var hN hv hd hcd) fun σ H Q ⟨O, fr, R, q⟩ => by
    unfold eV at q
    split at q
    · rename_i v e
      obtain ⟨y, h1, h2⟩ := R.val e hm hb
      exact ⟨y, h1, q O H y (Fm.refl _ _) R h2⟩
    · exact q.elim
/-- a slot is emptied of what it owns: that is nobody's from now on -/
def freeSlot (O : Own) (i : Nat) : Own := fun a => match O a with
  | some (.sl j) => if j = i then none else some (.sl j)
  | some (.fl j g) => if j = i then none else some (.fl j g)
  | o => o
theorem freeSlot_fm (O : Own) (H : Hp) (i : Nat) : Fm O H (freeSlot O i) H := by
  refine ⟨fun a o h n => ⟨h, ?_⟩, fun a o h n => ⟨h, ?_⟩, fun a o h n => ⟨h, ?_⟩, fun a h => ?_⟩
  · unfold freeSlot; rw [n]
  · unfold freeSlot; rw [n]
  · unfold freeSlot; rw [n]
  · unfold freeSlot at h
    split at h
    · split at h
      · cases h
      · cases h
    · split at h
      · cases h
      · cases h
    · exact h
theorem freeSlot_ne {O : Own} {i j : Nat} (h : j ≠ i) {a w} (e : O a = some w) (o : ofSlot j w) : freeSlot O i a = some w := by
  unfold freeSlot
  rcases o with rfl | ⟨g, rfl⟩
  · rw [e]; exact if_neg h
  · rw [e]; exact if_neg h
theorem freeSlot_at {O : Own} {i : Nat} {a w} (e : O a = some w) (o : ofSlot i w) : freeSlot O i a = none := by
  unfold freeSlot
  rcases o with rfl | ⟨g, rfl⟩
  · rw [e]; exact if_pos rfl
  · rw [e]; exact if_pos rfl
theorem freeSlot_some {O : Own} {i : Nat} {a} (h : freeSlot O i a ≠ none) : O a ≠ none := by
  intro n; apply h; unfold freeSlot; rw [n]
section
variable {K : PySem.W.Frag} {O : Own} {H : Hp}
theorem OwL.freed {ow : Ow} {O' : Own} (f : Fm O H O' H) (hk : ∀ a, O a = some ow → O' a = none) : ∀ {v x}, OwL K T O H ow v x → VR K T O' H v x
  | .lst xs, x, ⟨a, vs, e, o, h, r⟩ => by unfold VR; exact ⟨a, vs, e, ⟨h, hk a o⟩, r.mono f⟩
  | .dic ks ws, x, ⟨a, kvs, e, o, h, q, r⟩ => by unfold VR; exact ⟨a, kvs, e, .inl ⟨h, hk a o⟩, q, r.mono f⟩
  | .non, _, h => h.elim
  | .bl _, _, h => h.elim
  | .int _, _, h => h.elim
  | .str _, _, h => h.elim
  | .tup _, _, h => h.elim
  | .ins _ _ _, _, h => h.elim
  | .scr _, _, h => h.elim
theorem FRs.freed {c i : Nat} {O' : Own} (f : Fm O H O' H) (hk : ∀ a g, O a = some (.fl i g) → O' a = none) : ∀ {fs vs ws}, FRs K T O H c i fs vs ws → VRs K T O' H vs ws
  | [], [], [], _ => VRs.nil
  | g :: fs, v :: vs, w :: ws, ⟨a, b⟩ => by
    refine VRs.cons ?_ (b.freed f hk)
    by_cases h : T.own c g = true
    · rw [if_pos h] at a; exact OwL.freed f (fun a => hk a g) a
    · rw [if_neg h] at a; exact VR.mono f _ _ a
  | [], _ :: _, _, h => h.elim
  | [], [], _ :: _, h => h.elim
  | _ :: _, [], _, h => h.elim
  | _ :: _, _ :: _, [], h => h.elim
theorem OwR.freed {i : Nat} {O' : Own} (f : Fm O H O' H) (hk : ∀ a w, O a = some w → ofSlot i w → O' a = none) : ∀ {v x}, OwR K T O H i v x → VR K T O' H v x
  | .ins c fs vs, x, ⟨a, dx, fs', ws, e, o, h, q, r⟩ => by
    unfold VR
    exact ⟨a, dx, fs', ws, e, h, hk a _ o (.inl rfl), q, r.freed f fun a g n => hk a _ n (.inr ⟨g, rfl⟩)⟩
  | .lst xs, x, h => OwL.freed f (fun a n => hk a _ n (.inl rfl)) (show OwL K T O H (.sl i) (.lst xs) x from h)
  | .dic ks ws, x, h => OwL.freed f (fun a n => hk a _ n (.inl rfl)) (show OwL K T O H (.sl i) (.dic ks ws) x from h)
  | .non, _, h => h.elim
  | .bl _, _, h => h.elim
  | .int _, _, h => h.elim
  | .str _, _, h => h.elim
  | .tup _, _, h => h.elim
  | .scr _, _, h => h.elim
theorem Rl.freed {fr σ} {i : Nat} (R : Rl K T mu io O fr σ H) : Rl K T mu io (freeSlot O i) (fr.set i none) σ H := by
  refine ⟨by rw [List.length_set]; exact R.len, fun j v e => ?_, fun a n => R.trk a (freeSlot_some n), R.io⟩
  by_cases h : j = i
  · subst h
    rw [List.getElem?_set] at e
    split at e
    · split at e <;> simp at e
    · rename_i n; exact absurd rfl n
  · rw [List.getElem?_set_ne (fun z => h z.symm)] at e
    obtain ⟨x, h1, h2⟩ := R.sl j v e
    exact ⟨x, h1, h2.mono (freeSlot_fm O H i) fun _ a o w e n z => ⟨e, freeSlot_ne h n z⟩⟩
theorem lt_of_get {fr : Fr} {i : Nat} {v : Option Val} (e : fr[i]? = some v) : i < fr.length := (List.getElem?_eq_some_iff.mp e).1
theorem Rl.give {fr σ} {i : Nat} {v : Val} (R : Rl K T mu io O fr σ H) (e : fr[i]? = some (some v)) (hm : mu i = true) : ∃ x, σ[i]? = some (some x) ∧ VR K T (freeSlot O i) H (unfz v) x := by
  obtain ⟨x, h1, h2⟩ := R.sl i v e
  unfold SlR at h2
  rw [if_pos hm] at h2
  refine ⟨x, h1, ?_⟩
  split at h2
  · exact h2.mono (freeSlot_fm O H i)
  · rename_i z
    rw [unfz_not (by simpa using z)]
    exact OwR.freed (freeSlot_fm O H i) (fun a w e o => freeSlot_at e o) h2
theorem Rl.froz {fr σ} {i : Nat} {w : Val} {x : V} (R : Rl K T mu io O fr σ H) (hs : σ[i]? = some (some x)) (hm : mu i = true) (hi : i < fr.length) (h : VR K T (freeSlot O i) H w x) : Rl K T mu io (freeSlot O i) (fr.set i (some (fz w))) σ H := by
  refine ⟨by rw [List.length_set]; exact R.len, fun j v e => ?_, fun a n => R.trk a (freeSlot_some n), R.io⟩
  by_cases z : j = i
  · subst z
    rw [List.getElem?_set, if_pos rfl, if_pos hi] at e
    cases e
    refine ⟨x, hs, ?_⟩
    unfold SlR
    rw [if_pos hm, if_pos (isFz_fz w), unfz_fz]
    exact h
  · rw [List.getElem?_set_ne (fun q => z q.symm)] at e
    obtain ⟨y, h1, h2⟩ := R.sl j v e
    exact ⟨y, h1, h2.mono (freeSlot_fm O H i) fun _ a o w e n q => ⟨e, freeSlot_ne z n q⟩⟩
end
theorem se_mv {i : Nat} {x : Str} {pos : Pos} (hN : X.N[i]? = some x := by rfl) (hv : Vis X.env.scope x := by first | exact .inl rfl | exact .inr (.inl rfl) | exact .inr (.inr rfl)) (hm : mu i = true := by rfl) (hd : (x == ("__debug__" : Str)) = false := by decide) (hcd : (x == ("__classdict__" : Str)) = false := by decide) :
    SE X T E mu io (.Name x pos) (eMv i) :=
  PE.imp (pe_var hN hv hd hcd) fun σ H Q ⟨O, fr, R, q⟩ => by
    unfold eMv at q
    split at q
    · rename_i v e
      obtain ⟨y, h1, h2⟩ := R.give e hm
      exact ⟨y, h1, q _ H y (freeSlot_fm O H i) (R.froz h1 hm (lt_of_get e) h2) h2⟩
    · exact q.elim

/-! ### operations on values -/
/-- a one- or two-place operation on values: it makes things at most -/
def rV (K : PySem.W.Frag) (T : Tb) (O : Own) (H : Hp) (Q : VK) : Option Val → Prop
  | some v => ∀ H' x, Hx H H' → VR K T O H' v x → Q x H'
  | none => False
def r2 (K : PySem.W.Frag) (T : Tb) (f : Val → Val → Option Val) : R2 := fun x y H Q => ∃ O a b, (∀ p, O p ≠ none → H p ≠ none) ∧ VR K T O H a x ∧ VR K T O H b y ∧ rV K T O H Q (f a b)
def r1 (K : PySem.W.Frag) (T : Tb) (f : Val → Option Val) : V → Hp → VK → Prop := fun x H Q => ∃ O a, (∀ p, O p ≠ none → H p ≠ none) ∧ VR K T O H a x ∧ rV K T O H Q (f a)
def rN (K : PySem.W.Frag) (T : Tb) (f : List Val → Option Val) : List V → Hp → VK → Prop := fun xs H Q => ∃ O as, (∀ p, O p ≠ none → H p ≠ none) ∧ VRs K T O H as xs ∧ rV K T O H Q (f as)

variable {a b c : Expr} {ma mb mc : EM} {pos : Pos}
theorem e2_imp {f : Val → Val → Option Val} {σ : St} {H : Hp} {Q : VK} {K : PySem.W.Frag} (h : rE K T E mu io (e2 f ma mb) σ H Q) : tOp (r2 K T f) (rE K T E mu io ma) (rE K T E mu io mb) σ H Q := by
  obtain ⟨O, fr, R, q⟩ := h
  unfold e2 at q
  refine ⟨O, fr, R, ?_⟩
  cases h1 : ma fr with
  | bad => rw [h1] at q; exact q
  | exc e => rw [h1] at q; exact q
  | ok p =>
    obtain ⟨x, fr1⟩ := p
    rw [h1] at q
    intro O1 H1 x' F1 R1 V1
    refine ⟨O1, fr1, R1, ?_⟩
    simp only [SK.R.bind_ok] at q
    cases h2 : mb fr1 with
    | bad => rw [h2] at q; exact q
    | exc e => rw [h2] at q; exact pEx.back F1 q
    | ok p =>
      obtain ⟨y, fr2⟩ := p
      rw [h2] at q
      intro O2 H2 y' F2 R2 V2
      refine ⟨O2, x, y, R2.trk, VR.mono F2 _ _ V1, V2, ?_⟩
      simp only [SK.R.bind_ok] at q
      cases h3 : f x y with
      | none => rw [h3] at q; exact q
      | some v =>
        rw [h3] at q
        intro H3 z X3 V3
        exact q O2 H3 z ((F1.trans F2).trans X3.fm) (R2.hx X3) V3
theorem se_op {op : Operator} {f : Val → Val → Option Val} (ho : OpR X (binaryOp op) (r2 X.K T f)) (ha : SE X T E mu io a ma) (hb : SE X T E mu io b mb) : SE X T E mu io (.BinOp a op b pos) (e2 f ma mb) :=
  PE.imp (pe_op ho ha hb) fun σ H Q h => e2_imp h
theorem se_cmp {op : CmpOp} {f : Val → Val → Option Val} (ho : OpR X (compareOp op) (r2 X.K T f)) (ha : SE X T E mu io a ma) (hb : SE X T E mu io b mb) (hm : behindInMarks op b = false := by first | exact nomark _ | with_unfolding_all rfl) : SE X T E mu io (.Compare a [op] [b] pos) (e2 f ma mb) :=
  PE.imp (pe_cmpR ho ha hb hm) fun σ H Q h => e2_imp h
theorem tBl_imp {m : EM} {σ : St} {H : Hp} {Q : Bool → Hp → Prop} {K : PySem.W.Frag} (h : rT K T E mu io (tBl m) σ H Q) : tTest (rE K T E mu io m) σ H Q := by
  obtain ⟨O, fr, R, q⟩ := h
  unfold tBl at q
  refine ⟨O, fr, R, ?_⟩
  cases h1 : m fr with
  | bad => rw [h1] at q; exact q
  | exc e => rw [h1] at q; exact q
  | ok p =>
    obtain ⟨x, fr1⟩ := p
    rw [h1] at q
    intro O1 H1 x' F1 R1 V1
    simp only [SK.R.bind_ok] at q
    cases x with
    | bl b => unfold VR at V1; exact ⟨b, V1, q O1 H1 F1 R1⟩
    | _ => exact q.elim
theorem tOp_tTest {r : R2} {ta tb ta' : TE} (h : ∀ σ H Q, ta' σ H Q → tOp r ta tb σ H Q) {σ H} {Q : Bool → Hp → Prop} (q : tTest ta' σ H Q) : tTest (tOp r ta tb) σ H Q := h σ H _ q
theorem st_cmp {op : CmpOp} {f : Val → Val → Option Val} (ho : OpR X (compareOp op) (r2 X.K T f)) (ha : SE X T E mu io a ma) (hb : SE X T E mu io b mb) (hm : behindInMarks op b = false := by first | exact nomark _ | with_unfolding_all rfl) : ST X T E mu io (.Compare a [op] [b] pos) (tBl (e2 f ma mb)) :=
  PT.imp (pt_cmpR ho ha hb hm) fun σ H Q h => tOp_tTest (fun _ _ _ => e2_imp) (tBl_imp h)
theorem e1_imp {f : Val → Option Val} {σ : St} {H : Hp} {Q : VK} {K : PySem.W.Frag} (h : rE K T E mu io (e1 f ma) σ H Q) : tUn (r1 K T f) (rE K T E mu io ma) σ H Q := by
  obtain ⟨O, fr, R, q⟩ := h
  unfold e1 at q
  refine ⟨O, fr, R, ?_⟩
  cases h1 : ma fr with
  | bad => rw [h1] at q; exact q
  | exc e => rw [h1] at q; exact q
  | ok p =>
    obtain ⟨x, fr1⟩ := p
    rw [h1] at q
    intro O1 H1 x' F1 R1 V1
    refine ⟨O1, x, R1.trk, V1, ?_⟩
    simp only [SK.R.bind_ok] at q
    cases h3 : f x with
    | none => rw [h3] at q; exact q
    | some v =>
      rw [h3] at q
      intro H3 z X3 V3
      exact q O1 H3 z (F1.trans X3.fm) (R1.hx X3) V3
theorem se_un {op : UnaryOp} {f : Val → Option Val} (ho : UnR X (unaryOp op) (r1 X.K T f)) (ha : SE X T E mu io a ma) : SE X T E mu io (.UnaryOp op a pos) (e1 f ma) :=
  PE.imp (pe_un ho ha) fun σ H Q h => e1_imp h
/-! ### truth -/
theorem truth_ok {K : PySem.W.Frag} {O : Own} {H : Hp} {v : Val} {x : V} {k : Bool} (h : VR K T O H v x) (e : truth v = some k) : TruV K x H k := by
  cases v with
  | non => unfold VR at h; subst h; exact (Option.some.inj e).symm
  | bl b => unfold VR at h; subst h; exact (Option.some.inj e).symm
  | int i => unfold VR at h; subst h; exact (Option.some.inj e).symm
  | str s =>
    unfold VR at h
    obtain ⟨z, rfl, hz⟩ := h
    subst hz
    simp only [truth] at e
    split at e
    · rename_i hl
      rw [Array.length_toList] at hl
      refine ⟨by rw [show sizeLine = 16777216 from rfl]; exact hl, ?_⟩
      rw [← Option.some.inj e]
      show (!z.cps.toList.isEmpty) = ((z.cps.size : Int) != 0)
      cases hq : z.cps.toList with
      | nil =>
        have : z.cps.size = 0 := by rw [← Array.length_toList, hq]; rfl
        rw [this]; rfl
      | cons u us =>
        have : z.cps.size = us.length + 1 := by rw [← Array.length_toList, hq]; rfl
        rw [this]
        simp
        omega
    · cases e
  | tup xs =>
    unfold VR at h
    obtain ⟨p, vs, rfl, t, r⟩ := h
    refine .inr (.inl ⟨vs, ?_, ?_⟩)
    · rcases t with ⟨h, _⟩ | h
      · exact SqT.of h
      · exact h H
    · have := r.len
      rw [← Option.some.inj e]
      cases xs <;> cases vs <;> simp at this ⊢
  | lst xs =>
    unfold VR at h
    obtain ⟨p, vs, rfl, t, r⟩ := h
    refine .inl ⟨vs, ?_, ?_⟩
    · exact SqL.of t.1
    · have := r.len
      rw [← Option.some.inj e]
      cases xs <;> cases vs <;> simp at this ⊢
  | dic ks vs => cases e
  | ins c fs vs => cases e
  | scr ns => cases e
theorem tV_imp {m : EM} {σ : St} {H : Hp} {Q : Bool → Hp → Prop} {K : PySem.W.Frag} (h : rT K T E mu io (tV m) σ H Q) : rE K T E mu io m σ H fun x H' => ∃ k, TruV K x H' k ∧ Q k H' := by
  obtain ⟨O, fr, rl, q⟩ := h
  unfold tV at q
  refine ⟨O, fr, rl, ?_⟩
  cases h1 : m fr with
  | bad => rw [h1] at q; exact q
  | exc e => rw [h1] at q; exact q
  | ok p =>
    obtain ⟨x, fr1⟩ := p
    rw [h1] at q
    intro O1 H1 x' F1 R1 V1
    simp only [SK.R.bind_ok] at q
    cases h2 : truth x with
    | none => rw [h2] at q; exact q.elim
    | some k => rw [h2] at q; exact ⟨k, truth_ok V1 h2, q O1 H1 F1 R1⟩
theorem st_v (ha : SE X T E mu io a ma) (he : ∀ whole, isTrue a X.env whole = (do let v ← whole; standAt a.pos; holding [v] (truthy v)) := by intro _; rfl) : ST X T E mu io a (tV ma) :=
  PT.imp (pt_truth ha he) fun σ H Q h => tV_imp h
variable {ta tb : TM} {rest : List Expr}
theorem sw_and1 (ha : ST X T E mu io a ta) : SW X T E mu io (.BoolOp .And [a] pos) ta := pw_and1 ha
theorem sw_or1 (ha : ST X T E mu io a ta) : SW X T E mu io (.BoolOp .Or [a] pos) ta := pw_or1 ha
theorem tAn_imp {σ : St} {H : Hp} {Q : Bool → Hp → Prop} {K : PySem.W.Frag} (h : rT K T E mu io (tAn ta tb) σ H Q) : tAnd (rT K T E mu io ta) (rT K T E mu io tb) σ H Q := by
  obtain ⟨O, fr, rl, q⟩ := h
  unfold tAn at q
  refine ⟨O, fr, rl, ?_⟩
  cases h1 : ta fr with
  | bad => rw [h1] at q; exact q
  | exc e => rw [h1] at q; exact q
  | ok p =>
    obtain ⟨k, fr1⟩ := p
    rw [h1] at q
    intro O1 H1 F1 R1
    simp only [SK.R.bind_ok] at q
    cases k with
    | true => exact ⟨O1, fr1, R1, pT.back F1 (by simpa using q)⟩
    | false => exact q O1 H1 F1 R1
theorem tOr_imp {σ : St} {H : Hp} {Q : Bool → Hp → Prop} {K : PySem.W.Frag} (h : rT K T E mu io (tOr ta tb) σ H Q) : L2.tOr (rT K T E mu io ta) (rT K T E mu io tb) σ H Q := by
  obtain ⟨O, fr, rl, q⟩ := h
  unfold tOr at q
  refine ⟨O, fr, rl, ?_⟩
  cases h1 : ta fr with
  | bad => rw [h1] at q; exact q
  | exc e => rw [h1] at q; exact q
  | ok p =>
    obtain ⟨k, fr1⟩ := p
    rw [h1] at q
    intro O1 H1 F1 R1
    simp only [SK.R.bind_ok] at q
    cases k with
    | true => exact q O1 H1 F1 R1
    | false => exact ⟨O1, fr1, R1, pT.back F1 (by simpa using q)⟩
theorem tNo_imp {σ : St} {H : Hp} {Q : Bool → Hp → Prop} {K : PySem.W.Frag} (h : rT K T E mu io (tNo ta) σ H Q) : tNot (rT K T E mu io ta) σ H Q := by
  obtain ⟨O, fr, rl, q⟩ := h
  unfold tNo at q
  refine ⟨O, fr, rl, ?_⟩
  cases h1 : ta fr with
  | bad => rw [h1] at q; exact q
  | exc e => rw [h1] at q; exact q
  | ok p =>
    obtain ⟨k, fr1⟩ := p
    rw [h1] at q
    exact q
theorem sw_and (ha : ST X T E mu io a ta) (hb : SW X T E mu io (.BoolOp .And (b :: rest) pos) tb) : SW X T E mu io (.BoolOp .And (a :: b :: rest) pos) (tAn ta tb) :=
  PW.imp (pw_and ha hb) fun σ H Q h => tAn_imp h
theorem sw_or (ha : ST X T E mu io a ta) (hb : SW X T E mu io (.BoolOp .Or (b :: rest) pos) tb) : SW X T E mu io (.BoolOp .Or (a :: b :: rest) pos) (tOr ta tb) :=
  PW.imp (pw_or ha hb) fun σ H Q h => tOr_imp h
theorem st_w {ta : TM} (h : SW X T E mu io a ta) : ST X T E mu io a ta := PW.pt h
theorem st_not (ha : ST X T E mu io a ta) : ST X T E mu io (.UnaryOp .Not a pos) (tNo ta) := PT.imp (pt_not ha) fun σ H Q h => tNo_imp h
theorem se_if {t : TM} (hc : ST X T E mu io c t) (ha : SE X T E mu io a ma) (hb : SE X T E mu io b mb) : SE X T E mu io (.IfExp c a b pos) (eIf t ma mb) :=
  PE.imp (pe_ifExp hc ha hb) fun σ H Q ⟨O, fr, rl, q⟩ => by
    unfold eIf at q
    refine ⟨O, fr, rl, ?_⟩
    cases h1 : t fr with
    | bad => rw [h1] at q; exact q
    | exc e => rw [h1] at q; exact q
    | ok p =>
      obtain ⟨k, fr1⟩ := p
      rw [h1] at q
      intro O1 H1 F1 R1
      simp only [SK.R.bind_ok] at q
      cases k with
      | true => exact ⟨O1, fr1, R1, pE.back F1 (by simpa using q)⟩
      | false => exact ⟨O1, fr1, R1, pE.back F1 (by simpa using q)⟩
theorem se_one {op : BoolOp} (h : SE X T E mu io a ma) : SE X T E mu io (.BoolOp op [a] pos) ma := pe_one h
theorem se_and (ha : SE X T E mu io a ma) (hb : SE X T E mu io (.BoolOp .And (b :: rest) pos) mb) : SE X T E mu io (.BoolOp .And (a :: b :: rest) pos) (eAn ma mb) :=
  PE.imp (pe_andT ha hb) fun σ H Q ⟨O, fr, rl, q⟩ => by
    unfold eAn at q
    refine ⟨O, fr, rl, ?_⟩
    cases h1 : ma fr with
    | bad => rw [h1] at q; exact q
    | exc e => rw [h1] at q; exact q
    | ok p =>
      obtain ⟨x, fr1⟩ := p
      rw [h1] at q
      intro O1 H1 x' F1 R1 V1
      simp only [SK.R.bind_ok] at q
      cases h2 : truth x with
      | none => rw [h2] at q; exact q.elim
      | some k =>
        rw [h2] at q
        refine ⟨k, truth_ok V1 h2, ?_⟩
        cases k with
        | true => exact ⟨O1, fr1, R1, pE.back F1 (by simpa [ofO] using q)⟩
        | false => exact q O1 H1 x' F1 R1 V1
theorem se_or (ha : SE X T E mu io a ma) (hb : SE X T E mu io (.BoolOp .Or (b :: rest) pos) mb) : SE X T E mu io (.BoolOp .Or (a :: b :: rest) pos) (eOr ma mb) :=
  PE.imp (pe_orT ha hb) fun σ H Q ⟨O, fr, rl, q⟩ => by
    unfold eOr at q
    refine ⟨O, fr, rl, ?_⟩
    cases h1 : ma fr with
    | bad => rw [h1] at q; exact q
    | exc e => rw [h1] at q; exact q
    | ok p =>
      obtain ⟨x, fr1⟩ := p
      rw [h1] at q
      intro O1 H1 x' F1 R1 V1
      simp only [SK.R.bind_ok] at q
      cases h2 : truth x with
      | none => rw [h2] at q; exact q.elim
      | some k =>
        rw [h2] at q
        refine ⟨k, truth_ok V1 h2, ?_⟩
        cases k with
        | true => exact q O1 H1 x' F1 R1 V1
        | false => exact ⟨O1, fr1, R1, pE.back F1 (by simpa [ofO] using q)⟩
theorem se_not (ha : SE X T E mu io a ma) : SE X T E mu io (.UnaryOp .Not a pos) (eNo ma) :=
  PE.imp (pe_notT ha) fun σ H Q ⟨O, fr, rl, q⟩ => by
    unfold eNo at q
    refine ⟨O, fr, rl, ?_⟩
    cases h1 : ma fr with
    | bad => rw [h1] at q; exact q
    | exc e => rw [h1] at q; exact q
    | ok p =>
      obtain ⟨x, fr1⟩ := p
      rw [h1] at q
      intro O1 H1 x' F1 R1 V1
      simp only [SK.R.bind_ok] at q
      cases h2 : truth x with
      | none => rw [h2] at q; exact q.elim
      | some k =>
        rw [h2] at q
        exact ⟨k, truth_ok V1 h2, q O1 H1 _ F1 R1 (by unfold VR; rfl)⟩
/-! ### a op b op' c -/
theorem eCh_imp {f g : Val → Val → Option Val} {σ : St} {H : Hp} {Q : VK} {K : PySem.W.Frag} (h : rE K T E mu io (eCh f g ma mb mc) σ H Q) : tChain (r2 K T f) (r2 K T g) (rE K T E mu io ma) (rE K T E mu io mb) (rE K T E mu io mc) σ H Q := by
  obtain ⟨O, fr, rl, q⟩ := h
  unfold eCh at q
  refine ⟨O, fr, rl, ?_⟩
  cases h1 : ma fr with
  | bad => rw [h1] at q; exact q
  | exc e => rw [h1] at q; exact q
  | ok p =>
    obtain ⟨x, fr1⟩ := p
    rw [h1] at q
    intro O1 H1 x' F1 R1 V1
    refine ⟨O1, fr1, R1, ?_⟩
    simp only [SK.R.bind_ok] at q
    cases h2 : mb fr1 with
    | bad => rw [h2] at q; exact q
    | exc e => rw [h2] at q; exact pEx.back F1 q
    | ok p =>
      obtain ⟨y, fr2⟩ := p
      rw [h2] at q
      intro O2 H2 y' F2 R2 V2
      refine ⟨O2, x, y, R2.trk, VR.mono F2 _ _ V1, V2, ?_⟩
      simp only [SK.R.bind_ok] at q
      cases h3 : f x y with
      | none => rw [h3] at q; exact q
      | some v =>
        rw [h3] at q
        intro H3 z X3 V3
        simp only [ofO, SK.R.bind_ok] at q
        cases v with
        | bl k =>
          unfold VR at V3
          refine ⟨k, V3, ?_⟩
          simp only [isB, SK.R.bind_ok] at q
          have R3 := R2.hx X3
          cases k with
          | true =>
            refine ⟨O2, fr2, R3, ?_⟩
            simp only [if_true] at q
            cases h4 : mc fr2 with
            | bad => rw [h4] at q; exact q
            | exc e => rw [h4] at q; exact pEx.back ((F1.trans F2).trans X3.fm) q
            | ok p =>
              obtain ⟨u, fr4⟩ := p
              rw [h4] at q
              intro O4 H4 u' F4 R4 V4
              refine ⟨O4, y, u, R4.trk, VR.mono (X3.fm.trans F4) _ _ V2, V4, ?_⟩
              simp only [SK.R.bind_ok] at q
              cases h5 : g y u with
              | none => rw [h5] at q; exact q
              | some v =>
                rw [h5] at q
                intro H5 z5 X5 V5
                exact q O4 H5 z5 ((((F1.trans F2).trans X3.fm).trans F4).trans X5.fm) (R4.hx X5) V5
          | false =>
            exact q O2 H3 _ ((F1.trans F2).trans X3.fm) R3 (by unfold VR; rfl)
        | _ => exact q.elim
theorem se_chain {op op' : CmpOp} {f g : Val → Val → Option Val} (ho : OpR X (compareOp op) (r2 X.K T f)) (ho' : OpR X (compareOp op') (r2 X.K T g)) (ha : SE X T E mu io a ma) (hb : SE X T E mu io b mb) (hc : SE X T E mu io c mc)
    (hm : lastMarks [op, op'] [b, c] = false := by first | exact nomark _ | with_unfolding_all rfl) : SE X T E mu io (.Compare a [op, op'] [b, c] pos) (eCh f g ma mb mc) := PE.imp (pe_chain ho ho' ha hb hc hm) fun σ H Q h => eCh_imp h
theorem st_chain {op op' : CmpOp} {f g : Val → Val → Option Val} (ho : OpR X (compareOp op) (r2 X.K T f)) (ho' : OpR X (compareOp op') (r2 X.K T g)) (ha : SE X T E mu io a ma) (hb : SE X T E mu io b mb) (hc : SE X T E mu io c mc)
    (hm : lastMarks [op, op'] [b, c] = false := by first | exact nomark _ | with_unfolding_all rfl) : ST X T E mu io (.Compare a [op, op'] [b, c] pos) (tBl (eCh f g ma mb mc)) := PT.imp (pt_chain ho ho' ha hb hc hm) fun σ H Q h => eCh_imp (Q := fun x H' => ∃ k, x = .bl k ∧ Q k H') (tBl_imp h)
/-! ### argument lists, displays -/
variable {es : List Expr} {ms : AM}
theorem sa_nil : SA X T E mu io [] aN := PA.imp pa_nil fun σ H Q ⟨O, fr, rl, q⟩ => q O H [] (Fm.refl _ _) rl VRs.nil
theorem aC_imp {σ : St} {H : Hp} {Q : List V → Hp → Prop} {K : PySem.W.Frag} (h : rA K T E mu io (aC ma ms) σ H Q) : tCons (rE K T E mu io ma) (rA K T E mu io ms) σ H Q := by
  obtain ⟨O, fr, rl, q⟩ := h
  unfold aC at q
  refine ⟨O, fr, rl, ?_⟩
  cases h1 : ma fr with
  | bad => rw [h1] at q; exact q
  | exc e => rw [h1] at q; exact q
  | ok p =>
    obtain ⟨x, fr1⟩ := p
    rw [h1] at q
    intro O1 H1 x' F1 R1 V1
    refine ⟨O1, fr1, R1, ?_⟩
    simp only [SK.R.bind_ok] at q
    cases h2 : ms fr1 with
    | bad => rw [h2] at q; exact q
    | exc e => rw [h2] at q; exact pEx.back F1 q
    | ok p =>
      obtain ⟨ys, fr2⟩ := p
      rw [h2] at q
      intro O2 H2 ys' F2 R2 V2
      exact q O2 H2 _ (F1.trans F2) R2 (VRs.cons (VR.mono F2 _ _ V1) V2)
theorem sa_cons {e : Expr} (ha : SE X T E mu io e ma) (hr : SA X T E mu io es ms) (hs : starEach (e :: es) X.env = (false, eval e X.env) :: starEach es X.env := by rfl) : SA X T E mu io (e :: es) (aC ma ms) :=
  PA.imp (pa_cons ha hr hs) fun σ H Q h => aC_imp h
theorem seqOf_ok {K : PySem.W.Frag} {O : Own} {H : Hp} {v : Val} {x : V} {xs} (h : VR K T O H v x) (e : seqOf v = some xs) : ∃ p ws, x = .ref p ∧ (SqT K H p ws ∨ SqL K H p ws) ∧ VRs K T O H xs ws := by
  cases v with
  | tup ys =>
    unfold VR at h
    obtain ⟨p, vs, rfl, t, r⟩ := h
    cases e
    refine ⟨p, vs, rfl, .inl ?_, r⟩
    rcases t with ⟨h, _⟩ | h
    · exact SqT.of h
    · exact h H
  | lst ys =>
    unfold VR at h
    obtain ⟨p, vs, rfl, t, r⟩ := h
    cases e
    refine ⟨p, vs, rfl, .inr ?_, r⟩
    exact SqL.of t.1
  | _ => cases e
theorem sa_star {e : Expr} {p : Pos} (ha : SE X T E mu io e ma) (hr : SA X T E mu io es ms) : SA X T E mu io (.Starred e p :: es) (aS ma ms) :=
  PA.imp (StX.pa_star ha hr rfl) fun σ H Q ⟨O, fr, rl, q⟩ => by
    unfold aS at q
    refine ⟨O, fr, rl, ?_⟩
    cases h1 : ma fr with
    | bad => rw [h1] at q; exact q
    | exc e => rw [h1] at q; exact q
    | ok p =>
      obtain ⟨x, fr1⟩ := p
      rw [h1] at q
      intro O1 H1 x' F1 R1 V1
      simp only [SK.R.bind_ok] at q
      cases h3 : seqOf x with
      | none => rw [h3] at q; exact q.elim
      | some xs =>
        rw [h3] at q
        obtain ⟨p, ws, e1, e2, e3⟩ := seqOf_ok V1 h3
        refine ⟨p, ws, e1, e2, O1, fr1, R1, ?_⟩
        simp only [ofO, SK.R.bind_ok] at q
        cases h2 : ms fr1 with
        | bad => rw [h2] at q; exact q
        | exc e => rw [h2] at q; exact pEx.back F1 q
        | ok p =>
          obtain ⟨ys, fr2⟩ := p
          rw [h2] at q
          intro O2 H2 ys' F2 R2 V2
          exact q O2 H2 _ (F1.trans F2) R2 (VRs.app (e3.mono F2) V2)
/-- a new object that is nobody's -/
theorem own_new {O : Own} {H : Hp} {p : Addr} (h : ∀ a, O a ≠ none → H a ≠ none) (n : H p = none) : O p = none := by
  cases q : O p with
  | none => rfl
  | some w => exact absurd n (h p (by rw [q]; exact fun z => nomatch z))
theorem se_tup {k : Nat} (h : SA X T E mu io es ms) : SE X T E mu io (.Tuple es k pos) (eTup ms) :=
  PE.imp (pe_tup h) fun σ H Q ⟨O, fr, rl, q⟩ => by
    unfold eTup at q
    refine ⟨O, fr, rl, ?_⟩
    cases h1 : ms fr with
    | bad => rw [h1] at q; exact q
    | exc e => rw [h1] at q; exact q
    | ok p =>
      obtain ⟨xs, fr1⟩ := p
      rw [h1] at q
      intro O1 H1 xs' F1 R1 V1
      simp only [SK.R.bind_ok, fits] at q
      by_cases hl : xs.length ≤ 16777216
      · rw [if_pos hl] at q
        refine ⟨by rw [← V1.len]; exact hl, fun p hp => ?_⟩
        have X2 : Hx H1 (upd H1 p (.tup xs')) := Hx.upd hp
        refine q O1 _ _ (F1.trans X2.fm) (R1.hx X2) ?_
        unfold VR
        exact ⟨p, xs', rfl, .inl ⟨upd_same, own_new R1.trk hp⟩, V1.mono X2.fm⟩
      · rw [if_neg hl] at q; exact q.elim
theorem se_lst (h : SA X T E mu io es ms) : SE X T E mu io (.List es pos) (eLst ms) :=
  PE.imp (pe_lst h) fun σ H Q ⟨O, fr, rl, q⟩ => by
    unfold eLst at q
    refine ⟨O, fr, rl, ?_⟩
    cases h1 : ms fr with
    | bad => rw [h1] at q; exact q
    | exc e => rw [h1] at q; exact q
    | ok p =>
      obtain ⟨xs, fr1⟩ := p
      rw [h1] at q
      intro O1 H1 xs' F1 R1 V1
      simp only [SK.R.bind_ok, fits] at q
      by_cases hl : xs.length ≤ 16777216
      · rw [if_pos hl] at q
        refine ⟨by rw [← V1.len]; exact hl, fun p hp => ?_⟩
        have X2 : Hx H1 (upd H1 p (.lst xs')) := Hx.upd hp
        refine q O1 _ _ (F1.trans X2.fm) (R1.hx X2) ?_
        unfold VR
        exact ⟨p, xs', rfl, ⟨upd_same, own_new R1.trk hp⟩, V1.mono X2.fm⟩
      · rw [if_neg hl] at q; exact q.elim
end
end SK

set_option maxHeartbeats 1000000
/-! SK3: statements, targets, loops, comprehensions. -/
namespace SK
open PySem L2

/-! ### the functions -/
def noX {α : Type} : R α → R α
  | .ok a => .ok a
  | _ => .bad
abbrev GM := Val → Fr → R Fr
def gN (i : Nat) : GM := fun v fr => .ok (fr.set i (some v))
def gAll : List GM → List Val → Fr → R Fr
  | [], [], fr => .ok fr
  | g :: gs, v :: vs, fr => (g v fr).bind fun fr1 => gAll gs vs fr1
  | _, _, _ => .bad
def gT (gs : List GM) : GM := fun v fr => (ofO (seqOf v)).bind fun xs => gAll gs xs fr
def tTrue : TM := fun fr => .ok (true, fr)
abbrev IM := Fr → R (List Val × Fr)
/-- a list or tuple that is walked -/
def iSq (a : EM) : IM := fun fr => (a fr).bind fun x => (ofO (seqOf x.1)).bind fun xs => .ok (xs, x.2)
def forL (g : GM) (b : SM) : List Val → Fr → R (Fl × Fr)
  | [], fr => .ok (.nx, fr)
  | x :: xs, fr => (noX (g x fr)).bind fun fr1 => (b fr1).bind fun r => match r.1 with
    | .nx => forL g b xs r.2
    | .ct => forL g b xs r.2
    | .bk => .ok (.nx, r.2)
    | .rt v => .ok (.rt v, r.2)
def sFor (i : IM) (g : GM) (b : SM) : SM := fun fr => (i fr).bind fun x => forL g b x.1 x.2
def whL (t : TM) (b : SM) : Nat → Fr → R (Fl × Fr)
  | 0, _ => .bad
  | n + 1, fr => (t fr).bind fun x => if x.1 = true then (b x.2).bind fun r => (match r.1 with
    | .nx => whL t b n r.2
    | .ct => whL t b n r.2
    | .bk => .ok (.nx, r.2)
    | .rt v => .ok (.rt v, r.2)) else .ok (.nx, x.2)
def sWh (n : Nat) (t : TM) (b : SM) : SM := whL t b n
def sAsg (a : EM) (g : GM) : SM := fun fr => (a fr).bind fun x => (noX (g x.1 x.2)).bind fun fr1 => .ok (.nx, fr1)
def wipF (fr : Fr) : List Nat → Fr
  | [] => fr
  | v :: vs => (wipF fr vs).set v none
/-- the comprehension's own slots as they were -/
def putF' (fr0 : Fr) (fr : Fr) : List Nat → Fr
  | [] => fr
  | v :: vs => (putF' fr0 fr vs).set v (fr0.getD v none)
/-- the tests, the element -/
def lcL (own : List Nat) (g : GM) (t : TM) (e : EM) : List Val → Fr → R (List Val × Fr)
  | [], fr => .ok ([], fr)
  | x :: xs, fr => (noX (g x (wipF fr own))).bind fun fr1 => (noX (t fr1)).bind fun k => if k.1 = true then (noX (e k.2)).bind fun y => (lcL own g t e xs y.2).bind fun r => .ok (y.1 :: r.1, r.2) else lcL own g t e xs k.2
def eLc (own : List Nat) (i : IM) (g : GM) (t : TM) (e : EM) : EM := fun fr => (i fr).bind fun x => (noX (lcL own g t e x.1 x.2)).bind fun r => (ofO (fits r.1.length)).bind fun _ => .ok (.lst r.1, putF' x.2 r.2 own)

/-! ### statements -/
section
variable {X : Cx} {T : Tb} {E : XK} {mu : Nat → Bool} {io : List (Nat × V)} {st : Stmt} {rest : List Stmt} {m m2 : SM} {e : Expr} {me : EM} {pos : Pos}
theorem ss_nil : SSs X T E mu io [] sNil := PSs.imp pss_nil fun D σ H ⟨O, fr, rl, q⟩ => q O H σ (Fm.refl _ _) rl
theorem ss_cons (h1 : SS X T E mu io st m) (h2 : SSs X T E mu io rest m2) : SSs X T E mu io (st :: rest) (sSeq m m2) :=
  PSs.imp (pss_cons h1 h2) fun D σ H ⟨O, fr, rl, q⟩ => by
    unfold sSeq at q
    refine ⟨O, fr, rl, ?_⟩
    cases h : m fr with
    | bad => rw [h] at q; exact q
    | exc e => rw [h] at q; exact q
    | ok p =>
      obtain ⟨f, fr1⟩ := p
      rw [h] at q
      simp only [SK.R.bind_ok] at q
      cases f with
      | nx => exact fun O1 H1 σ1 F1 R1 => ⟨O1, fr1, R1, pS.back F1 q⟩
      | rt v => exact q
      | bk => exact q
      | ct => exact q
theorem ss_one (h1 : SS X T E mu io st m) : SSs X T E mu io [st] m := pss_one h1
theorem ss_pass : SS X T E mu io (.Pass pos) sNil := PS.imp ps_pass fun D σ H ⟨O, fr, rl, q⟩ => q O H σ (Fm.refl _ _) rl
theorem ss_break : SS X T E mu io (.Break pos) sBk := PS.imp ps_break fun D σ H ⟨O, fr, rl, q⟩ => q O H σ (Fm.refl _ _) rl
theorem ss_cont : SS X T E mu io (.Continue pos) sCt := PS.imp ps_continue fun D σ H ⟨O, fr, rl, q⟩ => q O H σ (Fm.refl _ _) rl
theorem ss_doc {x j pos'} : SS X T E mu io (.Expr (.Constant (.str x) j pos) pos') sNil := PS.imp ps_doc fun D σ H ⟨O, fr, rl, q⟩ => q O H σ (Fm.refl _ _) rl
theorem ss_expr (he : SE X T E mu io e me) (hs : swapsWith e none pos.line X.env = pure false := by rfl) : SS X T E mu io (.Expr e pos) (sEx me) :=
  PS.imp (ps_expr he hs) fun D σ H ⟨O, fr, rl, q⟩ => by
    unfold sEx at q
    refine ⟨O, fr, rl, ?_⟩
    cases h : me fr with
    | bad => rw [h] at q; exact q
    | exc e => rw [h] at q; exact q
    | ok p => obtain ⟨v, fr1⟩ := p; rw [h] at q; exact fun O1 H1 x F1 R1 _ => q O1 H1 σ F1 R1
theorem slr_val {K : PySem.W.Frag} {O : Own} {H : Hp} {i : Nat} {v : Val} {x : V} (hm : mu i = false := by rfl) (h : VR K T O H v x) : SlR K T O H mu i v x := by
  unfold SlR; rw [if_neg (by rw [hm]; exact Bool.false_ne_true)]; split
  · exact .inl (.inl h)
  · exact h
theorem OwR.nf {K : PySem.W.Frag} {O : Own} {H : Hp} {i : Nat} : ∀ {v : Val} {x : V}, OwR K T O H i v x → isFz v = false
  | .ins c [] [v], x, ⟨a, dx, fs', ws, e, o, h, q, r⟩ => by cases ws <;> exact r.elim
  | .ins c [] [], _, _ => rfl
  | .ins c [] (_ :: _ :: _), _, _ => rfl
  | .ins c (_ :: _) vs, _, _ => rfl
  | .non, _, _ => rfl
  | .bl _, _, _ => rfl
  | .int _, _, _ => rfl
  | .str _, _, _ => rfl
  | .tup _, _, _ => rfl
  | .lst _, _, _ => rfl
  | .dic _ _, _, _ => rfl
  | .scr _, _, _ => rfl
theorem slr_own {K : PySem.W.Frag} {O : Own} {H : Hp} {i : Nat} {v : Val} {x : V} (hm : mu i = true) (h : OwR K T O H i v x) : SlR K T O H mu i v x := by
  unfold SlR; rw [if_pos hm, if_neg (by rw [h.nf]; exact Bool.false_ne_true)]; exact h
theorem rsr_val {K : PySem.W.Frag} {O : Own} {H : Hp} {v : Val} {x : V} (hm : mu RES = false) (h : VR K T O H v x) : RsR K T O H mu v x := by
  unfold RsR; rw [if_neg (by rw [hm]; exact Bool.false_ne_true)]; exact h
theorem rsr_own {K : PySem.W.Frag} {O : Own} {H : Hp} {v : Val} {x : V} (hm : mu RES = true) (h : OwR K T O H RES v x) : RsR K T O H mu v x := by
  unfold RsR; rw [if_pos hm]; exact h
theorem ss_ret (hr : mu RES = false := by rfl) (he : SE X T E mu io e me) : SS X T E mu io (.Return (some e) pos) (sRet me) :=
  PS.imp (ps_ret he) fun D σ H ⟨O, fr, rl, q⟩ => by
    unfold sRet at q
    refine ⟨O, fr, rl, ?_⟩
    cases h : me fr with
    | bad => rw [h] at q; exact q
    | exc e => rw [h] at q; exact q
    | ok p => obtain ⟨v, fr1⟩ := p; rw [h] at q; exact fun O1 H1 x F1 R1 V1 => q O1 H1 σ x F1 R1 (rsr_val hr V1)
theorem ss_retN (hr : mu RES = false := by rfl) : SS X T E mu io (.Return none pos) sRetN := PS.imp ps_retN fun D σ H ⟨O, fr, rl, q⟩ => q O H σ .non (Fm.refl _ _) rl (rsr_val hr (by unfold VR; rfl))
theorem ss_if {c : Expr} {a b : List Stmt} {t : TM} (hc : ST X T E mu io c t) (ha : SSs X T E mu io a m) (hb : SSs X T E mu io b m2) : SS X T E mu io (.If c a b pos) (sIf t m m2) :=
  PS.imp (ps_if hc ha hb) fun D σ H ⟨O, fr, rl, q⟩ => by
    unfold sIf at q
    refine ⟨O, fr, rl, ?_⟩
    cases h1 : t fr with
    | bad => rw [h1] at q; exact q
    | exc e => rw [h1] at q; exact q
    | ok p =>
      obtain ⟨k, fr1⟩ := p
      rw [h1] at q
      intro O1 H1 F1 R1
      simp only [SK.R.bind_ok] at q
      cases k with
      | true => exact ⟨O1, fr1, R1, pS.back F1 (by simpa using q)⟩
      | false => exact ⟨O1, fr1, R1, pS.back F1 (by simpa using q)⟩

/-! ### a slot is set -/
section
variable {K : PySem.W.Frag} {O : Own} {H : Hp}
theorem Rl.set {fr σ} {i : Nat} {v : Val} {x : V} (rl : Rl K T mu io O fr σ H) (hm : mu i = false) (hio : ∀ p ∈ io, p.1 ≠ i) (r : VR K T O H v x) : Rl K T mu io O (fr.set i (some v)) (σ.set i (some x)) H := by
  refine ⟨by rw [List.length_set, List.length_set]; exact rl.len, fun j w e => ?_, rl.trk, fun p hp => ?_⟩
  · by_cases h : j = i
    · subst h
      rw [List.getElem?_set] at e
      rw [if_pos rfl] at e
      split at e
      · rename_i hl
        cases e
        refine ⟨x, ?_, ?_⟩
        · rw [List.getElem?_set, if_pos rfl, if_pos (by rw [← rl.len]; exact hl)]
        · unfold SlR; rw [if_neg (by rw [hm]; exact Bool.false_ne_true)]; split
          · exact .inl (.inl r)
          · exact r
      · cases e
    · rw [List.getElem?_set_ne (fun z => h z.symm)] at e
      obtain ⟨y, h1, h2⟩ := rl.sl j w e
      exact ⟨y, by rw [List.getElem?_set_ne (fun z => h z.symm)]; exact h1, h2⟩
  · rw [List.getElem?_set_ne (fun z => hio p hp z.symm)]
    exact rl.io p hp
/-- what r owned, i owns now; what i owned, nobody -/
def relab (O : Own) (r i : Nat) : Own := fun a => match O a with
  | some (.sl j) => if j = r then some (.sl i) else if j = i then none else some (.sl j)
  | some (.fl j g) => if j = r then some (.fl i g) else if j = i then none else some (.fl j g)
  | o => o
theorem relab_fm (O : Own) (H : Hp) (r i : Nat) : Fm O H (relab O r i) H := by
  refine ⟨fun a o h n => ⟨h, ?_⟩, fun a o h n => ⟨h, ?_⟩, fun a o h n => ⟨h, ?_⟩, fun a h => ?_⟩
  · unfold relab; rw [n]
  · unfold relab; rw [n]
  · unfold relab; rw [n]
  · unfold relab at h
    split at h
    · split at h
      · cases h
      · split at h <;> cases h
    · split at h
      · cases h
      · split at h <;> cases h
    · exact h
theorem relab_ne {O : Own} {r i j : Nat} (h1 : j ≠ r) (h2 : j ≠ i) {a w} (e : O a = some w) (o : ofSlot j w) : relab O r i a = some w := by
  unfold relab
  rcases o with rfl | ⟨g, rfl⟩
  · rw [e]; show (if j = r then _ else if j = i then _ else _) = _; rw [if_neg h1, if_neg h2]
  · rw [e]; show (if j = r then _ else if j = i then _ else _) = _; rw [if_neg h1, if_neg h2]
theorem relab_sl {O : Own} {r i : Nat} {a} (e : O a = some (.sl r)) : relab O r i a = some (.sl i) := by
  unfold relab; rw [e]; exact if_pos rfl
theorem relab_fl {O : Own} {r i g : Nat} {a} (e : O a = some (.fl r g)) : relab O r i a = some (.fl i g) := by
  unfold relab; rw [e]; exact if_pos rfl
theorem relab_some {O : Own} {r i : Nat} {a} (h : relab O r i a ≠ none) : O a ≠ none := by
  intro n; apply h; unfold relab; rw [n]
theorem OwL.relabB {ow ow' : Ow} {O' : Own} (f : Fb O H O' H) (hk : ∀ a, O a = some ow → O' a = some ow') : ∀ {v x}, OwL K T O H ow v x → OwL K T O' H ow' v x
  | .lst xs, x, ⟨a, vs, e, o, h, r⟩ => ⟨a, vs, e, hk a o, h, r.monoB f⟩
  | .dic ks ws, x, ⟨a, kvs, e, o, h, q, r⟩ => ⟨a, kvs, e, hk a o, h, q, r.monoB f⟩
  | .non, _, h => h.elim
  | .bl _, _, h => h.elim
  | .int _, _, h => h.elim
  | .str _, _, h => h.elim
  | .tup _, _, h => h.elim
  | .ins _ _ _, _, h => h.elim
  | .scr _, _, h => h.elim
theorem FRs.relabB {c i i' : Nat} {O' : Own} (f : Fb O H O' H) (hk : ∀ a g, O a = some (.fl i g) → O' a = some (.fl i' g)) : ∀ {fs vs ws}, FRs K T O H c i fs vs ws → FRs K T O' H c i' fs vs ws
  | [], [], [], _ => trivial
  | g :: fs, v :: vs, w :: ws, ⟨a, b⟩ => by
    refine ⟨?_, b.relabB f hk⟩
    by_cases h : T.own c g = true
    · rw [if_pos h] at a ⊢; exact OwL.relabB f (fun a => hk a g) a
    · rw [if_neg h] at a ⊢; exact VR.monoB f _ _ a
  | [], _ :: _, _, h => h.elim
  | [], [], _ :: _, h => h.elim
  | _ :: _, [], _, h => h.elim
  | _ :: _, _ :: _, [], h => h.elim
theorem OwR.relabB {i i' : Nat} {O' : Own} (f : Fb O H O' H) (h1 : ∀ a, O a = some (.sl i) → O' a = some (.sl i')) (h2 : ∀ a g, O a = some (.fl i g) → O' a = some (.fl i' g)) : ∀ {v x}, OwR K T O H i v x → OwR K T O' H i' v x
  | .ins c fs vs, x, ⟨a, dx, fs', ws, e, o, h, q, r⟩ => ⟨a, dx, fs', ws, e, h1 a o, h, q, r.relabB f h2⟩
  | .lst xs, x, h => show OwL K T O' H (.sl i') (.lst xs) x from OwL.relabB f h1 (show OwL K T O H (.sl i) (.lst xs) x from h)
  | .dic ks ws, x, h => show OwL K T O' H (.sl i') (.dic ks ws) x from OwL.relabB f h1 (show OwL K T O H (.sl i) (.dic ks ws) x from h)
  | .non, _, h => h.elim
  | .bl _, _, h => h.elim
  | .int _, _, h => h.elim
  | .str _, _, h => h.elim
  | .tup _, _, h => h.elim
  | .scr _, _, h => h.elim
theorem OwR.relab {i i' : Nat} {O' : Own} (f : Fm O H O' H) (h1 : ∀ a, O a = some (.sl i) → O' a = some (.sl i')) (h2 : ∀ a g, O a = some (.fl i g) → O' a = some (.fl i' g)) {v x} (h : OwR K T O H i v x) : OwR K T O' H i' v x := OwR.relabB f.b h1 h2 h
theorem Rl.setO {fr σ} {i r : Nat} {v : Val} {x : V} (rl : Rl K T mu io O fr σ H) (hm : mu i = true) (hio : ∀ p ∈ io, p.1 ≠ i) (hr : fr.length ≤ r) (w : OwR K T O H r v x) : Rl K T mu io (relab O r i) (fr.set i (some v)) (σ.set i (some x)) H := by
  refine ⟨by rw [List.length_set, List.length_set]; exact rl.len, fun j w' e => ?_, fun a n => rl.trk a (relab_some n), fun p hp => ?_⟩
  · by_cases h : j = i
    · subst h
      rw [List.getElem?_set] at e
      rw [if_pos rfl] at e
      split at e
      · rename_i hl
        cases e
        refine ⟨x, ?_, ?_⟩
        · rw [List.getElem?_set, if_pos rfl, if_pos (by rw [← rl.len]; exact hl)]
        · exact slr_own hm (OwR.relab (relab_fm O H r j) (fun a => relab_sl) (fun a g => relab_fl) w)
      · cases e
    · rw [List.getElem?_set_ne (fun z => h z.symm)] at e
      obtain ⟨y, h1, h2⟩ := rl.sl j w' e
      refine ⟨y, by rw [List.getElem?_set_ne (fun z => h z.symm)]; exact h1, h2.mono (relab_fm O H r i) fun _ a o w e2 n z => ⟨e2, relab_ne ?_ h n z⟩⟩
      have hj : j < fr.length := (List.getElem?_eq_some_iff.mp e).1
      omega
  · rw [List.getElem?_set_ne (fun z => hio p hp z.symm)]
    exact rl.io p hp
end
/-- i = e, a slot that owns nothing -/
theorem ss_set {i : Nat} {x : Str} {pos' : Pos} (hN : X.N.Nodup) (hi : X.N[i]? = some x := by rfl) (hx : Loc X.env.scope x := by first | exact .inl rfl | exact .inr rfl) (hm : mu i = false := by rfl) (hio : ∀ p ∈ io, p.1 ≠ i := by exact io_ne rfl) (he : SE X T E mu io e me) (hs : swapsWith e (some (.Name x pos')) pos.line X.env = pure false := by rfl)
    (hf : X.fn x = true ∨ X.env.scope.names.lookup x = some .local := by first | exact .inl rfl | exact .inr rfl) : SS X T E mu io (.Assign [.Name x pos'] e pos) (sSet i me) :=
  PS.imp (ps_set hN hi hx he hs hf) fun D σ H ⟨O, fr, rl, q⟩ => by
    unfold sSet at q
    refine ⟨O, fr, rl, ?_⟩
    cases h : me fr with
    | bad => rw [h] at q; exact q
    | exc e => rw [h] at q; exact q
    | ok p =>
      obtain ⟨v, fr1⟩ := p
      rw [h] at q
      exact fun O1 H1 x F1 R1 V1 => q O1 H1 (σ.set i (some x)) F1 (R1.set hm hio V1)
/-! ### an expression whose result is owned (by the slot r, that is none of the frame's) -/
section
variable (K : PySem.W.Frag) (T : Tb) (E : XK) (mu : Nat → Bool) (io : List (Nat × V)) (r : Nat)
def pO (O : Own) (σ : St) (H : Hp) (Q : VK) : R (Val × Fr) → Prop
  | .ok (v, fr') => ∀ O' H' x, Fm O H O' H' → Rl K T mu io O' fr' σ H' → OwR K T O' H' r v x → Q x H'
  | .exc e => pEx K T E O H e
  | .bad => False
def rO (m : EM) : TE := fun σ H Q => ∃ O fr, Rl K T mu io O fr σ H ∧ pO K T E mu io r O σ H Q (m fr)
end
abbrev SO (X : Cx) (T : Tb) (E : XK) (mu : Nat → Bool) (io : List (Nat × V)) (r : Nat) (e : Expr) (m : EM) : Prop := PE X e (rO X.K T E mu io r m)
theorem pO.back {K : PySem.W.Frag} {r : Nat} {O O1 : Own} {σ : St} {H H1 : Hp} (f : Fm O H O1 H1) {Q q} (h : pO K T E mu io r O σ H Q q) : pO K T E mu io r O1 σ H1 Q q := by
  cases q with
  | ok a => obtain ⟨v, fr'⟩ := a; exact fun O' H' x g => h O' H' x (f.trans g)
  | exc e => exact pEx.back f h
  | bad => exact h
/-- return e, what is given back is owned -/
theorem ss_retO (hr : mu RES = true := by rfl) (he : SO X T E mu io RES e me) : SS X T E mu io (.Return (some e) pos) (sRet me) :=
  PS.imp (ps_ret he) fun D σ H ⟨O, fr, rl, q⟩ => by
    unfold sRet at q
    refine ⟨O, fr, rl, ?_⟩
    cases h : me fr with
    | bad => rw [h] at q; exact q
    | exc e => rw [h] at q; exact q
    | ok p => obtain ⟨v, fr1⟩ := p; rw [h] at q; exact fun O1 H1 x F1 R1 V1 => q O1 H1 σ x F1 R1 (rsr_own hr V1)
/-- i = e, a slot that owns its object; the value comes owned by r -/
theorem ss_setO {i r : Nat} {x : Str} {pos' : Pos} (hN : X.N.Nodup) (hi : X.N[i]? = some x := by rfl) (hx : Loc X.env.scope x := by first | exact .inl rfl | exact .inr rfl) (hm : mu i = true := by rfl) (hio : ∀ p ∈ io, p.1 ≠ i := by exact io_ne rfl) (he : SO X T E mu io r e me) (hl : ∀ σ : St, σ.length = X.N.length → σ.length ≤ r) (hs : swapsWith e (some (.Name x pos')) pos.line X.env = pure false := by rfl)
    (hf : X.fn x = true ∨ X.env.scope.names.lookup x = some .local := by first | exact .inl rfl | exact .inr rfl) : SS X T E mu io (.Assign [.Name x pos'] e pos) (sSet i me) :=
  ⟨fun pins s σ H D I ⟨O, fr, rl, q⟩ => by
    refine (ps_set (pos := pos) hN hi hx he hs hf).run pins s σ H D I ?_
    unfold sSet at q
    refine ⟨O, fr, rl, ?_⟩
    cases h : me fr with
    | bad => rw [h] at q; exact q
    | exc e => rw [h] at q; exact q
    | ok p =>
      obtain ⟨v, fr1⟩ := p
      rw [h] at q
      exact fun O1 H1 x F1 R1 V1 => q (relab O1 r i) H1 (σ.set i (some x)) (F1.trans (relab_fm _ _ _ _)) (R1.setO hm hio (by rw [R1.len]; exact hl σ I.len) V1)⟩
/-! ### targets -/
section
variable (K : PySem.W.Frag) (T : Tb) (E : XK) (mu : Nat → Bool) (io : List (Nat × V))
/-- the slots ts alone differ -/
def Eqx (ts : List Nat) (σ σ' : St) : Prop := σ'.length = σ.length ∧ ∀ i, i ∉ ts → σ'[i]? = σ[i]?
def pG (ts : List Nat) (σ : St) (O : Own) (H : Hp) (Q : St → Hp → Prop) : R Fr → Prop
  | .ok fr' => ∀ O' H' σ', Fm O H O' H' → Rl K T mu io O' fr' σ' H' → Eqx ts σ σ' → Q σ' H'
  | _ => False
def rG (ts : List Nat) (g : GM) : TG := fun x σ H Q => ∃ O fr v, Rl K T mu io O fr σ H ∧ VR K T O H v x ∧ pG K T mu io ts σ O H Q (g v fr)
def rGs (ts : List Nat) (g : List Val → Fr → R Fr) : TGs := fun xs σ H Q => ∃ O fr vs, Rl K T mu io O fr σ H ∧ VRs K T O H vs xs ∧ pG K T mu io ts σ O H Q (g vs fr)
end
theorem Eqx.refl (ts : List Nat) (σ : St) : Eqx ts σ σ := ⟨rfl, fun _ _ => rfl⟩
theorem Eqx.trans {ts : List Nat} {a b c : St} (h : Eqx ts a b) (g : Eqx ts b c) : Eqx ts a c := ⟨g.1.trans h.1, fun i n => (g.2 i n).trans (h.2 i n)⟩
theorem Eqx.wipe {ts own : List Nat} {σ σ' : St} (h : Eqx ts σ σ') (hs : ∀ i ∈ ts, i ∈ own) : wipe σ' own = wipe σ own := by
  apply List.ext_getElem?
  intro i
  by_cases hi : i ∈ own
  · have key : ∀ (own : List Nat), i ∈ own → ∀ τ : St, (L2.wipe τ own)[i]? = if i < τ.length then some none else none := by
      intro own
      induction own with
      | nil => intro h; cases h
      | cons w vs ih =>
        intro h τ
        show ((L2.wipe τ vs).set w none)[i]? = _
        by_cases e : i = w
        · subst e
          rw [List.getElem?_set, if_pos rfl, wipe_length]
        · rw [List.getElem?_set_ne (fun z => e z.symm)]
          exact ih (by rcases List.mem_cons.mp h with z | z; exact absurd z e; exact z) τ
    rw [key own hi, key own hi, h.1]
  · rw [wipe_out hi, wipe_out hi]
    exact h.2 i fun z => hi (hs i z)
abbrev SG (X : Cx) (T : Tb) (mu : Nat → Bool) (io : List (Nat × V)) (ts : List Nat) (e : Expr) (g : GM) : Prop := PG X e (rG X.K T mu io ts g)
abbrev SGs (X : Cx) (T : Tb) (mu : Nat → Bool) (io : List (Nat × V)) (ts : List Nat) (es : List Expr) (g : List Val → Fr → R Fr) : Prop := PGs X es (rGs X.K T mu io ts g)
theorem PG.imp {X : Cx} {e : Expr} {t t' : TG} (h : PG X e t) (w : ∀ v σ H Q, t' v σ H Q → t v σ H Q) : PG X e t' := ⟨fun pins s σ H v u Q I r q => h.run pins s σ H v u Q I r (w v σ H Q q)⟩
theorem PGs.imp {X : Cx} {e : List Expr} {t t' : TGs} (h : PGs X e t) (w : ∀ v σ H Q, t' v σ H Q → t v σ H Q) : PGs X e t' := ⟨fun pins s σ H v u Q I r q => h.run pins s σ H v u Q I r (w v σ H Q q)⟩
theorem pG.back {K : PySem.W.Frag} {ts : List Nat} {σ σ1 : St} {O O1 : Own} {H H1 : Hp} (f : Fm O H O1 H1) (x : Eqx ts σ σ1) {Q r} (h : pG K T mu io ts σ O H Q r) : pG K T mu io ts σ1 O1 H1 Q r := by
  cases r with
  | ok a => exact fun O' H' s g r y => h O' H' s (f.trans g) r (x.trans y)
  | exc e => exact h
  | bad => exact h
theorem sg_n {ts : List Nat} {i : Nat} {x : Str} (hts : i ∈ ts := by decide) (hN : X.N.Nodup) (hi : X.N[i]? = some x := by rfl) (hx : Loc X.env.scope x := by first | exact .inl rfl | exact .inr rfl) (hm : mu i = false := by rfl) (hio : ∀ p ∈ io, p.1 ≠ i := by exact io_ne rfl) (hf : X.fn x = true ∨ X.env.scope.names.lookup x = some .local := by first | exact .inl rfl | exact .inr rfl) : SG X T mu io ts (.Name x pos) (gN i) :=
  PG.imp (pg_name hN hi hx hf) fun v σ H Q ⟨O, fr, w, rl, r, q⟩ => q O H _ (Fm.refl _ _) (rl.set hm hio r) ⟨by rw [List.length_set], fun j hj => by rw [List.getElem?_set_ne (fun z => hj (by rw [← z]; exact hts))]⟩
theorem sgs_nil {ts : List Nat} : SGs X T mu io ts [] (gAll []) := PGs.imp pgs_nil fun xs σ H Q ⟨O, fr, vs, rl, r, q⟩ => by
  cases vs with
  | nil => exact ⟨r.inv0, q O H σ (Fm.refl _ _) rl (Eqx.refl _ _)⟩
  | cons v vs => exact q.elim
theorem sgs_cons {ts : List Nat} {es : List Expr} {g : GM} {gs : List GM} (h1 : SG X T mu io ts e g) (h2 : SGs X T mu io ts es (gAll gs)) (hs : (assignEach (e :: es) X.env).map (·.2) = assign e X.env :: (assignEach es X.env).map (·.2) := by rfl) : SGs X T mu io ts (e :: es) (gAll (g :: gs)) :=
  PGs.imp (pgs_cons h1 h2 hs) fun xs σ H Q ⟨O, fr, vs, rl, r, q⟩ => by
    cases vs with
    | nil => exact q.elim
    | cons v vs =>
      obtain ⟨y, ys, rfl, a, b⟩ := r.inv
      refine ⟨y, ys, rfl, O, fr, v, rl, a, ?_⟩
      unfold gAll at q
      cases h : g v fr with
      | bad => rw [h] at q; exact q
      | exc e => rw [h] at q; exact q
      | ok fr1 =>
        rw [h] at q
        exact fun O1 H1 σ1 F1 R1 x1 => ⟨O1, fr1, vs, R1, b.mono F1, pG.back F1 x1 q⟩
theorem gAll_len : ∀ {gs : List GM} {vs : List Val} {fr fr' : Fr}, gAll gs vs fr = .ok fr' → vs.length = gs.length
  | [], [], _, _, _ => rfl
  | g :: gs, v :: vs, fr, fr', h => by
    unfold gAll at h
    obtain ⟨fr1, _, h2⟩ := R.bind_eq h
    rw [List.length_cons, List.length_cons, gAll_len h2]
  | [], _ :: _, _, _, h => by cases h
  | _ :: _, [], _, _, h => by cases h
theorem sg_t {ts : List Nat} {es : List Expr} {k : Nat} {gs : List GM} (hc : X.calm = true := by rfl) (h : SGs X T mu io ts es (gAll gs)) (hn : (assignEach es X.env).length = gs.length := by rfl) (hst : (assignEach es X.env).findIdx? (·.1) = none := by rfl) : SG X T mu io ts (.Tuple es k pos) (gT gs) := by
  refine ⟨fun pins s σ H x u Q I r ⟨O, fr, v, rl, rv, q⟩ => ?_⟩
  unfold gT at q
  cases h1 : seqOf v with
  | none => rw [h1] at q; exact q.elim
  | some xs =>
    rw [h1] at q
    simp only [ofO, SK.R.bind_ok] at q
    obtain ⟨p, ws, e1, e2, e3⟩ := seqOf_ok rv h1
    have hl : ws.length = gs.length := by
      rw [← e3.len]
      cases h2 : gAll gs xs fr with
      | ok fr' => exact gAll_len h2
      | exc e => rw [h2] at q; exact q.elim
      | bad => rw [h2] at q; exact q.elim
    rcases e2 with e2 | e2
    · exact (pg_tup (pos := pos) (k := k) hc h hn hst).run pins s σ H x u Q I r ⟨p, ws, e1, e2, hl, O, fr, xs, rl, e3, q⟩
    · exact (pg_lst (pos := pos) (k := k) hc h hn hst).run pins s σ H x u Q I r ⟨p, ws, e1, e2, hl, O, fr, xs, rl, e3, q⟩
theorem ss_asg {ts : List Nat} {tg : Expr} {g : GM} (he : SE X T E mu io e me) (hg : SG X T mu io ts tg g) (hs : swapsWithSole [tg] e pos.line X.env = pure false := by rfl) (hw : swappedStores [tg] e X.env = pure none := by rfl)
    (h1 : (assignEach [tg] X.env).map (·.2) = [assign tg X.env] := by rfl) : SS X T E mu io (.Assign [tg] e pos) (sAsg me g) :=
  PS.imp (ps_asg he hg hs hw h1) fun D σ H ⟨O, fr, rl, q⟩ => by
    unfold sAsg at q
    refine ⟨O, fr, rl, ?_⟩
    cases h : me fr with
    | bad => rw [h] at q; exact q
    | exc e => rw [h] at q; exact q
    | ok p =>
      obtain ⟨v, fr1⟩ := p
      rw [h] at q
      intro O1 H1 x F1 R1 V1
      simp only [SK.R.bind_ok] at q
      refine ⟨O1, fr1, v, R1, V1, ?_⟩
      cases h2 : g v fr1 with
      | bad => rw [h2] at q; exact q.elim
      | exc e => rw [h2] at q; exact q.elim
      | ok fr2 => rw [h2] at q; exact fun O2 H2 σ2 F2 R2 _ => q O2 H2 σ2 (F1.trans F2) R2
/-! ### what is walked -/
/-- J walks the items xs while what is nobody's stays -/
def Walks (K : PySem.W.Frag) (T : Tb) (J : It) (xs : List Val) (O : Own) (H : Hp) : Prop := ∀ O' H', Fb O H O' H' → Fo O H O' H' → (∀ a, O' a ≠ none → H' a ≠ none) → ∀ i : Nat,
  (xs.length ≤ i → J.stop i H') ∧ ∀ v, xs[i]? = some v → J.go i H' ∧ ∀ x H'', J.yld i H' x H'' → Hx H' H'' ∧ VR K T O' H'' v x
theorem Walks.monoB {K : PySem.W.Frag} {J : It} {xs : List Val} {O O1 : Own} {H H1 : Hp} (w : Walks K T J xs O H) (f : Fb O H O1 H1) (f2 : Fo O H O1 H1) : Walks K T J xs O1 H1 := fun O' H' g g2 => w O' H' (f.trans g) (fun a o e n => let ⟨h1, n1⟩ := f2 a o e n; g2 a o h1 n1)
theorem Walks.mono {K : PySem.W.Frag} {J : It} {xs : List Val} {O O1 : Own} {H H1 : Hp} (w : Walks K T J xs O H) (f : Fm O H O1 H1) : Walks K T J xs O1 H1 := w.monoB f.b f.out
section
variable (K : PySem.W.Frag) (T : Tb) (E : XK) (mu : Nat → Bool) (io : List (Nat × V))
def pI (O : Own) (σ : St) (H : Hp) (Q : It → Hp → Prop) : R (List Val × Fr) → Prop
  | .ok (xs, fr') => ∀ O' H' J, Fm O H O' H' → Rl K T mu io O' fr' σ H' → Walks K T J xs O' H' → Q J H'
  | .exc e => pEx K T E O H e
  | .bad => False
def rI (m : IM) : TI := fun σ H Q => ∃ O fr, Rl K T mu io O fr σ H ∧ pI K T E mu io O σ H Q (m fr)
end
abbrev SI (X : Cx) (T : Tb) (E : XK) (mu : Nat → Bool) (io : List (Nat × V)) (tg e : Expr) (m : IM) : Prop := PI X tg e (SK.rI X.K T E mu io m)
theorem SqT.fm {K : PySem.W.Frag} {O O' : Own} {H H' : Hp} {a : Addr} {vs} (t : TupAt K O H a vs) (f : Fb O H O' H') : SqT K H' a vs := by
  rcases t.monoB f with ⟨h, _⟩ | h
  · exact SqT.of h
  · exact h H'
theorem SqL.fm {K : PySem.W.Frag} {O O' : Own} {H H' : Hp} {a : Addr} {vs} (t : LstAt O H a vs) (f : Fb O H O' H') : SqL K H' a vs := by
  exact SqL.of (t.monoB f).1
theorem walks_lst {K : PySem.W.Frag} {O : Own} {H : Hp} {a : Addr} {vs xs} (t : LstAt O H a vs) (r : VRs K T O H xs vs) : Walks K T (Itl K a) xs O H := fun O' H' f _ tr i =>
  ⟨fun hl => ⟨vs, SqL.fm t f, by rw [← r.len]; exact hl⟩, fun v hv => by
    obtain ⟨x, h1, h2⟩ := r.get hv
    refine ⟨⟨vs, x, SqL.fm t f, h1⟩, fun y H'' ⟨e, hy⟩ => ?_⟩
    subst e
    have := hy vs (SqL.fm t f)
    rw [h1] at this
    cases this
    exact ⟨Hx.refl _, VR.monoB f _ _ h2⟩⟩
theorem walks_tup {K : PySem.W.Frag} {O : Own} {H : Hp} {a : Addr} {vs xs} (t : TupAt K O H a vs) (r : VRs K T O H xs vs) : Walks K T (Itt K a) xs O H := fun O' H' f _ tr i =>
  ⟨fun hl => ⟨vs, SqT.fm t f, by rw [← r.len]; exact hl⟩, fun v hv => by
    obtain ⟨x, h1, h2⟩ := r.get hv
    refine ⟨⟨vs, x, SqT.fm t f, h1⟩, fun y H'' ⟨e, hy⟩ => ?_⟩
    subst e
    have := hy vs (SqT.fm t f)
    rw [h1] at this
    cases this
    exact ⟨Hx.refl _, VR.monoB f _ _ h2⟩⟩
theorem si_sq {tg : Expr} (he : SE X T E mu io e me) : SI X T E mu io tg e (iSq me) := by
  refine ⟨fun pins s σ H Q I ⟨O, fr, rl, q⟩ => ?_⟩
  unfold iSq at q
  cases h : me fr with
  | bad => rw [h] at q; exact q.elim
  | exc e' =>
    rw [h] at q
    exact (pi_list he).run pins s σ H Q I ⟨O, fr, rl, by rw [h]; exact q⟩
  | ok p =>
    obtain ⟨v, fr1⟩ := p
    rw [h] at q
    simp only [SK.R.bind_ok] at q
    cases v with
    | lst xs =>
      refine (pi_list he).run pins s σ H Q I ⟨O, fr, rl, by
        rw [h]
        intro O1 H1 x F1 R1 V1
        unfold VR at V1
        obtain ⟨a, vs, e1, t, r⟩ := V1
        exact ⟨a, e1, ⟨vs, SqL.fm t (Fb.refl _ _)⟩, q O1 H1 _ F1 R1 (walks_lst t r)⟩⟩
    | tup xs =>
      refine (pi_tup he).run pins s σ H Q I ⟨O, fr, rl, by
        rw [h]
        intro O1 H1 x F1 R1 V1
        unfold VR at V1
        obtain ⟨a, vs, e1, t, r⟩ := V1
        exact ⟨a, e1, ⟨vs, SqT.fm t (Fb.refl _ _)⟩, q O1 H1 _ F1 R1 (walks_tup t r)⟩⟩
    | _ => exact q.elim
/-! ### for, while -/
theorem ss_for {ts : List Nat} {tg iter : Expr} {body : List Stmt} {i : IM} {g : GM} (hp : PassesOwn (model X.prog X.w) X.A X.env X.xe := by exact passes_of rfl) (hc : X.calm = true := by rfl) (hi : SI X T E mu io tg iter i) (hg : SG X T mu io ts tg g) (hb : SSs X T E mu io body m)
    (hs : ∀ x, foldedSetIterable iter X.env x = pure x := by intro _; rfl) : SS X T E mu io (.For tg iter body [] pos) (sFor i g m) :=
  PS.imp (ps_for hp hc hi hg hb hs) fun D σ H ⟨O, fr, rl, q⟩ => by
    unfold sFor at q
    refine ⟨O, fr, rl, ?_⟩
    cases h : i fr with
    | bad => rw [h] at q; exact q
    | exc e => rw [h] at q; exact q
    | ok p =>
      obtain ⟨xs, fr1⟩ := p
      rw [h] at q
      intro O1 H1 J F1 R1 W1
      simp only [SK.R.bind_ok] at q
      refine ⟨fun j k σ' H' => k = xs.length - j ∧ ∃ O' fr', Rl X.K T mu io O' fr' σ' H' ∧ Walks X.K T J xs O' H' ∧ pS X.K T E mu io O' D H' (forL g m (xs.drop j) fr'), ⟨_, rfl, O1, fr1, R1, W1, by simpa using pS.back F1 q⟩, ?_⟩
      rintro j k σ' H' ⟨rfl, O', fr', R', W', q'⟩
      obtain ⟨hstop, hgo⟩ := W' O' H' (Fb.refl _ _) (fun _ _ h n => ⟨h, n⟩) R'.trk j
      by_cases hj : j < xs.length
      · right
        have hx : xs[j]? = some xs[j] := List.getElem?_eq_getElem hj
        obtain ⟨h1, h2⟩ := hgo _ hx
        refine ⟨h1, fun σ2 H2 => ∃ O2 fr2, Rl X.K T mu io O2 fr2 σ2 H2 ∧ Walks X.K T J xs O2 H2 ∧ pS X.K T E mu io O2 D H2 (forL g m (xs.drop (j + 1)) fr2), fun σ2 H2 hN => ⟨_, by omega, rfl, hN⟩, fun x H2 hy => ?_⟩
        obtain ⟨X2, V2⟩ := h2 x H2 hy
        refine ⟨O', fr', xs[j], R'.hx X2, V2, ?_⟩
        rw [List.drop_eq_getElem_cons hj] at q'
        unfold forL at q'
        cases h3 : g xs[j] fr' with
        | bad => rw [h3] at q'; exact q'
        | exc e => rw [h3] at q'; exact q'.elim
        | ok fr3 =>
          rw [h3] at q'
          intro O3 H3 σ3 F3 R3 _
          refine ⟨O3, fr3, R3, ?_⟩
          have F03 := X2.fm.trans F3
          simp only [noX, SK.R.bind_ok] at q'
          cases h4 : m fr3 with
          | bad => rw [h4] at q'; exact q'
          | exc e => rw [h4] at q'; exact pEx.back F03 q'
          | ok p =>
            obtain ⟨f, fr4⟩ := p
            rw [h4] at q'
            simp only [SK.R.bind_ok] at q'
            cases f with
            | nx => exact fun O4 H4 σ4 F4 R4 => ⟨O4, fr4, R4, W'.mono (F03.trans F4), pS.back (F03.trans F4) q'⟩
            | ct => exact fun O4 H4 σ4 F4 R4 => ⟨O4, fr4, R4, W'.mono (F03.trans F4), pS.back (F03.trans F4) q'⟩
            | bk => exact pS.back (r := .ok (.nx, fr4)) F03 q'
            | rt v => exact pS.back (r := .ok (.rt v, fr4)) F03 q'
      · left
        refine ⟨hstop (by omega), ?_⟩
        rw [List.drop_of_length_le (by omega)] at q'
        exact q' O' H' σ' (Fm.refl _ _) R'
theorem ss_while {c : Expr} {body : List Stmt} {t : TM} {n : Nat} (hp : PassesOwn (model X.prog X.w) X.A X.env X.xe := by exact passes_of rfl) (hc : ST X T E mu io c t) (hb : SSs X T E mu io body m) : SS X T E mu io (.While c body [] pos) (sWh n t m) :=
  PS.imp (ps_while hp hc hb) fun D σ H ⟨O, fr, rl, q⟩ => by
    refine ⟨fun k σ' H' => ∃ O' fr', Rl X.K T mu io O' fr' σ' H' ∧ pS X.K T E mu io O' D H' (whL t m k fr'), ⟨n, O, fr, rl, q⟩, ?_⟩
    rintro k σ' H' ⟨O', fr', R', q'⟩
    cases k with
    | zero => exact q'.elim
    | succ k =>
      unfold whL at q'
      refine ⟨O', fr', R', ?_⟩
      cases h : t fr' with
      | bad => rw [h] at q'; exact q'
      | exc e => rw [h] at q'; exact q'
      | ok p =>
        obtain ⟨b, fr1⟩ := p
        rw [h] at q'
        intro O1 H1 F1 R1
        simp only [SK.R.bind_ok] at q'
        cases b with
        | false => exact q' O1 H1 σ' F1 R1
        | true =>
          simp only [if_true] at q' ⊢
          refine ⟨fun σ2 H2 => ∃ O2 fr2, Rl X.K T mu io O2 fr2 σ2 H2 ∧ pS X.K T E mu io O2 D H2 (whL t m k fr2), fun σ2 H2 hN => ⟨k, Nat.lt_succ_self k, hN⟩, O1, fr1, R1, ?_⟩
          cases h4 : m fr1 with
          | bad => rw [h4] at q'; exact q'
          | exc e => rw [h4] at q'; exact pEx.back F1 q'
          | ok p =>
            obtain ⟨f, fr4⟩ := p
            rw [h4] at q'
            simp only [SK.R.bind_ok] at q'
            cases f with
            | nx => exact fun O4 H4 σ4 F4 R4 => ⟨O4, fr4, R4, pS.back (F1.trans F4) q'⟩
            | ct => exact fun O4 H4 σ4 F4 R4 => ⟨O4, fr4, R4, pS.back (F1.trans F4) q'⟩
            | bk => exact pS.back (r := .ok (.nx, fr4)) F1 q'
            | rt v => exact pS.back (r := .ok (.rt v, fr4)) F1 q'
/-! ### comprehensions -/
theorem wipF_len (fr : Fr) : ∀ vs : List Nat, (wipF fr vs).length = fr.length
  | [] => rfl
  | v :: vs => by unfold wipF; rw [List.length_set]; exact wipF_len fr vs
theorem wipF_some {fr : Fr} {i : Nat} {v : Val} : ∀ {vs : List Nat}, (wipF fr vs)[i]? = some (some v) → fr[i]? = some (some v) ∧ i ∉ vs
  | [], h => ⟨h, fun z => nomatch z⟩
  | w :: vs, h => by
    unfold wipF at h
    by_cases e : i = w
    · subst e
      rw [List.getElem?_set, if_pos rfl] at h
      split at h <;> cases h
    · rw [List.getElem?_set_ne (fun z => e z.symm)] at h
      obtain ⟨a, b⟩ := wipF_some h
      exact ⟨a, fun z => by rcases List.mem_cons.mp z with z | z; exact e z; exact b z⟩
theorem wipe_get {σ : St} {i : Nat} : ∀ {vs : List Nat}, i ∉ vs → (wipe σ vs)[i]? = σ[i]? := fun h => wipe_out h
theorem Rl.wip {K : PySem.W.Frag} {O : Own} {H : Hp} {fr σ} (rl : Rl K T mu io O fr σ H) (own : List Nat) (hio : ∀ p ∈ io, p.1 ∉ own) : Rl K T mu io O (wipF fr own) (wipe σ own) H :=
  ⟨by rw [wipF_len, wipe_length]; exact rl.len, fun i v e => by
    obtain ⟨a, b⟩ := wipF_some e
    obtain ⟨x, h1, h2⟩ := rl.sl i v a
    exact ⟨x, by rw [wipe_out b]; exact h1, h2⟩, rl.trk, fun p hp => by rw [wipe_out (hio p hp)]; exact rl.io p hp⟩
/-- what is true behind the block, outside its own slots -/
theorem putF'_len (fr0 fr : Fr) : ∀ vs : List Nat, (putF' fr0 fr vs).length = fr.length
  | [] => rfl
  | v :: vs => by unfold putF'; rw [List.length_set]; exact putF'_len fr0 fr vs
theorem putF'_in {fr0 fr : Fr} {i : Nat} (hl : fr0.length = fr.length) : ∀ {vs : List Nat}, i ∈ vs → (putF' fr0 fr vs)[i]? = fr0[i]?
  | w :: vs, h => by
    unfold putF'
    by_cases e : i = w
    · subst e
      rw [List.getElem?_set, if_pos rfl, putF'_len]
      by_cases hi : i < fr.length
      · rw [if_pos hi, List.getElem?_eq_getElem (by omega)]
        rw [List.getD_eq_getElem?_getD, List.getElem?_eq_getElem (by omega)]
        rfl
      · rw [if_neg hi, List.getElem?_eq_none (by omega)]
    · rw [List.getElem?_set_ne (fun z => e z.symm)]
      exact putF'_in hl (by rcases List.mem_cons.mp h with z | z; exact absurd z e; exact z)
theorem putF'_out {fr0 fr : Fr} {i : Nat} : ∀ {vs : List Nat}, i ∉ vs → (putF' fr0 fr vs)[i]? = fr[i]?
  | [], _ => rfl
  | w :: vs, h => by
    unfold putF'
    rw [List.getElem?_set_ne (fun z => h (by rw [z]; exact List.mem_cons_self))]
    exact putF'_out fun z => h (List.mem_cons_of_mem _ z)
/-- the frame behind a comprehension: own slots as ahead of it -/
theorem Rl.unwip {K : PySem.W.Frag} {O0 O : Own} {H0 H : Hp} {fr0 fr σ σ'} (own : List Nat) (r0 : Rl K T mu io O0 fr0 σ H0) (f : Fb O0 H0 O H) (g : Fo O0 H0 O H) (hmu : ∀ i ∈ own, mu i = false) (hw : wipe σ' own = wipe σ own) (rl : Rl K T mu io O fr σ' H) : Rl K T mu io O (putF' fr0 fr own) σ H := by
  have hls : σ'.length = σ.length := by rw [← wipe_length σ' own, hw, wipe_length]
  have hl : fr0.length = fr.length := by rw [r0.len, rl.len, hls]
  refine ⟨by rw [putF'_len, rl.len, hls], fun i v e => ?_, rl.trk, r0.io⟩
  by_cases h : i ∈ own
  · rw [putF'_in hl h] at e
    obtain ⟨x, h1, h2⟩ := r0.sl i v e
    exact ⟨x, h1, h2.monoB f g fun m => by rw [hmu i h] at m; cases m⟩
  · rw [putF'_out h] at e
    obtain ⟨x, h1, h2⟩ := rl.sl i v e
    rw [← wipe_out h, hw, wipe_out h] at h1
    exact ⟨x, h1, h2⟩
abbrev STs (X : Cx) (T : Tb) (E : XK) (mu : Nat → Bool) (io : List (Nat × V)) (es : List Expr) (m : TM) : Prop := PTs X es (rT X.K T E mu io m)
theorem sts_nil : STs X T E mu io [] tTrue := ⟨fun pins s σ H Q I ⟨O, fr, rl, q⟩ => pts_nil.run pins s σ H Q I (q O H (Fm.refl _ _) rl)⟩
theorem sts_one {t : TM} (h : ST X T E mu io e t) : STs X T E mu io [e] t := pts_one h
def setOw (O : Own) (D : Addr) (w : Option Ow) : Own := fun a => if a = D then w else O a
theorem setOw_same {O : Own} {D w} : setOw O D w D = w := if_pos rfl
theorem setOw_ne {O : Own} {D a w} (h : a ≠ D) : setOw O D w a = O a := if_neg h
/-- the things of a comprehension's block, its list D set apart -/
structure FmD (D : Addr) (O : Own) (H : Hp) (O' : Own) (H' : Hp) : Prop where
  byv : Fb O H O' H'
  out : Fo O H O' H'
  tmp : ∀ a o, H a = some o → O a = some .tmp → H' a = some o ∧ O' a = some .tmp
  no : ∀ a, a ≠ D → O' a = some .out → O a = some .out
theorem FmD.step {D O H O1 H1 O2 H2} (f : FmD D O H O1 H1) (g : Fm O1 H1 O2 H2) : FmD D O H O2 H2 :=
  ⟨f.byv.trans g.b, fun a o e n => let ⟨h1, n1⟩ := f.out a o e n; g.out a o h1 n1, fun a o e n => let ⟨h1, n1⟩ := f.tmp a o e n; g.tmp a o h1 n1, fun a n e => f.no a n (g.no a e)⟩
theorem FmD.put {D O H O1 H1} (f : FmD D O H O1 H1) (h : H D = none) (o : HO) : FmD D O H O1 (upd H1 D o) :=
  ⟨fun a u e n => let ⟨h1, n1⟩ := f.byv a u e n; ⟨by rw [upd_ne (ne_of_none e h)]; exact h1, n1⟩, fun a u e n => let ⟨h1, n1⟩ := f.out a u e n; ⟨by rw [upd_ne (ne_of_none e h)]; exact h1, n1⟩, fun a u e n => let ⟨h1, n1⟩ := f.tmp a u e n; ⟨by rw [upd_ne (ne_of_none e h)]; exact h1, n1⟩, f.no⟩
theorem FmD.fin {D O H O1 H1} (f : FmD D O H O1 H1) (h : H D = none) {w : Option Ow} (hw : w = some .out → False) : Fm O H (setOw O1 D w) H1 :=
  ⟨fun a u e n => let ⟨h1, n1⟩ := f.byv a u e n; ⟨h1, by rw [setOw_ne (ne_of_none e h)]; exact n1⟩, fun a u e n => let ⟨h1, n1⟩ := f.out a u e n; ⟨h1, by rw [setOw_ne (ne_of_none e h)]; exact n1⟩, fun a u e n => let ⟨h1, n1⟩ := f.tmp a u e n; ⟨h1, by rw [setOw_ne (ne_of_none e h)]; exact n1⟩, fun a e => by
    by_cases z : a = D
    · subst z; rw [setOw_same] at e; exact (hw e).elim
    · rw [setOw_ne z] at e; exact f.no a z e⟩
theorem FmD.begin {D O H} {o : HO} (h : H D = none) : FmD D O H (setOw O D (some .tmp)) (upd H D o) :=
  ⟨fun a u e n => ⟨by rw [upd_ne (ne_of_none e h)]; exact e, by rw [setOw_ne (ne_of_none e h)]; exact n⟩, fun a u e n => ⟨by rw [upd_ne (ne_of_none e h)]; exact e, by rw [setOw_ne (ne_of_none e h)]; exact n⟩, fun a u e n => ⟨by rw [upd_ne (ne_of_none e h)]; exact e, by rw [setOw_ne (ne_of_none e h)]; exact n⟩, fun a z e => by rw [setOw_ne z] at e; exact e⟩
/-- a new object is laid, owned as w says -/
theorem Rl.laid {K : PySem.W.Frag} {O : Own} {H : Hp} {fr σ} {D : Addr} {o : HO} {w : Option Ow} (rl : Rl K T mu io O fr σ H) (h : H D = none) : Rl K T mu io (setOw O D w) fr σ (upd H D o) :=
  rl.monoB (fun a u e n => ⟨by rw [upd_ne (ne_of_none e h)]; exact e, by rw [setOw_ne (ne_of_none e h)]; exact n⟩) (fun a u e n => ⟨by rw [upd_ne (ne_of_none e h)]; exact e, by rw [setOw_ne (ne_of_none e h)]; exact n⟩)
    (fun i m a u w e n z => ⟨by rw [upd_ne (ne_of_none e h)]; exact e, by rw [setOw_ne (ne_of_none e h)]; exact n⟩)
    (fun a n => by
      by_cases z : a = D
      · subst z; rw [upd_same]; exact fun q => nomatch q
      · rw [setOw_ne z] at n; rw [upd_ne z]; exact rl.trk a n)
/-- a temporary object is changed -/
theorem Rl.putOut {K : PySem.W.Frag} {O : Own} {H : Hp} {fr σ} {D : Addr} {o : HO} (rl : Rl K T mu io O fr σ H) (h : O D = some .tmp) : Rl K T mu io O fr σ (upd H D o) :=
  rl.monoB (fun a u e n => ⟨by rw [upd_ne (fun z => by rw [z, h] at n; cases n)]; exact e, n⟩) (fun a u e n => ⟨by rw [upd_ne (fun z => by rw [z, h] at n; cases n)]; exact e, n⟩)
    (fun i m a u w e n z => ⟨by rw [upd_ne (fun q => by rw [q, h] at n; cases n; rcases z with z | ⟨g, z⟩ <;> cases z)]; exact e, n⟩)
    (fun a n => by
      by_cases z : a = D
      · subst z; rw [upd_same]; exact fun q => nomatch q
      · rw [upd_ne z]; exact rl.trk a n)
/-- .. handed over -/
theorem Rl.outTo {K : PySem.W.Frag} {O : Own} {H : Hp} {fr σ} {D : Addr} {w : Option Ow} (rl : Rl K T mu io O fr σ H) (h : O D = some .tmp) : Rl K T mu io (setOw O D w) fr σ H :=
  rl.monoB (fun a u e n => ⟨e, by rw [setOw_ne (fun z => by rw [z, h] at n; cases n)]; exact n⟩) (fun a u e n => ⟨e, by rw [setOw_ne (fun z => by rw [z, h] at n; cases n)]; exact n⟩)
    (fun i m a u w e n z => ⟨e, by rw [setOw_ne (fun q => by rw [q, h] at n; cases n; rcases z with z | ⟨g, z⟩ <;> cases z)]; exact n⟩)
    (fun a n => by
      by_cases z : a = D
      · subst z; exact rl.trk a (by rw [h]; exact fun q => nomatch q)
      · rw [setOw_ne z] at n; exact rl.trk a n)
section
variable {K : PySem.W.Frag} {i : IM} {g : GM} {t : TM} {own : List Nat} {ts : List Nat} {σ : St} {H : Hp} {Q : VK}
/-- the block of a comprehension; what is done with its list is said by fin -/
theorem lc_core' (hio : ∀ p ∈ io, p.1 ∉ own) (hmu : ∀ i ∈ own, mu i = false) (hts : ∀ i ∈ ts, i ∈ own) {O1 : Own} {fr1 : Fr} {H1 : Hp} {J : It} {xs : List Val} {vs : List Val} {frE : Fr} (R1 : Rl K T mu io O1 fr1 σ H1) (W1 : Walks K T J xs O1 H1)
    (hz : lcL own g t me xs fr1 = .ok (vs, frE)) (hf : vs.length ≤ 16777216) (D : Addr) (hD : H1 D = none)
    (fin : ∀ O' H' ws, FmD D O1 H1 O' H' → O' D = some .tmp → H' D = some (.lst ws) → VRs K T O' H' vs ws → Rl K T mu io O' (putF' fr1 frE own) σ H' → Q (.ref D) H') :
    ∃ W : Nat → Nat → Hp → Prop, (∃ m, W 0 m (upd H1 D (.lst []))) ∧ ∀ i m H, W i m H →
      (J.stop i H ∧ Q (.ref D) H) ∨ (J.go i H ∧ ∃ Nx : Hp → Prop, (∀ H', Nx H' → ∃ m', m' < m ∧ W (i + 1) m' H') ∧ ∀ x H', J.yld i H x H' → rG K T mu io ts g x (wipe σ own) H' fun σ2 H2 => wipe σ2 own = wipe σ own ∧ rT K T L2.E0 mu io t σ2 H2 fun b H3 =>
        if b = true then rE K T L2.E0 mu io me σ2 H3 fun y H4 => ∃ acc, H4 D = some (.lst acc) ∧ acc.length < sizeLine ∧ Nx (upd H4 D (.lst (acc ++ [y]))) else Nx H3) := by
  refine ⟨fun j k H' => k = xs.length - j ∧ ∃ O' fr' σ' done rest ws, wipe σ' own = wipe σ own ∧ Rl K T mu io O' fr' σ' H' ∧ FmD D O1 H1 O' H' ∧ O' D = some .tmp ∧ H' D = some (.lst ws) ∧ VRs K T O' H' done ws ∧ vs = done ++ rest ∧ lcL own g t me (xs.drop j) fr' = .ok (rest, frE),
    ⟨_, rfl, setOw O1 D (some .tmp), fr1, σ, [], vs, [], rfl, R1.laid hD, FmD.begin hD, setOw_same, upd_same, VRs.nil, rfl, by simpa using hz⟩, ?_⟩
  rintro j k H' ⟨rfl, O', fr', σ', done, rest, ws, hw, R', F', oD, hHD, V', ev, hq⟩
  obtain ⟨hstop, hgo⟩ := W1 O' H' F'.byv F'.out R'.trk j
  by_cases hj : j < xs.length
  · right
    have hx : xs[j]? = some xs[j] := List.getElem?_eq_getElem hj
    obtain ⟨h1, h2⟩ := hgo _ hx
    refine ⟨h1, fun H2 => ∃ O2 fr2 σ2 done rest ws, wipe σ2 own = wipe σ own ∧ Rl K T mu io O2 fr2 σ2 H2 ∧ FmD D O1 H1 O2 H2 ∧ O2 D = some .tmp ∧ H2 D = some (.lst ws) ∧ VRs K T O2 H2 done ws ∧ vs = done ++ rest ∧ lcL own g t me (xs.drop (j + 1)) fr2 = .ok (rest, frE),
      fun H2 hN => ⟨_, by omega, rfl, hN⟩, fun x H2 hy => ?_⟩
    obtain ⟨X2, V2⟩ := h2 x H2 hy
    have Rw : Rl K T mu io O' (wipF fr' own) (wipe σ own) H2 := by rw [← hw]; exact (R'.hx X2).wip own hio
    refine ⟨O', wipF fr' own, xs[j], Rw, V2, ?_⟩
    rw [List.drop_eq_getElem_cons hj] at hq
    unfold lcL at hq
    cases h3 : g xs[j] (wipF fr' own) with
    | bad => rw [h3] at hq; cases hq
    | exc e => rw [h3] at hq; cases hq
    | ok fr3 =>
      rw [h3] at hq
      intro O3 H3 σ3 F3 R3 x3
      refine ⟨(x3.wipe hts).trans ?_, O3, fr3, R3, ?_⟩
      · apply List.ext_getElem?
        intro q
        have key : ∀ (own : List Nat) (τ : St) (q : Nat), (L2.wipe τ own)[q]? = if q ∈ own then (if q < τ.length then some none else none) else τ[q]? := by
          intro own
          induction own with
          | nil => intro τ q; simp [L2.wipe]
          | cons w vs ih =>
            intro τ q
            show ((L2.wipe τ vs).set w none)[q]? = _
            by_cases e : q = w
            · subst e
              rw [List.getElem?_set, if_pos rfl, wipe_length, if_pos List.mem_cons_self]
            · rw [List.getElem?_set_ne (fun z => e z.symm), ih]
              by_cases h : q ∈ vs
              · rw [if_pos h, if_pos (List.mem_cons_of_mem _ h)]
              · rw [if_neg h, if_neg (fun z => by rcases List.mem_cons.mp z with z | z; exact e z; exact h z)]
        rw [key, key, wipe_length]
        split <;> rfl
      have F03 := X2.fm.trans F3
      simp only [noX, SK.R.bind_ok] at hq
      cases h4 : t fr3 with
      | bad => rw [h4] at hq; cases hq
      | exc e => rw [h4] at hq; cases hq
      | ok p =>
        obtain ⟨b, fr4⟩ := p
        rw [h4] at hq
        intro O4 H4 F4 R4
        have F04 := F03.trans F4
        have hw3 : wipe σ3 own = wipe σ own := (x3.wipe hts).trans (by
          apply List.ext_getElem?
          intro q
          have key : ∀ (own : List Nat) (τ : St) (q : Nat), (L2.wipe τ own)[q]? = if q ∈ own then (if q < τ.length then some none else none) else τ[q]? := by
            intro own
            induction own with
            | nil => intro τ q; simp [L2.wipe]
            | cons w vs ih =>
              intro τ q
              show ((L2.wipe τ vs).set w none)[q]? = _
              by_cases e : q = w
              · subst e
                rw [List.getElem?_set, if_pos rfl, wipe_length, if_pos List.mem_cons_self]
              · rw [List.getElem?_set_ne (fun z => e z.symm), ih]
                by_cases h : q ∈ vs
                · rw [if_pos h, if_pos (List.mem_cons_of_mem _ h)]
                · rw [if_neg h, if_neg (fun z => by rcases List.mem_cons.mp z with z | z; exact e z; exact h z)]
          rw [key, key, wipe_length]
          split <;> rfl)
        simp only [SK.R.bind_ok] at hq
        cases b with
        | false =>
          have ⟨hD4, oD4⟩ := F04.tmp D _ hHD oD
          exact ⟨O4, fr4, σ3, done, rest, ws, hw3, R4, F'.step F04, oD4, hD4, V'.mono F04, ev, by simpa using hq⟩
        | true =>
          simp only [if_true] at hq ⊢
          refine ⟨O4, fr4, R4, ?_⟩
          cases h5 : me fr4 with
          | bad => rw [h5] at hq; cases hq
          | exc e => rw [h5] at hq; cases hq
          | ok p =>
            obtain ⟨y, fr5⟩ := p
            rw [h5] at hq
            intro O5 H5 y' F5 R5 V5
            have F05 := F04.trans F5
            have ⟨hD5, oD5⟩ := F05.tmp D _ hHD oD
            simp only [SK.R.bind_ok] at hq
            obtain ⟨r, e6, e7⟩ := R.bind_eq hq
            cases e7
            have V5' : VRs K T O5 H5 (done ++ [y]) (ws ++ [y']) := (V'.mono F05).app (VRs.cons V5 VRs.nil)
            have hl : ws.length < sizeLine := by
              have : (done ++ y :: r.1).length ≤ 16777216 := by rw [← ev]; exact hf
              rw [List.length_append, List.length_cons] at this
              rw [← V'.len]
              show done.length < 16777216
              omega
            refine ⟨ws, hD5, hl, O5, fr5, σ3, done ++ [y], r.1, ws ++ [y'], hw3, R5.putOut oD5, (F'.step F05).put hD _, oD5, upd_same, ?_, by rw [ev]; simp, e6⟩
            refine VRs.monoB (fun a u e n => ⟨?_, n⟩) _ _ V5'
            rw [upd_ne (fun z => by rw [z, oD5] at n; cases n)]
            exact e
  · left
    rw [List.drop_of_length_le (by omega)] at hq
    cases hq
    refine ⟨hstop (by omega), fin O' H' ws F' oD hHD (by rw [ev, List.append_nil]; exact V') ?_⟩
    exact Rl.unwip (H0 := H1) (O0 := O1) own R1 F'.byv F'.out hmu hw R'
end
end
end SK

set_option maxHeartbeats 1000000
/-! SK4: comprehensions as values, calls of defs, defs. -/
namespace SK
open PySem L2
section
variable {X : Cx} {T : Tb} {E : XK} {mu : Nat → Bool} {io : List (Nat × V)} {me : EM} {pos : Pos}
theorem lc_noX {own g t} : ∀ {xs : List Val} {fr : Fr} {e}, noX (lcL own g t me xs fr) = .exc e → False := fun {xs fr e} h => by
  cases q : lcL own g t me xs fr with
  | ok a => rw [q] at h; cases h
  | exc e => rw [q] at h; cases h
  | bad => rw [q] at h; cases h
theorem eLc_imp {K : PySem.W.Frag} {r : Nat} {own : List (Str × Nat)} {ts : List Nat} {i : IM} {g : GM} {t : TM} (hio : ∀ p ∈ io, p.1 ∉ own.map (·.2)) (hmu : ∀ i ∈ own.map (·.2), mu i = false) (hts : ∀ i ∈ ts, i ∈ own.map (·.2)) {σ : St} {H : Hp} {Q : VK} (h : rE K T E mu io (eLc (own.map (·.2)) i g t me) σ H Q) :
    tLc (SK.rI K T E mu io i) (rG K T mu io ts g) (rT K T L2.E0 mu io t) (rE K T L2.E0 mu io me) (own.map (·.2)) σ H Q := by
  obtain ⟨O, fr, rl, q⟩ := h
  unfold eLc at q
  refine ⟨O, fr, rl, ?_⟩
  cases h : i fr with
  | bad => rw [h] at q; exact q
  | exc e => rw [h] at q; exact q
  | ok p =>
    obtain ⟨xs, fr1⟩ := p
    rw [h] at q
    intro O1 H1 J F1 R1 W1 D hD
    simp only [SK.R.bind_ok] at q
    cases hz : lcL (own.map (·.2)) g t me xs fr1 with
    | bad => rw [hz] at q; exact q.elim
    | exc e => rw [hz] at q; exact q.elim
    | ok p =>
      obtain ⟨vs, frE⟩ := p
      rw [hz] at q
      simp only [noX, SK.R.bind_ok, fits] at q
      by_cases hl : vs.length ≤ 16777216
      · rw [if_pos hl] at q
        refine lc_core' hio hmu hts R1 W1 hz hl D hD fun O' H' ws F' oD hHD V' R' => ?_
        refine q (setOw O' D none) H' _ (F1.trans (F'.fin hD fun z => nomatch z)) (R'.outTo oD) ?_
        unfold VR
        refine ⟨D, ws, rfl, ⟨hHD, setOw_same⟩, VRs.monoB (fun a u e n => ⟨e, ?_⟩) _ _ V'⟩
        rw [setOw_ne (fun z => by rw [z, oD] at n; cases n)]
        exact n
      · rw [if_neg hl] at q; exact q.elim
theorem se_lc {elt tg iter : Expr} {ifs : List Expr} {scope : Scope} {own : List (Str × Nat)} {ts : List Nat} {i : IM} {g : GM} {t : TM} (hc : X.calm = true := by rfl) (hN : X.N.Nodup) (hi : SI X T E mu io tg iter i) (ok : BlkOk X.N X.env.scope scope own)
    (hio : ∀ p ∈ io, p.1 ∉ own.map (·.2) := by exact io_own rfl) (hmu : ∀ i ∈ own.map (·.2), mu i = false := by decide) (hts : ∀ i ∈ ts, i ∈ own.map (·.2) := by decide)
    (hg : ∀ (s : Shared) (H : Hp) (C : Addr) (cl : List (Str × Addr)) (fp : List Addr), SG (X.blk s H scope (compEnvC scope cl C X.env) fp) T mu io ts tg g) (ht : ∀ (s : Shared) (H : Hp) (C : Addr) (cl : List (Str × Addr)) (fp : List Addr), STs (X.blk s H scope (compEnvC scope cl C X.env) fp) T L2.E0 mu io ifs t)
    (he : ∀ (s : Shared) (H : Hp) (C : Addr) (cl : List (Str × Addr)) (fp : List Addr), SE (X.blk s H scope (compEnvC scope cl C X.env) fp) T L2.E0 mu io elt me) (hs : ∀ x, foldedSetIterable iter X.env x = pure x := by intro _; rfl) :
    SE X T E mu io (.ListComp elt [⟨tg, iter, ifs, 0⟩] scope pos) (eLc (own.map (·.2)) i g t me) :=
  PE.imp (pe_lc hc hN hi ok hg ht he hs) fun σ H Q h => eLc_imp (r := 0) hio hmu hts h
theorem eLcO_imp {K : PySem.W.Frag} {r : Nat} {own : List (Str × Nat)} {ts : List Nat} {i : IM} {g : GM} {t : TM} (hio : ∀ p ∈ io, p.1 ∉ own.map (·.2)) (hmu : ∀ i ∈ own.map (·.2), mu i = false) (hts : ∀ i ∈ ts, i ∈ own.map (·.2)) {σ : St} {H : Hp} {Q : VK} (h : rO K T E mu io r (eLc (own.map (·.2)) i g t me) σ H Q) :
    tLc (SK.rI K T E mu io i) (rG K T mu io ts g) (rT K T L2.E0 mu io t) (rE K T L2.E0 mu io me) (own.map (·.2)) σ H Q := by
  obtain ⟨O, fr, rl, q⟩ := h
  unfold eLc at q
  refine ⟨O, fr, rl, ?_⟩
  cases h : i fr with
  | bad => rw [h] at q; exact q
  | exc e => rw [h] at q; exact q
  | ok p =>
    obtain ⟨xs, fr1⟩ := p
    rw [h] at q
    intro O1 H1 J F1 R1 W1 D hD
    simp only [SK.R.bind_ok] at q
    cases hz : lcL (own.map (·.2)) g t me xs fr1 with
    | bad => rw [hz] at q; exact q.elim
    | exc e => rw [hz] at q; exact q.elim
    | ok p =>
      obtain ⟨vs, frE⟩ := p
      rw [hz] at q
      simp only [noX, SK.R.bind_ok, fits] at q
      by_cases hl : vs.length ≤ 16777216
      · rw [if_pos hl] at q
        refine lc_core' hio hmu hts R1 W1 hz hl D hD fun O' H' ws F' oD hHD V' R' => ?_
        refine q (setOw O' D (some (.sl r))) H' _ (F1.trans (F'.fin hD fun z => nomatch z)) (R'.outTo oD) ?_
        refine ⟨D, ws, rfl, setOw_same, hHD, VRs.monoB (fun a u e n => ⟨e, ?_⟩) _ _ V'⟩
        rw [setOw_ne (fun z => by rw [z, oD] at n; cases n)]
        exact n
      · rw [if_neg hl] at q; exact q.elim
/-- the same, its list owned -/
theorem so_lc {r : Nat} {elt tg iter : Expr} {ifs : List Expr} {scope : Scope} {own : List (Str × Nat)} {ts : List Nat} {i : IM} {g : GM} {t : TM} (hc : X.calm = true := by rfl) (hN : X.N.Nodup) (hi : SI X T E mu io tg iter i) (ok : BlkOk X.N X.env.scope scope own)
    (hio : ∀ p ∈ io, p.1 ∉ own.map (·.2) := by exact io_own rfl) (hmu : ∀ i ∈ own.map (·.2), mu i = false := by decide) (hts : ∀ i ∈ ts, i ∈ own.map (·.2) := by decide)
    (hg : ∀ (s : Shared) (H : Hp) (C : Addr) (cl : List (Str × Addr)) (fp : List Addr), SG (X.blk s H scope (compEnvC scope cl C X.env) fp) T mu io ts tg g) (ht : ∀ (s : Shared) (H : Hp) (C : Addr) (cl : List (Str × Addr)) (fp : List Addr), STs (X.blk s H scope (compEnvC scope cl C X.env) fp) T L2.E0 mu io ifs t)
    (he : ∀ (s : Shared) (H : Hp) (C : Addr) (cl : List (Str × Addr)) (fp : List Addr), SE (X.blk s H scope (compEnvC scope cl C X.env) fp) T L2.E0 mu io elt me) (hs : ∀ x, foldedSetIterable iter X.env x = pure x := by intro _; rfl) :
    SO X T E mu io r (.ListComp elt [⟨tg, iter, ifs, 0⟩] scope pos) (eLc (own.map (·.2)) i g t me) :=
  PE.imp (pe_lc hc hN hi ok hg ht he hs) fun σ H Q h => eLcO_imp hio hmu hts h
theorem ss_setLc {i0 : Nat} {y : Str} {py spos : Pos} {elt tg iter : Expr} {ifs : List Expr} {scope : Scope} {own : List (Str × Nat)} {ts : List Nat} {i : IM} {g : GM} {t : TM} (hc : X.calm = true := by rfl) (hN : X.N.Nodup) (hy : X.N[i0]? = some y := by rfl) (hyl : X.env.scope.names.lookup y = some .local := by rfl) (hm : mu i0 = false := by rfl) (hio0 : ∀ p ∈ io, p.1 ≠ i0 := by exact io_ne rfl)
    (hk : X.env.scope.kind = .function := by rfl) (hln : (py.line == pos.line) = true := by rfl) (hna : (scope.names.any fun (n, k) => n == y && (k == .local || k == .cell)) = false := by rfl) (hi : SI X T E mu io tg iter i) (ok : BlkOk X.N X.env.scope scope own)
    (hio : ∀ p ∈ io, p.1 ∉ own.map (·.2) := by exact io_own rfl) (hmu : ∀ i ∈ own.map (·.2), mu i = false := by decide) (hts : ∀ i ∈ ts, i ∈ own.map (·.2) := by decide)
    (hg : ∀ (s : Shared) (H : Hp) (C : Addr) (cl : List (Str × Addr)) (fp : List Addr), SG (X.blk s H scope (compEnvC scope cl C X.env) fp) T mu io ts tg g) (ht : ∀ (s : Shared) (H : Hp) (C : Addr) (cl : List (Str × Addr)) (fp : List Addr), STs (X.blk s H scope (compEnvC scope cl C X.env) fp) T L2.E0 mu io ifs t)
    (he : ∀ (s : Shared) (H : Hp) (C : Addr) (cl : List (Str × Addr)) (fp : List Addr), SE (X.blk s H scope (compEnvC scope cl C X.env) fp) T L2.E0 mu io elt me) (hs : ∀ x, foldedSetIterable iter X.env x = pure x := by intro _; rfl) :
    SS X T E mu io (.Assign [.Name y py] (.ListComp elt [⟨tg, iter, ifs, 0⟩] scope pos) spos) (sSet i0 (eLc (own.map (·.2)) i g t me)) :=
  PS.imp (ps_setLc hc hN hy hyl (sw_true hk hyl hln hna) hi ok hg ht he hs) fun D σ H ⟨O, fr, rl, q⟩ => by
    unfold sSet at q
    refine eLc_imp (r := 0) (g := g) (t := t) (me := me) hio hmu hts ⟨O, fr, rl, ?_⟩
    cases h : eLc (own.map (·.2)) i g t me fr with
    | bad => rw [h] at q; exact q
    | exc e => rw [h] at q; exact q
    | ok p =>
      obtain ⟨v, fr1⟩ := p
      rw [h] at q
      exact fun O1 H1 x F1 R1 V1 => q O1 H1 (σ.set i0 (some x)) F1 (R1.set hm hio0 V1)
theorem ss_setLcO {i0 r : Nat} {y : Str} {py spos : Pos} {elt tg iter : Expr} {ifs : List Expr} {scope : Scope} {own : List (Str × Nat)} {ts : List Nat} {i : IM} {g : GM} {t : TM} (hc : X.calm = true := by rfl) (hN : X.N.Nodup) (hy : X.N[i0]? = some y := by rfl) (hyl : X.env.scope.names.lookup y = some .local := by rfl) (hm : mu i0 = true := by rfl) (hio0 : ∀ p ∈ io, p.1 ≠ i0 := by exact io_ne rfl)
    (hk : X.env.scope.kind = .function := by rfl) (hln : (py.line == pos.line) = true := by rfl) (hna : (scope.names.any fun (n, k) => n == y && (k == .local || k == .cell)) = false := by rfl) (hi : SI X T E mu io tg iter i) (ok : BlkOk X.N X.env.scope scope own)
    (hio : ∀ p ∈ io, p.1 ∉ own.map (·.2) := by exact io_own rfl) (hmu : ∀ i ∈ own.map (·.2), mu i = false := by decide) (hts : ∀ i ∈ ts, i ∈ own.map (·.2) := by decide)
    (hg : ∀ (s : Shared) (H : Hp) (C : Addr) (cl : List (Str × Addr)) (fp : List Addr), SG (X.blk s H scope (compEnvC scope cl C X.env) fp) T mu io ts tg g) (ht : ∀ (s : Shared) (H : Hp) (C : Addr) (cl : List (Str × Addr)) (fp : List Addr), STs (X.blk s H scope (compEnvC scope cl C X.env) fp) T L2.E0 mu io ifs t)
    (he : ∀ (s : Shared) (H : Hp) (C : Addr) (cl : List (Str × Addr)) (fp : List Addr), SE (X.blk s H scope (compEnvC scope cl C X.env) fp) T L2.E0 mu io elt me) (hl : X.N.length ≤ r) (hs : ∀ x, foldedSetIterable iter X.env x = pure x := by intro _; rfl) :
    SS X T E mu io (.Assign [.Name y py] (.ListComp elt [⟨tg, iter, ifs, 0⟩] scope pos) spos) (sSet i0 (eLc (own.map (·.2)) i g t me)) :=
  ⟨fun pins s σ H D I ⟨O, fr, rl, q⟩ => by
    refine (ps_setLc (g := rG X.K T mu io ts g) (tt := rT X.K T L2.E0 mu io t) (te := rE X.K T L2.E0 mu io me) hc hN hy hyl (sw_true hk hyl hln hna) hi ok hg ht he hs).run pins s σ H D I ?_
    unfold sSet at q
    refine eLcO_imp (r := r) (g := g) (t := t) (me := me) hio hmu hts ⟨O, fr, rl, ?_⟩
    cases h : eLc (own.map (·.2)) i g t me fr with
    | bad => rw [h] at q; exact q
    | exc e => rw [h] at q; exact q
    | ok p =>
      obtain ⟨v, fr1⟩ := p
      rw [h] at q
      exact fun O1 H1 x F1 R1 V1 => q (relab O1 r i0) H1 (σ.set i0 (some x)) (F1.trans (relab_fm _ _ _ _)) (R1.setO hm hio0 (by rw [R1.len, I.len]; exact hl) V1)⟩
/-- a list display, owned -/
theorem so_lst {r : Nat} {es : List Expr} {ms : AM} (h : SA X T E mu io es ms) : SO X T E mu io r (.List es pos) (eLst ms) :=
  PE.imp (pe_lst h) fun σ H Q ⟨O, fr, rl, q⟩ => by
    unfold eLst at q
    refine ⟨O, fr, rl, ?_⟩
    cases h1 : ms fr with
    | bad => rw [h1] at q; exact q
    | exc e => rw [h1] at q; exact q
    | ok p =>
      obtain ⟨xs, fr1⟩ := p
      rw [h1] at q
      intro O1 H1 xs' F1 R1 V1
      simp only [SK.R.bind_ok, fits] at q
      by_cases hl : xs.length ≤ 16777216
      · rw [if_pos hl] at q
        refine ⟨by rw [← V1.len]; exact hl, fun p hp => ?_⟩
        have f0 : FmD p O1 H1 (setOw O1 p (some .tmp)) (upd H1 p (.lst xs')) := FmD.begin hp
        have f1 : Fm O1 H1 (setOw O1 p (some (.sl r))) (upd H1 p (.lst xs')) := by
          have := f0.fin (w := some (.sl r)) hp (fun z => nomatch z)
          rw [show setOw (setOw O1 p (some .tmp)) p (some (.sl r)) = setOw O1 p (some (.sl r)) from funext fun a => by unfold setOw; split <;> rfl] at this
          exact this
        exact q _ _ _ (F1.trans f1) (R1.laid hp) ⟨p, xs', rfl, setOw_same, upd_same, V1.mono f1⟩
      · rw [if_neg hl] at q; exact q.elim
end

/-! ### what a def promises: a function of its arguments -/
/-- the arguments: what is lent at the places iop, the rest by value -/
def ArgsR (K : PySem.W.Frag) (T : Tb) (O : Own) (H : Hp) (iop bop : List Nat) : Nat → List Val → List V → Prop
  | _, [], [] => True
  | j, v :: vs, x :: xs => (if iop.contains j = true then OwR K T O H j v x else if bop.contains j = true then BoR K T O H v x else VR K T O H v x) ∧ ArgsR K T O H iop bop (j + 1) vs xs
  | _, _, _ => False
def OutsR (K : PySem.W.Frag) (T : Tb) (O : Own) (H : Hp) (vs : List V) : List Nat → List Val → Prop
  | [], [] => True
  | j :: js, v :: outs => (∃ x, vs[j]? = some x ∧ OwR K T O H j v x) ∧ OutsR K T O H vs js outs
  | _, _ => False
abbrev FnM := List Val → R (Val × List Val)
/-- what a def gives back: by value, or owned by r -/
def RtR (K : PySem.W.Frag) (T : Tb) (ro : Bool) (r : Nat) (O : Own) (H : Hp) (v : Val) (x : V) : Prop := if ro = true then OwR K T O H r v x else VR K T O H v x
def spG (K : PySem.W.Frag) (T : Tb) (iop bop : List Nat) (ro : Bool) (n : Nat) (m : FnM) : Sp := fun vs H Q E => vs.length = n ∧ ∃ O args, (∀ a, O a ≠ none → H a ≠ none) ∧ ArgsR K T O H iop bop 0 args vs ∧ (match m args with
  | .ok (v, outs) => ∀ O' H' x, Fm O H O' H' → (∀ a, O' a ≠ none → H' a ≠ none) → OutsR K T O' H' vs iop outs → RtR K T ro RES O' H' v x → Q x H'
  | .exc e => pEx K T E O H e
  | .bad => False)
def outsOf (fr : Fr) : List Nat → Option (List Val)
  | [] => some []
  | j :: js => match fr[j]? with
    | some (some v) => if isFz v = true then none else (outsOf fr js).map (v :: ·)
    | _ => none
def initF (n : Nat) (args : List Val) : Fr := args.map some ++ List.replicate (n - args.length) none
/-- a def: n slots, iop the parameters that are lent -/
def runF (n : Nat) (iop : List Nat) (ro : Bool) (body : SM) : FnM := fun args => (body (initF n args)).bind fun r => match r.1 with
  | .rt v => (ofO (outsOf r.2 iop)).bind fun o => .ok (v, o)
  | .nx => if ro = true then .bad else (ofO (outsOf r.2 iop)).bind fun o => .ok (.non, o)
  | _ => .bad
section
variable {K : PySem.W.Frag} {T : Tb} {mu : Nat → Bool}
theorem ArgsR.get {O : Own} {H : Hp} {iop bop : List Nat} : ∀ {k : Nat} {args : List Val} {vs : List V} {i : Nat} {v : Val}, ArgsR K T O H iop bop k args vs → args[i]? = some v → ∃ x, vs[i]? = some x ∧ (if iop.contains (k + i) = true then OwR K T O H (k + i) v x else if bop.contains (k + i) = true then BoR K T O H v x else VR K T O H v x)
  | _, [], [], _, _, _, e => by simp at e
  | k, a :: as, x :: xs, 0, v, ⟨h, _⟩, e => by simp at e; subst e; exact ⟨x, rfl, h⟩
  | k, a :: as, x :: xs, i + 1, v, ⟨_, h⟩, e => by
    simp at e
    obtain ⟨y, h1, h2⟩ := ArgsR.get h e
    refine ⟨y, by simpa using h1, ?_⟩
    rw [show k + (i + 1) = k + 1 + i by omega]
    exact h2
  | _, [], _ :: _, _, _, h, _ => h.elim
  | _, _ :: _, [], _, _, h, _ => h.elim
theorem ArgsR.len {O : Own} {H : Hp} {iop bop : List Nat} : ∀ {k : Nat} {args : List Val} {vs : List V}, ArgsR K T O H iop bop k args vs → args.length = vs.length
  | _, [], [], _ => rfl
  | k, a :: as, x :: xs, ⟨_, h⟩ => by rw [List.length_cons, List.length_cons, h.len]
  | _, [], _ :: _, h => h.elim
  | _, _ :: _, [], h => h.elim
/-- the frame at a def's entry -/
theorem Rl.start {O : Own} {H : Hp} {iop bop : List Nat} {N : List Str} {args : List Val} {vs : List V} (tr : ∀ a, O a ≠ none → H a ≠ none) (hA : ArgsR K T O H iop bop 0 args vs) (hl : vs.length ≤ N.length) (hmu : ∀ i, i < vs.length → mu i = iop.contains i) (hbo : ∀ i, i < vs.length → mu (BOR + i) = bop.contains i) (hio : ∀ j ∈ iop, j < vs.length) :
    Rl K T mu (iop.map fun j => (j, vs.getD j .non)) O (initF N.length args) (start N vs) H := by
  have hal := hA.len
  refine ⟨?_, fun i v e => ?_, tr, fun p hp => ?_⟩
  · show (args.map some ++ List.replicate (N.length - args.length) none).length = (vs.map some ++ List.replicate (N.length - vs.length) none).length
    simp; omega
  · unfold initF at e
    have hi : i < args.length := by
      apply Classical.byContradiction
      intro hn
      rw [List.getElem?_append_right (by simp; omega)] at e
      rw [List.getElem?_replicate] at e
      split at e <;> cases e
    rw [List.getElem?_append_left (by simpa using hi), List.getElem?_map] at e
    have e2 : args[i]? = some v := by
      cases q : args[i]? with
      | none => rw [q] at e; cases e
      | some u => rw [q] at e; simp at e; rw [e]
    obtain ⟨x, h1, h2⟩ := hA.get e2
    refine ⟨x, ?_, ?_⟩
    · unfold L2.start
      rw [List.getElem?_append_left (by simp; omega), List.getElem?_map, h1]; rfl
    · rw [Nat.zero_add] at h2
      by_cases m : iop.contains i = true
      · rw [if_pos m] at h2
        exact slr_own (by rw [hmu i (by omega)]; exact m) h2
      · rw [if_neg m] at h2
        unfold SlR
        rw [hmu i (by omega), hbo i (by omega), if_neg m]
        exact h2
  · obtain ⟨j, hj, rfl⟩ := List.mem_map.mp hp
    have := hio j hj
    show (L2.start N vs)[j]? = some (some (vs.getD j .non))
    unfold L2.start
    rw [List.getElem?_append_left (by simpa using this), List.getElem?_map, List.getElem?_eq_getElem this, List.getD_eq_getElem?_getD, List.getElem?_eq_getElem this]
    rfl
theorem outs_ok {O : Own} {H : Hp} {iop0 : List Nat} {vs : List V} {fr : Fr} {σ : St} (hmu : ∀ i, iop0.contains i = true → mu i = true) (hio : ∀ j ∈ iop0, j < vs.length) (rl : Rl K T mu (iop0.map fun j => (j, vs.getD j .non)) O fr σ H) : ∀ {js : List Nat} {outs : List Val}, (∀ j ∈ js, j ∈ iop0) → outsOf fr js = some outs → OutsR K T O H vs js outs
  | [], outs, _, e => by unfold outsOf at e; cases e; trivial
  | j :: js, outs, hs, e => by
    unfold outsOf at e
    split at e
    · rename_i v hv
      by_cases hz : isFz v = true
      · rw [if_pos hz] at e; cases e
      rw [if_neg hz] at e
      cases q : outsOf fr js with
      | none => rw [q] at e; cases e
      | some os =>
        rw [q] at e
        cases e
        have hj : j ∈ iop0 := hs j List.mem_cons_self
        have hjc : iop0.contains j = true := by simpa using hj
        obtain ⟨x, h1, h2⟩ := rl.owned hv (hmu j hjc) (by simpa using hz)
        have hq := rl.io (j, vs.getD j .non) (List.mem_map.mpr ⟨j, hj, rfl⟩)
        have hlt := hio j hj
        refine ⟨⟨x, ?_, ?_⟩, outs_ok hmu hio rl (fun i hi => hs i (List.mem_cons_of_mem _ hi)) q⟩
        · have : σ[j]? = some (some (vs.getD j .non)) := hq
          rw [h1] at this
          cases this
          rw [List.getD_eq_getElem?_getD, List.getElem?_eq_getElem hlt]; rfl
        · exact h2
    · cases e
end
/-- THE RULE for a def: its body's simulation -/
theorem fn_ok {CX : CXT} {P : Program} {w : World} {K : PySem.W.Frag} {mg : Str → Option Value} {base : Heap} {x qual : Str} {params : Arguments} {body : List Stmt} {scope : Scope} {dvs : List V} {kws : List (Str × V)} {f : Addr} {fd : FuncData} {N ps : List Str} {k : Nat} {T : Tb} {mu : Nat → Bool} {iop bop : List Nat} {ro : Bool} {m : SM}
    (F : FunD K x qual params body scope dvs kws f fd) (S : FnScope N ps scope) (hl : ps.length ≤ N.length) (hmu : ∀ i, i < ps.length → mu i = iop.contains i) (hio : ∀ j ∈ iop, j < ps.length) (hbo : ∀ i, i < ps.length → mu (BOR + i) = bop.contains i) (hro : mu RES = ro)
    (hbody : ∀ (cdv : Value) (A : Around) (outer : List Env) (s : Shared) (H : Hp) (vs : List V) (E : XK), Room k (A.deeper (PyProof.Rows.envOfC qual scope s.heap.objs.size f cdv)) →
      SSs (cxOf CX P w K mg base N qual scope f cdv A outer s H E) T E mu (iop.map fun j => (j, vs.getD j .non)) body m) :
    FnOk P w K mg base CX (k + 1) f fd ps (spG K T iop bop ro ps.length (runF N.length iop ro m)) := by
  refine F.ok S (fun vs H Q E h => h.1) (fun cdv A outer s H vs Q E hr h => ?_)
  obtain ⟨hvl, O, args, tr, hA, q⟩ := h
  refine ⟨_, hbody cdv A outer s H vs E hr, O, initF N.length args, Rl.start tr hA (by omega) (fun i hi => hmu i (by omega)) (fun i hi => hbo i (by omega)) (fun j hj => by have := hio j hj; omega), ?_⟩
  have hmu' : ∀ i, iop.contains i = true → mu i = true := fun i hi => by
    rw [hmu i (hio i (by simpa using hi))]; exact hi
  unfold runF at q
  cases hm : m (initF N.length args) with
  | bad => rw [hm] at q; exact q
  | exc e => rw [hm] at q; exact q
  | ok p =>
    obtain ⟨fl, fr'⟩ := p
    rw [hm] at q
    simp only [SK.R.bind_ok] at q
    have fin : ∀ (v : Val) (x : V) (O' : Own) (H' : Hp) (σ' : St) (outs : List Val), outsOf fr' iop = some outs → Fm O H O' H' → Rl K T mu (iop.map fun j => (j, vs.getD j .non)) O' fr' σ' H' → RsR K T O' H' mu v x →
        (∀ O' H' x, Fm O H O' H' → (∀ a, O' a ≠ none → H' a ≠ none) → OutsR K T O' H' vs iop outs → RtR K T ro RES O' H' v x → Q x H') → Q x H' := fun v x O' H' σ' outs ho F' R' V' g =>
      g O' H' x F' R'.trk (outs_ok hmu' (fun j hj => by have := hio j hj; omega) R' (fun j h => h) ho) (by
        unfold RtR; rw [← hro]; exact V')
    cases fl with
    | bk => exact q.elim
    | ct => exact q.elim
    | nx =>
      cases ro with
      | true => exact q.elim
      | false =>
        simp only [Bool.false_eq_true, if_false] at q
        cases ho : outsOf fr' iop with
        | none => rw [ho] at q; exact q.elim
        | some outs =>
          rw [ho] at q
          exact fun O' H' σ' F' R' => fin .non .non O' H' σ' outs ho F' R' (rsr_val hro (by unfold VR; rfl)) q
    | rt v =>
      cases ho : outsOf fr' iop with
      | none => rw [ho] at q; exact q.elim
      | some outs =>
        rw [ho] at q
        exact fun O' H' σ' x F' R' V' => fin v x O' H' σ' outs ho F' R' V' q
end SK

set_option maxHeartbeats 1000000
/-! SK5: calls of defs with what is lent, of classes, methods; fields. -/
namespace SK
open PySem L2
section
variable {K : PySem.W.Frag} {T : Tb}
/-- to whom the callee's places belong -/
def inn (iop : List Nat) (pj : Nat → Nat) (O : Own) : Own := fun a => (O a).map fun w => match w with
  | .sl k => (match iop.find? (fun j => pj j == k) with
    | some j => .sl j
    | none => .out)
  | .fl k g => (match iop.find? (fun j => pj j == k) with
    | some j => .fl j g
    | none => .out)
  | .out => .out
  | .tmp => .out
def outt (pj : Nat → Nat) (O1 O' : Own) : Own := fun a => (O' a).map fun w => match w with
  | .sl j => .sl (pj j)
  | .fl j g => .fl (pj j) g
  | .tmp => .tmp
  | .out => (O1 a).getD .out
/-- lent to be read: what is lent to us, or what a slot owns that is not lent otherwise -/
def BoC (K : PySem.W.Frag) (T : Tb) (O : Own) (H : Hp) (iop : List Nat) (pj : Nat → Nat) (v : Val) (x : V) : Prop := BoR K T O H v x ∨ ∃ i, (∀ j, iop.contains j = true → pj j ≠ i) ∧ OwR K T O H i v x
def ArgsI (K : PySem.W.Frag) (T : Tb) (O : Own) (H : Hp) (iop bop : List Nat) (pj : Nat → Nat) : Nat → List Val → List V → Prop
  | _, [], [] => True
  | j, v :: vs, x :: xs => (if iop.contains j = true then OwR K T O H (pj j) v x else if bop.contains j = true then BoC K T O H iop pj v x else VR K T O H v x) ∧ ArgsI K T O H iop bop pj (j + 1) vs xs
  | _, _, _ => False
def OutsI (K : PySem.W.Frag) (T : Tb) (O : Own) (H : Hp) (pj : Nat → Nat) (vs : List V) : List Nat → List Val → Prop
  | [], [] => True
  | j :: js, v :: outs => (∃ x, vs[j]? = some x ∧ OwR K T O H (pj j) v x) ∧ OutsI K T O H pj vs js outs
  | _, _ => False
theorem inn_none {iop pj O a} (h : O a = none) : inn iop pj O a = none := by unfold inn; rw [h]; rfl
theorem inn_some {iop pj O a} (h : inn iop pj O a ≠ none) : O a ≠ none := fun n => h (inn_none n)
theorem find_pj {iop : List Nat} {pj : Nat → Nat} (inj : ∀ j j', iop.contains j = true → iop.contains j' = true → pj j = pj j' → j = j') {j : Nat} (hj : iop.contains j = true) : iop.find? (fun i => pj i == pj j) = some j := by
  cases q : iop.find? (fun i => pj i == pj j) with
  | none =>
    have := List.find?_eq_none.mp q j (by simpa using hj)
    simp at this
  | some i =>
    have h1 := List.find?_some q
    have h2 := List.mem_of_find?_eq_some q
    rw [inj i j (by simpa using h2) hj (by simpa using h1)]
theorem inn_out {iop pj O a} (h : O a = some .out) : inn iop pj O a = some .out := by unfold inn; rw [h]; rfl
theorem inn_sl {iop : List Nat} {pj : Nat → Nat} {O : Own} {a i} (n : ∀ j, iop.contains j = true → pj j ≠ i) (h : ∀ w, O a = some w → ofSlot i w) (e : O a ≠ none) : inn iop pj O a = some .out := by
  have nf : iop.find? (fun j => pj j == i) = none := List.find?_eq_none.mpr fun j hj => by
    have := n j (by simpa using hj)
    simpa using this
  cases q : O a with
  | none => exact absurd q e
  | some w =>
    unfold inn
    rw [q]
    rcases h w q with rfl | ⟨g, rfl⟩
    · show some (match iop.find? (fun j => pj j == i) with | some j => Ow.sl j | none => .out) = _; rw [nf]
    · show some (match iop.find? (fun j => pj j == i) with | some j => Ow.fl j g | none => .out) = _; rw [nf]
theorem BFs.relabB {O O' : Own} {H : Hp} {c : Nat} (f : Fb O H O' H) (hk : ∀ a, O a = some .out → O' a = some .out) : ∀ {fs vs ws}, BFs K T O H c fs vs ws → BFs K T O' H c fs vs ws
  | [], [], [], _ => trivial
  | k :: fs, v :: vs, w :: ws, ⟨a, b⟩ => by
    refine ⟨?_, b.relabB f hk⟩
    by_cases h : T.own c k = true
    · rw [if_pos h] at a ⊢
      rcases a with a | a
      · exact .inl (a.monoB f)
      · exact .inr (OwL.relabB f hk a)
    · rw [if_neg h] at a ⊢; exact VR.monoB f _ _ a
  | [], _ :: _, _, h => h.elim
  | [], [], _ :: _, h => h.elim
  | _ :: _, [], _, h => h.elim
  | _ :: _, _ :: _, [], h => h.elim
theorem LdI.relabB {O O' : Own} {H : Hp} (f : Fb O H O' H) (hk : ∀ a, O a = some .out → O' a = some .out) : ∀ {v x}, LdI K T O H v x → LdI K T O' H v x
  | .ins c fs vs, x, ⟨a, dx, fs', ws, e, o, h, q, r⟩ => ⟨a, dx, fs', ws, e, hk a o, h, q, r.relabB f hk⟩
  | .non, _, h => h.elim
  | .bl _, _, h => h.elim
  | .int _, _, h => h.elim
  | .str _, _, h => h.elim
  | .tup _, _, h => h.elim
  | .lst _, _, h => h.elim
  | .dic _ _, _, h => h.elim
  | .scr _, _, h => h.elim
theorem BoR.relabB {O O' : Own} {H : Hp} (f : Fb O H O' H) (hk : ∀ a, O a = some .out → O' a = some .out) {v x} (h : BoR K T O H v x) : BoR K T O' H v x := by
  rcases h with (h | h) | h
  · exact .inl (.inl (h.monoB f))
  · exact .inl (.inr (OwL.relabB f hk h))
  · exact .inr (h.relabB f hk)
theorem FRs.lend {O O' : Own} {H : Hp} {c i : Nat} (f : Fb O H O' H) (hk : ∀ a g, O a = some (.fl i g) → O' a = some .out) : ∀ {fs vs ws}, FRs K T O H c i fs vs ws → BFs K T O' H c fs vs ws
  | [], [], [], _ => trivial
  | g :: fs, v :: vs, w :: ws, ⟨a, b⟩ => by
    refine ⟨?_, b.lend f hk⟩
    by_cases h : T.own c g = true
    · rw [if_pos h] at a ⊢; exact .inr (OwL.relabB f (fun a => hk a g) a)
    · rw [if_neg h] at a ⊢; exact VR.monoB f _ _ a
  | [], _ :: _, _, h => h.elim
  | [], [], _ :: _, h => h.elim
  | _ :: _, [], _, h => h.elim
  | _ :: _, _ :: _, [], h => h.elim
theorem OwR.lend {O O' : Own} {H : Hp} {i : Nat} (f : Fb O H O' H) (h1 : ∀ a w, O a = some w → ofSlot i w → O' a = some .out) : ∀ {v x}, OwR K T O H i v x → BoR K T O' H v x
  | .ins c fs vs, x, ⟨a, dx, fs', ws, e, o, h, q, r⟩ => .inr ⟨a, dx, fs', ws, e, h1 a _ o (.inl rfl), h, q, r.lend f fun a g e => h1 a _ e (.inr ⟨g, rfl⟩)⟩
  | .lst xs, x, h => .inl (.inr (OwL.relabB f (fun a e => h1 a _ e (.inl rfl)) (show OwL K T O H (.sl i) (.lst xs) x from h)))
  | .dic ks ws, x, h => .inl (.inr (OwL.relabB f (fun a e => h1 a _ e (.inl rfl)) (show OwL K T O H (.sl i) (.dic ks ws) x from h)))
  | .non, _, h => h.elim
  | .bl _, _, h => h.elim
  | .int _, _, h => h.elim
  | .str _, _, h => h.elim
  | .tup _, _, h => h.elim
  | .scr _, _, h => h.elim
theorem args_in {O1 : Own} {H1 : Hp} {iop bop : List Nat} {pj : Nat → Nat} (inj : ∀ j j', iop.contains j = true → iop.contains j' = true → pj j = pj j' → j = j') : ∀ {k : Nat} {args : List Val} {vs : List V},
    ArgsI K T O1 H1 iop bop pj k args vs → ArgsR K T (inn iop pj O1) H1 iop bop k args vs
  | _, [], [], _ => trivial
  | k, v :: as, x :: xs, ⟨a, b⟩ => by
    have fb : Fb O1 H1 (inn iop pj O1) H1 := fun a o e n => ⟨e, inn_none n⟩
    refine ⟨?_, args_in inj b⟩
    by_cases h : iop.contains k = true
    · rw [if_pos h] at a ⊢
      have ff := find_pj inj h
      refine OwR.relabB fb (fun a e => ?_) (fun a g e => ?_) a
      · unfold inn; rw [e]; show some (match iop.find? (fun j => pj j == pj k) with | some j => Ow.sl j | none => .out) = _; rw [ff]
      · unfold inn; rw [e]; show some (match iop.find? (fun j => pj j == pj k) with | some j => Ow.fl j g | none => .out) = _; rw [ff]
    · rw [if_neg h] at a ⊢
      by_cases hb : bop.contains k = true
      · rw [if_pos hb] at a ⊢
        rcases a with a | ⟨i, n, a⟩
        · exact a.relabB fb fun a e => inn_out e
        · exact a.lend fb fun a w e z => inn_sl n (fun w' e' => by rw [e] at e'; cases e'; exact z) (by rw [e]; exact fun q => nomatch q)
      · rw [if_neg hb] at a ⊢
        exact VR.monoB fb _ _ a
  | _, [], _ :: _, h => h.elim
  | _, _ :: _, [], h => h.elim
theorem outs_in {O1 O' : Own} {H' : Hp} {pj : Nat → Nat} {vs : List V} (fb : Fb O' H' (outt pj O1 O') H') : ∀ {js : List Nat} {outs : List Val}, OutsR K T O' H' vs js outs → OutsI K T (outt pj O1 O') H' pj vs js outs
  | [], [], _ => trivial
  | j :: js, v :: os, ⟨⟨x, h1, h2⟩, b⟩ => by
    refine ⟨⟨x, h1, OwR.relabB fb (fun a e => ?_) (fun a g e => ?_) h2⟩, outs_in fb b⟩
    · unfold outt; rw [e]; rfl
    · unfold outt; rw [e]; rfl
  | [], _ :: _, h => h.elim
  | _ :: _, [], h => h.elim
/-- a call: what the caller has to show -/
theorem spG_use {E : XK} {iop bop : List Nat} {ro : Bool} {n : Nat} {m : FnM} {O1 : Own} {H1 : Hp} {pj : Nat → Nat} {args : List Val} {vs : List V} {Q : VK} (tr : ∀ a, O1 a ≠ none → H1 a ≠ none)
    (inj : ∀ j j', iop.contains j = true → iop.contains j' = true → pj j = pj j' → j = j') (hl : vs.length = n) (hA : ArgsI K T O1 H1 iop bop pj 0 args vs)
    (h : match m args with
      | .ok (v, outs) => ∀ O' H' x, Fm O1 H1 O' H' → (∀ a, O' a ≠ none → H' a ≠ none) → (∀ k, (∀ j, iop.contains j = true → pj j ≠ k) → ∀ a o w, H1 a = some o → O1 a = some w → ofSlot k w → H' a = some o ∧ O' a = some w) → OutsI K T O' H' pj vs iop outs → RtR K T ro (pj RES) O' H' v x → Q x H'
      | .exc e => pEx K T E O1 H1 e
      | .bad => False) : spG K T iop bop ro n m vs H1 Q E := by
  refine ⟨hl, inn iop pj O1, args, fun a e => tr a (inn_some e), args_in inj hA, ?_⟩
  · cases hm : m args with
    | bad => rw [hm] at h; exact h
    | exc e =>
      rw [hm] at h
      intro O' H' c d F' X'
      have key : Fm O1 H1 (outt pj O1 O') H' := by
        refine ⟨fun a o e n => ?_, fun a o e n => ?_, fun a o e n => ?_, fun a q => ?_⟩
        · obtain ⟨h1, h2⟩ := F'.byv a o e (inn_none n)
          exact ⟨h1, by unfold outt; rw [h2]; rfl⟩
        · obtain ⟨h1, h2⟩ := F'.out a o e (by unfold inn; rw [n]; rfl)
          exact ⟨h1, by unfold outt; rw [h2]; show some ((O1 a).getD .out) = _; rw [n]; rfl⟩
        · obtain ⟨h1, h2⟩ := F'.out a o e (by unfold inn; rw [n]; rfl)
          exact ⟨h1, by unfold outt; rw [h2]; show some ((O1 a).getD .out) = _; rw [n]; rfl⟩
        · unfold outt at q
          cases r : O' a with
          | none => rw [r] at q; cases q
          | some u =>
            rw [r] at q
            cases u with
            | sl j => cases q
            | fl j g => cases q
            | tmp => cases q
            | out =>
              have := F'.no a r
              unfold inn at this
              cases s : O1 a with
              | none => rw [s] at this; cases this
              | some v =>
                simp only [Option.map_some, s, Option.getD_some] at q
                exact q
      exact h _ H' c d key (by
        obtain ⟨cc, fs, vs', ws, fs', da, e1, e2, e3, e4, e5, e6⟩ := X'
        exact ⟨cc, fs, vs', ws, fs', da, e1, e2, e3, e4, e5, VRs.monoB (fun a o e n => ⟨e, by unfold outt; rw [n]; rfl⟩) _ _ e6⟩)
    | ok p =>
      obtain ⟨v, outs⟩ := p
      rw [hm] at h
      intro O' H' x F' tr' oR vR
      have fb : Fb O' H' (outt pj O1 O') H' := fun a o e n => ⟨e, by unfold outt; rw [n]; rfl⟩
      refine h (outt pj O1 O') H' x ⟨fun a o e n => ?_, fun a o e n => ?_, fun a o e n => ?_, fun a q => ?_⟩ (fun a q => tr' a fun z => q (by unfold outt; rw [z]; rfl)) (fun k hk a o w e n z => ?_) (outs_in fb oR) (by
        unfold RtR at vR ⊢
        cases ro with
        | true => simp only [if_true] at vR ⊢; exact OwR.relabB fb (fun a e => by unfold outt; rw [e]; rfl) (fun a g e => by unfold outt; rw [e]; rfl) vR
        | false => simp only [Bool.false_eq_true, if_false] at vR ⊢; exact VR.monoB fb _ _ vR)
      · obtain ⟨h1, h2⟩ := F'.byv a o e (inn_none n)
        exact ⟨h1, by unfold outt; rw [h2]; rfl⟩
      · obtain ⟨h1, h2⟩ := F'.out a o e (by unfold inn; rw [n]; rfl)
        exact ⟨h1, by unfold outt; rw [h2]; show some ((O1 a).getD .out) = _; rw [n]; rfl⟩
      · obtain ⟨h1, h2⟩ := F'.out a o e (by unfold inn; rw [n]; rfl)
        exact ⟨h1, by unfold outt; rw [h2]; show some ((O1 a).getD .out) = _; rw [n]; rfl⟩
      · unfold outt at q
        cases r : O' a with
        | none => rw [r] at q; cases q
        | some u =>
          rw [r] at q
          cases u with
          | sl j => cases q
          | fl j g => cases q
          | tmp => cases q
          | out =>
            have := F'.no a r
            unfold inn at this
            cases s : O1 a with
            | none => rw [s] at this; cases this
            | some v =>
              simp only [Option.map_some, s, Option.getD_some] at q
              exact q
      · have ho : inn iop pj O1 a = some .out := by
          have nf : iop.find? (fun j => pj j == k) = none := List.find?_eq_none.mpr fun j hj => by
            have := hk j (by simpa using hj)
            simpa using this
          unfold inn
          rw [n]
          rcases z with rfl | ⟨g, rfl⟩
          · show some (match iop.find? (fun j => pj j == k) with | some j => Ow.sl j | none => .out) = _; rw [nf]
          · show some (match iop.find? (fun j => pj j == k) with | some j => Ow.fl j g | none => .out) = _; rw [nf]
        obtain ⟨h1, h2⟩ := F'.out a o e ho
        exact ⟨h1, by unfold outt; rw [h2]; show some ((O1 a).getD .out) = _; rw [n]; rfl⟩
end

/-! ### argument lists that lend -/
abbrev Lt := Nat ⊕ (Val ⊕ Nat)
abbrev LM := Fr → R (List Lt × Fr)
def lN : LM := fun fr => .ok ([], fr)
def lC (a : EM) (b : LM) : LM := fun fr => (a fr).bind fun x => (b x.2).bind fun y => .ok (.inr (.inl x.1) :: y.1, y.2)
def lI (i : Nat) (b : LM) : LM := fun fr => match fr[i]? with
  | some (some _) => (b fr).bind fun y => .ok (.inl i :: y.1, y.2)
  | _ => .bad
/-- lent to be read -/
def lB (i : Nat) (b : LM) : LM := fun fr => match fr[i]? with
  | some (some _) => (b fr).bind fun y => .ok (.inr (.inr i) :: y.1, y.2)
  | _ => .bad
def valA (fr : Fr) : Val ⊕ Nat → Option Val
  | .inl v => some v
  | .inr i => match fr[i]? with
    | some (some v) => some (unfz v)
    | _ => none
def fillA (fr : Fr) : List Lt → Option (List Val)
  | [] => some []
  | .inr a :: r => match valA fr a with
    | some v => (fillA fr r).map (v :: ·)
    | none => none
  | .inl i :: r => match fr[i]? with
    | some (some v) => if isFz v = true then none else (fillA fr r).map (v :: ·)
    | _ => none
/-- the places that are lent -/
def lentP : Nat → List Lt → List Nat
  | _, [] => []
  | k, .inl _ :: r => k :: lentP (k + 1) r
  | k, .inr _ :: r => lentP (k + 1) r
def lentS : List Lt → List Nat
  | [] => []
  | .inl i :: r => i :: lentS r
  | .inr _ :: r => lentS r
def setAll : Fr → List Nat → List Val → Fr
  | fr, i :: is, v :: vs => setAll (fr.set i (some v)) is vs
  | fr, _, _ => fr
def nodupB : List Nat → Bool
  | [] => true
  | x :: xs => !xs.contains x && nodupB xs
/-- what is lent to be read, at places for that, and not lent otherwise -/
def borOk (bop ls : List Nat) : Nat → List Lt → Bool
  | _, [] => true
  | k, .inr (.inr i) :: r => bop.contains k && !ls.contains i && borOk bop ls (k + 1) r
  | k, _ :: r => borOk bop ls (k + 1) r
/-- f(..), the def m with its defaults -/
def callM (iop bop : List Nat) (m : FnM) (dv : List Val) (as : LM) : EM := fun fr => (as fr).bind fun x => if lentP 0 x.1 = iop ∧ nodupB (lentS x.1) = true ∧ borOk bop (lentS x.1) 0 x.1 = true then (ofO (fillA x.2 x.1)).bind fun args => (m (args ++ dv)).bind fun r => .ok (r.1, setAll x.2 (lentS x.1) r.2) else .bad
section
variable (K : PySem.W.Frag) (T : Tb) (E : XK) (mu : Nat → Bool) (io : List (Nat × V))
def ArA (O : Own) (H : Hp) (σ : St) : Val ⊕ Nat → V → Prop
  | .inl v, x => VR K T O H v x
  | .inr i, x => (mu i = true ∨ mu (BOR + i) = true) ∧ σ[i]? = some (some x)
def ArgL (O : Own) (H : Hp) (σ : St) : List Lt → List V → Prop
  | [], [] => True
  | .inr a :: r, x :: xs => ArA K T mu O H σ a x ∧ ArgL O H σ r xs
  | .inl i :: r, x :: xs => (mu i = true ∧ σ[i]? = some (some x)) ∧ ArgL O H σ r xs
  | _, _ => False
def pL (O : Own) (σ : St) (H : Hp) (Q : List V → Hp → Prop) : R (List Lt × Fr) → Prop
  | .ok (vs, fr') => ∀ O' H' xs, Fm O H O' H' → Rl K T mu io O' fr' σ H' → ArgL K T mu O' H' σ vs xs → Q xs H'
  | .exc e => pEx K T E O H e
  | .bad => False
def rL (m : LM) : TA := fun σ H Q => ∃ O fr, Rl K T mu io O fr σ H ∧ pL K T E mu io O σ H Q (m fr)
end
section
variable {X : Cx} {T : Tb} {E : XK} {mu : Nat → Bool} {io : List (Nat × V)} {me : EM} {pos : Pos} {e : Expr} {es : List Expr} {ms : LM}
abbrev SL (X : Cx) (T : Tb) (E : XK) (mu : Nat → Bool) (io : List (Nat × V)) (es : List Expr) (m : LM) : Prop := PA X es (rL X.K T E mu io m)
theorem ArgL.mono {K : PySem.W.Frag} {O O' : Own} {H H' : Hp} {σ : St} (f : Fm O H O' H') : ∀ {as : List Lt} {xs : List V}, ArgL K T mu O H σ as xs → ArgL K T mu O' H' σ as xs
  | [], [], _ => trivial
  | .inr (.inl v) :: r, x :: xs, ⟨a, b⟩ => ⟨VR.mono f _ _ a, b.mono f⟩
  | .inr (.inr v) :: r, x :: xs, ⟨a, b⟩ => ⟨a, b.mono f⟩
  | .inl i :: r, x :: xs, ⟨a, b⟩ => ⟨a, b.mono f⟩
  | [], _ :: _, h => h.elim
  | .inr _ :: _, [], h => h.elim
  | .inl _ :: _, [], h => h.elim
theorem sl_nil : SL X T E mu io [] lN := PA.imp pa_nil fun σ H Q ⟨O, fr, rl, q⟩ => q O H [] (Fm.refl _ _) rl trivial
theorem sl_cons (ha : SE X T E mu io e me) (hr : SL X T E mu io es ms) (hs : starEach (e :: es) X.env = (false, eval e X.env) :: starEach es X.env := by rfl) : SL X T E mu io (e :: es) (lC me ms) :=
  PA.imp (pa_cons ha hr hs) fun σ H Q ⟨O, fr, rl, q⟩ => by
    unfold lC at q
    refine ⟨O, fr, rl, ?_⟩
    cases h1 : me fr with
    | bad => rw [h1] at q; exact q
    | exc e => rw [h1] at q; exact q
    | ok p =>
      obtain ⟨x, fr1⟩ := p
      rw [h1] at q
      intro O1 H1 x' F1 R1 V1
      refine ⟨O1, fr1, R1, ?_⟩
      simp only [SK.R.bind_ok] at q
      cases h2 : ms fr1 with
      | bad => rw [h2] at q; exact q
      | exc e => rw [h2] at q; exact pEx.back F1 q
      | ok p =>
        obtain ⟨ys, fr2⟩ := p
        rw [h2] at q
        intro O2 H2 ys' F2 R2 V2
        exact q O2 H2 _ (F1.trans F2) R2 ⟨VR.mono F2 _ _ V1, V2⟩
theorem sl_lend {i : Nat} {x : Str} {p : Pos} (hN : X.N[i]? = some x := by rfl) (hv : Vis X.env.scope x := by first | exact .inl rfl | exact .inr (.inl rfl) | exact .inr (.inr rfl)) (hm : mu i = true := by rfl) (hd : (x == ("__debug__" : Str)) = false := by decide) (hcd : (x == ("__classdict__" : Str)) = false := by decide) (hr : SL X T E mu io es ms)
    (hs : starEach (.Name x p :: es) X.env = (false, eval (.Name x p) X.env) :: starEach es X.env := by rfl) : SL X T E mu io (.Name x p :: es) (lI i ms) :=
  PA.imp (pa_cons (pe_var hN hv hd hcd) hr hs) fun σ H Q ⟨O, fr, rl, q⟩ => by
    unfold lI at q
    split at q
    · rename_i v hv
      obtain ⟨y, h1, _⟩ := rl.sl _ _ hv
      refine ⟨y, h1, O, fr, rl, ?_⟩
      cases h2 : ms fr with
      | bad => rw [h2] at q; exact q
      | exc e => rw [h2] at q; exact q
      | ok p =>
        obtain ⟨ys, fr2⟩ := p
        rw [h2] at q
        intro O2 H2 ys' F2 R2 V2
        exact q O2 H2 _ F2 R2 ⟨⟨hm, h1⟩, V2⟩
    · exact q.elim
theorem sl_bor {i : Nat} {x : Str} {p : Pos} (hN : X.N[i]? = some x := by rfl) (hv : Vis X.env.scope x := by first | exact .inl rfl | exact .inr (.inl rfl) | exact .inr (.inr rfl)) (hm : mu i = true ∨ mu (BOR + i) = true := by first | exact .inl rfl | exact .inr rfl) (hd : (x == ("__debug__" : Str)) = false := by decide) (hcd : (x == ("__classdict__" : Str)) = false := by decide) (hr : SL X T E mu io es ms)
    (hs : starEach (.Name x p :: es) X.env = (false, eval (.Name x p) X.env) :: starEach es X.env := by rfl) : SL X T E mu io (.Name x p :: es) (lB i ms) :=
  PA.imp (pa_cons (pe_var hN hv hd hcd) hr hs) fun σ H Q ⟨O, fr, rl, q⟩ => by
    unfold lB at q
    split at q
    · rename_i v hv
      obtain ⟨y, h1, h2⟩ := rl.sl i v hv
      refine ⟨y, h1, O, fr, rl, ?_⟩
      cases h2 : ms fr with
      | bad => rw [h2] at q; exact q
      | exc e => rw [h2] at q; exact q
      | ok p =>
        obtain ⟨ys, fr2⟩ := p
        rw [h2] at q
        intro O2 H2 ys' F2 R2 V2
        exact q O2 H2 _ F2 R2 ⟨⟨hm, h1⟩, V2⟩
    · exact q.elim
/-! ### the call itself -/
theorem fill_len {fr : Fr} : ∀ {as : List Lt} {args}, fillA fr as = some args → args.length = as.length
  | [], _, h => by cases h; rfl
  | .inr v :: r, args, h => by
    unfold fillA at h
    split at h
    · cases q : fillA fr r with
      | none => rw [q] at h; cases h
      | some l => rw [q] at h; cases h; rw [List.length_cons, List.length_cons, fill_len q]
    · cases h
  | .inl i :: r, args, h => by
    unfold fillA at h
    split at h
    · split at h
      · cases h
      · cases q : fillA fr r with
        | none => rw [q] at h; cases h
        | some l => rw [q] at h; cases h; rw [List.length_cons, List.length_cons, fill_len q]
    · cases h
/-- the slot that stands at the place j -/
def slotAt (as : List Lt) (off j : Nat) : Nat := match as[j - off]? with
  | some (.inl i) => i
  | _ => 0
theorem lentP_ge : ∀ {as : List Lt} {k j : Nat}, j ∈ lentP k as → k ≤ j
  | .inl _ :: r, k, j, h => by
    unfold lentP at h
    rcases List.mem_cons.mp h with h | h
    · omega
    · have := lentP_ge h; omega
  | .inr _ :: r, k, j, h => by
    unfold lentP at h
    have := lentP_ge h; omega
theorem lent_at : ∀ {as : List Lt} {k j : Nat}, j ∈ lentP k as → ∃ i, as[j - k]? = some (.inl i) ∧ i ∈ lentS as
  | .inl i :: r, k, j, h => by
    unfold lentP at h
    rcases List.mem_cons.mp h with h | h
    · subst h; exact ⟨i, by simp, by unfold lentS; exact List.mem_cons_self⟩
    · obtain ⟨i', h1, h2⟩ := lent_at h
      have := lentP_ge h
      refine ⟨i', ?_, by unfold lentS; exact List.mem_cons_of_mem _ h2⟩
      rw [show j - k = (j - (k + 1)) + 1 by omega]
      simpa using h1
  | .inr v :: r, k, j, h => by
    unfold lentP at h
    obtain ⟨i', h1, h2⟩ := lent_at h
    have := lentP_ge h
    refine ⟨i', ?_, by unfold lentS; exact h2⟩
    rw [show j - k = (j - (k + 1)) + 1 by omega]
    simpa using h1
theorem nodupB_cons {x : Nat} {xs} (h : nodupB (x :: xs) = true) : x ∉ xs ∧ nodupB xs = true := by
  unfold nodupB at h
  simp at h
  exact h
theorem lentP_mem {as : List Lt} : ∀ {k j i : Nat}, as[j]? = some (.inl i) → k + j ∈ lentP k as := by
  induction as with
  | nil => intro k j i h; simp at h
  | cons a r ih =>
    intro k j i h
    cases j with
    | zero =>
      simp at h; subst h
      unfold lentP; exact List.mem_cons_self
    | succ j =>
      simp at h
      have := ih (k := k + 1) h
      rw [show k + (j + 1) = k + 1 + j by omega]
      cases a with
      | inl u => unfold lentP; exact List.mem_cons_of_mem _ this
      | inr u => unfold lentP; exact this
theorem slot_inj {as : List Lt} (nd : nodupB (lentS as) = true) : ∀ {j j' i : Nat}, as[j]? = some (.inl i) → as[j']? = some (.inl i) → j = j' := by
  induction as with
  | nil => intro j j' i h; simp at h
  | cons a r ih =>
    intro j j' i h h'
    have mem : ∀ {q i : Nat}, r[q]? = some (.inl i) → i ∈ lentS r := fun {q i} hq => by
      have := lentP_mem (k := 0) hq
      obtain ⟨i', h1, h2⟩ := lent_at this
      simp at h1
      rw [hq] at h1
      cases h1
      exact h2
    cases a with
    | inr v =>
      unfold lentS at nd
      cases j with
      | zero => simp at h
      | succ j =>
        cases j' with
        | zero => simp at h'
        | succ j' => exact congrArg (· + 1) (ih nd (j := j) (j' := j') (i := i) (by simpa using h) (by simpa using h'))
    | inl u =>
      unfold lentS at nd
      obtain ⟨n1, n2⟩ := nodupB_cons nd
      cases j with
      | zero =>
        cases j' with
        | zero => rfl
        | succ j' =>
          simp at h h'
          subst h
          exact absurd (mem h') n1
      | succ j =>
        cases j' with
        | zero =>
          simp at h h'
          subst h'
          exact absurd (mem h) n1
        | succ j' => exact congrArg (· + 1) (ih n2 (j := j) (j' := j') (i := i) (by simpa using h) (by simpa using h'))
theorem argsI_of {K : PySem.W.Frag} {O : Own} {H : Hp} {σ : St} {fr : Fr} {dv : List Val} {dx : List V} {all : List Lt} {iop bop : List Nat} {pj : Nat → Nat} (rl : Rl K T mu io O fr σ H) (hd : VRs K T O H dv dx) (hnl : ∀ i : Nat, i < fr.length → i ∉ lentS all → ∀ j, iop.contains j = true → pj j ≠ i) : ∀ {as : List Lt} {k : Nat} {args : List Val} {xs : List V},
    (∀ j : Nat, j ∈ iop → k + as.length ≤ j → False) → (∀ j i : Nat, as[j]? = some (Sum.inl i) → iop.contains (k + j) = true ∧ pj (k + j) = i) → (∀ (j : Nat) (v : Val ⊕ Nat), as[j]? = some (Sum.inr v) → iop.contains (k + j) = false) → borOk bop (lentS all) k as = true → ArgL K T mu O H σ as xs → fillA fr as = some args → ArgsI K T O H iop bop pj k (args ++ dv) (xs ++ dx)
  | [], k, args, xs, h0, h1, h2, hB, hA, hf => by
    cases hf
    cases xs with
    | cons x xs => exact hA.elim
    | nil =>
      have : ∀ {k : Nat} {dv : List Val} {dx : List V}, (∀ j, j ∈ iop → k ≤ j → False) → VRs K T O H dv dx → ArgsI K T O H iop bop pj k dv dx := by
        intro k dv
        induction dv generalizing k with
        | nil => intro dx h r; rw [r.inv0]; trivial
        | cons v dv ih =>
          intro dx h r
          obtain ⟨y, q, rfl, a, b⟩ := r.inv
          refine ⟨?_, ih (fun j hj hk => h j hj (by omega)) b⟩
          rw [if_neg (by intro z; exact h k (by simpa using z) (Nat.le_refl _))]
          split
          · exact .inl (.inl (.inl a))
          · exact a
      exact this (fun j hj hk => h0 j hj (by simpa using hk)) hd
  | .inr v :: r, k, args, xs, h0, h1, h2, hB, hA, hf => by
    cases xs with
    | nil => exact hA.elim
    | cons x xs =>
      unfold fillA at hf
      split at hf
      · rename_i u hu
        cases q : fillA fr r with
        | none => rw [q] at hf; cases hf
        | some l =>
          rw [q] at hf
          cases hf
          have hB' : borOk bop (lentS all) (k + 1) r = true := by
            unfold borOk at hB
            split at hB
            · rename_i e; cases e
            · rename_i e; cases e; rw [Bool.and_eq_true] at hB; exact hB.2
            · rename_i e; cases e; exact hB
          refine ⟨?_, argsI_of (all := all) rl hd hnl (fun j hj hk => h0 j hj (by rw [List.length_cons]; omega)) (fun j i e => ?_) (fun j v e => ?_) hB' hA.2 q⟩
          · have := h2 0 v (by simp)
            rw [Nat.add_zero] at this
            rw [if_neg (by rw [this]; exact Bool.false_ne_true)]
            cases v with
            | inl w' =>
              cases hu
              have hA1 : VR K T O H _ x := hA.1
              split
              · exact .inl (.inl (.inl hA1))
              · exact hA1
            | inr i =>
              have hb : bop.contains k = true ∧ (lentS all).contains i = false := by
                have hB2 : (bop.contains k && !(lentS all).contains i && borOk bop (lentS all) (k + 1) r) = true := hB
                rw [Bool.and_eq_true, Bool.and_eq_true] at hB2
                exact ⟨hB2.1.1, by simpa using hB2.1.2⟩
              rw [if_pos hb.1]
              have hu : (match fr[i]? with | some (some v) => some (unfz v) | _ => none) = some u := hu
              split at hu
              · rename_i w hw
                cases hu
                obtain ⟨y, g1, g2⟩ := rl.sl i _ hw
                have hA1 : (mu i = true ∨ mu (BOR + i) = true) ∧ σ[i]? = some (some x) := hA.1
                rw [hA1.2] at g1
                cases g1
                unfold SlR at g2
                by_cases m : mu i = true
                · rw [if_pos m] at g2
                  split at g2
                  · exact .inl (.inl (.inl g2))
                  · rename_i hz
                    rw [unfz_not (by simpa using hz)]
                    exact .inr ⟨i, hnl i (List.getElem?_eq_some_iff.mp hw).1 (by simpa using hb.2), g2⟩
                · rw [if_neg m] at g2
                  rcases hA1.1 with z | z
                  · exact absurd z m
                  · rw [if_pos z] at g2; rw [unfz_not (BoR.nf g2)]; exact .inl g2
              · cases hu
          · have z := h1 (j + 1) i (by simpa using e); rw [show k + (j + 1) = k + 1 + j from by omega] at z; exact z
          · have z := h2 (j + 1) v (by simpa using e); rw [show k + (j + 1) = k + 1 + j from by omega] at z; exact z
      · cases hf
  | .inl i :: r, k, args, xs, h0, h1, h2, hB, hA, hf => by
    cases xs with
    | nil => exact hA.elim
    | cons x xs =>
      unfold fillA at hf
      split at hf
      · rename_i v hv
        by_cases hz : isFz v = true
        · rw [if_pos hz] at hf; cases hf
        rw [if_neg hz] at hf
        cases q : fillA fr r with
        | none => rw [q] at hf; cases hf
        | some l =>
          rw [q] at hf
          cases hf
          refine ⟨?_, argsI_of (all := all) rl hd hnl (fun j hj hk => h0 j hj (by rw [List.length_cons]; omega)) (fun j i e => ?_) (fun j v e => ?_) hB hA.2 q⟩
          · obtain ⟨c1, c2⟩ := h1 0 i (by simp)
            rw [Nat.add_zero] at c1 c2
            rw [if_pos c1, c2]
            obtain ⟨y, g1, g2⟩ := rl.owned hv hA.1.1 (by simpa using hz)
            rw [hA.1.2] at g1
            cases g1
            exact g2
          · have z := h1 (j + 1) i (by simpa using e); rw [show k + (j + 1) = k + 1 + j from by omega] at z; exact z
          · have z := h2 (j + 1) v (by simpa using e); rw [show k + (j + 1) = k + 1 + j from by omega] at z; exact z
      · cases hf
theorem setAll_len : ∀ (is : List Nat) (vs : List Val) (fr : Fr), (setAll fr is vs).length = fr.length
  | [], _, _ => rfl
  | _ :: _, [], _ => rfl
  | i :: is, v :: vs, fr => by unfold setAll; rw [setAll_len is vs, List.length_set]
theorem setAll_ne : ∀ {is : List Nat} {vs : List Val} {fr : Fr} {j : Nat}, j ∉ is → (setAll fr is vs)[j]? = fr[j]?
  | [], _, _, _, _ => rfl
  | _ :: _, [], _, _, _ => rfl
  | i :: is, v :: vs, fr, j, h => by
    unfold setAll
    rw [setAll_ne fun z => h (List.mem_cons_of_mem _ z), List.getElem?_set_ne fun z => h (by rw [z]; exact List.mem_cons_self)]
theorem lent_out {K : PySem.W.Frag} {O' : Own} {H' : Hp} {σ : St} {pj : Nat → Nat} {all : List Lt} {vs : List V} : ∀ {as : List Lt} {k : Nat} {js : List Nat} {outs : List Val} {fr : Fr} {i : Nat} {v : Val}, js = lentP k as → i ∈ lentS as → nodupB (lentS as) = true → OutsI K T O' H' pj vs js outs → i < fr.length →
    (∀ j : Nat, j ∈ js → ∃ i : Nat, all[j]? = some (Sum.inl i) ∧ as[j - k]? = some (Sum.inl i) ∧ pj j = i) → (∀ (j i : Nat) (x : V), all[j]? = some (Sum.inl i) → vs[j]? = some x → mu i = true ∧ σ[i]? = some (some x)) →
    (setAll fr (lentS as) outs)[i]? = some (some v) → ∃ x, σ[i]? = some (some x) ∧ mu i = true ∧ OwR K T O' H' i v x
  | [], _, _, _, _, _, _, _, hi, _, _, _, _, _, _ => by unfold lentS at hi; cases hi
  | .inr w :: r, k, js, outs, fr, i, v, hj, hi, nd, ho, hl, h1, h2, hg => by
    unfold lentS at hi nd hg
    refine lent_out (as := r) (k := k + 1) (js := js) (by rw [hj]; rfl) hi nd ho hl (fun j hjm => ?_) h2 hg
    obtain ⟨i', a1, a2, a3⟩ := h1 j hjm
    have hk : k + 1 ≤ j := lentP_ge (as := r) (by rw [hj] at hjm; exact hjm)
    rw [show j - k = (j - (k + 1)) + 1 from by omega] at a2
    exact ⟨i', a1, by simpa using a2, a3⟩
  | .inl u :: r, k, js, outs, fr, i, v, hj, hi, nd, ho, hl, h1, h2, hg => by
    subst hj
    unfold lentP at ho h1
    cases outs with
    | nil => exact ho.elim
    | cons out outs =>
      obtain ⟨⟨x, hx, hr⟩, ho⟩ := ho
      unfold lentS at hi nd hg
      obtain ⟨n1, n2⟩ := nodupB_cons nd
      unfold setAll at hg
      obtain ⟨i', a1, a2, a3⟩ := h1 k List.mem_cons_self
      rw [Nat.sub_self] at a2
      simp at a2
      subst a2
      by_cases e : i = u
      · subst e
        rw [setAll_ne n1, List.getElem?_set, if_pos rfl, if_pos hl] at hg
        cases hg
        obtain ⟨b1, b2⟩ := h2 k _ x a1 hx
        rw [a3] at hr
        exact ⟨x, b2, b1, hr⟩
      · have hi' : i ∈ lentS r := by rcases List.mem_cons.mp hi with z | z; exact absurd z e; exact z
        refine lent_out (as := r) (k := k + 1) rfl hi' n2 ho (by rw [List.length_set]; exact hl) (fun j hjm => ?_) h2 hg
        obtain ⟨i2, c1, c2, c3⟩ := h1 j (List.mem_cons_of_mem _ hjm)
        have hk : k + 1 ≤ j := lentP_ge hjm
        rw [show j - k = (j - (k + 1)) + 1 from by omega] at c2
        exact ⟨i2, c1, by simpa using c2, c3⟩
theorem ArgL.len {K : PySem.W.Frag} {O : Own} {H : Hp} {σ : St} : ∀ {as : List Lt} {xs : List V}, ArgL K T mu O H σ as xs → as.length = xs.length
  | [], [], _ => rfl
  | .inr v :: r, x :: xs, ⟨a, b⟩ => by rw [List.length_cons, List.length_cons, b.len]
  | .inl i :: r, x :: xs, ⟨a, b⟩ => by rw [List.length_cons, List.length_cons, b.len]
  | [], _ :: _, h => h.elim
  | .inr _ :: _, [], h => h.elim
  | .inl _ :: _, [], h => h.elim
theorem ArgL.at_ {K : PySem.W.Frag} {O : Own} {H : Hp} {σ : St} : ∀ {as : List Lt} {xs : List V} {j i : Nat}, ArgL K T mu O H σ as xs → as[j]? = some (.inl i) → ∃ x, xs[j]? = some x ∧ mu i = true ∧ σ[i]? = some (some x)
  | [], [], _, _, _, e => by simp at e
  | .inr v :: r, x :: xs, 0, i, _, e => by simp at e
  | .inl u :: r, x :: xs, 0, i, ⟨a, _⟩, e => by simp at e; subst e; exact ⟨x, rfl, a.1, a.2⟩
  | .inr v :: r, x :: xs, j + 1, i, ⟨_, b⟩, e => by simp at e; obtain ⟨y, h1, h2⟩ := b.at_ e; exact ⟨y, by simpa using h1, h2⟩
  | .inl u :: r, x :: xs, j + 1, i, ⟨_, b⟩, e => by simp at e; obtain ⟨y, h1, h2⟩ := b.at_ e; exact ⟨y, by simpa using h1, h2⟩
  | [], _ :: _, _, _, h, _ => h.elim
  | .inr _ :: _, [], _, _, h, _ => h.elim
  | .inl _ :: _, [], _, _, h, _ => h.elim
/-- what the caller shows, from the lists -/
theorem call_core {K : PySem.W.Frag} {iop bop : List Nat} {ro : Bool} {r : Nat} {n : Nat} {m : FnM} {dv : List Val} {dx : List V} {O1 : Own} {H1 : Hp} {σ : St} {fr1 : Fr} {as : List Lt} {args : List Val} {xs : List V} {Q : VK} (R1 : Rl K T mu io O1 fr1 σ H1) (hd : ∀ O H, VRs K T O H dv dx) (hn : (xs ++ dx).length = n) (hRES : iop.contains RES = false)
    (hp : lentP 0 as = iop) (nd : nodupB (lentS as) = true) (hB : borOk bop (lentS as) 0 as = true) (hA : ArgL K T mu O1 H1 σ as xs) (hf : fillA fr1 as = some args)
    (h : match m (args ++ dv) with
      | .ok (v, outs) => ∀ O' H' x, Fm O1 H1 O' H' → Rl K T mu io O' (setAll fr1 (lentS as) outs) σ H' → RtR K T ro r O' H' v x → Q x H'
      | .exc e => pEx K T E O1 H1 e
      | .bad => False) : spG K T iop bop ro n m (xs ++ dx) H1 Q E := by
  have hmem : ∀ j, iop.contains j = true → ∃ i, as[j]? = some (.inl i) := fun j hj => by
    obtain ⟨i, h1, _⟩ := lent_at (as := as) (k := 0) (j := j) (by rw [hp]; simpa using hj)
    exact ⟨i, by simpa using h1⟩
  have hsl : ∀ j i, as[j]? = some (.inl i) → iop.contains j = true ∧ (fun j => if j = RES then r else slotAt as 0 j) j = i := fun j i e => by
    have hj : iop.contains j = true := by
      have := lentP_mem (k := 0) e
      rw [Nat.zero_add, hp] at this
      simpa using this
    refine ⟨hj, ?_⟩
    have hne : j ≠ RES := fun z => by rw [z, hRES] at hj; cases hj
    show (if j = RES then r else slotAt as 0 j) = i
    rw [if_neg hne]
    unfold slotAt; rw [Nat.sub_zero, e]
  refine spG_use (pj := fun j => if j = RES then r else slotAt as 0 j) (args := args ++ dv) R1.trk (fun j j' hj hj' e => ?_) hn ?_ ?_
  · obtain ⟨i, h1⟩ := hmem j hj
    obtain ⟨i', h2⟩ := hmem j' hj'
    have e : i = i' := ((hsl j i h1).2.symm.trans e).trans (hsl j' i' h2).2
    subst e
    exact slot_inj nd h1 h2
  · refine argsI_of (all := as) R1 (hd O1 H1) (fun i _ hi j hj z => ?_) (fun j hj hk => ?_) (fun j i e => ?_) (fun j v e => ?_) hB hA hf
    · obtain ⟨u, h1⟩ := hmem j hj
      have z : u = i := (hsl j u h1).2.symm.trans z
      subst z
      obtain ⟨u', h2, h3⟩ := lent_at (as := as) (k := 0) (j := j) (by rw [hp]; simpa using hj)
      rw [Nat.sub_zero, h1] at h2
      cases h2
      exact hi h3
    · obtain ⟨i, h1⟩ := hmem j (by simpa using hj)
      have := (List.getElem?_eq_some_iff.mp h1).1
      omega
    · rw [Nat.zero_add]; exact hsl j i e
    · rw [Nat.zero_add]
      cases q : iop.contains j with
      | false => rfl
      | true =>
        obtain ⟨i, h1⟩ := hmem j q
        rw [e] at h1
        cases h1
  · cases hm : m (args ++ dv) with
    | bad => rw [hm] at h; exact h
    | exc e => rw [hm] at h; exact h
    | ok p =>
      obtain ⟨v, outs⟩ := p
      rw [hm] at h
      intro O' H' x F' tr' keep oR vR
      refine h O' H' x F' ⟨by rw [setAll_len]; exact R1.len, fun i v' e => ?_, tr', R1.io⟩ (by simpa using vR)
      by_cases hi : i ∈ lentS as
      · have hil : i < fr1.length := by
          have := (List.getElem?_eq_some_iff.mp e).1
          rw [setAll_len] at this
          exact this
        obtain ⟨y, g1, g2, g3⟩ := lent_out (all := as) (σ := σ) (vs := xs ++ dx) (as := as) (k := 0) (js := iop) hp.symm hi nd oR hil (fun j hj => by
            obtain ⟨i, h1⟩ := hmem j (by simpa using hj)
            exact ⟨i, h1, by simpa using h1, (hsl j i h1).2⟩) (fun j i x e1 e2 => by
            obtain ⟨y, h1, h2, h3⟩ := hA.at_ e1
            have hjl := (List.getElem?_eq_some_iff.mp h1).1
            rw [List.getElem?_append_left hjl, h1] at e2
            cases e2
            exact ⟨h2, h3⟩) e
        exact ⟨y, g1, slr_own g2 g3⟩
      · rw [setAll_ne hi] at e
        obtain ⟨y, g1, g2⟩ := R1.sl i v' e
        refine ⟨y, g1, g2.mono F' fun mi a o w e1 e2 e3 => keep i (fun j hj z => hi ?_) a o w e1 e2 e3⟩
        obtain ⟨u, h1⟩ := hmem j hj
        have z : u = i := (hsl j u h1).2.symm.trans z
        subst z
        obtain ⟨u', h2, h3⟩ := lent_at (as := as) (k := 0) (j := j) (by rw [hp]; simpa using hj)
        rw [Nat.sub_zero, h1] at h2
        cases h2
        exact h3
variable {CX : CXT} {k n : Nat} {f C : Addr} {fd : FuncData} {ps : List Str} {iop bop : List Nat} {ro : Bool} {r : Nat} {m : FnM} {dv : List Val} {dx : List V} {ds : List Value} {x : Str} {p apos : Pos}
/-- an expression whose result is owned by r (m), or by value -/
def rX (K : PySem.W.Frag) (T : Tb) (E : XK) (mu : Nat → Bool) (io : List (Nat × V)) (ro : Bool) (r : Nat) (m : EM) : TE := fun σ H Q => ∃ O fr, Rl K T mu io O fr σ H ∧ (match m fr with
  | .ok (v, fr') => ∀ O' H' x, Fm O H O' H' → Rl K T mu io O' fr' σ H' → RtR K T ro r O' H' v x → Q x H'
  | .exc e => pEx K T E O H e
  | .bad => False)
theorem rX_E {K : PySem.W.Frag} {r : Nat} {m : EM} {σ : St} {H : Hp} {Q : VK} (h : rE K T E mu io m σ H Q) : rX K T E mu io false r m σ H Q := by
  obtain ⟨O, fr, rl, q⟩ := h
  refine ⟨O, fr, rl, ?_⟩
  cases e : m fr with
  | bad => rw [e] at q; exact q
  | exc e' => rw [e] at q; exact q
  | ok p => obtain ⟨v, fr'⟩ := p; rw [e] at q; exact fun O' H' x F R V => q O' H' x F R (by unfold RtR at V; simpa using V)
theorem rX_O {K : PySem.W.Frag} {r : Nat} {m : EM} {σ : St} {H : Hp} {Q : VK} (h : rO K T E mu io r m σ H Q) : rX K T E mu io true r m σ H Q := by
  obtain ⟨O, fr, rl, q⟩ := h
  refine ⟨O, fr, rl, ?_⟩
  cases e : m fr with
  | bad => rw [e] at q; exact q
  | exc e' => rw [e] at q; exact q
  | ok p => obtain ⟨v, fr'⟩ := p; rw [e] at q; exact fun O' H' x F R V => q O' H' x F R (by unfold RtR at V; simpa using V)
theorem rE_X {K : PySem.W.Frag} {r : Nat} {m : EM} {σ : St} {H : Hp} {Q : VK} (h : rX K T E mu io false r m σ H Q) : rE K T E mu io m σ H Q := by
  obtain ⟨O, fr, rl, q⟩ := h
  refine ⟨O, fr, rl, ?_⟩
  cases e : m fr with
  | bad => rw [e] at q; exact q
  | exc e' => rw [e] at q; exact q
  | ok p => obtain ⟨v, fr'⟩ := p; rw [e] at q; exact fun O' H' x F R V => q O' H' x F R (by unfold RtR; simpa using V)
theorem rO_X {K : PySem.W.Frag} {r : Nat} {m : EM} {σ : St} {H : Hp} {Q : VK} (h : rX K T E mu io true r m σ H Q) : rO K T E mu io r m σ H Q := by
  obtain ⟨O, fr, rl, q⟩ := h
  refine ⟨O, fr, rl, ?_⟩
  cases e : m fr with
  | bad => rw [e] at q; exact q
  | exc e' => rw [e] at q; exact q
  | ok p => obtain ⟨v, fr'⟩ := p; rw [e] at q; exact fun O' H' x F R V => q O' H' x F R (by unfold RtR; simpa using V)
abbrev SX (X : Cx) (T : Tb) (E : XK) (mu : Nat → Bool) (io : List (Nat × V)) (ro : Bool) (r : Nat) (e : Expr) (m : EM) : Prop := PE X e (rX X.K T E mu io ro r m)
theorem sx_e {e : Expr} (h : SE X T E mu io e me) : SX X T E mu io false r e me := PE.imp h fun σ H Q q => rE_X q
theorem sx_o {e : Expr} (h : SO X T E mu io r e me) : SX X T E mu io true r e me := PE.imp h fun σ H Q q => rO_X q
theorem se_x {e : Expr} (h : SX X T E mu io false r e me) : SE X T E mu io e me := PE.imp h fun σ H Q q => rX_E q
theorem so_x {e : Expr} (h : SX X T E mu io true r e me) : SO X T E mu io r e me := PE.imp h fun σ H Q q => rX_O q
/-- what all calls come to -/
theorem call_imp {K : PySem.W.Frag} {Q : VK} {σ : St} {H : Hp} (hdv : ∀ O H, VRs K T O H dv dx) (hRES : iop.contains RES = false) (hl : ∀ fr as fr', ms fr = .ok (as, fr') → as.length + dv.length = n) (h : rX K T E mu io ro r (callM iop bop m dv ms) σ H Q) :
    rL K T E mu io ms σ H fun vs H1 => spG K T iop bop ro n m (vs ++ dx) H1 Q E := by
  obtain ⟨O, fr, rl, q⟩ := h
  unfold callM at q
  refine ⟨O, fr, rl, ?_⟩
  cases h1 : ms fr with
  | bad => rw [h1] at q; exact q
  | exc e => rw [h1] at q; exact q
  | ok p =>
    obtain ⟨as, fr1⟩ := p
    rw [h1] at q
    intro O1 H1 xs F1 R1 A1
    simp only [SK.R.bind_ok] at q
    by_cases hc : lentP 0 as = iop ∧ nodupB (lentS as) = true ∧ borOk bop (lentS as) 0 as = true
    · rw [if_pos hc] at q
      cases h2 : fillA fr1 as with
      | none => rw [h2] at q; exact q.elim
      | some args =>
        rw [h2] at q
        simp only [ofO, SK.R.bind_ok] at q
        have hlen : (xs ++ dx).length = n := by
          rw [List.length_append, ← A1.len, ← (hdv O1 H1).len, hl fr as fr1 h1]
        refine call_core (r := r) R1 hdv hlen hRES hc.1 hc.2.1 hc.2.2 A1 h2 ?_
        cases h3 : m (args ++ dv) with
        | bad => rw [h3] at q; exact q
        | exc e => rw [h3] at q; exact pEx.back F1 q
        | ok p =>
          obtain ⟨v, outs⟩ := p
          rw [h3] at q
          exact fun O' H' x F' R' V' => q O' H' x (F1.trans F') R' V'
    · rw [if_neg hc] at q; exact q.elim
theorem sx_call (F : FnOk X.prog X.w X.K X.mg X.base CX k f fd ps (spG X.K T iop bop ro n m)) (hr : Room k X.A) (hg : Gl X x := by rfl) (hm : X.mg x = some (.ref f)) (hk : PySem.W.keepIn X.K (.ref f) = true) (hb : Binds X.K fd ps ds) (hd : Vals dx ds) (hdv : ∀ O H, VRs X.K T O H dv dx) (hRES : iop.contains RES = false := by rfl) (hx : Passes CX X E := by exact pass0)
    (ha : SL X T E mu io (e :: es) ms) (hl : ∀ fr as fr', ms fr = .ok (as, fr') → as.length + dv.length = n) (hdb : (x == ("__debug__" : Str)) = false := by decide) (he : starEach (e :: es) X.env = (false, eval e X.env) :: starEach es X.env := by rfl) (hpl : (backTo pos (starEach es X.env)).any (·.1) = false := by rfl) :
    SX X T E mu io ro r (.Call (.Name x p) (e :: es) [] pos) (callM iop bop m dv ms) :=
  PE.imp (pe_call F hr hg hm hk hb hd hx ha hdb he hpl) fun σ H Q h => call_imp hdv hRES hl h
theorem rL_nil {K : PySem.W.Frag} {Q : List V → Hp → Prop} {σ : St} {H : Hp} (h : rL K T E mu io lN σ H Q) : Q [] H := by
  obtain ⟨O, fr, rl, q⟩ := h
  exact q O H [] (Fm.refl _ _) rl trivial
theorem sx_call0 (F : FnOk X.prog X.w X.K X.mg X.base CX k f fd ps (spG X.K T iop bop ro n m)) (hr : Room k X.A) (hg : Gl X x := by rfl) (hm : X.mg x = some (.ref f)) (hk : PySem.W.keepIn X.K (.ref f) = true) (hb : Binds X.K fd ps ds) (hd : Vals dx ds) (hdv : ∀ O H, VRs X.K T O H dv dx) (hRES : iop.contains RES = false := by rfl) (hx : Passes CX X E := by exact pass0)
    (hn : dv.length = n) (hdb : (x == ("__debug__" : Str)) = false := by decide) : SX X T E mu io ro r (.Call (.Name x p) [] [] pos) (callM iop bop m dv lN) :=
  PE.imp (pe_call0 F hr hg hm hk hb hd hx hdb) fun σ H Q h => rL_nil (call_imp hdv hRES (fun fr as fr' e => by cases e; simpa using hn) h)
end
end SK

set_option maxHeartbeats 1000000
/-! SK6: operations on values. -/
namespace SK
open PySem L2

/-! ### the functions -/
def vAdd : Val → Val → Option Val
  | .int a, .int b => some (.int (a + b))
  | .str a, .str b => if a.length + b.length ≤ 16777216 then some (.str (a ++ b)) else none
  | .lst a, .lst b => if a.length + b.length ≤ 16777216 then some (.lst (a ++ b)) else none
  | .tup a, .tup b => if a.length + b.length ≤ 16777216 then some (.tup (a ++ b)) else none
  | _, _ => none
def vSub : Val → Val → Option Val
  | .int a, .int b => some (.int (a - b))
  | _, _ => none
def vMul : Val → Val → Option Val
  | .int a, .int b => if (-(2 ^ 64) < a ∧ a < 2 ^ 64) ∨ (-(2 ^ 64) < b ∧ b < 2 ^ 64) then some (.int (a * b)) else none
  | .lst a, .int b => if -(2 ^ 63) ≤ b ∧ b < 2 ^ 63 ∧ a.length * b.toNat ≤ 16777216 then some (.lst (List.replicate b.toNat a).flatten) else none
  | _, _ => none
def vDiv : Val → Val → Option Val
  | .int a, .int b => if 0 < b ∧ b < 1073741824 then some (.int (a / b)) else none
  | _, _ => none
def vMod : Val → Val → Option Val
  | .int a, .int b => if 0 < b then some (.int (a % b)) else none
  | _, _ => none
def vPow : Val → Val → Option Val
  | .int a, .int b => if 0 ≤ b ∧ b ≤ 1000000 ∧ a.natAbs < 2 ^ 64 then some (.int (a ^ b.toNat)) else none
  | _, _ => none
def vNeg : Val → Option Val
  | .int a => some (.int (-a))
  | _ => none
def vLt : Val → Val → Option Val
  | .int a, .int b => some (.bl (decide (a < b)))
  | _, _ => none
def vLe : Val → Val → Option Val
  | .int a, .int b => some (.bl (decide (a ≤ b)))
  | _, _ => none
def vGt : Val → Val → Option Val
  | .int a, .int b => some (.bl (decide (b < a)))
  | _, _ => none
def vGe : Val → Val → Option Val
  | .int a, .int b => some (.bl (decide (b ≤ a)))
  | _, _ => none
def eqZ (f : Val → Val → Option Bool) : List Val → List Val → Option Bool
  | x :: xs, y :: ys => match f x y, eqZ f xs ys with
    | some a, some b => some (a && b)
    | _, _ => none
  | _, _ => some true
/-- == of data; the number bounds the depth -/
def eqv : Nat → Val → Val → Option Bool
  | 0, _, _ => none
  | n + 1, .tup xs, .tup ys => (eqZ (eqv n) xs ys).map fun b => b && xs.length == ys.length
  | n + 1, .lst xs, .lst ys => if xs.length = ys.length then eqZ (eqv n) xs ys else some false
  | _ + 1, .non, .non => some true
  | _ + 1, .bl a, .bl b => some (a == b)
  | _ + 1, .int a, .int b => some (a == b)
  | _ + 1, .str a, .str b => some (a == b)
  | _ + 1, .bl a, .int b => some ((if a then 1 else 0) == b)
  | _ + 1, .int a, .bl b => some (a == (if b then 1 else 0))
  | _ + 1, .non, .bl _ => some false
  | _ + 1, .non, .int _ => some false
  | _ + 1, .non, .str _ => some false
  | _ + 1, .non, .tup _ => some false
  | _ + 1, .non, .lst _ => some false
  | _ + 1, .bl _, .non => some false
  | _ + 1, .bl _, .str _ => some false
  | _ + 1, .bl _, .tup _ => some false
  | _ + 1, .bl _, .lst _ => some false
  | _ + 1, .int _, .non => some false
  | _ + 1, .int _, .str _ => some false
  | _ + 1, .int _, .tup _ => some false
  | _ + 1, .int _, .lst _ => some false
  | _ + 1, .str _, .non => some false
  | _ + 1, .str _, .bl _ => some false
  | _ + 1, .str _, .int _ => some false
  | _ + 1, .str _, .tup _ => some false
  | _ + 1, .str _, .lst _ => some false
  | _ + 1, .tup _, .non => some false
  | _ + 1, .tup _, .bl _ => some false
  | _ + 1, .tup _, .int _ => some false
  | _ + 1, .tup _, .str _ => some false
  | _ + 1, .tup _, .lst _ => some false
  | _ + 1, .lst _, .non => some false
  | _ + 1, .lst _, .bl _ => some false
  | _ + 1, .lst _, .int _ => some false
  | _ + 1, .lst _, .str _ => some false
  | _ + 1, .lst _, .tup _ => some false
  | _ + 1, _, _ => none
def vEq (a b : Val) : Option Val := (eqv 20 a b).map .bl
def vNe (a b : Val) : Option Val := (eqv 20 a b).map fun k => .bl (!k)
def anyO (f : Val → Option Bool) : List Val → Option Bool
  | [] => some false
  | x :: xs => match f x, anyO f xs with
    | some a, some b => some (a || b)
    | _, _ => none
def inSeq (x : Val) (ys : List Val) : Option Bool := anyO (fun y => eqv 20 y x) ys
def inV : Val → Val → Option Bool
  | x, .lst ys => inSeq x ys
  | x, .tup ys => inSeq x ys
  | .str [c], .str z => some (decide (c ∈ z))
  | _, _ => none
def vIn (a b : Val) : Option Val := (inV a b).map .bl
def vNotIn (a b : Val) : Option Val := (inV a b).map fun k => .bl (!k)
def isNon : Val → Bool
  | .non => true
  | _ => false
def vIs : Val → Val → Option Val
  | a, .non => some (.bl (isNon a))
  | .bl a, .bl b => some (.bl (a == b))
  | _, _ => none
def vIsNot : Val → Val → Option Val
  | a, .non => some (.bl (!isNon a))
  | .bl a, .bl b => some (.bl (!(a == b)))
  | _, _ => none

section
variable {X : Cx} {T : Tb} {K : PySem.W.Frag} {O : Own} {H : Hp}
theorem VR.int {i : Int} {x : V} (h : VR K T O H (.int i) x) : x = .int i := by unfold VR at h; exact h
theorem VR.bl {i : Bool} {x : V} (h : VR K T O H (.bl i) x) : x = .bl i := by unfold VR at h; exact h
theorem VR.non {x : V} (h : VR K T O H .non x) : x = .non := by unfold VR at h; exact h
theorem VR.str {s : Sg} {x : V} (h : VR K T O H (.str s) x) : ∃ z : Str, x = .str z ∧ z.cps.toList = s := by unfold VR at h; exact h
theorem VR.tup {xs : List Val} {x : V} (h : VR K T O H (.tup xs) x) : ∃ a vs, x = .ref a ∧ TupAt K O H a vs ∧ VRs K T O H xs vs := by unfold VR at h; exact h
theorem VR.lst {xs : List Val} {x : V} (h : VR K T O H (.lst xs) x) : ∃ a vs, x = .ref a ∧ LstAt O H a vs ∧ VRs K T O H xs vs := by unfold VR at h; exact h
theorem TupAt.sq {a vs} (h : TupAt K O H a vs) : SqT K H a vs := by
  rcases h with ⟨h, _⟩ | h
  · exact SqT.of h
  · exact h H
theorem LstAt.sq {a vs} (h : LstAt O H a vs) : SqL K H a vs := SqL.of h.1
theorem vr_int {i : Int} : VR K T O H (.int i) (.int i) := by unfold VR; rfl
theorem vr_bl {i : Bool} : VR K T O H (.bl i) (.bl i) := by unfold VR; rfl
theorem vr_non : VR K T O H .non .non := by unfold VR; rfl
theorem vr_str {z : Str} : VR K T O H (.str z.cps.toList) (.str z) := by unfold VR; exact ⟨z, rfl, rfl⟩
theorem vr_new {xs : List Val} {vs : List V} {p : Addr} (tr : ∀ a, O a ≠ none → H a ≠ none) (hp : H p = none) (r : VRs K T O H xs vs) : Hx H (upd H p (.lst vs)) ∧ VR K T O (upd H p (.lst vs)) (.lst xs) (.ref p) :=
  ⟨Hx.upd hp, by unfold VR; exact ⟨p, vs, rfl, ⟨upd_same, own_new tr hp⟩, r.mono (Hx.upd hp).fm⟩⟩
theorem vr_newT {xs : List Val} {vs : List V} {p : Addr} (tr : ∀ a, O a ≠ none → H a ≠ none) (hp : H p = none) (r : VRs K T O H xs vs) : Hx H (upd H p (.tup vs)) ∧ VR K T O (upd H p (.tup vs)) (.tup xs) (.ref p) :=
  ⟨Hx.upd hp, by unfold VR; exact ⟨p, vs, rfl, .inl ⟨upd_same, own_new tr hp⟩, r.mono (Hx.upd hp).fm⟩⟩
/-- an operation that answers a scalar at once -/
theorem op_ii {f : Value → Value → Sem Value} {g : Int → Int → V} {h : Val → Val → Option Val} (ho : OpR X f (rI0 g)) (hh : ∀ a b v, h a b = some v → ∃ i j, a = .int i ∧ b = .int j ∧ ∀ K T O H, VR K T O H v (g i j)) : OpR X f (r2 X.K T h) := by
  intro pins s σ H x y v u Q I rx ry ⟨O, a, b, tr, va, vb, q⟩
  cases e : h a b with
  | none => rw [e] at q; exact q.elim
  | some w =>
    rw [e] at q
    obtain ⟨i, j, rfl, rfl, hv⟩ := hh a b w e
    cases va.int
    cases vb.int
    exact ho pins s σ H _ _ v u Q I rx ry ⟨i, j, rfl, rfl, q H _ (Hx.refl _) (hv _ _ _ _)⟩
theorem op_iiC {f : Value → Value → Sem Value} {C : Int → Int → Prop} {g : Int → Int → V} {h : Val → Val → Option Val} (ho : OpR X f (L2.rI C g)) (hh : ∀ a b v, h a b = some v → ∃ i j, a = .int i ∧ b = .int j ∧ C i j ∧ ∀ K T O H, VR K T O H v (g i j)) : OpR X f (r2 X.K T h) := by
  intro pins s σ H x y v u Q I rx ry ⟨O, a, b, tr, va, vb, q⟩
  cases e : h a b with
  | none => rw [e] at q; exact q.elim
  | some w =>
    rw [e] at q
    obtain ⟨i, j, rfl, rfl, hc, hv⟩ := hh a b w e
    cases va.int
    cases vb.int
    exact ho pins s σ H _ _ v u Q I rx ry ⟨i, j, rfl, rfl, hc, q H _ (Hx.refl _) (hv _ _ _ _)⟩
theorem o_sub : OpR X (binaryOp .Sub) (r2 X.K T vSub) := op_ii op_sub fun a b v e => by
  unfold vSub at e
  split at e
  · cases e; exact ⟨_, _, rfl, rfl, fun _ _ _ _ => vr_int⟩
  · cases e
theorem o_lt : OpR X (compareOp .Lt) (r2 X.K T vLt) := op_ii op_lt fun a b v e => by
  unfold vLt at e
  split at e
  · cases e; exact ⟨_, _, rfl, rfl, fun _ _ _ _ => vr_bl⟩
  · cases e
theorem o_le : OpR X (compareOp .LtE) (r2 X.K T vLe) := op_ii op_le fun a b v e => by
  unfold vLe at e
  split at e
  · cases e; exact ⟨_, _, rfl, rfl, fun _ _ _ _ => vr_bl⟩
  · cases e
theorem o_gt : OpR X (compareOp .Gt) (r2 X.K T vGt) := op_ii op_gt fun a b v e => by
  unfold vGt at e
  split at e
  · cases e; exact ⟨_, _, rfl, rfl, fun _ _ _ _ => vr_bl⟩
  · cases e
theorem o_ge : OpR X (compareOp .GtE) (r2 X.K T vGe) := op_ii op_ge fun a b v e => by
  unfold vGe at e
  split at e
  · cases e; exact ⟨_, _, rfl, rfl, fun _ _ _ _ => vr_bl⟩
  · cases e
theorem o_div : OpR X (binaryOp .FloorDiv) (r2 X.K T vDiv) := op_iiC op_fdiv fun a b v e => by
  unfold vDiv at e
  split at e
  · split at e
    · rename_i h; cases e; exact ⟨_, _, rfl, rfl, h, fun _ _ _ _ => vr_int⟩
    · cases e
  · cases e
theorem o_mod : OpR X (binaryOp .Mod) (r2 X.K T vMod) := op_iiC op_mod fun a b v e => by
  unfold vMod at e
  split at e
  · split at e
    · rename_i h; cases e; exact ⟨_, _, rfl, rfl, h, fun _ _ _ _ => vr_int⟩
    · cases e
  · cases e
theorem o_pow : OpR X (binaryOp .Pow) (r2 X.K T vPow) := op_iiC op_pow fun a b v e => by
  unfold vPow at e
  split at e
  · split at e
    · rename_i h; cases e; exact ⟨_, _, rfl, rfl, h, fun _ _ _ _ => vr_int⟩
    · cases e
  · cases e
theorem o_neg : UnR X (unaryOp .USub) (r1 X.K T vNeg) := by
  intro pins s σ H x v Q I rx ⟨O, a, tr, va, q⟩
  cases a with
  | int i =>
    cases va.int
    exact un_neg pins s σ H _ v Q I rx ⟨i, rfl, q H _ (Hx.refl _) vr_int⟩
  | _ => exact q.elim
theorem o_add : OpR X (binaryOp .Add) (r2 X.K T vAdd) := by
  intro pins s σ H x y v u Q I rx ry ⟨O, a, b, tr, va, vb, q⟩
  unfold vAdd at q
  split at q
  · cases va.int
    cases vb.int
    exact op_add pins s σ H _ _ v u Q I rx ry ⟨_, _, rfl, rfl, q H _ (Hx.refl _) vr_int⟩
  · split at q
    · rename_i hl
      obtain ⟨z, rfl, hz⟩ := va.str
      obtain ⟨z', rfl, hz'⟩ := vb.str
      have e1 : z.length = z.cps.toList.length := by rw [Array.length_toList]; rfl
      have e2 : z'.length = z'.cps.toList.length := by rw [Array.length_toList]; rfl
      refine op_add_str pins s σ H _ _ v u Q I rx ry ⟨z, z', rfl, rfl, ?_, q H _ (Hx.refl _) ?_⟩
      · rw [e1, e2, hz, hz']; exact hl
      · unfold VR
        refine ⟨_, rfl, ?_⟩
        rw [← hz, ← hz']
        exact Array.toList_append
    · exact q.elim
  · split at q
    · rename_i hl
      obtain ⟨p, vs, rfl, t, r⟩ := va.lst
      obtain ⟨p', vs', rfl, t', r'⟩ := vb.lst
      refine op_cat pins s σ H _ _ v u Q I rx ry ⟨p, p', vs, vs', rfl, rfl, t.1, t'.1, by rw [← r.len, ← r'.len]; exact hl, fun p hp => ?_⟩
      obtain ⟨h1, h2⟩ := vr_new tr hp (r.app r')
      exact q _ _ h1 h2
    · exact q.elim
  · rename_i l1 l2
    split at q
    · rename_i hl
      obtain ⟨p, vs, rfl, t, r⟩ := va.tup
      obtain ⟨p', vs', rfl, t', r'⟩ := vb.tup
      refine op_catA pins s σ H _ _ v u Q I rx ry ⟨p, p', vs, vs', rfl, rfl, t.sq, t'.sq, by rw [← r.len, ← r'.len]; exact hl, fun e => ?_, fun _ e => ?_, fun _ _ p hp => ?_⟩
      · subst e
        have := r.len
        cases l1 with
        | nil => exact q H _ (Hx.refl _) vb
        | cons => simp at this
      · subst e
        have := r'.len
        cases l2 with
        | nil => exact q H _ (Hx.refl _) (by rw [List.append_nil]; exact va)
        | cons => simp at this
      · obtain ⟨h1, h2⟩ := vr_newT tr hp (r.app r')
        exact q _ _ h1 h2
    · exact q.elim
  · exact q.elim
theorem VRs.rep {xs : List Val} {vs : List V} (r : VRs K T O H xs vs) : ∀ n : Nat, VRs K T O H (List.replicate n xs).flatten (List.replicate n vs).flatten
  | 0 => VRs.nil
  | n + 1 => by
    rw [List.replicate_succ, List.replicate_succ, List.flatten_cons, List.flatten_cons]
    exact r.app (r.rep n)
theorem o_mul : OpR X (binaryOp .Mult) (r2 X.K T vMul) := by
  intro pins s σ H x y v u Q I rx ry ⟨O, a, b, tr, va, vb, q⟩
  unfold vMul at q
  split at q
  · split at q
    · rename_i h
      cases va.int
      cases vb.int
      exact op_mul pins s σ H _ _ v u Q I rx ry ⟨_, _, rfl, rfl, h, q H _ (Hx.refl _) vr_int⟩
    · exact q.elim
  · split at q
    · rename_i h
      obtain ⟨p, vs, rfl, t, r⟩ := va.lst
      cases vb.int
      refine op_rep pins s σ H _ _ v u Q I rx ry ⟨p, _, vs, rfl, rfl, t.1, h.1, h.2.1, by rw [← r.len]; exact h.2.2, fun p hp => ?_⟩
      obtain ⟨h1, h2⟩ := vr_new tr hp (r.rep _)
      exact q _ _ h1 h2
    · exact q.elim
  · exact q.elim

/-! ### == -/
theorem str_beq {z z' : Str} : (z == z') = (z.cps.toList == z'.cps.toList) := by
  rw [Bool.eq_iff_iff]
  simp only [beq_iff_eq]
  exact ⟨fun h => by rw [h], fun h => by
    obtain ⟨c⟩ := z
    obtain ⟨c'⟩ := z'
    have : c = c' := Array.toList_inj.mp h
    rw [this]⟩
end
theorem eqZ_spec {f : Val → Val → Option Bool} : ∀ {xs ys : List Val} {k : Bool}, eqZ f xs ys = some k →
    (∀ (j : Nat) a b, xs[j]? = some a → ys[j]? = some b → f a b = some ((f a b).getD false)) ∧ (k = true ↔ ∀ (j : Nat) a b, xs[j]? = some a → ys[j]? = some b → f a b = some true)
  | x :: xs, y :: ys, k, h => by
    unfold eqZ at h
    split at h
    · rename_i a b ha hb
      cases h
      obtain ⟨h1, h2⟩ := eqZ_spec hb
      refine ⟨fun j u v hu hv => ?_, ?_⟩
      · cases j with
        | zero => simp at hu hv; subst hu; subst hv; rw [ha]; rfl
        | succ j => exact h1 j u v (by simpa using hu) (by simpa using hv)
      · rw [Bool.and_eq_true, h2]
        constructor
        · rintro ⟨e, g⟩ j u v hu hv
          cases j with
          | zero => simp at hu hv; subst hu; subst hv; rw [ha, e]
          | succ j => exact g j u v (by simpa using hu) (by simpa using hv)
        · intro g
          refine ⟨?_, fun j u v hu hv => g (j + 1) u v (by simpa using hu) (by simpa using hv)⟩
          have := g 0 x y rfl rfl
          rw [ha] at this
          exact Option.some.inj this
    · cases h
  | [], ys, k, h => by
    unfold eqZ at h; cases h
    exact ⟨fun j a b h => by simp at h, fun _ j a b h => by simp at h, fun _ => rfl⟩
  | x :: xs, [], k, h => by
    unfold eqZ at h; cases h
    exact ⟨fun j a b _ h => by simp at h, fun _ j a b _ h => by simp at h, fun _ => rfl⟩
section
variable {X : Cx} {T : Tb} {O : Own} {H : Hp} {pins : List (Addr × Obj)} {s : Shared} {σ : St}
theorem tup_items (I : Inv X pins σ H s) {p : Addr} {xs : List Val} {vs : List V} (t : TupAt X.K O H p vs) : ∃ its : List Value, Vals vs its ∧ s.heap.IsTuple p its.toArray := by
  obtain ⟨its, r, h, _⟩ := I.tuple t.sq
  exact ⟨its, r, h⟩
theorem lst_items (I : Inv X pins σ H s) {p : Addr} {vs : List V} (t : LstAt O H p vs) : ∃ its : List Value, Vals vs its ∧ s.heap.IsList p its.toArray := by
  obtain ⟨its, r, h, _⟩ := I.list (show SqL X.K H p vs from t.sq)
  exact ⟨its, r, h.isList⟩
theorem tup_uniq (I : Inv X pins σ H s) {p : Addr} {vs ws : List V} (t : TupAt X.K O H p vs) (t' : TupAt X.K O H p ws) : vs = ws := by
  obtain ⟨its, r, o, e, hc, n, hd⟩ := tup_items (xs := []) I t
  obtain ⟨its', r', o', e', hc', n', hd'⟩ := tup_items (xs := []) I t'
  rw [e] at e'; cases e'
  rw [hd] at hd'
  injection hd' with h1 h2
  have : its = its' := by simpa using h1
  subst this
  exact Vals.inj r r'
theorem eqv_same (I : Inv X pins σ H s) : ∀ (n : Nat) {a b : Val} {k : Bool} {x : V}, eqv n a b = some k → VR X.K T O H a x → VR X.K T O H b x → k = true
  | 0, _, _, _, _, h, _, _ => by unfold eqv at h; cases h
  | n + 1, a, b, k, x, h, va, vb => by
    have zip : ∀ {xs ys : List Val} {vs : List V} {k : Bool}, eqZ (eqv n) xs ys = some k → VRs X.K T O H xs vs → VRs X.K T O H ys vs → k = true := fun {xs ys vs k} hz r r' => by
      obtain ⟨h1, h2⟩ := eqZ_spec hz
      rw [h2]
      intro j a b ha hb
      obtain ⟨x, e1, q1⟩ := r.get ha
      obtain ⟨x', e2, q2⟩ := r'.get hb
      rw [e1] at e2; cases e2
      have := h1 j a b ha hb
      rw [this, eqv_same I n this q1 q2]
    cases a with
    | non =>
      cases va.non
      cases b with
      | non => unfold eqv at h; cases h; rfl
      | bl b => cases vb.bl
      | int b => cases vb.int
      | str b => obtain ⟨z, e, _⟩ := vb.str; cases e
      | tup b => obtain ⟨p, vs, e, _⟩ := vb.tup; cases e
      | lst b => obtain ⟨p, vs, e, _⟩ := vb.lst; cases e
      | _ => unfold eqv at h; cases h
    | bl a =>
      cases va.bl
      cases b with
      | non => cases vb.non
      | bl b => cases vb.bl; unfold eqv at h; cases h; simp
      | int b => cases vb.int
      | str b => obtain ⟨z, e, _⟩ := vb.str; cases e
      | tup b => obtain ⟨p, vs, e, _⟩ := vb.tup; cases e
      | lst b => obtain ⟨p, vs, e, _⟩ := vb.lst; cases e
      | _ => unfold eqv at h; cases h
    | int a =>
      cases va.int
      cases b with
      | non => cases vb.non
      | bl b => cases vb.bl
      | int b => cases vb.int; unfold eqv at h; cases h; simp
      | str b => obtain ⟨z, e, _⟩ := vb.str; cases e
      | tup b => obtain ⟨p, vs, e, _⟩ := vb.tup; cases e
      | lst b => obtain ⟨p, vs, e, _⟩ := vb.lst; cases e
      | _ => unfold eqv at h; cases h
    | str a =>
      obtain ⟨z, rfl, hz⟩ := va.str
      cases b with
      | non => cases vb.non
      | bl b => cases vb.bl
      | int b => cases vb.int
      | str b => obtain ⟨z', e, hz'⟩ := vb.str; cases e; unfold eqv at h; rw [← hz, ← hz'] at h; cases h; simp
      | tup b => obtain ⟨p, vs, e, _⟩ := vb.tup; cases e
      | lst b => obtain ⟨p, vs, e, _⟩ := vb.lst; cases e
      | _ => unfold eqv at h; cases h
    | tup a =>
      obtain ⟨p, vs, rfl, t, r⟩ := va.tup
      cases b with
      | non => cases vb.non
      | bl b => cases vb.bl
      | int b => cases vb.int
      | str b => obtain ⟨z, e, _⟩ := vb.str; cases e
      | tup b =>
        obtain ⟨p', vs', e, t', r'⟩ := vb.tup
        cases e
        have := tup_uniq I t t'
        subst this
        unfold eqv at h
        cases hz : eqZ (eqv n) a b with
        | none => rw [hz] at h; cases h
        | some k' =>
          rw [hz] at h
          cases h
          rw [zip hz r r', r.len, r'.len]
          simp
      | lst b =>
        obtain ⟨p', vs', e, t', r'⟩ := vb.lst
        cases e
        obtain ⟨its, _, o, e, hc, _⟩ := tup_items (xs := []) I t
        obtain ⟨its', _, o', e', hc', _⟩ := lst_items I t'
        rw [e] at e'; cases e'
        rw [hc] at hc'
        exact absurd hc' (by simp)
      | _ => unfold eqv at h; cases h
    | lst a =>
      obtain ⟨p, vs, rfl, t, r⟩ := va.lst
      cases b with
      | non => cases vb.non
      | bl b => cases vb.bl
      | int b => cases vb.int
      | str b => obtain ⟨z, e, _⟩ := vb.str; cases e
      | tup b =>
        obtain ⟨p', vs', e, t', r'⟩ := vb.tup
        cases e
        obtain ⟨its, _, o, e, hc, _⟩ := tup_items (xs := []) I t'
        obtain ⟨its', _, o', e', hc', _⟩ := lst_items I t
        rw [e] at e'; cases e'
        rw [hc] at hc'
        exact absurd hc' (by simp)
      | lst b =>
        obtain ⟨p', vs', e, t', r'⟩ := vb.lst
        cases e
        have : vs = vs' := by
          have h1 := t.1
          rw [t'.1] at h1
          cases h1; rfl
        subst this
        unfold eqv at h
        rw [if_pos (by rw [r.len, r'.len])] at h
        exact zip h r r'
      | _ => unfold eqv at h; cases h
    | _ => unfold eqv at h; cases h

open SeqAt in
/-- the three answers at once -/
def Eq3 (A : Around) (s : Shared) (u w : Value) (k : Bool) : Prop := RcAt A s u w k ∧ RcNeAt A s u w (!k) ∧ EqAt A s u w k
open SeqAt in
theorem Eq3.of_refs {A : Around} {s : Shared} {l b : Addr} {k : Bool} (h1 : RcAt A s (.ref l) (.ref b) k) (h2 : RcNeAt A s (.ref l) (.ref b) (!k)) (h3 : l = b → k = true) : Eq3 A s (.ref l) (.ref b) k := by
  refine ⟨h1, h2, ?_⟩
  by_cases e : l = b
  · subst e
    rw [h3 rfl]
    exact EqAt.same _
  · exact EqAt.of_refs e h1
open SeqAt in
theorem eqv_at (I : Inv X pins σ H s) : ∀ (n : Nat) (A : Around) {a b : Val} {k : Bool} {x y : V} {u w : Value}, eqv n a b = some k → A.units + n < cLine → VR X.K T O H a x → VR X.K T O H b y → RelV x u → RelV y w → Eq3 A s u w k
  | 0, _, _, _, _, _, _, _, _, h, _, _, _, _, _ => by unfold eqv at h; cases h
  | n + 1, A, a, b, k, x, y, u, w, h, hu, va, vb, ru, rw_ => by
    have hu0 : A.units < cLine := by omega
    have item : ∀ {xs ys : List Val} {vs ws : List V} {its its2 : List Value} {k : Bool}, eqZ (eqv n) xs ys = some k → VRs X.K T O H xs vs → VRs X.K T O H ys ws → Vals vs its → Vals ws its2 →
        ∃ e : Nat → Bool, (∀ j (h1 : j < its.toArray.size) (h2 : j < its2.toArray.size), EqAt A.in1 s its.toArray[j] its2.toArray[j] (e j)) ∧ (List.range (min its.toArray.size its2.toArray.size)).all e = k := fun {xs ys vs ws its its2 k} hz r r' q q' => by
      obtain ⟨h1, h2⟩ := eqZ_spec hz
      refine ⟨fun j => match xs[j]?, ys[j]? with | some a, some b => (eqv n a b).getD false | _, _ => true, fun j g1 g2 => ?_, ?_⟩
      · simp at g1 g2
        have k1 : j < xs.length := by rw [r.len, q.length]; exact g1
        have k2 : j < ys.length := by rw [r'.len, q'.length]; exact g2
        have e1 : xs[j]? = some xs[j] := List.getElem?_eq_getElem k1
        have e2 : ys[j]? = some ys[j] := List.getElem?_eq_getElem k2
        simp only [e1, e2]
        obtain ⟨x1, f1, v1⟩ := r.get e1
        obtain ⟨x2, f2, v2⟩ := r'.get e2
        obtain ⟨u1, i1, w1⟩ := q.get f1
        obtain ⟨u2, i2, w2⟩ := q'.get f2
        rw [List.getElem?_eq_getElem g1] at i1
        rw [List.getElem?_eq_getElem g2] at i2
        have := (eqv_at I n A.in1 (h1 j _ _ e1 e2) (by show A.units + 1 + n < cLine; omega) v1 v2 w1 w2).2.2
        rw [← Option.some.inj i1, ← Option.some.inj i2] at this
        simpa using this
      · rw [Bool.eq_iff_iff, List.all_eq_true]
        constructor
        · intro g
          rw [h2]
          intro j a b ha hb
          have l1 := (List.getElem?_eq_some_iff.mp ha).1
          have l2 := (List.getElem?_eq_some_iff.mp hb).1
          have := g j (by rw [List.mem_range]; simp; rw [← q.length, ← q'.length, ← r.len, ← r'.len]; omega)
          simp only [ha, hb] at this
          rw [h1 j a b ha hb, this]
        · intro g j hj
          have hk := h2.mp g
          cases e1 : xs[j]? with
          | none => rfl
          | some a =>
            cases e2 : ys[j]? with
            | none => rfl
            | some b => simp only [hk j a b e1 e2]; rfl
    cases a with
    | non =>
      cases va.non; cases ru
      cases b with
      | non => cases vb.non; cases rw_; unfold eqv at h; cases h; exact ⟨RcAt.none_none, RcNeAt.none_none, EqAt.same _⟩
      | bl b => cases vb.bl; cases rw_; unfold eqv at h; cases h; exact ⟨RcAt.none_bool _, RcNeAt.none_bool _, EqAt.none_bool _⟩
      | int b => cases vb.int; obtain ⟨t, rfl⟩ := rw_; unfold eqv at h; cases h; exact ⟨RcAt.none_int _ _, RcNeAt.none_int _ _, EqAt.none_int _ _⟩
      | str b => obtain ⟨z, rfl, _⟩ := vb.str; obtain ⟨t, rfl⟩ := rw_; unfold eqv at h; cases h; exact ⟨RcAt.none_str _ _, RcNeAt.none_str _ _, EqAt.none_str _ _⟩
      | tup b => obtain ⟨p, vs, rfl, t, _⟩ := vb.tup; cases rw_; obtain ⟨its, q, g⟩ := tup_items (xs := []) I t; unfold eqv at h; cases h; exact ⟨RcAt.none_tuple g hu0, RcNeAt.none_tuple g hu0, EqAt.none_tuple g hu0⟩
      | lst b => obtain ⟨p, vs, rfl, t, _⟩ := vb.lst; cases rw_; obtain ⟨its, q, g⟩ := lst_items I t; unfold eqv at h; cases h; exact ⟨RcAt.none_list g hu0, RcNeAt.none_list g hu0, EqAt.none_list g hu0⟩
      | _ => unfold eqv at h; cases h
    | bl a =>
      cases va.bl; cases ru
      cases b with
      | non => cases vb.non; cases rw_; unfold eqv at h; cases h; exact ⟨RcAt.bool_none _, RcNeAt.bool_none _, EqAt.bool_none _⟩
      | bl b => cases vb.bl; cases rw_; unfold eqv at h; cases h; exact ⟨RcAt.bool_bool _ _, RcNeAt.bool_bool _ _, EqAt.bool_bool _ _⟩
      | int b => cases vb.int; obtain ⟨t, rfl⟩ := rw_; unfold eqv at h; cases h; exact ⟨RcAt.bool_int _ _ _, RcNeAt.bool_int _ _ _, EqAt.bool_int _ _ _⟩
      | str b => obtain ⟨z, rfl, _⟩ := vb.str; obtain ⟨t, rfl⟩ := rw_; unfold eqv at h; cases h; exact ⟨RcAt.bool_str _ _ _, RcNeAt.bool_str _ _ _, EqAt.bool_str _ _ _⟩
      | tup b => obtain ⟨p, vs, rfl, t, _⟩ := vb.tup; cases rw_; obtain ⟨its, q, g⟩ := tup_items (xs := []) I t; unfold eqv at h; cases h; exact ⟨RcAt.bool_tuple _ g hu0, RcNeAt.bool_tuple _ g hu0, EqAt.bool_tuple _ g hu0⟩
      | lst b => obtain ⟨p, vs, rfl, t, _⟩ := vb.lst; cases rw_; obtain ⟨its, q, g⟩ := lst_items I t; unfold eqv at h; cases h; exact ⟨RcAt.bool_list _ g hu0, RcNeAt.bool_list _ g hu0, EqAt.bool_list _ g hu0⟩
      | _ => unfold eqv at h; cases h
    | int a =>
      cases va.int; obtain ⟨tk, rfl⟩ := ru
      cases b with
      | non => cases vb.non; cases rw_; unfold eqv at h; cases h; exact ⟨RcAt.int_none _ _, RcNeAt.int_none _ _, EqAt.int_none _ _⟩
      | bl b => cases vb.bl; cases rw_; unfold eqv at h; cases h; exact ⟨RcAt.int_bool _ _ _, RcNeAt.int_bool _ _ _, EqAt.int_bool _ _ _⟩
      | int b => cases vb.int; obtain ⟨t, rfl⟩ := rw_; unfold eqv at h; cases h; exact ⟨RcAt.int_int _ _ _ _, RcNeAt.int_int _ _ _ _, EqAt.int_int _ _ _ _⟩
      | str b => obtain ⟨z, rfl, _⟩ := vb.str; obtain ⟨t, rfl⟩ := rw_; unfold eqv at h; cases h; exact ⟨RcAt.int_str _ _ _ _, RcNeAt.int_str _ _ _ _, EqAt.int_str _ _ _ _⟩
      | tup b => obtain ⟨p, vs, rfl, t, _⟩ := vb.tup; cases rw_; obtain ⟨its, q, g⟩ := tup_items (xs := []) I t; unfold eqv at h; cases h; exact ⟨RcAt.int_tuple _ _ g hu0, RcNeAt.int_tuple _ _ g hu0, EqAt.int_tuple _ _ g hu0⟩
      | lst b => obtain ⟨p, vs, rfl, t, _⟩ := vb.lst; cases rw_; obtain ⟨its, q, g⟩ := lst_items I t; unfold eqv at h; cases h; exact ⟨RcAt.int_list _ _ g hu0, RcNeAt.int_list _ _ g hu0, EqAt.int_list _ _ g hu0⟩
      | _ => unfold eqv at h; cases h
    | str a =>
      obtain ⟨z, rfl, hz⟩ := va.str; obtain ⟨tk, rfl⟩ := ru
      cases b with
      | non => cases vb.non; cases rw_; unfold eqv at h; cases h; exact ⟨RcAt.str_none _ _, RcNeAt.str_none _ _, EqAt.str_none _ _⟩
      | bl b => cases vb.bl; cases rw_; unfold eqv at h; cases h; exact ⟨RcAt.str_bool _ _ _, RcNeAt.str_bool _ _ _, EqAt.str_bool _ _ _⟩
      | int b => cases vb.int; obtain ⟨t, rfl⟩ := rw_; unfold eqv at h; cases h; exact ⟨RcAt.str_int _ _ _ _, RcNeAt.str_int _ _ _ _, EqAt.str_int _ _ _ _⟩
      | str b =>
        obtain ⟨z', rfl, hz'⟩ := vb.str; obtain ⟨t, rfl⟩ := rw_; unfold eqv at h; rw [← hz, ← hz', ← str_beq] at h; cases h
        exact ⟨RcAt.str_str _ _ _ _, RcNeAt.str_str _ _ _ _, EqAt.str_str _ _ _ _⟩
      | tup b => obtain ⟨p, vs, rfl, t, _⟩ := vb.tup; cases rw_; obtain ⟨its, q, g⟩ := tup_items (xs := []) I t; unfold eqv at h; cases h; exact ⟨RcAt.str_tuple _ _ g hu0, RcNeAt.str_tuple _ _ g hu0, EqAt.str_tuple _ _ g hu0⟩
      | lst b => obtain ⟨p, vs, rfl, t, _⟩ := vb.lst; cases rw_; obtain ⟨its, q, g⟩ := lst_items I t; unfold eqv at h; cases h; exact ⟨RcAt.str_list _ _ g hu0, RcNeAt.str_list _ _ g hu0, EqAt.str_list _ _ g hu0⟩
      | _ => unfold eqv at h; cases h
    | tup a =>
      obtain ⟨p, vs, rfl, t, r⟩ := va.tup
      cases ru
      obtain ⟨its, q, g⟩ := tup_items (xs := []) I t
      cases b with
      | non => cases vb.non; cases rw_; unfold eqv at h; cases h; exact ⟨RcAt.tuple_none g hu0, RcNeAt.tuple_none g hu0, EqAt.tuple_none g hu0⟩
      | bl b => cases vb.bl; cases rw_; unfold eqv at h; cases h; exact ⟨RcAt.tuple_bool _ g hu0, RcNeAt.tuple_bool _ g hu0, EqAt.tuple_bool _ g hu0⟩
      | int b => cases vb.int; obtain ⟨t, rfl⟩ := rw_; unfold eqv at h; cases h; exact ⟨RcAt.tuple_int _ _ g hu0, RcNeAt.tuple_int _ _ g hu0, EqAt.tuple_int _ _ g hu0⟩
      | str b => obtain ⟨z, rfl, _⟩ := vb.str; obtain ⟨t, rfl⟩ := rw_; unfold eqv at h; cases h; exact ⟨RcAt.tuple_str _ _ g hu0, RcNeAt.tuple_str _ _ g hu0, EqAt.tuple_str _ _ g hu0⟩
      | lst b => obtain ⟨p, vs, rfl, t, _⟩ := vb.lst; cases rw_; obtain ⟨its, q, g'⟩ := lst_items I t; unfold eqv at h; cases h; exact ⟨RcAt.tuple_list g g' hu0, RcNeAt.tuple_list g g' hu0, EqAt.tuple_list g g' hu0⟩
      | tup b =>
        have h0 := h
        obtain ⟨p', vs', rfl, t', r'⟩ := vb.tup
        cases rw_
        obtain ⟨its', q', g'⟩ := tup_items (xs := []) I t'
        unfold eqv at h
        cases hz : eqZ (eqv n) a b with
        | none => rw [hz] at h; cases h
        | some k' =>
          rw [hz] at h
          obtain ⟨e, he, hk⟩ := item hz r r' q q'
          have e1 := RcAt.tuples g g' hu0 he
          have e2 := RcNeAt.tuples g g' hu0 he
          rw [hk] at e1 e2
          have hk2 : (k' && its.toArray.size == its'.toArray.size) = k := by
            have : (k' && a.length == b.length) = k := Option.some.inj h
            rw [← this, List.size_toArray, List.size_toArray, ← q.length, ← q'.length, ← r.len, ← r'.len]
          rw [hk2] at e1 e2
          refine Eq3.of_refs e1 e2 fun e => ?_
          subst e
          exact eqv_same I _ h0 va vb
      | _ => unfold eqv at h; cases h
    | lst a =>
      obtain ⟨p, vs, rfl, t, r⟩ := va.lst
      cases ru
      obtain ⟨its, q, g⟩ := lst_items I t
      cases b with
      | non => cases vb.non; cases rw_; unfold eqv at h; cases h; exact ⟨RcAt.list_none g hu0, RcNeAt.list_none g hu0, EqAt.list_none g hu0⟩
      | bl b => cases vb.bl; cases rw_; unfold eqv at h; cases h; exact ⟨RcAt.list_bool _ g hu0, RcNeAt.list_bool _ g hu0, EqAt.list_bool _ g hu0⟩
      | int b => cases vb.int; obtain ⟨t, rfl⟩ := rw_; unfold eqv at h; cases h; exact ⟨RcAt.list_int _ _ g hu0, RcNeAt.list_int _ _ g hu0, EqAt.list_int _ _ g hu0⟩
      | str b => obtain ⟨z, rfl, _⟩ := vb.str; obtain ⟨t, rfl⟩ := rw_; unfold eqv at h; cases h; exact ⟨RcAt.list_str _ _ g hu0, RcNeAt.list_str _ _ g hu0, EqAt.list_str _ _ g hu0⟩
      | tup b => obtain ⟨p, vs, rfl, t, _⟩ := vb.tup; cases rw_; obtain ⟨its, q, g'⟩ := tup_items (xs := []) I t; unfold eqv at h; cases h; exact ⟨RcAt.list_tuple g g' hu0, RcNeAt.list_tuple g g' hu0, EqAt.list_tuple g g' hu0⟩
      | lst b =>
        have h0 := h
        obtain ⟨p', vs', rfl, t', r'⟩ := vb.lst
        cases rw_
        obtain ⟨its', q', g'⟩ := lst_items I t'
        unfold eqv at h
        by_cases hl : a.length = b.length
        · rw [if_pos hl] at h
          obtain ⟨e, he, hk⟩ := item h r r' q q'
          have hsz : its.toArray.size = its'.toArray.size := by rw [List.size_toArray, List.size_toArray, ← q.length, ← q'.length, ← r.len, ← r'.len, hl]
          have e1 := RcAt.lists g g' hsz hu0 he
          have e2 := RcNeAt.lists g g' hsz hu0 he
          rw [← hsz, Nat.min_self] at hk
          rw [hk] at e1 e2
          refine Eq3.of_refs e1 e2 fun e => ?_
          subst e
          exact eqv_same I _ h0 va vb
        · rw [if_neg hl] at h
          cases h
          have hsz : (its.toArray.size != its'.toArray.size) = true := by
            rw [List.size_toArray, List.size_toArray, ← q.length, ← q'.length, ← r.len, ← r'.len]
            simpa using hl
          refine Eq3.of_refs (RcAt.lists_lengths g g' hsz hu0) (RcNeAt.lists_lengths g g' hsz hu0) fun e => ?_
          subst e
          exact eqv_same I _ h0 va vb
      | _ => unfold eqv at h; cases h
    | _ => unfold eqv at h; cases h
theorem o_eq (hu : X.A.units + 20 < cLine) : OpR X (compareOp .Eq) (r2 X.K T vEq) := by
  intro pins s σ H x y v u Q I rx ry ⟨O, a, b, tr, va, vb, q⟩
  unfold vEq at q
  cases e : eqv 20 a b with
  | none => rw [e] at q; exact q.elim
  | some k =>
    rw [e] at q
    exact (eqv_at I 20 X.A e hu va vb rx ry).1 _ _ _ _ ⟨.bl k, H, I, rfl, q H _ (Hx.refl _) vr_bl⟩
theorem o_ne (hu : X.A.units + 20 < cLine) : OpR X (compareOp .NotEq) (r2 X.K T vNe) := by
  intro pins s σ H x y v u Q I rx ry ⟨O, a, b, tr, va, vb, q⟩
  unfold vNe at q
  cases e : eqv 20 a b with
  | none => rw [e] at q; exact q.elim
  | some k =>
    rw [e] at q
    exact (eqv_at I 20 X.A e hu va vb rx ry).2.1 _ _ _ _ ⟨.bl (!k), H, I, rfl, q H _ (Hx.refl _) vr_bl⟩
theorem anyO_spec {f : Val → Option Bool} : ∀ {xs : List Val} {k : Bool}, anyO f xs = some k → (∀ a ∈ xs, f a = some ((f a).getD false)) ∧ (k = true ↔ ∃ a ∈ xs, f a = some true)
  | [], k, h => by
    unfold anyO at h; cases h
    refine ⟨fun a h => (by cases h), ⟨fun h => (by cases h), fun h => ?_⟩⟩
    obtain ⟨a, h, _⟩ := h
    cases h
  | x :: xs, k, h => by
    unfold anyO at h
    split at h
    · rename_i a b ha hb
      cases h
      obtain ⟨h1, h2⟩ := anyO_spec hb
      refine ⟨fun u hu => ?_, ?_⟩
      · rcases List.mem_cons.mp hu with rfl | hu
        · rw [ha]; rfl
        · exact h1 u hu
      · rw [Bool.or_eq_true, h2]
        constructor
        · rintro (e | ⟨u, hu, e⟩)
          · exact ⟨x, List.mem_cons_self, by rw [ha, e]⟩
          · exact ⟨u, List.mem_cons_of_mem _ hu, e⟩
        · rintro ⟨u, hu, e⟩
          rcases List.mem_cons.mp hu with rfl | hu
          · rw [ha] at e; exact .inl (Option.some.inj e)
          · exact .inr ⟨u, hu, e⟩
    · cases h
/-- the items' answers, as a function of the items -/
theorem any_items (I : Inv X pins σ H s) {A : Around} {a : Val} {xs : List Val} {vs : List V} {its : List Value} {x : V} {u : Value} {k : Bool} (h : anyO (fun y => eqv 20 y a) xs = some k) (hu : A.units + 20 < cLine) (va : VR X.K T O H a x) (ru : RelV x u) (r : VRs X.K T O H xs vs) (q : Vals vs its) :
    ∃ e : Value → Bool, (∀ y, y ∈ its.toArray → SeqAt.EqAt A s y u (e y)) ∧ its.toArray.any e = k := by
  obtain ⟨h1, h2⟩ := anyO_spec h
  have hd : ∀ p : Prop, ∃ b : Bool, b = true ↔ p := fun p => by
    by_cases hp : p
    · exact ⟨true, by simp [hp]⟩
    · exact ⟨false, by simp [hp]⟩
  have pick : ∃ e : Value → Bool, ∀ y, e y = true ↔ ∃ (i : Nat) (b : Val), its[i]? = some y ∧ xs[i]? = some b ∧ eqv 20 b a = some true :=
    ⟨fun y => Classical.choose (hd (∃ (i : Nat) (b : Val), its[i]? = some y ∧ xs[i]? = some b ∧ eqv 20 b a = some true)), fun y => Classical.choose_spec (hd _)⟩
  obtain ⟨e, he⟩ := pick
  have at_ : ∀ (i : Nat) (b : Val) (y : Value), its[i]? = some y → xs[i]? = some b → SeqAt.EqAt A s y u ((eqv 20 b a).getD false) := fun i b y h3 h4 => by
    obtain ⟨z, e1, v1⟩ := r.get h4
    obtain ⟨w, e2, w1⟩ := q.get e1
    rw [h3] at e2; cases e2
    exact (eqv_at I 20 A (h1 b (List.mem_of_getElem? h4)) hu v1 va w1 ru).2.2
  refine ⟨e, fun y hy => ?_, ?_⟩
  · cases q1 : e y with
    | true =>
      obtain ⟨i, b, h3, h4, h5⟩ := (he y).mp q1
      have := at_ i b y h3 h4
      rw [h5] at this
      exact this
    | false =>
      obtain ⟨i, hi⟩ := List.getElem?_of_mem (List.mem_toArray.mp hy)
      have hl : i < xs.length := by
        have := (List.getElem?_eq_some_iff.mp hi).1
        rw [r.len, q.length]; exact this
      have := at_ i _ y hi (List.getElem?_eq_getElem hl)
      cases h5 : eqv 20 xs[i] a with
      | none => have h6 := h1 xs[i] (List.getElem_mem hl); rw [h5] at h6; cases h6
      | some b =>
        rw [h5] at this
        cases b with
        | false => exact this
        | true => rw [(he y).mpr ⟨i, xs[i], hi, List.getElem?_eq_getElem hl, h5⟩] at q1; cases q1
  · rw [Bool.eq_iff_iff, h2, show its.toArray.any e = its.any e by simp, List.any_eq_true]
    constructor
    · rintro ⟨y, hy, ey⟩
      obtain ⟨i, b, h3, h4, h5⟩ := (he y).mp ey
      exact ⟨b, List.mem_of_getElem? h4, h5⟩
    · rintro ⟨b, hb, h5⟩
      obtain ⟨i, hi⟩ := List.getElem?_of_mem hb
      have hl : i < its.length := by
        have := (List.getElem?_eq_some_iff.mp hi).1
        rw [← q.length, ← r.len]; exact this
      exact ⟨its[i], List.getElem_mem hl, (he _).mpr ⟨i, b, List.getElem?_eq_getElem hl, hi, h5⟩⟩
theorem o_in (hu : X.A.units + 21 < cLine) : OpR X (compareOp .In) (r2 X.K T vIn) := by
  intro pins s σ H x y v u Q I rx ry ⟨O, a, b, tr, va, vb, q⟩
  unfold vIn at q
  cases e : inV a b with
  | none => rw [e] at q; exact q.elim
  | some k =>
    rw [e] at q
    unfold inV at e
    split at e
    · obtain ⟨p, vs, rfl, t, r⟩ := vb.lst
      cases ry
      obtain ⟨its, rq, g⟩ := lst_items I t
      obtain ⟨f, h1, h2⟩ := any_items I (A := X.A.in1) e (by show X.A.units + 1 + 20 < cLine; omega) va rx r rq
      refine SeqAt.in_listAt f g h1 ⟨.bl _, H, I, rfl, ?_⟩
      rw [h2]
      exact q H _ (Hx.refl _) vr_bl
    · obtain ⟨p, vs, rfl, t, r⟩ := vb.tup
      cases ry
      obtain ⟨its, rq, g⟩ := tup_items (xs := []) I t
      obtain ⟨f, h1, h2⟩ := any_items I (A := X.A.in1) e (by show X.A.units + 1 + 20 < cLine; omega) va rx r rq
      refine SeqAt.in_tupleAt f g h1 ⟨.bl _, H, I, rfl, ?_⟩
      rw [h2]
      exact q H _ (Hx.refl _) vr_bl
    · rename_i c z
      cases e
      obtain ⟨z1, rfl, hz⟩ := va.str
      obtain ⟨z2, rfl, hz2⟩ := vb.str
      have e1 : z1 = ⟨#[c]⟩ := by
        obtain ⟨ar⟩ := z1
        have : ar.toList = [c] := hz
        rw [show ar = #[c] from Array.toList_inj.mp (by rw [this])]
      subst e1
      subst hz2
      exact op_in_sign pins s σ H _ _ v u Q I rx ry ⟨c, z2, rfl, rfl, q H _ (Hx.refl _) vr_bl⟩
    · cases e
theorem o_notIn (hu : X.A.units + 21 < cLine) : OpR X (compareOp .NotIn) (r2 X.K T vNotIn) := by
  intro pins s σ H x y v u Q I rx ry ⟨O, a, b, tr, va, vb, q⟩
  unfold vNotIn at q
  cases e : inV a b with
  | none => rw [e] at q; exact q.elim
  | some k =>
    rw [e] at q
    unfold inV at e
    split at e
    · obtain ⟨p, vs, rfl, t, r⟩ := vb.lst
      cases ry
      obtain ⟨its, rq, g⟩ := lst_items I t
      obtain ⟨f, h1, h2⟩ := any_items I (A := X.A.in1) e (by show X.A.units + 1 + 20 < cLine; omega) va rx r rq
      refine SeqAt.notIn_listAt f g h1 ⟨.bl _, H, I, rfl, ?_⟩
      rw [h2]
      exact q H _ (Hx.refl _) vr_bl
    · obtain ⟨p, vs, rfl, t, r⟩ := vb.tup
      cases ry
      obtain ⟨its, rq, g⟩ := tup_items (xs := []) I t
      obtain ⟨f, h1, h2⟩ := any_items I (A := X.A.in1) e (by show X.A.units + 1 + 20 < cLine; omega) va rx r rq
      refine SeqAt.notIn_tupleAt f g h1 ⟨.bl _, H, I, rfl, ?_⟩
      rw [h2]
      exact q H _ (Hx.refl _) vr_bl
    · rename_i c z
      cases e
      obtain ⟨z1, rfl, hz⟩ := va.str
      obtain ⟨z2, rfl, hz2⟩ := vb.str
      have e1 : z1 = ⟨#[c]⟩ := by
        obtain ⟨ar⟩ := z1
        have : ar.toList = [c] := hz
        rw [show ar = #[c] from Array.toList_inj.mp (by rw [this])]
      subst e1
      subst hz2
      exact op_notIn_sign pins s σ H _ _ v u Q I rx ry ⟨c, z2, rfl, rfl, q H _ (Hx.refl _) vr_bl⟩
    · cases e
end
end SK

set_option maxHeartbeats 1000000
/-! SK7: calls of built-ins, subscripts, slices, what is walked. -/
namespace SK
open PySem L2 RZ

/-! ### the functions -/
def eN (f : List Val → Option Val) (ms : AM) : EM := fun fr => (ms fr).bind fun x => (ofO (f x.1)).bind fun v => .ok (v, x.2)
def vLen : List Val → Option Val
  | [.lst xs] => some (.int xs.length)
  | [.tup xs] => some (.int xs.length)
  | [.str s] => if s.length ≤ 16777216 then some (.int s.length) else none
  | [.scr ns] => some (.int ns.length)
  | _ => none
def vInt : List Val → Option Val
  | [.int i] => some (.int i)
  | [.bl b] => some (.int (if b then 1 else 0))
  | _ => none
def vMax : List Val → Option Val
  | [.int i, .int j] => some (.int (if j > i then j else i))
  | _ => none
def vMin : List Val → Option Val
  | [.int i, .int j] => some (.int (if j < i then j else i))
  | _ => none
def vList : List Val → Option Val
  | [.lst xs] => some (.lst xs)
  | [.tup xs] => some (.lst xs)
  | _ => none
def vTuple : List Val → Option Val
  | [.lst xs] => some (.tup xs)
  | [.tup xs] => some (.tup xs)
  | _ => none
def bools : List Val → Option (List Bool)
  | [] => some []
  | .bl b :: r => (bools r).map (b :: ·)
  | _ => none
def vAll : List Val → Option Val
  | [.lst xs] => (bools xs).map fun bs => .bl (bs.all id)
  | _ => none
def vAny : List Val → Option Val
  | [.lst xs] => (bools xs).map fun bs => .bl (bs.any id)
  | _ => none
def vIx : Val → Val → Option Val
  | .lst xs, .int i => atI xs i
  | .tup xs, .int i => atI xs i
  | .str s, .int i => if s.length ≤ 16777216 then (atI s i).map fun c => .str [c] else none
  | .scr ns, .int i => (atI ns i).map .int
  | _, _ => none
abbrev OM := Fr → R (Option Int × Fr)
def oN : OM := fun fr => .ok (none, fr)
def isI : Val → Option Int
  | .int i => some i
  | _ => none
def oS (a : EM) : OM := fun fr => (a fr).bind fun x => (ofO (isI x.1)).bind fun i => .ok (some i, x.2)
def cutL {α : Type} (xs : List α) (lo hi : Option Int) : List α := (xs.drop (HT.sIx xs.length 0 lo)).take (HT.sIx xs.length xs.length hi - HT.sIx xs.length 0 lo)
def vSl (v : Val) (lo hi : Option Int) : Option Val := match v with
  | .lst xs => some (.lst (cutL xs lo hi))
  | .tup xs => some (.tup (cutL xs lo hi))
  | _ => none
def eSl (a : EM) (l h : OM) : EM := fun fr => (a fr).bind fun x => (l x.2).bind fun lo => (h lo.2).bind fun hi => (ofO (vSl x.1 lo.1 hi.1)).bind fun v => .ok (v, hi.2)
def itOf : Val → Option (List Val)
  | .tup xs => some xs
  | .lst xs => some xs
  | .str s => some (s.map fun c => .str [c])
  | _ => none
def iIt (a : EM) : IM := fun fr => (a fr).bind fun x => (ofO (itOf x.1)).bind fun xs => .ok (xs, x.2)
def rngL (n : Int) : List Val := (List.range n.toNat).map fun i => .int (i : Nat)
def rngL2 (lo hi : Int) : List Val := (List.range (hi - lo).toNat).map fun i => .int (lo + (i : Nat))
def iRg (a : AM) : IM := fun fr => (a fr).bind fun x => match x.1 with
  | [.int n] => if -(2 ^ 62) ≤ n ∧ n < 2 ^ 62 then .ok (rngL n, x.2) else .bad
  | _ => .bad
def iRg2 (a : AM) : IM := fun fr => (a fr).bind fun x => match x.1 with
  | [.int m, .int n] => if -(2 ^ 62) ≤ m ∧ m < 2 ^ 62 ∧ -(2 ^ 62) ≤ n ∧ n < 2 ^ 62 then .ok (rngL2 m n, x.2) else .bad
  | _ => .bad
def enL : Nat → List Val → List Val
  | _, [] => []
  | k, x :: xs => .tup [.int (k : Nat), x] :: enL (k + 1) xs
def iEn (a : AM) : IM := fun fr => (a fr).bind fun x => match x.1 with
  | [.lst xs] => .ok (enL 0 xs, x.2)
  | _ => .bad
def zipL : List Val → List Val → List Val
  | x :: xs, y :: ys => .tup [x, y] :: zipL xs ys
  | _, _ => []
def iZp (a : AM) : IM := fun fr => (a fr).bind fun x => match x.1 with
  | [.lst xs, .lst ys] => .ok (zipL xs ys, x.2)
  | [.tup xs, .tup ys] => .ok (zipL xs ys, x.2)
  | _ => .bad

section
variable {X : Cx} {T : Tb} {E : XK} {mu : Nat → Bool} {io : List (Nat × V)} {e : Expr} {es : List Expr} {ma mb : EM} {ms : AM} {pos : Pos}
theorem eN_imp {K : PySem.W.Frag} {f : List Val → Option Val} {σ : St} {H : Hp} {Q : VK} (h : rE K T E mu io (eN f ms) σ H Q) : rA K T E mu io ms σ H (fun vs H1 => rN K T f vs H1 Q) := by
  obtain ⟨O, fr, rl, q⟩ := h
  unfold eN at q
  refine ⟨O, fr, rl, ?_⟩
  cases h1 : ms fr with
  | bad => rw [h1] at q; exact q
  | exc e => rw [h1] at q; exact q
  | ok p =>
    obtain ⟨xs, fr1⟩ := p
    rw [h1] at q
    intro O1 H1 xs' F1 R1 V1
    simp only [SK.R.bind_ok] at q
    refine ⟨O1, xs, R1.trk, V1, ?_⟩
    cases h2 : f xs with
    | none => rw [h2] at q; exact q.elim
    | some v =>
      rw [h2] at q
      exact fun H2 x X2 V2 => q O1 H2 x (F1.trans X2.fm) (R1.hx X2) V2
theorem se_callB {f : List Val → Option Val} {id : String} {x : Str} {p : Pos} (hc : CallR X (.builtin id) (rN X.K T f)) (hg : Gl X x := by rfl) (hm : X.mg x = none) (hv : bootBuiltins x = some (.builtin id) := by first | rfl | decide +kernel) (ha : SA X T E mu io (e :: es) ms) (hn : x ≠ "__name__" := by decide) (hdb : (x == ("__debug__" : Str)) = false := by decide)
    (he : starEach (e :: es) X.env = (false, eval e X.env) :: starEach es X.env := by rfl) (hpl : (backTo pos (starEach es X.env)).any (·.1) = false := by rfl) : SE X T E mu io (.Call (.Name x p) (e :: es) [] pos) (eN f ms) :=
  PE.imp (pe_callB hc hg hm hv ha hn hdb he hpl) fun σ H Q h => eN_imp h
theorem se_callTy {f : List Val → Option Val} {id : String} {x : Str} {p : Pos} (hc : CallR X (.type id) (rN X.K T f)) (hg : Gl X x := by rfl) (hm : X.mg x = none) (hv : bootBuiltins x = some (.type id) := by first | rfl | decide +kernel) (ha : SA X T E mu io (e :: es) ms) (hn : x ≠ "__name__" := by decide) (hdb : (x == ("__debug__" : Str)) = false := by decide)
    (he : starEach (e :: es) X.env = (false, eval e X.env) :: starEach es X.env := by rfl) (hpl : (backTo pos (starEach es X.env)).any (·.1) = false := by rfl) : SE X T E mu io (.Call (.Name x p) (e :: es) [] pos) (eN f ms) :=
  PE.imp (pe_callTy hc hg hm hv ha hn hdb he hpl) fun σ H Q h => eN_imp h
section
variable {K : PySem.W.Frag} {O : Own} {H : Hp}
theorem VRs.one {a : Val} {xs : List V} (h : VRs K T O H [a] xs) : ∃ x, xs = [x] ∧ VR K T O H a x := by
  obtain ⟨y, r, rfl, h1, h2⟩ := h.inv
  rw [h2.inv0]
  exact ⟨y, rfl, h1⟩
theorem VRs.two {a b : Val} {xs : List V} (h : VRs K T O H [a, b] xs) : ∃ x y, xs = [x, y] ∧ VR K T O H a x ∧ VR K T O H b y := by
  obtain ⟨y, r, rfl, h1, h2⟩ := h.inv
  obtain ⟨z, rfl, h3⟩ := h2.one
  exact ⟨y, z, rfl, h1, h3⟩
theorem VR.scr {ns : List Int} {x : V} (h : VR K T O H (.scr ns) x) : ∃ a, x = .ref a ∧ SqL K H a (ns.map V.int) := by
  unfold VR at h
  obtain ⟨a, rfl, h | ⟨⟨o, h⟩, _⟩ | h⟩ := h
  · exact ⟨a, rfl, SqL.of h.1⟩
  · exact ⟨a, rfl, .inl (.inr ⟨o, h⟩)⟩
  · exact ⟨a, rfl, h H⟩
theorem str_len {z : Str} : z.length = z.cps.toList.length := by rw [Array.length_toList]; rfl
end
theorem c_len : CallR X (.builtin "len") (rN X.K T vLen) := by
  intro pins s σ H xs us Q I r ⟨O, as, tr, va, q⟩
  unfold vLen at q
  split at q
  · obtain ⟨x, rfl, h⟩ := va.one
    obtain ⟨p, vs, rfl, t, rr⟩ := h.lst
    exact call_len pins s σ H _ us Q I r ⟨.ref p, _, rfl, .inl ⟨vs, t.sq, rfl⟩, by rw [← rr.len]; exact q H _ (Hx.refl _) vr_int⟩
  · obtain ⟨x, rfl, h⟩ := va.one
    obtain ⟨p, vs, rfl, t, rr⟩ := h.tup
    exact call_len pins s σ H _ us Q I r ⟨.ref p, _, rfl, .inr ⟨vs, t.sq, rfl⟩, by rw [← rr.len]; exact q H _ (Hx.refl _) vr_int⟩
  · split at q
    · rename_i hl
      obtain ⟨x, rfl, h⟩ := va.one
      obtain ⟨z, rfl, hz⟩ := h.str
      exact call_len pins s σ H _ us Q I r ⟨.str z, _, rfl, ⟨by rw [str_len, hz]; exact hl, rfl⟩, by rw [str_len, hz]; exact q H _ (Hx.refl _) vr_int⟩
    · exact q.elim
  · obtain ⟨x, rfl, h⟩ := va.one
    obtain ⟨p, rfl, t⟩ := h.scr
    exact call_len pins s σ H _ us Q I r ⟨.ref p, _, rfl, .inl ⟨_, t, rfl⟩, by rw [List.length_map]; exact q H _ (Hx.refl _) vr_int⟩
  · exact q.elim
theorem c_int : CallR X (.type "int") (rN X.K T vInt) := by
  intro pins s σ H xs us Q I r ⟨O, as, tr, va, q⟩
  unfold vInt at q
  split at q
  · obtain ⟨x, rfl, h⟩ := va.one
    cases h.int
    exact call_int1 pins s σ H _ us Q I r (.inl ⟨_, rfl, q H _ (Hx.refl _) vr_int⟩)
  · obtain ⟨x, rfl, h⟩ := va.one
    cases h.bl
    exact call_int1 pins s σ H _ us Q I r (.inr ⟨_, rfl, q H _ (Hx.refl _) vr_int⟩)
  · exact q.elim
theorem c_max (hc : X.calm = true) : CallR X (.builtin "max") (rN X.K T vMax) := by
  intro pins s σ H xs us Q I r ⟨O, as, tr, va, q⟩
  unfold vMax at q
  split at q
  · obtain ⟨x, y, rfl, h, h'⟩ := va.two
    cases h.int
    cases h'.int
    exact call_max2 hc pins s σ H _ us Q I r ⟨_, _, rfl, q H _ (Hx.refl _) vr_int⟩
  · exact q.elim
theorem c_min (hc : X.calm = true) : CallR X (.builtin "min") (rN X.K T vMin) := by
  intro pins s σ H xs us Q I r ⟨O, as, tr, va, q⟩
  unfold vMin at q
  split at q
  · obtain ⟨x, y, rfl, h, h'⟩ := va.two
    cases h.int
    cases h'.int
    exact call_min2 hc pins s σ H _ us Q I r ⟨_, _, rfl, q H _ (Hx.refl _) vr_int⟩
  · exact q.elim
theorem c_list : CallR X (.type "list") (rN X.K T vList) := by
  intro pins s σ H xs us Q I r ⟨O, as, tr, va, q⟩
  unfold vList at q
  split at q
  · obtain ⟨x, rfl, h⟩ := va.one
    obtain ⟨p, vs, rfl, t, rr⟩ := h.lst
    exact call_list_of pins s σ H _ us Q I r ⟨p, vs, rfl, .inl t.sq, fun l hl => by obtain ⟨a, b⟩ := vr_new tr hl rr; exact q _ _ a b⟩
  · obtain ⟨x, rfl, h⟩ := va.one
    obtain ⟨p, vs, rfl, t, rr⟩ := h.tup
    exact call_list_of pins s σ H _ us Q I r ⟨p, vs, rfl, .inr t.sq, fun l hl => by obtain ⟨a, b⟩ := vr_new tr hl rr; exact q _ _ a b⟩
  · exact q.elim
theorem c_tuple : CallR X (.type "tuple") (rN X.K T vTuple) := by
  intro pins s σ H xs us Q I r ⟨O, as, tr, va, q⟩
  unfold vTuple at q
  split at q
  · obtain ⟨x, rfl, h⟩ := va.one
    obtain ⟨p, vs, rfl, t, rr⟩ := h.lst
    exact call_tuple_of pins s σ H _ us Q I r ⟨p, vs, rfl, .inl ⟨t.sq, fun l hl => by obtain ⟨a, b⟩ := vr_newT tr hl rr; exact q _ _ a b⟩⟩
  · obtain ⟨x, rfl, h⟩ := va.one
    obtain ⟨p, vs, rfl, t, rr⟩ := h.tup
    exact call_tuple_of pins s σ H _ us Q I r ⟨p, vs, rfl, .inr ⟨t.sq, q H _ (Hx.refl _) h⟩⟩
  · exact q.elim
theorem bools_ok {K : PySem.W.Frag} {O : Own} {H : Hp} : ∀ {xs : List Val} {bs : List Bool} {vs : List V}, bools xs = some bs → VRs K T O H xs vs → vs = bs.map V.bl
  | [], bs, vs, h, r => by cases h; rw [r.inv0]; rfl
  | .bl b :: xs, bs, vs, h, r => by
    unfold bools at h
    obtain ⟨y, q, rfl, h1, h2⟩ := r.inv
    cases e : bools xs with
    | none => rw [e] at h; cases h
    | some l => rw [e] at h; cases h; rw [h1.bl, bools_ok e h2]; rfl
  | .non :: _, _, _, h, _ => by cases h
  | .int _ :: _, _, _, h, _ => by cases h
  | .str _ :: _, _, _, h, _ => by cases h
  | .tup _ :: _, _, _, h, _ => by cases h
  | .lst _ :: _, _, _, h, _ => by cases h
  | .dic _ _ :: _, _, _, h, _ => by cases h
  | .ins _ _ _ :: _, _, _, h, _ => by cases h
  | .scr _ :: _, _, _, h, _ => by cases h
theorem c_all (hc : X.calm = true) : CallR X (.builtin "all") (rN X.K T vAll) := by
  intro pins s σ H xs us Q I r ⟨O, as, tr, va, q⟩
  unfold vAll at q
  split at q
  · rename_i ys
    cases e : bools ys with
    | none => rw [e] at q; exact q.elim
    | some bs =>
      rw [e] at q
      obtain ⟨x, rfl, h⟩ := va.one
      obtain ⟨p, vs, rfl, t, rr⟩ := h.lst
      have := bools_ok e rr
      subst this
      exact cr_all hc pins s σ H _ us Q I r ⟨p, bs, rfl, t.sq, q H _ (Hx.refl _) vr_bl⟩
  · exact q.elim
theorem c_any (hc : X.calm = true) : CallR X (.builtin "any") (rN X.K T vAny) := by
  intro pins s σ H xs us Q I r ⟨O, as, tr, va, q⟩
  unfold vAny at q
  split at q
  · rename_i ys
    cases e : bools ys with
    | none => rw [e] at q; exact q.elim
    | some bs =>
      rw [e] at q
      obtain ⟨x, rfl, h⟩ := va.one
      obtain ⟨p, vs, rfl, t, rr⟩ := h.lst
      have := bools_ok e rr
      subst this
      exact cr_any hc pins s σ H _ us Q I r ⟨p, bs, rfl, t.sq, q H _ (Hx.refl _) vr_bl⟩
  · exact q.elim
theorem o_is : OpR X (compareOp .Is) (r2 X.K T vIs) := by
  intro pins s σ H x y v u Q I rx ry ⟨O, a, b, tr, va, vb, q⟩
  unfold vIs at q
  split at q
  · cases vb.non
    refine op_isN pins s σ H _ _ v u Q I rx ry ⟨rfl, ?_⟩
    have : decide (x = V.non) = isNon a := by
      cases a with
      | non => cases va.non; rfl
      | bl b => cases va.bl; rfl
      | int b => cases va.int; rfl
      | str b => obtain ⟨z, rfl, _⟩ := va.str; rfl
      | tup b => obtain ⟨p, vs, rfl, _⟩ := va.tup; rfl
      | lst b => obtain ⟨p, vs, rfl, _⟩ := va.lst; rfl
      | dic ks vs => unfold VR at va; obtain ⟨p, kvs, rfl, _⟩ := va; rfl
      | ins c fs vs => unfold VR at va; obtain ⟨p, dx, fs', ws, rfl, _⟩ := va; rfl
      | scr ns => obtain ⟨p, rfl, _⟩ := va.scr; rfl
    rw [this]
    exact q H _ (Hx.refl _) vr_bl
  · cases va.bl
    cases vb.bl
    rename_i i j
    refine op_isBl pins s σ H _ _ v u Q I rx ry ⟨i, j, rfl, rfl, ?_⟩
    rw [show decide (i = j) = (i == j) by cases i <;> cases j <;> rfl]
    exact q H _ (Hx.refl _) vr_bl
  · exact q.elim
theorem o_isNot : OpR X (compareOp .IsNot) (r2 X.K T vIsNot) := by
  intro pins s σ H x y v u Q I rx ry ⟨O, a, b, tr, va, vb, q⟩
  unfold vIsNot at q
  split at q
  · cases vb.non
    refine op_notN pins s σ H _ _ v u Q I rx ry ⟨rfl, ?_⟩
    have : decide (x = V.non) = isNon a := by
      cases a with
      | non => cases va.non; rfl
      | bl b => cases va.bl; rfl
      | int b => cases va.int; rfl
      | str b => obtain ⟨z, rfl, _⟩ := va.str; rfl
      | tup b => obtain ⟨p, vs, rfl, _⟩ := va.tup; rfl
      | lst b => obtain ⟨p, vs, rfl, _⟩ := va.lst; rfl
      | dic ks vs => unfold VR at va; obtain ⟨p, kvs, rfl, _⟩ := va; rfl
      | ins c fs vs => unfold VR at va; obtain ⟨p, dx, fs', ws, rfl, _⟩ := va; rfl
      | scr ns => obtain ⟨p, rfl, _⟩ := va.scr; rfl
    rw [this]
    exact q H _ (Hx.refl _) vr_bl
  · cases va.bl
    cases vb.bl
    rename_i i j
    refine op_notBl pins s σ H _ _ v u Q I rx ry ⟨i, j, rfl, rfl, ?_⟩
    rw [show decide (i = j) = (i == j) by cases i <;> cases j <;> rfl]
    exact q H _ (Hx.refl _) vr_bl
  · exact q.elim
/-! ### subscripts, slices -/
theorem VRs.atI {K : PySem.W.Frag} {O : Own} {H : Hp} {xs : List Val} {vs : List V} {i : Int} {v : Val} (r : VRs K T O H xs vs) (h : atI xs i = some v) : ∃ x, L2.atI vs i = some x ∧ VR K T O H v x := by
  unfold L2.atI at h ⊢
  rw [← r.len]
  cases e : ixN xs.length i with
  | none => rw [e] at h; cases h
  | some j =>
    rw [e] at h
    exact r.get h
theorem ix_val : IxR X (r2 X.K T vIx) := by
  intro value slice pins s σ H x y v u Q I rx ry ⟨O, a, b, tr, va, vb, q⟩ hs
  unfold vIx at q
  split at q
  · rename_i xs i
    obtain ⟨p, vs, rfl, t, r⟩ := va.lst
    cases vb.int
    cases e : atI xs i with
    | none => rw [e] at q; exact q.elim
    | some w =>
      rw [e] at q
      obtain ⟨x, h1, h2⟩ := r.atI e
      exact ix_seq value slice pins s σ H _ _ v u Q I rx ry (.inl ⟨p, vs, i, x, rfl, rfl, t.sq, h1, q H _ (Hx.refl _) h2⟩) hs
  · rename_i xs i
    obtain ⟨p, vs, rfl, t, r⟩ := va.tup
    cases vb.int
    cases e : atI xs i with
    | none => rw [e] at q; exact q.elim
    | some w =>
      rw [e] at q
      obtain ⟨x, h1, h2⟩ := r.atI e
      exact ix_seq value slice pins s σ H _ _ v u Q I rx ry (.inr (.inl ⟨p, vs, i, x, rfl, rfl, t.sq, h1, q H _ (Hx.refl _) h2⟩)) hs
  · rename_i xs i
    split at q
    · rename_i hl
      obtain ⟨z, rfl, hz⟩ := va.str
      cases vb.int
      cases e : atI xs i with
      | none => rw [e] at q; exact q.elim
      | some w =>
        rw [e] at q
        exact ix_seq value slice pins s σ H _ _ v u Q I rx ry (.inr (.inr ⟨z, i, w, rfl, rfl, by rw [str_len, hz]; exact hl, by rw [hz]; exact e, q H _ (Hx.refl _) (by unfold VR; exact ⟨_, rfl, rfl⟩)⟩)) hs
    · exact q.elim
  · rename_i xs i
    obtain ⟨p, rfl, t⟩ := va.scr
    cases vb.int
    cases e : atI xs i with
    | none => rw [e] at q; exact q.elim
    | some w =>
      rw [e] at q
      have h1 : L2.atI (xs.map V.int) i = some (.int w) := by
        unfold L2.atI at e ⊢
        rw [List.length_map]
        cases e2 : ixN xs.length i with
        | none => rw [e2] at e; cases e
        | some j =>
          rw [e2] at e
          show (xs.map V.int)[j]? = _
          rw [List.getElem?_map]
          have e' : xs[j]? = some w := e
          rw [e']; rfl
      exact ix_seq value slice pins s σ H _ _ v u Q I rx ry (.inl ⟨p, _, i, _, rfl, rfl, t, h1, q H _ (Hx.refl _) vr_int⟩) hs
  · exact q.elim
theorem se_ix {a b : Expr} (ha : SE X T E mu io a ma) (hb : SE X T E mu io b mb) (hs : PlainIx b := by intro _ _; rfl) : SE X T E mu io (.Subscript a b pos) (e2 vIx ma mb) :=
  PE.imp (pe_ix ix_val ha hb hs) fun σ H Q h => e2_imp h
def pOm (K : PySem.W.Frag) (T : Tb) (E : XK) (mu : Nat → Bool) (io : List (Nat × V)) (O : Own) (σ : St) (H : Hp) (Q : Option Int → Hp → Prop) : R (Option Int × Fr) → Prop
  | .ok (b, fr') => ∀ O' H', Fm O H O' H' → Rl K T mu io O' fr' σ H' → Q b H'
  | .exc e => pEx K T E O H e
  | .bad => False
def rOm (K : PySem.W.Frag) (T : Tb) (E : XK) (mu : Nat → Bool) (io : List (Nat × V)) (m : OM) : TO := fun σ H Q => ∃ O fr, Rl K T mu io O fr σ H ∧ pOm K T E mu io O σ H Q (m fr)
theorem PO.imp {X : Cx} {e : Option Expr} {t t' : TO} (h : PO X e t) (w : ∀ σ H Q, t' σ H Q → t σ H Q) : PO X e t' := ⟨fun pins s σ H Q I q => h.run pins s σ H Q I (w σ H Q q)⟩
abbrev SOm (X : Cx) (T : Tb) (E : XK) (mu : Nat → Bool) (io : List (Nat × V)) (e : Option Expr) (m : OM) : Prop := PO X e (rOm X.K T E mu io m)
theorem som_n : SOm X T E mu io none oN := PO.imp po_none fun σ H Q ⟨O, fr, rl, q⟩ => q O H (Fm.refl _ _) rl
theorem som_s {a : Expr} (h : SE X T E mu io a ma) : SOm X T E mu io (some a) (oS ma) := PO.imp (po_some h) fun σ H Q ⟨O, fr, rl, q⟩ => by
  unfold oS at q
  refine ⟨O, fr, rl, ?_⟩
  cases h1 : ma fr with
  | bad => rw [h1] at q; exact q
  | exc e => rw [h1] at q; exact q
  | ok p =>
    obtain ⟨x, fr1⟩ := p
    rw [h1] at q
    intro O1 H1 x' F1 R1 V1
    simp only [SK.R.bind_ok] at q
    cases x with
    | int i => cases V1.int; exact ⟨i, rfl, q O1 H1 F1 R1⟩
    | _ => exact q.elim
theorem VRs.cut {K : PySem.W.Frag} {O : Own} {H : Hp} {xs : List Val} {vs : List V} (r : VRs K T O H xs vs) (lo hi : Option Int) : VRs K T O H (cutL xs lo hi) (cutV vs lo hi) := by
  unfold cutL cutV
  rw [r.len]
  exact (r.drop _).take _
theorem pOm.back {K : PySem.W.Frag} {O O1 : Own} {H H1 : Hp} {σ : St} (f : Fm O H O1 H1) {Q r} (h : pOm K T E mu io O σ H Q r) : pOm K T E mu io O1 σ H1 Q r := by
  cases r with
  | ok a => obtain ⟨v, fr'⟩ := a; exact fun O' H' g => h O' H' (f.trans g)
  | exc e => exact pEx.back f h
  | bad => exact h
def rSlV (K : PySem.W.Frag) (T : Tb) : V → Option Int → Option Int → Hp → VK → Prop := fun x lo hi H Q => ∃ O a, (∀ p, O p ≠ none → H p ≠ none) ∧ VR K T O H a x ∧ rV K T O H Q (vSl a lo hi)
theorem sl_val : L2.SlR X (rSlV X.K T) := by
  intro pins s σ H x v vl vu lo hi sl Q I rx hs pl pu ⟨O, a, tr, va, q⟩
  unfold vSl at q
  split at q
  · obtain ⟨p, vs, rfl, t, r⟩ := va.lst
    exact sl_list pins s σ H _ v vl vu lo hi sl Q I rx hs pl pu ⟨p, vs, rfl, t.sq, fun l hl => by obtain ⟨a, b⟩ := vr_new tr hl (r.cut lo hi); exact q _ _ a b⟩
  · rename_i xs
    obtain ⟨p, vs, rfl, t, r⟩ := va.tup
    refine sl_tupA pins s σ H _ v vl vu lo hi sl Q I rx hs pl pu ⟨p, vs, rfl, t.sq, fun hw => ?_, fun hw l hl => by obtain ⟨a, b⟩ := vr_newT tr hl (r.cut lo hi); exact q _ _ a b⟩
    have : cutL xs lo hi = xs := by
      unfold cutL
      rw [r.len, hw.1, hw.2]
      simp [r.len.symm]
    rw [this] at q
    exact q H _ (Hx.refl _) va
  · exact q.elim
theorem se_sl {a : Expr} {lo hi : Option Expr} {ml mh : OM} {p2 : Pos} (ha : SE X T E mu io a ma) (hl : SOm X T E mu io lo ml) (hu : SOm X T E mu io hi mh) : SE X T E mu io (.Subscript a (.Slice lo hi none p2) pos) (eSl ma ml mh) :=
  PE.imp (pe_slice sl_val ha hl hu) fun σ H Q ⟨O, fr, rl, q⟩ => by
    unfold eSl at q
    refine ⟨O, fr, rl, ?_⟩
    cases h1 : ma fr with
    | bad => rw [h1] at q; exact q
    | exc e => rw [h1] at q; exact q
    | ok p =>
      obtain ⟨x, fr1⟩ := p
      rw [h1] at q
      intro O1 H1 x' F1 R1 V1
      refine ⟨O1, fr1, R1, ?_⟩
      simp only [SK.R.bind_ok] at q
      cases h2 : ml fr1 with
      | bad => rw [h2] at q; exact q
      | exc e => rw [h2] at q; exact pEx.back F1 q
      | ok p =>
        obtain ⟨l, fr2⟩ := p
        rw [h2] at q
        intro O2 H2 F2 R2
        refine ⟨O2, fr2, R2, ?_⟩
        simp only [SK.R.bind_ok] at q
        cases h3 : mh fr2 with
        | bad => rw [h3] at q; exact q
        | exc e => rw [h3] at q; exact pEx.back (F1.trans F2) q
        | ok p =>
          obtain ⟨h, fr3⟩ := p
          rw [h3] at q
          intro O3 H3 F3 R3
          refine ⟨O3, x, R3.trk, VR.mono (F2.trans F3) _ _ V1, ?_⟩
          simp only [SK.R.bind_ok] at q
          cases h4 : vSl x l h with
          | none => rw [h4] at q; exact q.elim
          | some w =>
            rw [h4] at q
            exact fun H4 y X4 V4 => q O3 H4 y (((F1.trans F2).trans F3).trans X4.fm) (R3.hx X4) V4
/-! ### what is walked -/
theorem walks_str {K : PySem.W.Frag} {O : Own} {H : Hp} {z : Str} : Walks K T (Its z) (z.cps.toList.map fun c => .str [c]) O H := fun O' H' f _ tr i =>
  ⟨fun hl => by rw [List.length_map] at hl; show z.cps.size ≤ i; simpa using hl, fun v hv => by
    rw [List.getElem?_map] at hv
    cases e : z.cps.toList[i]? with
    | none => rw [e] at hv; cases hv
    | some c =>
      rw [e] at hv
      cases hv
      have hi : i < z.cps.size := by have := (List.getElem?_eq_some_iff.mp e).1; simpa using this
      refine ⟨hi, fun y H'' ⟨e1, c', h1, h2⟩ => ?_⟩
      subst e1
      subst h2
      refine ⟨Hx.refl _, ?_⟩
      unfold VR
      refine ⟨_, rfl, ?_⟩
      have : z.cps.toList[i]? = some c' := by simpa using h1
      rw [e] at this
      cases this
      rfl⟩
theorem si_it {tg : Expr} (he : SE X T E mu io e ma) : SI X T E mu io tg e (iIt ma) := by
  refine ⟨fun pins s σ H Q I ⟨O, fr, rl, q⟩ => ?_⟩
  unfold iIt at q
  cases h : ma fr with
  | bad => rw [h] at q; exact q.elim
  | exc e' =>
    rw [h] at q
    exact (pi_list he).run pins s σ H Q I ⟨O, fr, rl, by rw [h]; exact q⟩
  | ok p =>
    obtain ⟨v, fr1⟩ := p
    rw [h] at q
    simp only [SK.R.bind_ok] at q
    cases v with
    | lst xs =>
      refine (pi_list he).run pins s σ H Q I ⟨O, fr, rl, by
        rw [h]
        intro O1 H1 x F1 R1 V1
        obtain ⟨a, vs, e1, t, r⟩ := V1.lst
        exact ⟨a, e1, ⟨vs, SqL.fm t (Fb.refl _ _)⟩, q O1 H1 _ F1 R1 (walks_lst t r)⟩⟩
    | tup xs =>
      refine (pi_tup he).run pins s σ H Q I ⟨O, fr, rl, by
        rw [h]
        intro O1 H1 x F1 R1 V1
        obtain ⟨a, vs, e1, t, r⟩ := V1.tup
        exact ⟨a, e1, ⟨vs, SqT.fm t (Fb.refl _ _)⟩, q O1 H1 _ F1 R1 (walks_tup t r)⟩⟩
    | str xs =>
      refine (pi_str he).run pins s σ H Q I ⟨O, fr, rl, by
        rw [h]
        intro O1 H1 x F1 R1 V1
        obtain ⟨z, rfl, hz⟩ := V1.str
        subst hz
        exact ⟨z, rfl, q O1 H1 _ F1 R1 walks_str⟩⟩
    | _ => exact q.elim
theorem walks_rng {K : PySem.W.Frag} {O : Own} {H : Hp} {n : Nat} {lo : Int} : Walks K T (Itr lo n) ((List.range n).map fun i => .int (lo + (i : Nat))) O H := fun O' H' f _ tr i =>
  ⟨fun hl => by rw [List.length_map, List.length_range] at hl; exact hl, fun v hv => by
    have hi : i < n := by
      have := (List.getElem?_eq_some_iff.mp hv).1
      simpa using this
    refine ⟨hi, fun y H'' ⟨e1, e2⟩ => ?_⟩
    subst e1
    subst e2
    refine ⟨Hx.refl _, ?_⟩
    rw [List.getElem?_map, List.getElem?_range hi] at hv
    cases hv
    exact vr_int⟩
theorem si_rg1 {tg : Expr} {p : Pos} (hg : Gl X "range" := by rfl) (hm : X.mg "range" = none) (ha : SA X T E mu io [e] ms) (hs : starEach [e] X.env = [(false, eval e X.env)] := by rfl) : SI X T E mu io tg (.Call (.Name "range" p) [e] [] pos) (iRg ms) := by
  refine ⟨fun pins s σ H Q I ⟨O, fr, rl, q⟩ => ?_⟩
  refine (pi_range1 hg hm ha hs).run pins s σ H Q I ⟨O, fr, rl, ?_⟩
  unfold iRg at q
  cases h : ms fr with
  | bad => rw [h] at q; exact q
  | exc e' => rw [h] at q; exact q
  | ok p =>
    obtain ⟨xs, fr1⟩ := p
    rw [h] at q
    intro O1 H1 vs F1 R1 V1
    simp only [SK.R.bind_ok] at q
    split at q
    · rename_i n
      split at q
      · rename_i hb
        obtain ⟨x, rfl, hx⟩ := V1.one
        cases hx.int
        refine ⟨n, rfl, hb.1, hb.2, q O1 H1 _ F1 R1 ?_⟩
        have := walks_rng (K := X.K) (T := T) (O := O1) (H := H1) (n := n.toNat) (lo := 0)
        unfold rngL
        simpa using this
      · exact q.elim
    · exact q.elim
theorem si_rg2 {tg e2 : Expr} {p : Pos} (hg : Gl X "range" := by rfl) (hm : X.mg "range" = none) (ha : SA X T E mu io [e, e2] ms) (hs : starEach [e, e2] X.env = [(false, eval e X.env), (false, eval e2 X.env)] := by rfl) (hs2 : starEach [e2] X.env = [(false, eval e2 X.env)] := by rfl) : SI X T E mu io tg (.Call (.Name "range" p) [e, e2] [] pos) (iRg2 ms) := by
  refine ⟨fun pins s σ H Q I ⟨O, fr, rl, q⟩ => ?_⟩
  refine (pi_range2 hg hm ha hs hs2).run pins s σ H Q I ⟨O, fr, rl, ?_⟩
  unfold iRg2 at q
  cases h : ms fr with
  | bad => rw [h] at q; exact q
  | exc e' => rw [h] at q; exact q
  | ok p =>
    obtain ⟨xs, fr1⟩ := p
    rw [h] at q
    intro O1 H1 vs F1 R1 V1
    simp only [SK.R.bind_ok] at q
    split at q
    · rename_i m n
      split at q
      · rename_i hb
        obtain ⟨x, y, rfl, hx, hy⟩ := V1.two
        cases hx.int
        cases hy.int
        exact ⟨m, n, rfl, hb, q O1 H1 _ F1 R1 walks_rng⟩
      · exact q.elim
    · exact q.elim
theorem enL_get : ∀ {xs : List Val} {k i : Nat}, (enL k xs)[i]? = (xs[i]?).map fun x => .tup [.int ((k + i : Nat) : Int), x]
  | [], k, i => rfl
  | x :: xs, k, 0 => rfl
  | x :: xs, k, i + 1 => by
    show (enL (k + 1) xs)[i]? = _
    rw [enL_get, show k + 1 + i = k + (i + 1) from by omega]
    rfl
theorem enL_len : ∀ {xs : List Val} {k : Nat}, (enL k xs).length = xs.length
  | [], _ => rfl
  | x :: xs, k => by show (enL (k + 1) xs).length + 1 = _; rw [enL_len]; rfl
theorem walks_enum {K : PySem.W.Frag} {O : Own} {H : Hp} {a : Addr} {vs xs} (t : LstAt O H a vs) (r : VRs K T O H xs vs) : Walks K T (Ite K a) (enL 0 xs) O H := fun O' H' f _ tr i =>
  ⟨fun hl => ⟨vs, SqL.fm t f, by rw [enL_len, r.len] at hl; exact hl⟩, fun v hv => by
    rw [enL_get] at hv
    cases e : xs[i]? with
    | none => rw [e] at hv; cases hv
    | some w =>
      rw [e] at hv
      cases hv
      obtain ⟨x, h1, h2⟩ := r.get e
      refine ⟨⟨vs, x, SqL.fm t f, h1⟩, fun y H'' ⟨T', x', e1, e2, e3, hy⟩ => ?_⟩
      subst e1
      subst e3
      have := hy vs (SqL.fm t f)
      rw [h1] at this
      cases this
      rw [Nat.zero_add]
      exact vr_newT tr e2 (.cons vr_int (.cons (VR.monoB f _ _ h2) .nil))⟩
theorem si_en {elts : List Expr} {kk : Nat} {tpos p : Pos} (hg : Gl X "enumerate" := by rfl) (hm : X.mg "enumerate" = none) (ha : SA X T E mu io [e] ms) (hs : starEach [e] X.env = [(false, eval e X.env)] := by rfl) : SI X T E mu io (.Tuple elts kk tpos) (.Call (.Name "enumerate" p) [e] [] pos) (iEn ms) := by
  refine ⟨fun pins s σ H Q I ⟨O, fr, rl, q⟩ => ?_⟩
  refine (pi_enum hg hm ha hs).run pins s σ H Q I ⟨O, fr, rl, ?_⟩
  unfold iEn at q
  cases h : ms fr with
  | bad => rw [h] at q; exact q
  | exc e' => rw [h] at q; exact q
  | ok p =>
    obtain ⟨xs, fr1⟩ := p
    rw [h] at q
    intro O1 H1 vs F1 R1 V1
    simp only [SK.R.bind_ok] at q
    split at q
    · obtain ⟨x, rfl, hx⟩ := V1.one
      obtain ⟨a, vs, rfl, t, r⟩ := hx.lst
      exact ⟨a, vs, rfl, t.sq, q O1 H1 _ F1 R1 (walks_enum t r)⟩
    · exact q.elim
theorem zipL_get : ∀ {xs ys : List Val} {i : Nat}, (zipL xs ys)[i]? = (match xs[i]?, ys[i]? with | some x, some y => some (.tup [x, y]) | _, _ => none)
  | [], ys, i => by simp [zipL]
  | x :: xs, [], i => by
    show ([] : List Val)[i]? = _
    cases i with
    | zero => rfl
    | succ i => cases h : (x :: xs)[i + 1]? <;> rfl
  | x :: xs, y :: ys, 0 => rfl
  | x :: xs, y :: ys, i + 1 => by
    show (zipL xs ys)[i]? = _
    rw [zipL_get]
    rfl
theorem zipL_len : ∀ {xs ys : List Val}, (zipL xs ys).length = min xs.length ys.length
  | [], ys => by simp [zipL]
  | x :: xs, [] => by simp [zipL]
  | x :: xs, y :: ys => by show (zipL xs ys).length + 1 = _; rw [zipL_len]; simp only [List.length_cons]; omega
theorem walks_zip {K : PySem.W.Frag} {O : Own} {H : Hp} {a b : Addr} {vs ws xs ys} (t : LstAt O H a vs) (r : VRs K T O H xs vs) (t' : LstAt O H b ws) (r' : VRs K T O H ys ws) : Walks K T (Itz K a b) (zipL xs ys) O H := fun O' H' f _ tr i =>
  ⟨fun hl => ⟨vs, ws, SqL.fm t f, SqL.fm t' f, by rw [zipL_len, r.len, r'.len] at hl; omega⟩, fun v hv => by
    rw [zipL_get] at hv
    cases e : xs[i]? with
    | none => rw [e] at hv; cases hv
    | some w =>
      cases e' : ys[i]? with
      | none => rw [e, e'] at hv; cases hv
      | some w' =>
        rw [e, e'] at hv
        cases hv
        obtain ⟨x, h1, h2⟩ := r.get e
        obtain ⟨x', h1', h2'⟩ := r'.get e'
        refine ⟨⟨vs, ws, x, x', SqL.fm t f, SqL.fm t' f, h1, h1'⟩, fun y H'' ⟨T', z, z', e1, e2, e3, hy, hy'⟩ => ?_⟩
        subst e1
        subst e3
        have g1 := hy vs (SqL.fm t f)
        have g2 := hy' ws (SqL.fm t' f)
        rw [h1] at g1
        rw [h1'] at g2
        cases g1
        cases g2
        exact vr_newT tr e2 (.cons (VR.monoB f _ _ h2) (.cons (VR.monoB f _ _ h2') .nil))⟩
theorem walks_zipT {K : PySem.W.Frag} {O : Own} {H : Hp} {a b : Addr} {vs ws xs ys} (t : TupAt K O H a vs) (r : VRs K T O H xs vs) (t' : TupAt K O H b ws) (r' : VRs K T O H ys ws) : Walks K T (ItzT K a b) (zipL xs ys) O H := fun O' H' f _ tr i =>
  ⟨fun hl => ⟨vs, ws, SqT.fm t f, SqT.fm t' f, by rw [zipL_len, r.len, r'.len] at hl; omega⟩, fun v hv => by
    rw [zipL_get] at hv
    cases e : xs[i]? with
    | none => rw [e] at hv; cases hv
    | some w =>
      cases e' : ys[i]? with
      | none => rw [e, e'] at hv; cases hv
      | some w' =>
        rw [e, e'] at hv
        cases hv
        obtain ⟨x, h1, h2⟩ := r.get e
        obtain ⟨x', h1', h2'⟩ := r'.get e'
        refine ⟨⟨vs, ws, x, x', SqT.fm t f, SqT.fm t' f, h1, h1'⟩, fun y H'' ⟨T', z, z', e1, e2, e3, hy, hy'⟩ => ?_⟩
        subst e1
        subst e3
        have g1 := hy vs (SqT.fm t f)
        have g2 := hy' ws (SqT.fm t' f)
        rw [h1] at g1
        rw [h1'] at g2
        cases g1
        cases g2
        exact vr_newT tr e2 (.cons (VR.monoB f _ _ h2) (.cons (VR.monoB f _ _ h2') .nil))⟩
theorem si_zp {e2 : Expr} {elts : List Expr} {kk : Nat} {tpos p : Pos} (hg : Gl X "zip" := by rfl) (hm : X.mg "zip" = none) (ha : SA X T E mu io [e, e2] ms) (hs : starEach [e, e2] X.env = (false, eval e X.env) :: starEach [e2] X.env := by rfl) (hpl : (backTo pos (starEach [e2] X.env)).any (·.1) = false := by rfl) :
    SI X T E mu io (.Tuple elts kk tpos) (.Call (.Name "zip" p) [e, e2] [] pos) (iZp ms) := by
  refine ⟨fun pins s σ H Q I ⟨O, fr, rl, q⟩ => ?_⟩
  refine (pi_zipA hg hm ha hs hpl).run pins s σ H Q I ⟨O, fr, rl, ?_⟩
  unfold iZp at q
  cases h : ms fr with
  | bad => rw [h] at q; exact q
  | exc e' => rw [h] at q; exact q
  | ok p =>
    obtain ⟨xs, fr1⟩ := p
    rw [h] at q
    intro O1 H1 vs F1 R1 V1
    simp only [SK.R.bind_ok] at q
    split at q
    · obtain ⟨x, y, rfl, hx, hy⟩ := V1.two
      obtain ⟨a, vs, rfl, t, r⟩ := hx.lst
      obtain ⟨b, ws, rfl, t', r'⟩ := hy.lst
      exact ⟨a, b, vs, ws, rfl, .inl ⟨t.sq, t'.sq, q O1 H1 _ F1 R1 (walks_zip t r t' r')⟩⟩
    · obtain ⟨x, y, rfl, hx, hy⟩ := V1.two
      obtain ⟨a, vs, rfl, t, r⟩ := hx.tup
      obtain ⟨b, ws, rfl, t', r'⟩ := hy.tup
      exact ⟨a, b, vs, ws, rfl, .inr ⟨t.sq, t'.sq, q O1 H1 _ F1 R1 (walks_zipT t r t' r')⟩⟩
    · exact q.elim
end
end SK

set_option maxHeartbeats 1000000
/-! SK8: slots that are read where they stand, lists and dicts that are owned. -/
namespace SK
open PySem L2

/-! ### what stands in a slot, whoever owns it -/
section
variable (K : PySem.W.Frag) (T : Tb) (O : Own) (H : Hp)
def TpL (v : Val) (x : V) : Prop := VR K T O H v x ∨ ∃ w, OwL K T O H w v x
def TFs (c : Nat) : List Nat → List Val → List V → Prop
  | f :: fs, v :: vs, w :: ws => (if T.own c f = true then TpL K T O H v w else VR K T O H v w) ∧ TFs c fs vs ws
  | [], [], [] => True
  | _, _, _ => False
def TpI : Val → V → Prop
  | .ins c fs vs, x => ∃ a dx fs' ws, x = .ref a ∧ H a = some (.ins (T.cl c) dx fs') ∧ FsR T fs ws fs' ∧ TFs K T O H c fs vs ws
  | _, _ => False
def TpR (v : Val) (x : V) : Prop := TpL K T O H v x ∨ TpI K T O H v x
end
section
variable {K : PySem.W.Frag} {T : Tb} {O : Own} {H : Hp} {mu : Nat → Bool} {io : List (Nat × V)}
theorem FRs.tp {c i : Nat} : ∀ {fs vs ws}, FRs K T O H c i fs vs ws → TFs K T O H c fs vs ws
  | [], [], [], _ => trivial
  | g :: fs, v :: vs, w :: ws, ⟨a, b⟩ => by
    refine ⟨?_, b.tp⟩
    by_cases h : T.own c g = true
    · rw [if_pos h] at a ⊢; exact .inr ⟨_, a⟩
    · rw [if_neg h] at a ⊢; exact a
  | [], _ :: _, _, h => h.elim
  | [], [], _ :: _, h => h.elim
  | _ :: _, [], _, h => h.elim
  | _ :: _, _ :: _, [], h => h.elim
theorem BFs.tp {c : Nat} : ∀ {fs vs ws}, BFs K T O H c fs vs ws → TFs K T O H c fs vs ws
  | [], [], [], _ => trivial
  | g :: fs, v :: vs, w :: ws, ⟨a, b⟩ => by
    refine ⟨?_, b.tp⟩
    by_cases h : T.own c g = true
    · rw [if_pos h] at a ⊢
      rcases a with a | a
      · exact .inl a
      · exact .inr ⟨_, a⟩
    · rw [if_neg h] at a ⊢; exact a
  | [], _ :: _, _, h => h.elim
  | [], [], _ :: _, h => h.elim
  | _ :: _, [], _, h => h.elim
  | _ :: _, _ :: _, [], h => h.elim
theorem VRs.tf {c : Nat} : ∀ {fs : List Nat} {vs ws}, fs.length = ws.length → VRs K T O H vs ws → TFs K T O H c fs vs ws
  | [], vs, ws, hl, r => by
    cases ws with
    | nil => cases vs with
      | nil => trivial
      | cons v vs => obtain ⟨y, q, e, _⟩ := r.inv; cases e
    | cons w ws => cases hl
  | f :: fs, vs, ws, hl, r => by
    cases vs with
    | nil => rw [r.inv0] at hl; cases hl
    | cons v vs =>
      obtain ⟨y, q, rfl, a, b⟩ := r.inv
      refine ⟨?_, b.tf (by simpa using hl)⟩
      split
      · exact .inl a
      · exact a
theorem OwR.tp {i : Nat} : ∀ {v x}, OwR K T O H i v x → TpR K T O H v x
  | .ins c fs vs, x, ⟨a, dx, fs', ws, e, o, h, q, r⟩ => .inr ⟨a, dx, fs', ws, e, h, q, r.tp⟩
  | .lst xs, x, h => .inl (.inr ⟨_, (show OwL K T O H (.sl i) (.lst xs) x from h)⟩)
  | .dic ks ws, x, h => .inl (.inr ⟨_, (show OwL K T O H (.sl i) (.dic ks ws) x from h)⟩)
  | .non, _, h => h.elim
  | .bl _, _, h => h.elim
  | .int _, _, h => h.elim
  | .str _, _, h => h.elim
  | .tup _, _, h => h.elim
  | .scr _, _, h => h.elim
theorem LdI.tp : ∀ {v x}, LdI K T O H v x → TpI K T O H v x
  | .ins c fs vs, x, ⟨a, dx, fs', ws, e, o, h, q, r⟩ => ⟨a, dx, fs', ws, e, h, q, r.tp⟩
  | .non, _, h => h.elim
  | .bl _, _, h => h.elim
  | .int _, _, h => h.elim
  | .str _, _, h => h.elim
  | .tup _, _, h => h.elim
  | .lst _, _, h => h.elim
  | .dic _ _, _, h => h.elim
  | .scr _, _, h => h.elim
theorem Rl.tp {fr : Fr} {σ : St} (rl : Rl K T mu io O fr σ H) {i : Nat} {v : Val} (e : ∃ v0, fr[i]? = some (some v0) ∧ unfz v0 = v) : ∃ x, σ[i]? = some (some x) ∧ TpR K T O H v x := by
  obtain ⟨v, e, rfl⟩ := e
  obtain ⟨x, h1, h2⟩ := rl.sl i v e
  refine ⟨x, h1, ?_⟩
  unfold SlR at h2
  split at h2
  · split at h2
    · exact .inl (.inl h2)
    · rename_i z
      rw [unfz_not (by simpa using z)]
      exact h2.tp
  · split at h2
    · rw [unfz_not (BoR.nf h2)]
      rcases h2 with (h2 | h2) | h2
      · exact .inl (.inl h2)
      · exact .inl (.inr ⟨_, h2⟩)
      · exact .inr h2.tp
    · rw [unfz_not h2.nf]
      exact .inl (.inl h2)
/-- as if nobody owned anything -/
def ON : Own := fun _ => none
theorem on_fb : Fb O H ON H := fun a o h n => ⟨h, rfl⟩
theorem on_trk : ∀ a, ON a ≠ none → H a ≠ none := fun a n => absurd rfl n
theorem OwL.on {w : Ow} : ∀ {v x}, OwL K T O H w v x → VR K T ON H v x
  | .lst xs, x, ⟨a, vs, e, o, h, r⟩ => by unfold VR; exact ⟨a, vs, e, ⟨h, rfl⟩, r.monoB on_fb⟩
  | .dic ks ws, x, ⟨a, kvs, e, o, h, q, r⟩ => by unfold VR; exact ⟨a, kvs, e, .inl ⟨h, rfl⟩, q, r.monoB on_fb⟩
  | .non, _, h => h.elim
  | .bl _, _, h => h.elim
  | .int _, _, h => h.elim
  | .str _, _, h => h.elim
  | .tup _, _, h => h.elim
  | .ins _ _ _, _, h => h.elim
  | .scr _, _, h => h.elim
theorem TpL.on {v x} (h : TpL K T O H v x) : VR K T ON H v x := by
  rcases h with h | ⟨w, h⟩
  · exact h.monoB on_fb
  · exact h.on
theorem TFs.on {c : Nat} : ∀ {fs vs ws}, TFs K T O H c fs vs ws → VRs K T ON H vs ws
  | [], [], [], _ => VRs.nil
  | g :: fs, v :: vs, w :: ws, ⟨a, b⟩ => by
    refine VRs.cons ?_ b.on
    by_cases h : T.own c g = true
    · rw [if_pos h] at a; exact a.on
    · rw [if_neg h] at a; exact a.monoB on_fb
  | [], _ :: _, _, h => h.elim
  | [], [], _ :: _, h => h.elim
  | _ :: _, [], _, h => h.elim
  | _ :: _, _ :: _, [], h => h.elim
theorem TpI.on : ∀ {v x}, TpI K T O H v x → VR K T ON H v x
  | .ins c fs vs, x, ⟨a, dx, fs', ws, e, h, q, r⟩ => by unfold VR; exact ⟨a, dx, fs', ws, e, h, rfl, q, r.on⟩
  | .non, _, h => h.elim
  | .bl _, _, h => h.elim
  | .int _, _, h => h.elim
  | .str _, _, h => h.elim
  | .tup _, _, h => h.elim
  | .lst _, _, h => h.elim
  | .dic _ _, _, h => h.elim
  | .scr _, _, h => h.elim
theorem TpR.on {v x} (h : TpR K T O H v x) : VR K T ON H v x := by
  rcases h with h | h
  · exact h.on
  · exact h.on
/-- a plain value -/
def flt : Val → Bool
  | .non => true
  | .bl _ => true
  | .int _ => true
  | .str _ => true
  | _ => false
theorem VR.flat {O' : Own} {H' : Hp} : ∀ {v x}, flt v = true → VR K T O H v x → VR K T O' H' v x
  | .non, _, _, h => by unfold VR at h ⊢; exact h
  | .bl _, _, _, h => by unfold VR at h ⊢; exact h
  | .int _, _, _, h => by unfold VR at h ⊢; exact h
  | .str _, _, _, h => by unfold VR at h ⊢; exact h
  | .lst _, _, f, _ => by cases f
  | .tup _, _, f, _ => by cases f
  | .dic _ _, _, f, _ => by cases f
  | .ins _ _ _, _, f, _ => by cases f
  | .scr _, _, f, _ => by cases f
/-- a list in a slot -/
theorem TpR.lst {xs : List Val} {x : V} (h : TpR K T O H (.lst xs) x) : ∃ a vs, x = .ref a ∧ H a = some (.lst vs) ∧ VRs K T O H xs vs := by
  rcases h with (h | ⟨w, a, vs, e, o, h, r⟩) | h
  · obtain ⟨a, vs, e, t, r⟩ := h.lst; exact ⟨a, vs, e, t.1, r⟩
  · exact ⟨a, vs, e, h, r⟩
  · exact h.elim
theorem TpR.dic {ks vs : List Val} {x : V} (h : TpR K T O H (.dic ks vs) x) : ∃ a kvs, x = .ref a ∧ (H a = some (.dK kvs) ∨ T.kd a kvs) ∧ ks = kvs.map (fun p => kVal p.1) ∧ VRs K T O H vs (kvs.map (·.2)) := by
  rcases h with (h | ⟨w, a, kvs, e, o, h, q, r⟩) | h
  · unfold VR at h
    obtain ⟨a, kvs, e, t, q, r⟩ := h
    refine ⟨a, kvs, e, ?_, q, r⟩
    rcases t with t | t
    · exact .inl t.1
    · exact .inr t
  · exact ⟨a, kvs, e, .inl h, q, r⟩
  · exact h.elim
theorem TpR.val : ∀ {v x}, TpR K T O H v x → (match v with | .lst _ => False | .dic _ _ => False | .ins _ _ _ => False | _ => True) → VR K T O H v x
  | v, x, .inl (.inl h), _ => h
  | .lst _, _, _, h => h.elim
  | .dic _ _, _, _, h => h.elim
  | .ins _ _ _, _, _, h => h.elim
  | .non, _, .inl (.inr ⟨w, h⟩), _ => h.elim
  | .bl _, _, .inl (.inr ⟨w, h⟩), _ => h.elim
  | .int _, _, .inl (.inr ⟨w, h⟩), _ => h.elim
  | .str _, _, .inl (.inr ⟨w, h⟩), _ => h.elim
  | .tup _, _, .inl (.inr ⟨w, h⟩), _ => h.elim
  | .scr _, _, .inl (.inr ⟨w, h⟩), _ => h.elim
  | .non, _, .inr h, _ => h.elim
  | .bl _, _, .inr h, _ => h.elim
  | .int _, _, .inr h, _ => h.elim
  | .str _, _, .inr h, _ => h.elim
  | .tup _, _, .inr h, _ => h.elim
  | .scr _, _, .inr h, _ => h.elim
end

/-! ### the functions -/
def getS (fr : Fr) (i : Nat) : R Val := match fr[i]? with
  | some (some v) => .ok (unfz v)
  | _ => .bad
def flO (v : Option Val) : R Val := match v with
  | some w => if flt w = true then .ok w else .bad
  | none => .bad
/-- slot op e, e op slot, slot op slot: a plain answer -/
def e2L (f : Val → Val → Option Val) (i : Nat) (b : EM) : EM := fun fr => (getS fr i).bind fun _ => (b fr).bind fun y => (getS y.2 i).bind fun v => (flO (f v y.1)).bind fun w => .ok (w, y.2)
def e2R (f : Val → Val → Option Val) (a : EM) (i : Nat) : EM := fun fr => (a fr).bind fun x => (getS x.2 i).bind fun v => (flO (f x.1 v)).bind fun w => .ok (w, x.2)
def e2S (f : Val → Val → Option Val) (i j : Nat) : EM := fun fr => (getS fr i).bind fun x => (getS fr j).bind fun v => (flO (f x v)).bind fun w => .ok (w, fr)
/-- f(slot): a plain answer -/
def eNS (f : List Val → Option Val) (i : Nat) : EM := fun fr => (getS fr i).bind fun v => (flO (f [v])).bind fun w => .ok (w, fr)
/-- a plain value that stands in a slot for reading -/
def eVp (i : Nat) : EM := fun fr => (getS fr i).bind fun v => match v with
  | .lst _ => .bad
  | .dic _ _ => .bad
  | .ins _ _ _ => .bad
  | v => .ok (v, fr)
/-- a test of a slot -/
def tVS (i : Nat) : TM := fun fr => (getS fr i).bind fun v => (ofO (truth v)).bind fun b => .ok (b, fr)
/-- slot[e] of a list -/
def eIxS (i : Nat) (b : EM) : EM := fun fr => (getS fr i).bind fun _ => (b fr).bind fun y => (getS y.2 i).bind fun v => (ofO (vIx v y.1)).bind fun w => .ok (w, y.2)
def eApp (i : Nat) (a : EM) : EM := fun fr => match fr[i]? with
  | some (some (.lst _)) => (a fr).bind fun y => match y.2[i]? with
    | some (some (.lst xs)) => if xs.length < 16777216 then .ok (.non, y.2.set i (some (.lst (xs ++ [y.1])))) else .bad
    | _ => .bad
  | _ => .bad
def eExt (i : Nat) (a : EM) : EM := fun fr => match fr[i]? with
  | some (some (.lst _)) => (a fr).bind fun y => match y.1, y.2[i]? with
    | .lst zs, some (some (.lst xs)) => if xs.length + zs.length ≤ 16777216 then .ok (.non, y.2.set i (some (.lst (xs ++ zs)))) else .bad
    | _, _ => .bad
  | _ => .bad
def ePop (i : Nat) : EM := fun fr => match fr[i]? with
  | some (some (.lst xs)) => (ofO xs[xs.length - 1]?).bind fun v => .ok (v, fr.set i (some (.lst xs.dropLast)))
  | _ => .bad
def ePopA (i : Nat) (a : EM) : EM := fun fr => match fr[i]? with
  | some (some (.lst _)) => (a fr).bind fun y => match y.1, y.2[i]? with
    | .int k, some (some (.lst xs)) => if -(2 ^ 63) ≤ k ∧ k < 2 ^ 63 then (match seqIndex? k xs.length with
      | some j => (ofO xs[j]?).bind fun v => .ok (v, y.2.set i (some (.lst (xs.eraseIdx j))))
      | none => .bad) else .bad
    | _, _ => .bad
  | _ => .bad
def eClr (i : Nat) : EM := fun fr => match fr[i]? with
  | some (some (.lst _)) => .ok (.non, fr.set i (some (.lst [])))
  | _ => .bad
/-- slot[e] = v of a list -/
def sSetL (i : Nat) (v b : EM) : SM := fun fr => (v fr).bind fun x => (getS x.2 i).bind fun _ => (b x.2).bind fun y => match y.1, y.2[i]? with
  | .int k, some (some (.lst xs)) => (match ixN xs.length k with
    | some j => .ok (.nx, y.2.set i (some (.lst (xs.set j x.1))))
    | none => .bad)
  | _, _ => .bad

section
variable {X : Cx} {T : Tb} {E : XK} {mu : Nat → Bool} {io : List (Nat × V)} {e : Expr} {es : List Expr} {ma mb : EM} {ms : AM} {pos : Pos}
/-- a name, read where it stands -/
structure Sl (X : Cx) (i : Nat) (x : Str) : Prop where
  hN : X.N[i]? = some x
  hv : Vis X.env.scope x
  hd : (x == ("__debug__" : Str)) = false
  hcd : (x == ("__classdict__" : Str)) = false
/-- the common end: a plain answer of an operation on ON -/
theorem r2_on {K : PySem.W.Frag} {O : Own} {H : Hp} {fr : Fr} {σ : St} {f : Val → Val → Option Val} {a b : Val} {x y : V} {Q : VK} (rl : Rl K T mu io O fr σ H) (va : VR K T ON H a x) (vb : VR K T ON H b y) (q : ∀ w H' z, f a b = some w → flt w = true → Hx H H' → VR K T O H' w z → Q z H') (h : ∃ w, flO (f a b) = .ok w) : r2 K T f x y H Q := by
  refine ⟨ON, a, b, on_trk, va, vb, ?_⟩
  obtain ⟨w, h⟩ := h
  unfold flO at h
  split at h
  · rename_i w' e
    split at h
    · rename_i hf
      cases h
      rw [e]
      exact fun H' z X' V' => q _ H' z e hf X' (V'.flat hf)
    · cases h
  · cases h
theorem flO_ok {v : Option Val} {w : Val} (h : flO v = .ok w) : v = some w ∧ flt w = true := by
  unfold flO at h
  split at h
  · split at h
    · rename_i hf; cases h; exact ⟨rfl, hf⟩
    · cases h
  · cases h
theorem flO_cases (v : Option Val) : (∃ w, flO v = .ok w) ∨ flO v = .bad := by
  unfold flO
  split
  · split
    · exact .inl ⟨_, rfl⟩
    · exact .inr rfl
  · exact .inr rfl
theorem getS_cases (fr : Fr) (i : Nat) : (∃ v, (∃ v0, fr[i]? = some (some v0) ∧ unfz v0 = v) ∧ getS fr i = .ok v) ∨ getS fr i = .bad := by
  unfold getS
  split
  · rename_i v hv; exact .inl ⟨_, ⟨v, hv, rfl⟩, rfl⟩
  · exact .inr rfl
theorem e2L_imp {K : PySem.W.Frag} {f : Val → Val → Option Val} {i : Nat} {σ : St} {H : Hp} {Q : VK} (h : rE K T E mu io (e2L f i mb) σ H Q) : tOp (r2 K T f) (tVar i) (rE K T E mu io mb) σ H Q := by
  obtain ⟨O, fr, rl, q⟩ := h
  unfold e2L at q
  rcases getS_cases fr i with ⟨v0, e0, e1⟩ | e1
  · rw [e1] at q
    obtain ⟨x, hx, _⟩ := rl.tp e0
    refine ⟨x, hx, O, fr, rl, ?_⟩
    simp only [SK.R.bind_ok] at q
    cases h2 : mb fr with
    | bad => rw [h2] at q; exact q
    | exc e => rw [h2] at q; exact q
    | ok p =>
      obtain ⟨y, fr2⟩ := p
      rw [h2] at q
      intro O2 H2 y' F2 R2 V2
      simp only [SK.R.bind_ok] at q
      rcases getS_cases fr2 i with ⟨v, e2, e3⟩ | e3
      · rw [e3] at q
        obtain ⟨x', hx', tp⟩ := R2.tp e2
        rw [hx] at hx'
        cases hx'
        simp only [SK.R.bind_ok] at q
        rcases flO_cases (f v y) with ⟨w, e4⟩ | e4
        · rw [e4] at q
          refine r2_on R2 tp.on (V2.monoB on_fb) (fun w' H' z e5 hf X' V' => ?_) ⟨w, e4⟩
          have := (flO_ok e4).1
          rw [e5] at this
          cases this
          exact q O2 H' z (F2.trans X'.fm) (R2.hx X') V'
        · rw [e4] at q; exact q.elim
      · rw [e3] at q; exact q.elim
  · rw [e1] at q; exact q.elim
theorem e2R_imp {K : PySem.W.Frag} {f : Val → Val → Option Val} {i : Nat} {σ : St} {H : Hp} {Q : VK} (h : rE K T E mu io (e2R f ma i) σ H Q) : tOp (r2 K T f) (rE K T E mu io ma) (tVar i) σ H Q := by
  obtain ⟨O, fr, rl, q⟩ := h
  unfold e2R at q
  refine ⟨O, fr, rl, ?_⟩
  cases h2 : ma fr with
  | bad => rw [h2] at q; exact q
  | exc e => rw [h2] at q; exact q
  | ok p =>
    obtain ⟨y, fr2⟩ := p
    rw [h2] at q
    intro O2 H2 y' F2 R2 V2
    simp only [SK.R.bind_ok] at q
    rcases getS_cases fr2 i with ⟨v, e2, e3⟩ | e3
    · rw [e3] at q
      obtain ⟨x', hx', tp⟩ := R2.tp e2
      refine ⟨x', hx', ?_⟩
      simp only [SK.R.bind_ok] at q
      rcases flO_cases (f y v) with ⟨w, e4⟩ | e4
      · rw [e4] at q
        refine r2_on R2 (V2.monoB on_fb) tp.on (fun w' H' z e5 hf X' V' => ?_) ⟨w, e4⟩
        have := (flO_ok e4).1
        rw [e5] at this
        cases this
        exact q O2 H' z (F2.trans X'.fm) (R2.hx X') V'
      · rw [e4] at q; exact q.elim
    · rw [e3] at q; exact q.elim
theorem e2S_imp {K : PySem.W.Frag} {f : Val → Val → Option Val} {i j : Nat} {σ : St} {H : Hp} {Q : VK} (h : rE K T E mu io (e2S f i j) σ H Q) : tOp (r2 K T f) (tVar i) (tVar j) σ H Q := by
  obtain ⟨O, fr, rl, q⟩ := h
  unfold e2S at q
  rcases getS_cases fr i with ⟨v, e2, e3⟩ | e3
  · rw [e3] at q
    obtain ⟨x, hx, tp⟩ := rl.tp e2
    refine ⟨x, hx, ?_⟩
    simp only [SK.R.bind_ok] at q
    rcases getS_cases fr j with ⟨u, e2', e3'⟩ | e3'
    · rw [e3'] at q
      obtain ⟨x', hx', tp'⟩ := rl.tp e2'
      refine ⟨x', hx', ?_⟩
      simp only [SK.R.bind_ok] at q
      rcases flO_cases (f v u) with ⟨w, e4⟩ | e4
      · rw [e4] at q
        refine r2_on rl tp.on tp'.on (fun w' H' z e5 hf X' V' => ?_) ⟨w, e4⟩
        have := (flO_ok e4).1
        rw [e5] at this
        cases this
        exact q O H' z X'.fm (rl.hx X') V'
      · rw [e4] at q; exact q.elim
    · rw [e3'] at q; exact q.elim
  · rw [e3] at q; exact q.elim
variable {i j : Nat} {x y : Str} {p p' : Pos} {a b : Expr}
theorem Sl.pe (s : Sl X i x) : PE X (.Name x p) (tVar i) := pe_var s.hN s.hv s.hd s.hcd
theorem se_cmpL {op : CmpOp} {f : Val → Val → Option Val} (ho : OpR X (compareOp op) (r2 X.K T f)) (ha : Sl X i x) (hb : SE X T E mu io b mb) (hm : behindInMarks op b = false := by first | exact nomark _ | with_unfolding_all rfl) : SE X T E mu io (.Compare (.Name x p) [op] [b] pos) (e2L f i mb) :=
  PE.imp (pe_cmpR ho ha.pe hb hm) fun σ H Q h => e2L_imp h
theorem se_cmpRt {op : CmpOp} {f : Val → Val → Option Val} (ho : OpR X (compareOp op) (r2 X.K T f)) (ha : SE X T E mu io a ma) (hb : Sl X i x) (hm : behindInMarks op (.Name x p) = false := by first | exact nomark _ | with_unfolding_all rfl) : SE X T E mu io (.Compare a [op] [.Name x p] pos) (e2R f ma i) :=
  PE.imp (pe_cmpR ho ha hb.pe hm) fun σ H Q h => e2R_imp h
theorem se_cmpS {op : CmpOp} {f : Val → Val → Option Val} (ho : OpR X (compareOp op) (r2 X.K T f)) (ha : Sl X i x) (hb : Sl X j y) (hm : behindInMarks op (.Name y p') = false := by first | exact nomark _ | with_unfolding_all rfl) : SE X T E mu io (.Compare (.Name x p) [op] [.Name y p'] pos) (e2S f i j) :=
  PE.imp (pe_cmpR ho ha.pe hb.pe hm) fun σ H Q h => e2S_imp h
theorem st_cmpL {op : CmpOp} {f : Val → Val → Option Val} (ho : OpR X (compareOp op) (r2 X.K T f)) (ha : Sl X i x) (hb : SE X T E mu io b mb) (hm : behindInMarks op b = false := by first | exact nomark _ | with_unfolding_all rfl) : ST X T E mu io (.Compare (.Name x p) [op] [b] pos) (tBl (e2L f i mb)) :=
  PT.imp (pt_cmpR ho ha.pe hb hm) fun σ H Q h => tOp_tTest (fun _ _ _ => e2L_imp) (tBl_imp h)
theorem st_cmpRt {op : CmpOp} {f : Val → Val → Option Val} (ho : OpR X (compareOp op) (r2 X.K T f)) (ha : SE X T E mu io a ma) (hb : Sl X i x) (hm : behindInMarks op (.Name x p) = false := by first | exact nomark _ | with_unfolding_all rfl) : ST X T E mu io (.Compare a [op] [.Name x p] pos) (tBl (e2R f ma i)) :=
  PT.imp (pt_cmpR ho ha hb.pe hm) fun σ H Q h => tOp_tTest (fun _ _ _ => e2R_imp) (tBl_imp h)
theorem st_cmpS {op : CmpOp} {f : Val → Val → Option Val} (ho : OpR X (compareOp op) (r2 X.K T f)) (ha : Sl X i x) (hb : Sl X j y) (hm : behindInMarks op (.Name y p') = false := by first | exact nomark _ | with_unfolding_all rfl) : ST X T E mu io (.Compare (.Name x p) [op] [.Name y p'] pos) (tBl (e2S f i j)) :=
  PT.imp (pt_cmpR ho ha.pe hb.pe hm) fun σ H Q h => tOp_tTest (fun _ _ _ => e2S_imp) (tBl_imp h)
/-- a plain value in a slot that is for reading -/
theorem se_vp (s : Sl X i x) : SE X T E mu io (.Name x p) (eVp i) :=
  PE.imp s.pe fun σ H Q ⟨O, fr, rl, q⟩ => by
    unfold eVp at q
    rcases getS_cases fr i with ⟨v, e2, e3⟩ | e3
    · rw [e3] at q
      obtain ⟨x, hx, tp⟩ := rl.tp e2
      refine ⟨x, hx, ?_⟩
      simp only [SK.R.bind_ok] at q
      cases v with
      | lst _ => exact q.elim
      | dic _ _ => exact q.elim
      | ins _ _ _ => exact q.elim
      | non => exact q O H x (Fm.refl _ _) rl (tp.val trivial)
      | bl _ => exact q O H x (Fm.refl _ _) rl (tp.val trivial)
      | int _ => exact q O H x (Fm.refl _ _) rl (tp.val trivial)
      | str _ => exact q O H x (Fm.refl _ _) rl (tp.val trivial)
      | tup _ => exact q O H x (Fm.refl _ _) rl (tp.val trivial)
      | scr _ => exact q O H x (Fm.refl _ _) rl (tp.val trivial)
    · rw [e3] at q; exact q.elim
theorem eNS_imp {K : PySem.W.Frag} {f : List Val → Option Val} {σ : St} {H : Hp} {Q : VK} (h : rE K T E mu io (eNS f i) σ H Q) : ∃ x, σ[i]? = some (some x) ∧ rN K T f [x] H Q := by
  obtain ⟨O, fr, rl, q⟩ := h
  unfold eNS at q
  rcases getS_cases fr i with ⟨v, e2, e3⟩ | e3
  · rw [e3] at q
    obtain ⟨x, hx, tp⟩ := rl.tp e2
    refine ⟨x, hx, ON, [v], on_trk, .cons tp.on .nil, ?_⟩
    simp only [SK.R.bind_ok] at q
    rcases flO_cases (f [v]) with ⟨w, e4⟩ | e4
    · rw [e4] at q
      obtain ⟨e5, e6⟩ := flO_ok e4
      rw [e5]
      exact fun H' z X' V' => q O H' z X'.fm (rl.hx X') (V'.flat e6)
    · rw [e4] at q; exact q.elim
  · rw [e3] at q; exact q.elim
theorem se_callBS {f : List Val → Option Val} {id : String} {g : Str} {pf : Pos} (hc : CallR X (.builtin id) (rN X.K T f)) (hg : Gl X g := by rfl) (hm : X.mg g = none) (hv : bootBuiltins g = some (.builtin id) := by first | rfl | decide +kernel) (s : Sl X i x) (hn : g ≠ "__name__" := by decide) (hdb : (g == ("__debug__" : Str)) = false := by decide)
    (he : starEach [.Name x p] X.env = (false, eval (.Name x p) X.env) :: starEach [] X.env := by rfl) (hpl : (backTo pos (starEach [] X.env)).any (·.1) = false := by rfl) : SE X T E mu io (.Call (.Name g pf) [.Name x p] [] pos) (eNS f i) :=
  PE.imp (pe_callB hc hg hm hv (pa_cons s.pe pa_nil he) hn hdb he hpl) fun σ H Q h => by
    obtain ⟨x, hx, q⟩ := eNS_imp h
    exact ⟨x, hx, q⟩
theorem se_callTyS {f : List Val → Option Val} {id : String} {g : Str} {pf : Pos} (hc : CallR X (.type id) (rN X.K T f)) (hg : Gl X g := by rfl) (hm : X.mg g = none) (hv : bootBuiltins g = some (.type id) := by first | rfl | decide +kernel) (s : Sl X i x) (hn : g ≠ "__name__" := by decide) (hdb : (g == ("__debug__" : Str)) = false := by decide)
    (he : starEach [.Name x p] X.env = (false, eval (.Name x p) X.env) :: starEach [] X.env := by rfl) (hpl : (backTo pos (starEach [] X.env)).any (·.1) = false := by rfl) : SE X T E mu io (.Call (.Name g pf) [.Name x p] [] pos) (eNS f i) :=
  PE.imp (pe_callTy hc hg hm hv (pa_cons s.pe pa_nil he) hn hdb he hpl) fun σ H Q h => by
    obtain ⟨x, hx, q⟩ := eNS_imp h
    exact ⟨x, hx, q⟩
theorem st_vS (s : Sl X i x) (he : ∀ whole, isTrue (.Name x p) X.env whole = (do let v ← whole; standAt p; holding [v] (truthy v)) := by intro _; rfl) : ST X T E mu io (.Name x p) (tVS i) :=
  PT.imp (pt_truth s.pe he) fun σ H Q ⟨O, fr, rl, q⟩ => by
    unfold tVS at q
    rcases getS_cases fr i with ⟨v, e2, e3⟩ | e3
    · rw [e3] at q
      obtain ⟨x, hx, tp⟩ := rl.tp e2
      simp only [SK.R.bind_ok] at q
      cases h2 : truth v with
      | none => rw [h2] at q; exact q.elim
      | some k =>
        rw [h2] at q
        exact ⟨x, hx, k, truth_ok tp.on h2, q O H (Fm.refl _ _) rl⟩
    · rw [e3] at q; exact q.elim
end
end SK

set_option maxHeartbeats 1000000
/-! SK9: lists that a slot owns are changed; pairs of names. -/
namespace SK
open PySem L2
section
variable {K : PySem.W.Frag} {T : Tb} {O : Own} {H : Hp} {mu : Nat → Bool} {io : List (Nat × V)}
/-- what a slot owns is changed -/
theorem wr_fm {a : Addr} {i : Nat} {o : HO} (h : O a = some (.sl i)) : Fm O H O (upd H a o) :=
  ⟨fun b u e n => ⟨by rw [upd_ne (fun z => by rw [z, h] at n; cases n)]; exact e, n⟩, fun b u e n => ⟨by rw [upd_ne (fun z => by rw [z, h] at n; cases n)]; exact e, n⟩, fun b u e n => ⟨by rw [upd_ne (fun z => by rw [z, h] at n; cases n)]; exact e, n⟩, fun _ e => e⟩
theorem Rl.wr {fr : Fr} {σ : St} {a : Addr} {i : Nat} {o : HO} {v : Val} (rl : Rl K T mu io O fr σ H) (hm : mu i = true) (h : O a = some (.sl i)) (hs : σ[i]? = some (some (.ref a))) (hi : i < fr.length) (w : OwR K T O (upd H a o) i v (.ref a)) : Rl K T mu io O (fr.set i (some v)) σ (upd H a o) := by
  refine ⟨by rw [List.length_set]; exact rl.len, fun j u e => ?_, fun b n => ?_, rl.io⟩
  · by_cases z : j = i
    · subst z
      rw [List.getElem?_set, if_pos rfl, if_pos hi] at e
      cases e
      exact ⟨_, hs, slr_own hm w⟩
    · rw [List.getElem?_set_ne (fun q => z q.symm)] at e
      obtain ⟨x, h1, h2⟩ := rl.sl j u e
      refine ⟨x, h1, h2.mono (wr_fm h) fun _ b o' w' e1 e2 e3 => ⟨?_, e2⟩⟩
      have hne : b ≠ a := fun q => by
        rw [q, h] at e2
        cases e2
        rcases e3 with e3 | ⟨g, e3⟩
        · cases e3; exact z rfl
        · cases e3
      rw [upd_ne hne]
      exact e1
  · by_cases z : b = a
    · subst z; rw [upd_same]; exact fun q => nomatch q
    · rw [upd_ne z]; exact rl.trk b n
/-- the slot's list -/
theorem Rl.lst {fr : Fr} {σ : St} {i : Nat} {xs : List Val} (rl : Rl K T mu io O fr σ H) (hm : mu i = true) (e : fr[i]? = some (some (.lst xs))) : ∃ a vs, σ[i]? = some (some (.ref a)) ∧ O a = some (.sl i) ∧ H a = some (.lst vs) ∧ VRs K T O H xs vs := by
  obtain ⟨x, h1, h2⟩ := rl.owned e hm rfl
  have h3 : OwL K T O H (.sl i) (.lst xs) x := h2
  obtain ⟨a, vs, rfl, o, h, r⟩ := h3
  exact ⟨a, vs, h1, o, h, r⟩
/-- .. rewritten -/
theorem Rl.lstW {fr : Fr} {σ : St} {i : Nat} {a : Addr} {xs : List Val} {vs : List V} (rl : Rl K T mu io O fr σ H) (hm : mu i = true) (hs : σ[i]? = some (some (.ref a))) (ho : O a = some (.sl i)) (hi : i < fr.length) (r : VRs K T O H xs vs) : Rl K T mu io O (fr.set i (some (.lst xs))) σ (upd H a (.lst vs)) :=
  rl.wr hm ho hs hi (show OwL K T O _ (.sl i) (.lst xs) (.ref a) from ⟨a, vs, rfl, ho, upd_same, r.mono (wr_fm ho)⟩)
end
section
variable {X : Cx} {T : Tb} {E : XK} {mu : Nat → Bool} {io : List (Nat × V)} {e : Expr} {es : List Expr} {ma mb : EM} {ms : AM} {pos : Pos} {i j : Nat} {x y : Str} {p p' apos : Pos}
theorem atI_map {ns : List Int} {i w : Int} (e : L2.atI ns i = some w) : L2.atI (ns.map V.int) i = some (.int w) := by
  unfold L2.atI at e ⊢
  rw [List.length_map]
  cases e2 : ixN ns.length i with
  | none => rw [e2] at e; cases e
  | some j =>
    rw [e2] at e
    show (ns.map V.int)[j]? = _
    rw [List.getElem?_map]
    have e' : ns[j]? = some w := e
    rw [e']; rfl
theorem tyl {K : PySem.W.Frag} {H : Hp} {a : Addr} {vs : List V} (h : H a = some (.lst vs)) : tyV K "list" (.ref a) H := .inl ⟨rfl, vs, SqL.of h⟩
theorem se_app (hm : mu i = true := by rfl) (s : Sl X i x) (he : SE X T E mu io e ma)
    (hbase : attributeBase (.Name x p) "append" X.env (eval (.Name x p) X.env) = eval (.Name x p) X.env := by rfl)
    (hfew : ((backTo pos (starEach (e :: []) X.env)).all (fun x => !x.1) && (backToKw pos (keywordEach [] X.env)).all (fun x => x.1.isSome)
      && decide ((e :: []).length + ([] : List Keyword).length + (if ([] : List Keyword).isEmpty then 0 else 1) < 30)) = true := by rfl)
    (hline : (apos.endLine == pos.line) = true := by rfl) (hs : starEach (e :: []) X.env = (false, eval e X.env) :: starEach [] X.env := by rfl) (hplain : (backTo pos (starEach [] X.env)).any (·.1) = false := by rfl) :
    SE X T E mu io (.Call (.Attribute (.Name x p) "append" apos) [e] [] pos) (eApp i ma) :=
  PE.imp (pe_bm PySem.F.plainAttrs_list PySem.F.slot_list_append PySem.F.type_list_append mt_append s.pe (pa_cons he pa_nil hs) hbase hfew hline hs hplain) fun σ H Q ⟨O, fr, rl, q⟩ => by
    unfold eApp at q
    split at q
    · rename_i xs0 e0
      obtain ⟨a, vs, h1, h2, h3, h4⟩ := rl.lst hm e0
      refine ⟨.ref a, h1, tyl h3, O, fr, rl, ?_⟩
      cases h5 : ma fr with
      | bad => rw [h5] at q; exact q
      | exc e => rw [h5] at q; exact q
      | ok p =>
        obtain ⟨z, fr1⟩ := p
        rw [h5] at q
        intro O1 H1 z' F1 R1 V1
        simp only [SK.R.bind_ok] at q
        split at q
        · rename_i xs e1
          split at q
          · rename_i hl
            obtain ⟨a', vs', g1, g2, g3, g4⟩ := R1.lst hm e1
            rw [h1] at g1
            cases g1
            refine ⟨a, vs', z', rfl, rfl, g3, by rw [← g4.len]; exact hl, ?_⟩
            exact q O1 _ _ (F1.trans (wr_fm g2)) (R1.lstW hm h1 g2 (lt_of_get e1) (g4.app (.cons V1 .nil))) vr_non
          · exact q.elim
        · exact q.elim
    · exact q.elim
theorem se_ext (hm : mu i = true := by rfl) (s : Sl X i x) (he : SE X T E mu io e ma)
    (hbase : attributeBase (.Name x p) "extend" X.env (eval (.Name x p) X.env) = eval (.Name x p) X.env := by rfl)
    (hfew : ((backTo pos (starEach (e :: []) X.env)).all (fun x => !x.1) && (backToKw pos (keywordEach [] X.env)).all (fun x => x.1.isSome)
      && decide ((e :: []).length + ([] : List Keyword).length + (if ([] : List Keyword).isEmpty then 0 else 1) < 30)) = true := by rfl)
    (hline : (apos.endLine == pos.line) = true := by rfl) (hs : starEach (e :: []) X.env = (false, eval e X.env) :: starEach [] X.env := by rfl) (hplain : (backTo pos (starEach [] X.env)).any (·.1) = false := by rfl) :
    SE X T E mu io (.Call (.Attribute (.Name x p) "extend" apos) [e] [] pos) (eExt i ma) :=
  PE.imp (pe_bm PySem.F.plainAttrs_list PySem.F.slot_list_extend PySem.F.type_list_extend mt_extend s.pe (pa_cons he pa_nil hs) hbase hfew hline hs hplain) fun σ H Q ⟨O, fr, rl, q⟩ => by
    unfold eExt at q
    split at q
    · rename_i xs0 e0
      obtain ⟨a, vs, h1, h2, h3, h4⟩ := rl.lst hm e0
      refine ⟨.ref a, h1, tyl h3, O, fr, rl, ?_⟩
      cases h5 : ma fr with
      | bad => rw [h5] at q; exact q
      | exc e => rw [h5] at q; exact q
      | ok p =>
        obtain ⟨z, fr1⟩ := p
        rw [h5] at q
        intro O1 H1 z' F1 R1 V1
        simp only [SK.R.bind_ok] at q
        split at q
        · rename_i zs xs e2
          split at q
          · rename_i hl
            obtain ⟨a', vs', g1, g2, g3, g4⟩ := R1.lst hm e2
            obtain ⟨b, ws, rfl, t, r⟩ := V1.lst
            rw [h1] at g1
            cases g1
            refine ⟨a, b, vs', ws, rfl, rfl, g3, t.1, by rw [← g4.len, ← r.len]; exact hl, ?_⟩
            exact q O1 _ _ (F1.trans (wr_fm g2)) (R1.lstW hm h1 g2 (lt_of_get e2) (g4.app r)) vr_non
          · exact q.elim
        · exact q.elim
    · exact q.elim
theorem VRs.dropLast {K : PySem.W.Frag} {O : Own} {H : Hp} : ∀ {xs : List Val} {vs : List V}, VRs K T O H xs vs → VRs K T O H xs.dropLast vs.dropLast := fun {xs vs} r => by
  rw [List.dropLast_eq_take, List.dropLast_eq_take, r.len]
  exact r.take _
theorem VRs.erase {K : PySem.W.Frag} {O : Own} {H : Hp} : ∀ {xs : List Val} {vs : List V} (k : Nat), VRs K T O H xs vs → VRs K T O H (xs.eraseIdx k) (vs.eraseIdx k)
  | [], _, k, h => by rw [h.inv0]; exact VRs.nil
  | _ :: _, _, 0, h => by obtain ⟨y, r, rfl, a, b⟩ := h.inv; exact b
  | _ :: _, _, k + 1, h => by obtain ⟨y, r, rfl, a, b⟩ := h.inv; exact .cons a (b.erase k)
theorem se_pop (hm : mu i = true := by rfl) (s : Sl X i x) (hbase : attributeBase (.Name x p) "pop" X.env (eval (.Name x p) X.env) = eval (.Name x p) X.env := by rfl) (hline : (apos.endLine == pos.line) = true := by rfl) :
    SE X T E mu io (.Call (.Attribute (.Name x p) "pop" apos) [] [] pos) (ePop i) :=
  PE.imp (pe_bm0 PySem.F.plainAttrs_list PySem.F.slot_list_pop PySem.F.type_list_pop mt_pop s.pe hbase hline) fun σ H Q ⟨O, fr, rl, q⟩ => by
    unfold ePop at q
    split at q
    · rename_i xs e0
      obtain ⟨a, vs, h1, h2, h3, h4⟩ := rl.lst hm e0
      refine ⟨.ref a, h1, tyl h3, ?_⟩
      cases h5 : xs[xs.length - 1]? with
      | none => rw [h5] at q; exact q.elim
      | some v =>
        rw [h5] at q
        obtain ⟨y, g1, g2⟩ := h4.get h5
        refine ⟨a, vs, y, rfl, rfl, h3, by rw [← h4.len]; exact g1, ?_⟩
        exact q O _ _ (wr_fm h2) (rl.lstW hm h1 h2 (lt_of_get e0) h4.dropLast) (g2.mono (wr_fm h2))
    · exact q.elim
theorem se_clr (hm : mu i = true := by rfl) (s : Sl X i x) (hbase : attributeBase (.Name x p) "clear" X.env (eval (.Name x p) X.env) = eval (.Name x p) X.env := by rfl) (hline : (apos.endLine == pos.line) = true := by rfl) :
    SE X T E mu io (.Call (.Attribute (.Name x p) "clear" apos) [] [] pos) (eClr i) :=
  PE.imp (pe_bm0 PySem.F.plainAttrs_list PySem.F.slot_list_clear PySem.F.type_list_clear mt_clear s.pe hbase hline) fun σ H Q ⟨O, fr, rl, q⟩ => by
    unfold eClr at q
    split at q
    · rename_i xs e0
      obtain ⟨a, vs, h1, h2, h3, h4⟩ := rl.lst hm e0
      refine ⟨.ref a, h1, tyl h3, a, vs, rfl, rfl, h3, ?_⟩
      exact q O _ _ (wr_fm h2) (rl.lstW hm h1 h2 (lt_of_get e0) .nil) vr_non
    · exact q.elim
theorem se_popA (hm : mu i = true := by rfl) (s : Sl X i x) (he : SE X T E mu io e ma)
    (hbase : attributeBase (.Name x p) "pop" X.env (eval (.Name x p) X.env) = eval (.Name x p) X.env := by rfl)
    (hfew : ((backTo pos (starEach (e :: []) X.env)).all (fun x => !x.1) && (backToKw pos (keywordEach [] X.env)).all (fun x => x.1.isSome)
      && decide ((e :: []).length + ([] : List Keyword).length + (if ([] : List Keyword).isEmpty then 0 else 1) < 30)) = true := by rfl)
    (hline : (apos.endLine == pos.line) = true := by rfl) (hs : starEach (e :: []) X.env = (false, eval e X.env) :: starEach [] X.env := by rfl) (hplain : (backTo pos (starEach [] X.env)).any (·.1) = false := by rfl) :
    SE X T E mu io (.Call (.Attribute (.Name x p) "pop" apos) [e] [] pos) (ePopA i ma) :=
  PE.imp (pe_bm PySem.F.plainAttrs_list PySem.F.slot_list_pop PySem.F.type_list_pop mt_popAt s.pe (pa_cons he pa_nil hs) hbase hfew hline hs hplain) fun σ H Q ⟨O, fr, rl, q⟩ => by
    unfold ePopA at q
    split at q
    · rename_i xs0 e0
      obtain ⟨a, vs, h1, h2, h3, h4⟩ := rl.lst hm e0
      refine ⟨.ref a, h1, tyl h3, O, fr, rl, ?_⟩
      cases h5 : ma fr with
      | bad => rw [h5] at q; exact q
      | exc e => rw [h5] at q; exact q
      | ok p =>
        obtain ⟨z, fr1⟩ := p
        rw [h5] at q
        intro O1 H1 z' F1 R1 V1
        simp only [SK.R.bind_ok] at q
        split at q
        · rename_i k xs e2
          split at q
          · rename_i hb
            cases h6 : seqIndex? k xs.length with
            | none => rw [h6] at q; exact q.elim
            | some n =>
              rw [h6] at q
              cases h7 : xs[n]? with
              | none => simp only [h7] at q; exact q.elim
              | some v =>
                simp only [h7] at q
                obtain ⟨a', vs', g1, g2, g3, g4⟩ := R1.lst hm e2
                rw [h1] at g1
                cases g1
                cases V1.int
                obtain ⟨y, g5, g6⟩ := g4.get h7
                refine ⟨a, vs', k, n, y, rfl, rfl, g3, hb.1, hb.2, by rw [← g4.len]; exact h6, g5, ?_⟩
                exact q O1 _ _ (F1.trans (wr_fm g2)) (R1.lstW hm h1 g2 (lt_of_get e2) (g4.erase n)) (g6.mono (wr_fm g2))
          · exact q.elim
        · exact q.elim
    · exact q.elim
/-- slot[e], a list -/
theorem se_ixS {b : Expr} (s : Sl X i x) (hb : SE X T E mu io b mb) (hs : PlainIx b := by intro _ _; rfl) : SE X T E mu io (.Subscript (.Name x p) b pos) (eIxS i mb) :=
  PE.imp (pe_ix ix_seq s.pe hb hs) fun σ H Q ⟨O, fr, rl, q⟩ => by
    unfold eIxS at q
    rcases getS_cases fr i with ⟨v0, e0, e1⟩ | e1
    · rw [e1] at q
      obtain ⟨x, hx, _⟩ := rl.tp e0
      refine ⟨x, hx, O, fr, rl, ?_⟩
      simp only [SK.R.bind_ok] at q
      cases h2 : mb fr with
      | bad => rw [h2] at q; exact q
      | exc e => rw [h2] at q; exact q
      | ok p =>
        obtain ⟨y, fr2⟩ := p
        rw [h2] at q
        intro O2 H2 y' F2 R2 V2
        simp only [SK.R.bind_ok] at q
        rcases getS_cases fr2 i with ⟨v, e2, e3⟩ | e3
        · rw [e3] at q
          obtain ⟨x', hx', tp⟩ := R2.tp e2
          rw [hx] at hx'
          cases hx'
          simp only [SK.R.bind_ok] at q
          cases h4 : vIx v y with
          | none => rw [h4] at q; exact q.elim
          | some w =>
            rw [h4] at q
            unfold vIx at h4
            split at h4
            · obtain ⟨a, vs, rfl, g1, g2⟩ := tp.lst
              cases V2.int
              obtain ⟨z, g3, g4⟩ := g2.atI h4
              exact .inl ⟨a, vs, _, z, rfl, rfl, SqL.of g1, g3, q O2 H2 z F2 R2 g4⟩
            · have vv := tp.val trivial
              obtain ⟨a, vs, rfl, t, r⟩ := vv.tup
              cases V2.int
              obtain ⟨z, g3, g4⟩ := r.atI h4
              exact .inr (.inl ⟨a, vs, _, z, rfl, rfl, t.sq, g3, q O2 H2 z F2 R2 g4⟩)
            · have vv := tp.val trivial
              obtain ⟨z, rfl, hz⟩ := vv.str
              cases V2.int
              split at h4
              · rename_i hl
                obtain ⟨c, g, e5⟩ := Option.map_eq_some_iff.mp h4
                subst e5
                exact .inr (.inr ⟨z, _, c, rfl, rfl, by rw [str_len, hz]; exact hl, by rw [hz]; exact g, q O2 H2 _ F2 R2 (by unfold VR; exact ⟨_, rfl, rfl⟩)⟩)
              · cases h4
            · have vv := tp.val trivial
              obtain ⟨a, rfl, t⟩ := vv.scr
              cases V2.int
              obtain ⟨w', g, e5⟩ := Option.map_eq_some_iff.mp h4
              subst e5
              refine .inl ⟨a, _, _, _, rfl, rfl, t, atI_map g, q O2 H2 _ F2 R2 vr_int⟩
            · cases h4
        · rw [e3] at q; exact q.elim
    · rw [e1] at q; exact q.elim
/-- slot[e] = v, a list that the slot owns -/
theorem ss_setL {b v : Expr} {mv : EM} {k : Nat} (hm : mu i = true := by rfl) (s : Sl X i x) (hv : SE X T E mu io v mv) (hb : SE X T E mu io b mb)
    (ha : ∀ w, assign (.Subscript (.Name x p) b p') X.env w = (do
      let ov ← holding [w] (eval (.Name x p) X.env)
      let iv ← holding [w, ov] (eval b X.env)
      standAt p'
      holding [w, ov, iv] (setItem ov iv w)
      release [w, ov, iv] []) := by intro _; rfl)
    (hs : swapsWithSole [.Subscript (.Name x p) b p'] v pos.line X.env = pure false := by rfl) (hw : swappedStores [.Subscript (.Name x p) b p'] v X.env = pure none := by rfl)
    (h1 : (assignEach [.Subscript (.Name x p) b p'] X.env).map (·.2) = [assign (.Subscript (.Name x p) b p') X.env] := by rfl) : SS X T E mu io (.Assign [.Subscript (.Name x p) b p'] v pos) (sSetL i mv mb) :=
  PS.imp (ps_asg hv (pg_sub s.pe hb set_list ha) hs hw h1) fun D σ H ⟨O, fr, rl, q⟩ => by
    unfold sSetL at q
    refine ⟨O, fr, rl, ?_⟩
    cases h2 : mv fr with
    | bad => rw [h2] at q; exact q
    | exc e => rw [h2] at q; exact q
    | ok p =>
      obtain ⟨y, fr2⟩ := p
      rw [h2] at q
      intro O2 H2 y' F2 R2 V2
      simp only [SK.R.bind_ok] at q
      rcases getS_cases fr2 i with ⟨v0, e0, e1⟩ | e1
      · rw [e1] at q
        obtain ⟨x, hx, _⟩ := R2.tp e0
        refine ⟨x, hx, O2, fr2, R2, ?_⟩
        simp only [SK.R.bind_ok] at q
        cases h3 : mb fr2 with
        | bad => rw [h3] at q; exact q
        | exc e => rw [h3] at q; exact pEx.back F2 q
        | ok p =>
          obtain ⟨z, fr3⟩ := p
          rw [h3] at q
          intro O3 H3 z' F3 R3 V3
          simp only [SK.R.bind_ok] at q
          split at q
          · rename_i k xs e3
            cases h5 : ixN xs.length k with
            | none => rw [h5] at q; exact q.elim
            | some n =>
              rw [h5] at q
              obtain ⟨a', vs', g1, g2, g3, g4⟩ := R3.lst hm e3
              rw [hx] at g1
              cases g1
              cases V3.int
              refine ⟨a', vs', k, n, rfl, rfl, g3, by rw [← g4.len]; exact h5, ?_⟩
              exact q O3 _ σ ((F2.trans F3).trans (wr_fm g2)) (R3.lstW hm hx g2 (lt_of_get e3) (g4.set (V2.mono F3) n))
          · exact q.elim
      · rw [e1] at q; exact q.elim
/-! ### a, b = x, y -/
def sPar (i j : Nat) (a b : EM) : SM := fun fr => (a fr).bind fun x => (b x.2).bind fun y => .ok (.nx, (y.2.set i (some x.1)).set j (some y.1))
theorem RtR.mono {K : PySem.W.Frag} {O O' : Own} {H H' : Hp} {ro : Bool} {r : Nat} {v : Val} {x : V} (f : Fm O H O' H') (hk : ro = true → ∀ a o w, H a = some o → O a = some w → ofSlot r w → H' a = some o ∧ O' a = some w) (h : RtR K T ro r O H v x) : RtR K T ro r O' H' v x := by
  unfold RtR at h ⊢
  cases ro with
  | true => simp only [if_true] at h ⊢; exact OwR.mono f (hk rfl) h
  | false => simp only [Bool.false_eq_true, if_false] at h ⊢; exact VR.mono f _ _ h
/-- a slot takes a value, or what r owns -/
theorem Rl.setX {K : PySem.W.Frag} {O : Own} {H : Hp} {fr : Fr} {σ : St} {i r : Nat} {ro : Bool} {v : Val} {x : V} (rl : Rl K T mu io O fr σ H) (hm : mu i = ro) (hio : ∀ p ∈ io, p.1 ≠ i) (hr : fr.length ≤ r) (w : RtR K T ro r O H v x) :
    ∃ O', Fm O H O' H ∧ Rl K T mu io O' (fr.set i (some v)) (σ.set i (some x)) H ∧ ∀ a w r', r' ≠ r → r' ≠ i → O a = some w → ofSlot r' w → O' a = some w := by
  unfold RtR at w
  cases ro with
  | true =>
    simp only [if_true] at w
    exact ⟨relab O r i, relab_fm _ _ _ _, rl.setO hm hio hr w, fun a w r' h1 h2 e o => relab_ne h1 h2 e o⟩
  | false =>
    simp only [Bool.false_eq_true, if_false] at w
    exact ⟨O, Fm.refl _ _, rl.set hm hio w, fun a w r' _ _ e _ => e⟩
/-- what r owns is set apart -/
def relT (O : Own) (r : Nat) : Own := fun a => if O a = some (.sl r) then some .tmp else O a
theorem relT_fm (O : Own) (H : Hp) (r : Nat) : Fm O H (relT O r) H := by
  have key : ∀ a w, O a = w → w ≠ some (.sl r) → relT O r a = w := fun a w e n => by
    unfold relT; rw [e, if_neg n]
  refine ⟨fun a o h n => ⟨h, key a _ n (by simp)⟩, fun a o h n => ⟨h, key a _ n (by simp)⟩, fun a o h n => ⟨h, key a _ n (by simp)⟩, fun a h => ?_⟩
  unfold relT at h
  split at h
  · cases h
  · exact h
theorem Rl.relT {K : PySem.W.Frag} {O : Own} {H : Hp} {fr : Fr} {σ : St} {r : Nat} (rl : Rl K T mu io O fr σ H) (hr : fr.length ≤ r) : Rl K T mu io (relT O r) fr σ H :=
  ⟨rl.len, fun j u e => by
    obtain ⟨x, h1, h2⟩ := rl.sl j u e
    refine ⟨x, h1, h2.mono (relT_fm O H r) fun _ a o w e1 e2 e3 => ⟨e1, ?_⟩⟩
    have hj := lt_of_get e
    unfold SK.relT
    rw [if_neg (fun z => by rw [e2] at z; cases z; rcases e3 with e3 | ⟨g, e3⟩ <;> cases e3; omega)]
    exact e2, fun a n => rl.trk a fun z => n (by unfold SK.relT; rw [if_neg (by rw [z]; simp)]; exact z), rl.io⟩
/-- lists and dicts only -/
def isLD : Val → Bool
  | .lst _ => true
  | .dic _ _ => true
  | _ => false
theorem OwR.ld {K : PySem.W.Frag} {O : Own} {H : Hp} {i : Nat} : ∀ {v x}, isLD v = true → OwR K T O H i v x → OwL K T O H (.sl i) v x
  | .lst xs, x, _, h => h
  | .dic ks vs, x, _, h => h
  | .non, _, f, _ => by cases f
  | .bl _, _, f, _ => by cases f
  | .int _, _, f, _ => by cases f
  | .str _, _, f, _ => by cases f
  | .tup _, _, f, _ => by cases f
  | .ins _ _ _, _, f, _ => by cases f
  | .scr _, _, f, _ => by cases f
theorem OwL.r {K : PySem.W.Frag} {O : Own} {H : Hp} {i : Nat} : ∀ {v x}, OwL K T O H (.sl i) v x → OwR K T O H i v x
  | .lst xs, x, h => h
  | .dic ks vs, x, h => h
  | .non, _, h => h.elim
  | .bl _, _, h => h.elim
  | .int _, _, h => h.elim
  | .str _, _, h => h.elim
  | .tup _, _, h => h.elim
  | .ins _ _ _, _, h => h.elim
  | .scr _, _, h => h.elim
theorem OwL.addr {K : PySem.W.Frag} {O : Own} {H : Hp} {w : Ow} : ∀ {v x}, OwL K T O H w v x → ∃ a, x = .ref a ∧ O a = some w ∧ ∀ (O' : Own) (w' : Ow), Fb O H O' H → O' a = some w' → OwL K T O' H w' v x
  | .lst xs, x, ⟨a, vs, e, o, h, r⟩ => ⟨a, e, o, fun O' w' f e' => ⟨a, vs, e, e', h, r.monoB f⟩⟩
  | .dic ks ws, x, ⟨a, kvs, e, o, h, q, r⟩ => ⟨a, e, o, fun O' w' f e' => ⟨a, kvs, e, e', h, q, r.monoB f⟩⟩
  | .non, _, h => h.elim
  | .bl _, _, h => h.elim
  | .int _, _, h => h.elim
  | .str _, _, h => h.elim
  | .tup _, _, h => h.elim
  | .ins _ _ _, _, h => h.elim
  | .scr _, _, h => h.elim
def sParX (r1 : Bool) (i j : Nat) (a b : EM) : SM := fun fr => (a fr).bind fun x => if r1 = true ∧ isLD x.1 = false then .bad else (b x.2).bind fun y => .ok (.nx, (y.2.set i (some x.1)).set j (some y.1))
theorem ss_par {ro1 ro2 : Bool} {r1 r2 : Nat} {a b : Expr} {px py pt : Pos} {kt k2 pt2} (hc : X.calm = true := by rfl) (hN : X.N.Nodup) (hi : X.N[i]? = some x := by rfl) (hj : X.N[j]? = some y := by rfl) (hij : i ≠ j := by decide)
    (hx : X.env.scope.names.lookup x = some .local := by rfl) (hy : X.env.scope.names.lookup y = some .local := by rfl) (ha : SX X T E mu io ro1 r1 a ma) (hb : SX X T E mu io ro2 r2 b mb) (m1 : mu i = ro1) (m2 : mu j = ro2) (hio : ∀ p ∈ io, p.1 ≠ i ∧ p.1 ≠ j := by exact io_ne2 rfl rfl)
    (hl : X.N.length ≤ r1 ∧ X.N.length ≤ r2 := by decide)
    (hs1 : starEach [a, b] X.env = (false, eval a X.env) :: starEach [b] X.env := by rfl) (hs2 : starEach [b] X.env = (false, eval b X.env) :: starEach [] X.env := by rfl)
    (hw : swappedStores [.Tuple [.Name x px, .Name y py] kt pt] (.Tuple [a, b] k2 pt2) X.env = pure (some [x, y]) := by rfl)
    (hs : swapsWithSole [.Tuple [.Name x px, .Name y py] kt pt] (.Tuple [a, b] k2 pt2) pos.line X.env = pure false := by rfl) :
    SS X T E mu io (.Assign [.Tuple [.Name x px, .Name y py] kt pt] (.Tuple [a, b] k2 pt2) pos) (sParX ro1 i j ma mb) :=
  ⟨fun pins s σ H D I ⟨O, fr, rl, q⟩ => by
    refine (ps_par (pos := pos) hc hN hi hj hij hx hy (pa_cons ha (pa_cons hb pa_nil hs2) hs1) hw hs).run pins s σ H D I ?_
    have hlen : fr.length = X.N.length := rl.len.trans I.len
    unfold sParX at q
    refine ⟨O, fr, rl, ?_⟩
    cases h : ma fr with
    | bad => rw [h] at q; exact q
    | exc e => rw [h] at q; exact q
    | ok p =>
      obtain ⟨v, fr1⟩ := p
      rw [h] at q
      intro O1 H1 x1 F1 R1 V1
      have hlen1 : fr1.length = X.N.length := R1.len.trans I.len
      simp only [SK.R.bind_ok] at q
      cases ro1 with
      | true =>
        by_cases hld : isLD v = false
        · rw [if_pos ⟨rfl, hld⟩] at q; exact q.elim
        · have hld : isLD v = true := by simpa using hld
          rw [if_neg (fun z => by rw [hld] at z; cases z.2)] at q
          have V1' : OwR X.K T O1 H1 r1 v x1 := by unfold RtR at V1; simpa using V1
          obtain ⟨c, rfl, ec, gc⟩ := (V1'.ld hld).addr
          have FT := relT_fm O1 H1 r1
          have R1T : Rl X.K T mu io (relT O1 r1) fr1 σ H1 := R1.relT (by rw [hlen1]; exact hl.1)
          have LT : OwL X.K T (relT O1 r1) H1 .tmp v (.ref c) := gc _ _ FT.b (by unfold relT; rw [if_pos ec])
          refine ⟨relT O1 r1, fr1, R1T, ?_⟩
          cases h2 : mb fr1 with
          | bad => rw [h2] at q; exact q
          | exc e => rw [h2] at q; exact pEx.back (F1.trans FT) q
          | ok p =>
            obtain ⟨u, fr2⟩ := p
            rw [h2] at q
            intro O2 H2 x2 F2 R2 V2
            have hlen2 : fr2.length = X.N.length := R2.len.trans I.len
            refine ⟨_, _, rfl, ?_⟩
            obtain ⟨O3, F3, R3, _⟩ := R2.setX m2 (fun p hp => (hio p hp).2) (by rw [hlen2]; exact hl.2) V2
            have LT3 := OwL.monoB _ (F2.trans F3).b (fun a o => (F2.trans F3).tmp a o) LT
            obtain ⟨c', ec', oc, gc'⟩ := LT3.addr
            cases ec'
            have R4 : Rl X.K T mu io (setOw O3 c (some (.sl i))) (fr2.set j (some u)) (σ.set j (some x2)) H2 := R3.outTo oc
            have Fb34 : Fb O3 H2 (setOw O3 c (some (.sl i))) H2 := fun a o e n => ⟨e, by rw [setOw_ne (fun z => by rw [z, oc] at n; cases n)]; exact n⟩
            have LI : OwR X.K T (setOw O3 c (some (.sl i))) H2 i v (.ref c) := (gc' _ _ Fb34 setOw_same).r
            have G : Fm O H O3 H2 := ((F1.trans FT).trans F2).trans F3
            have FF : Fm O H (setOw O3 c (some (.sl i))) H2 := by
              refine ⟨fun a o e n => ?_, fun a o e n => ?_, fun a o e n => ?_, fun a e => ?_⟩
              · obtain ⟨g1, g2⟩ := G.byv a o e n
                exact ⟨g1, by rw [setOw_ne (fun z => by rw [z, oc] at g2; cases g2)]; exact g2⟩
              · obtain ⟨g1, g2⟩ := G.out a o e n
                exact ⟨g1, by rw [setOw_ne (fun z => by rw [z, oc] at g2; cases g2)]; exact g2⟩
              · obtain ⟨g1, g2⟩ := G.tmp a o e n
                obtain ⟨g3, g4⟩ := F1.tmp a o e n
                exact ⟨g1, by rw [setOw_ne (fun z => by rw [z, ec] at g4; cases g4)]; exact g2⟩
              · by_cases z : a = c
                · rw [z, setOw_same] at e; cases e
                · rw [setOw_ne z] at e; exact G.no a e
            have R5 : Rl X.K T mu io (setOw O3 c (some (.sl i))) ((fr2.set j (some u)).set i (some v)) ((σ.set j (some x2)).set i (some (.ref c))) H2 := by
              refine ⟨by simpa using R4.len, fun k w e => ?_, R4.trk, fun p hp => ?_⟩
              · by_cases z : k = i
                · subst z
                  rw [List.getElem?_set, if_pos rfl] at e
                  split at e
                  · rename_i hk
                    cases e
                    exact ⟨.ref c, by rw [List.getElem?_set, if_pos rfl, if_pos (by rw [← R4.len]; exact hk)], slr_own m1 LI⟩
                  · cases e
                · rw [List.getElem?_set_ne (fun q => z q.symm)] at e
                  obtain ⟨y, g1, g2⟩ := R4.sl k w e
                  exact ⟨y, by rw [List.getElem?_set_ne (fun q => z q.symm)]; exact g1, g2⟩
              · rw [List.getElem?_set_ne (fun q => (hio p hp).1 q.symm)]
                exact R4.io p hp
            have e1 : (fr2.set j (some u)).set i (some v) = (fr2.set i (some v)).set j (some u) := List.set_comm _ _ (fun z => hij z.symm)
            have e2 : (σ.set j (some x2)).set i (some (V.ref c)) = (σ.set i (some (V.ref c))).set j (some x2) := List.set_comm _ _ (fun z => hij z.symm)
            rw [e1, e2] at R5
            exact q _ H2 _ FF R5
      | false =>
        rw [if_neg (fun z => by cases z.1)] at q
        have V1' : VR X.K T O1 H1 v x1 := by unfold RtR at V1; simpa using V1
        refine ⟨O1, fr1, R1, ?_⟩
        cases h2 : mb fr1 with
        | bad => rw [h2] at q; exact q
        | exc e => rw [h2] at q; exact pEx.back F1 q
        | ok p =>
          obtain ⟨u, fr2⟩ := p
          rw [h2] at q
          intro O2 H2 x2 F2 R2 V2
          have hlen2 : fr2.length = X.N.length := R2.len.trans I.len
          refine ⟨_, _, rfl, ?_⟩
          obtain ⟨O3, F3, R3, _⟩ := R2.setX m2 (fun p hp => (hio p hp).2) (by rw [hlen2]; exact hl.2) V2
          have R4 := R3.set m1 (fun p hp => (hio p hp).1) (V1'.mono (F2.trans F3))
          rw [List.set_comm _ _ (fun z => hij z.symm), List.set_comm _ _ (fun z => hij z.symm)] at R4
          exact q _ H2 _ ((F1.trans F2).trans F3) R4⟩
end
end SK

set_option maxHeartbeats 1000000
/-! SK10: instances: fields, making, methods. -/
namespace SK
open PySem L2

def getF (g : Nat) : List Nat → List Val → Option Val
  | f :: fs, v :: vs => if f = g then some v else getF g fs vs
  | _, _ => none
def setF {α : Type} (g : Nat) (v : α) : List Nat → List α → List Nat × List α
  | f :: fs, w :: ws => if f = g then (f :: fs, v :: ws) else (f :: (setF g v fs ws).1, w :: (setF g v fs ws).2)
  | _, _ => ([g], [v])
/-- e.f, f the field g of the classes cs -/
def vAt (cs : List Nat) (g : Nat) : Val → Option Val
  | .ins c fs vs => if cs.contains c = true then getF g fs vs else none
  | _ => none
/-- slot.f, f not one that owns -/
def eAtS (cs : List Nat) (g : Nat) (i : Nat) : EM := fun fr => (getS fr i).bind fun v => match v with
  | .ins c fs vs => if cs.contains c = true then (ofO (getF g fs vs)).bind fun w => .ok (w, fr) else .bad
  | _ => .bad
/-- self.f = e -/
def sAt (cs : List Nat) (g : Nat) (i : Nat) (a : EM) : SM := fun fr => (a fr).bind fun x => match x.2[i]? with
  | some (some (.ins c fs vs)) => if cs.contains c = true ∧ isFz (.ins c fs vs) = false ∧ fs.length < 1000 then .ok (.nx, x.2.set i (some (.ins c (setF g x.1 fs vs).1 (setF g x.1 fs vs).2))) else .bad
  | _ => .bad

/-- the field names apart -/
def FldOk (T : Tb) : Prop := ∀ g g', g < T.nf → g' < T.nf → T.fld g = T.fld g' → g = g'
section
variable {K : PySem.W.Frag} {T : Tb} {O : Own} {H : Hp} {mu : Nat → Bool} {io : List (Nat × V)}
theorem putF_len (f : Str) (v : V) : ∀ fs : List (Str × V), (putF f v fs).length = if (fs.lookup f).isSome = true then fs.length else fs.length + 1
  | [] => rfl
  | (g, x) :: r => by
    rw [show putF f v ((g, x) :: r) = (if g = f then (g, v) :: r else (g, x) :: putF f v r) from rfl]
    by_cases h : g = f
    · subst h
      rw [if_pos rfl]
      simp
    · rw [if_neg h, List.length_cons, putF_len f v r]
      have : (f == g) = false := by simpa using fun z => h z.symm
      rw [show List.lookup f ((g, x) :: r) = List.lookup f r by simp [List.lookup, this]]
      split <;> rfl
theorem setF_len {α : Type} {g : Nat} {v : α} : ∀ {fs : List Nat} {ws : List α}, fs.length = ws.length → (setF g v fs ws).1.length = (setF g v fs ws).2.length
  | [], [], _ => rfl
  | f :: fs, w :: ws, h => by
    unfold setF
    split
    · simpa using h
    · simp only [List.length_cons]; rw [setF_len (by simpa using h)]
  | [], _ :: _, h => by cases h
  | _ :: _, [], h => by cases h
theorem setF_fst {α β : Type} {g : Nat} {v : α} {u : β} : ∀ {fs : List Nat} {ws : List α} {us : List β}, fs.length = ws.length → fs.length = us.length → (setF g v fs ws).1 = (setF g u fs us).1
  | [], [], [], _, _ => rfl
  | f :: fs, w :: ws, u' :: us, h, h' => by
    unfold setF
    split
    · rfl
    · show f :: _ = f :: _; rw [setF_fst (by simpa using h) (by simpa using h')]
  | [], _ :: _, _, h, _ => by cases h
  | _ :: _, [], _, h, _ => by cases h
  | [], [], _ :: _, _, h => by cases h
  | _ :: _, _ :: _, [], _, h => by cases h
theorem setF_mem {α : Type} {g : Nat} {v : α} : ∀ {fs : List Nat} {ws : List α}, ∀ f ∈ (setF g v fs ws).1, f = g ∨ f ∈ fs
  | [], [], f, h => .inl (by simpa [setF] using h)
  | [], _ :: _, f, h => .inl (by simpa [setF] using h)
  | _ :: _, [], f, h => .inl (by simpa [setF] using h)
  | f' :: fs, w :: ws, f, h => by
    unfold setF at h
    split at h
    · exact .inr h
    · rcases List.mem_cons.mp h with h | h
      · exact .inr (h ▸ List.mem_cons_self)
      · rcases setF_mem f h with z | z
        · exact .inl z
        · exact .inr (List.mem_cons_of_mem _ z)
theorem lookup_setF (hF : FldOk T) {g : Nat} (hg : g < T.nf) {v : V} (nm : Str) : ∀ {fs : List Nat} {ws : List V}, (∀ f ∈ fs, f < T.nf) → fs.length = ws.length →
    (((setF g v fs ws).1.map T.fld).zip (setF g v fs ws).2).lookup nm = if nm = T.fld g then some v else ((fs.map T.fld).zip ws).lookup nm
  | [], [], _, _ => by
    show List.lookup nm [(T.fld g, v)] = _
    by_cases h : nm = T.fld g
    · rw [if_pos h]; subst h; simp [List.lookup]
    · rw [if_neg h]
      have : (nm == T.fld g) = false := by simpa using h
      simp [List.lookup, this]
  | f :: fs, w :: ws, hm, hl => by
    unfold setF
    by_cases e : f = g
    · subst e
      rw [if_pos rfl]
      show List.lookup nm ((T.fld f, v) :: _) = if nm = T.fld f then some v else List.lookup nm ((T.fld f, w) :: _)
      by_cases h : nm = T.fld f
      · rw [if_pos h]; subst h; simp [List.lookup]
      · rw [if_neg h]
        have : (nm == T.fld f) = false := by simpa using h
        simp [List.lookup, this]
    · rw [if_neg e]
      have hne : T.fld f ≠ T.fld g := fun z => e (hF f g (hm f List.mem_cons_self) hg z)
      show List.lookup nm ((T.fld f, w) :: ((setF g v fs ws).1.map T.fld).zip (setF g v fs ws).2) = if nm = T.fld g then some v else List.lookup nm ((T.fld f, w) :: (fs.map T.fld).zip ws)
      have ih := lookup_setF hF hg (v := v) nm (fs := fs) (ws := ws) (fun x hx => hm x (List.mem_cons_of_mem _ hx)) (by simpa using hl)
      by_cases h : nm = T.fld f
      · subst h
        rw [if_neg hne]
        simp [List.lookup]
      · have : (nm == T.fld f) = false := by simpa using h
        simp only [List.lookup, this]
        exact ih
  | [], _ :: _, _, h => by cases h
  | _ :: _, [], _, h => by cases h
theorem lookup_some_mem {g : Nat} : ∀ {fs : List Nat} {ws : List V}, (((fs.map T.fld).zip ws).lookup (T.fld g)).isSome = true → ∃ f ∈ fs, T.fld f = T.fld g
  | [], _, h => by simp at h
  | f :: fs, [], h => by simp at h
  | f :: fs, w :: ws, h => by
    by_cases e : T.fld g = T.fld f
    · exact ⟨f, List.mem_cons_self, e.symm⟩
    · have : (T.fld g == T.fld f) = false := by simpa using e
      have h' : (List.lookup (T.fld g) ((T.fld f, w) :: (fs.map T.fld).zip ws)).isSome = true := h
      simp only [List.lookup, this] at h'
      obtain ⟨f', h1, h2⟩ := lookup_some_mem h'
      exact ⟨f', List.mem_cons_of_mem _ h1, h2⟩
theorem setF_size {α : Type} {g : Nat} {v : α} : ∀ {fs : List Nat} {ws : List α}, fs.length = ws.length → (setF g v fs ws).1.length = if g ∈ fs then fs.length else fs.length + 1
  | [], [], _ => rfl
  | f :: fs, w :: ws, h => by
    unfold setF
    by_cases e : f = g
    · subst e; rw [if_pos rfl, if_pos List.mem_cons_self]
    · rw [if_neg e]
      show (setF g v fs ws).1.length + 1 = _
      rw [setF_size (by simpa using h)]
      by_cases m : g ∈ fs
      · rw [if_pos m, if_pos (List.mem_cons_of_mem _ m)]; rfl
      · rw [if_neg m, if_neg (fun z => by rcases List.mem_cons.mp z with z | z; exact e z.symm; exact m z)]; rfl
  | [], _ :: _, h => by cases h
  | _ :: _, [], h => by cases h
theorem lookup_mem {g : Nat} : ∀ {fs : List Nat} {ws : List V}, fs.length = ws.length → g ∈ fs → (((fs.map T.fld).zip ws).lookup (T.fld g)).isSome = true
  | f :: fs, w :: ws, h, m => by
    show (List.lookup (T.fld g) ((T.fld f, w) :: (fs.map T.fld).zip ws)).isSome = true
    by_cases e : T.fld g = T.fld f
    · rw [e]; simp [List.lookup]
    · have : (T.fld g == T.fld f) = false := by simpa using e
      simp only [List.lookup, this]
      exact lookup_mem (by simpa using h) (by rcases List.mem_cons.mp m with z | z; exact absurd (congrArg T.fld z) e; exact z)
  | [], _, _, m => by cases m
  | _ :: _, [], h, _ => by cases h
theorem FsR.put (hF : FldOk T) {g : Nat} (hg : g < T.nf) {fs : List Nat} {ws : List V} {fs' : List (Str × V)} (r : FsR T fs ws fs') (x : V) : FsR T (setF g x fs ws).1 (setF g x fs ws).2 (putF (T.fld g) x fs') := by
  obtain ⟨h1, h2, h3, h4⟩ := r
  refine ⟨setF_len h1, ?_, fun f hf => ?_, fun nm => ?_⟩
  · rw [putF_len, setF_size h1, h4 (T.fld g), h2]
    by_cases m : g ∈ fs
    · rw [if_pos m, if_pos (lookup_mem h1 m)]
    · rw [if_neg m, if_neg]
      intro z
      obtain ⟨f, a, b⟩ := lookup_some_mem z
      exact m (hF f g (h3 f a) hg b ▸ a)
  · rcases setF_mem f hf with z | z
    · rw [z]; exact hg
    · exact h3 f z
  · rw [lookup_putF, lookup_setF hF hg nm h3 h1, h4 nm]
theorem FsR.get (hF : FldOk T) {g : Nat} (hg : g < T.nf) : ∀ {fs : List Nat} {vs : List Val} {ws : List V} {v : Val}, (∀ f ∈ fs, f < T.nf) → VRs K T O H vs ws → fs.length = ws.length → getF g fs vs = some v → ∃ x, ((fs.map T.fld).zip ws).lookup (T.fld g) = some x ∧ VR K T O H v x
  | [], vs, ws, v, hm, r, hl, h => by cases vs <;> (unfold getF at h; cases h)
  | f :: fs, [], ws, v, hm, r, hl, h => by unfold getF at h; cases h
  | f :: fs, u :: vs, ws, v, hm, r, hl, h => by
    obtain ⟨y, q, rfl, a, b⟩ := r.inv
    unfold getF at h
    show ∃ x, List.lookup (T.fld g) ((T.fld f, y) :: (fs.map T.fld).zip q) = some x ∧ _
    by_cases e : f = g
    · subst e
      rw [if_pos rfl] at h
      cases h
      exact ⟨y, by simp [List.lookup], a⟩
    · rw [if_neg e] at h
      obtain ⟨x, h1, h2⟩ := FsR.get hF hg (fun x hx => hm x (List.mem_cons_of_mem _ hx)) b (by simpa using hl) h
      have z : T.fld g ≠ T.fld f := fun z => e (hF f g (hm f List.mem_cons_self) hg z.symm)
      have : (T.fld g == T.fld f) = false := by simpa using z
      simp only [List.lookup, this]
      exact ⟨x, h1, h2⟩
theorem TFs.get (hF : FldOk T) {g : Nat} (hg : g < T.nf) {c : Nat} (ho : T.own c g = false) : ∀ {fs : List Nat} {vs : List Val} {ws : List V} {v : Val}, (∀ f ∈ fs, f < T.nf) → TFs K T O H c fs vs ws → getF g fs vs = some v → ∃ x, ((fs.map T.fld).zip ws).lookup (T.fld g) = some x ∧ VR K T O H v x
  | [], vs, ws, v, hm, r, h => by cases vs <;> (unfold getF at h; cases h)
  | f :: fs, [], ws, v, hm, r, h => by unfold getF at h; cases h
  | f :: fs, u :: vs, [], v, hm, r, h => r.elim
  | f :: fs, u :: vs, w :: ws, v, hm, ⟨a, b⟩, h => by
    unfold getF at h
    show ∃ x, List.lookup (T.fld g) ((T.fld f, w) :: (fs.map T.fld).zip ws) = some x ∧ _
    by_cases e : f = g
    · subst e
      rw [if_pos rfl] at h
      cases h
      rw [if_neg (by rw [ho]; exact Bool.false_ne_true)] at a
      exact ⟨w, by simp [List.lookup], a⟩
    · rw [if_neg e] at h
      obtain ⟨x, h1, h2⟩ := TFs.get hF hg ho (fun x hx => hm x (List.mem_cons_of_mem _ hx)) b h
      have z : T.fld g ≠ T.fld f := fun z => e (hF f g (hm f List.mem_cons_self) hg z.symm)
      have : (T.fld g == T.fld f) = false := by simpa using z
      simp only [List.lookup, this]
      exact ⟨x, h1, h2⟩
theorem FRs.put {c i g : Nat} (ho : T.own c g = false) {v : Val} {x : V} (a : VR K T O H v x) : ∀ {fs : List Nat} {vs : List Val} {ws : List V}, FRs K T O H c i fs vs ws → FRs K T O H c i (setF g v fs vs).1 (setF g v fs vs).2 (setF g x fs ws).2
  | [], [], [], _ => by
    show FRs K T O H c i [g] [v] [x]
    refine ⟨?_, trivial⟩
    rw [if_neg (by rw [ho]; exact Bool.false_ne_true)]; exact a
  | f :: fs, u :: vs, w :: ws, ⟨p, b⟩ => by
    unfold setF
    by_cases e : f = g
    · subst e
      rw [if_pos rfl, if_pos rfl]
      refine ⟨?_, b⟩
      rw [if_neg (by rw [ho]; exact Bool.false_ne_true)]; exact a
    · rw [if_neg e, if_neg e]
      exact ⟨p, b.put ho a⟩
  | [], _ :: _, _, h => h.elim
  | [], [], _ :: _, h => h.elim
  | _ :: _, [], _, h => h.elim
  | _ :: _, _ :: _, [], h => h.elim
theorem FRs.len {c i : Nat} : ∀ {fs : List Nat} {vs : List Val} {ws : List V}, FRs K T O H c i fs vs ws → fs.length = vs.length ∧ fs.length = ws.length
  | [], [], [], _ => ⟨rfl, rfl⟩
  | f :: fs, u :: vs, w :: ws, ⟨p, b⟩ => ⟨congrArg Nat.succ b.len.1, congrArg Nat.succ b.len.2⟩
  | [], _ :: _, _, h => h.elim
  | [], [], _ :: _, h => h.elim
  | _ :: _, [], _, h => h.elim
  | _ :: _, _ :: _, [], h => h.elim
theorem FRs.monoF {c i : Nat} {H' : Hp} (f : Fb O H O H') (hk : ∀ a o g, H a = some o → O a = some (.fl i g) → H' a = some o) {fs vs ws} (h : FRs K T O H c i fs vs ws) : FRs K T O H' c i fs vs ws := h.monoB f fun a o g e n => ⟨hk a o g e n, n⟩
end
/-! ### fields -/
/-- what of the text the classes cs must have for the field g -/
structure FldF (K : PySem.W.Frag) (T : Tb) (cs : List Nat) (g : Nat) : Prop where
  ok : FldOk T
  lt : g < T.nf
  cl : ∀ c, cs.contains c = true → Cls K (T.cl c) ∧ NoAttr K (T.cl c) (T.fld g)
  ow : ∀ c, cs.contains c = true → T.own c g = false
section
variable {X : Cx} {T : Tb} {E : XK} {mu : Nat → Bool} {io : List (Nat × V)} {e : Expr} {es : List Expr} {ma mb : EM} {ms : AM} {pos : Pos} {i j : Nat} {x y : Str} {p p' apos : Pos} {cs : List Nat} {g : Nat} {f : Str}
theorem VR.ins {K : PySem.W.Frag} {O : Own} {H : Hp} {c : Nat} {fs : List Nat} {vs : List Val} {x : V} (h : VR K T O H (.ins c fs vs) x) : ∃ a dx fs' ws, x = .ref a ∧ H a = some (.ins (T.cl c) dx fs') ∧ O a = none ∧ FsR T fs ws fs' ∧ VRs K T O H vs ws := by
  unfold VR at h; exact h
/-- e.f -/
theorem se_at (F : FldF X.K T cs g) (hf : T.fld g = f) (he : SE X T E mu io e ma) (hb : attributeBase e f X.env (eval e X.env) = eval e X.env := by rfl) : SE X T E mu io (.Attribute e f pos) (e1 (vAt cs g) ma) :=
  PE.imp (pe_fld he hb) fun σ H Q h => by
    subst hf
    refine (fun q => ?_) (e1_imp h)
    obtain ⟨O, fr, rl, q⟩ := h
    unfold e1 at q
    refine ⟨O, fr, rl, ?_⟩
    cases h1 : ma fr with
    | bad => rw [h1] at q; exact q
    | exc e => rw [h1] at q; exact q
    | ok p =>
      obtain ⟨v, fr1⟩ := p
      rw [h1] at q
      intro O1 H1 x' F1 R1 V1
      simp only [SK.R.bind_ok] at q
      cases h3 : vAt cs g v with
      | none => rw [h3] at q; exact q.elim
      | some w =>
        rw [h3] at q
        unfold vAt at h3
        split at h3
        · split at h3
          · rename_i hc
            obtain ⟨a, dx, fs', ws, rfl, h4, h5, h6, h7⟩ := V1.ins
            obtain ⟨z, g1, g2⟩ := FsR.get F.ok F.lt h6.2.2.1 h7 h6.1 h3
            obtain ⟨k1, k2⟩ := F.cl _ hc
            exact ⟨a, _, dx, fs', z, rfl, h4, k1, k2, by rw [h6.2.2.2]; exact g1, q O1 H1 z F1 R1 g2⟩
          · cases h3
        · cases h3
/-- slot.f -/
theorem se_atS (F : FldF X.K T cs g) (hf : T.fld g = f) (s : Sl X i x) (hb : attributeBase (.Name x p) f X.env (eval (.Name x p) X.env) = eval (.Name x p) X.env := by rfl) : SE X T E mu io (.Attribute (.Name x p) f pos) (eAtS cs g i) :=
  PE.imp (pe_fld s.pe hb) fun σ H Q ⟨O, fr, rl, q⟩ => by
    subst hf
    unfold eAtS at q
    rcases getS_cases fr i with ⟨v, e2, e3⟩ | e3
    · rw [e3] at q
      obtain ⟨x, hx, tp⟩ := rl.tp e2
      refine ⟨x, hx, ?_⟩
      simp only [SK.R.bind_ok] at q
      split at q
      · split at q
        · rename_i c fs vs hc
          cases h3 : getF g fs vs with
          | none => rw [h3] at q; exact q.elim
          | some w =>
            rw [h3] at q
            have tI : ∃ a dx fs' ws, x = .ref a ∧ H a = some (.ins (T.cl c) dx fs') ∧ FsR T fs ws fs' ∧ TFs X.K T O H c fs vs ws := by
              rcases tp with (tp | ⟨w, tp⟩) | tp
              · obtain ⟨a, dx, fs', ws, e, h4, h5, h6, h7⟩ := tp.ins
                exact ⟨a, dx, fs', ws, e, h4, h6, h7.tf h6.1⟩
              · exact tp.elim
              · exact tp
            obtain ⟨a, dx, fs', ws, rfl, h4, h6, h7⟩ := tI
            obtain ⟨z, g1, g2⟩ := TFs.get F.ok F.lt (F.ow _ hc) h6.2.2.1 h7 h3
            obtain ⟨k1, k2⟩ := F.cl _ hc
            exact ⟨a, _, dx, fs', z, rfl, h4, k1, k2, by rw [h6.2.2.2]; exact g1, q O H z (Fm.refl _ _) rl g2⟩
        · exact q.elim
      · exact q.elim
    · rw [e3] at q; exact q.elim
/-- self.f = e -/
theorem ss_at (F : FldF X.K T cs g) (hf : T.fld g = f) (hm : mu i = true := by rfl) (s : Sl X i x) (hv : SE X T E mu io e ma) (hs : swapsWith e (some (.Attribute (.Name x p) f p')) pos.line X.env = pure false := by rfl) : SS X T E mu io (.Assign [.Attribute (.Name x p) f p'] e pos) (sAt cs g i ma) :=
  PS.imp (ps_fld s.pe hv hs) fun D σ H ⟨O, fr, rl, q⟩ => by
    subst hf
    unfold sAt at q
    refine ⟨O, fr, rl, ?_⟩
    cases h1 : ma fr with
    | bad => rw [h1] at q; exact q
    | exc e => rw [h1] at q; exact q
    | ok p =>
      obtain ⟨v, fr1⟩ := p
      rw [h1] at q
      intro O1 H1 y F1 R1 V1
      simp only [SK.R.bind_ok] at q
      split at q
      · rename_i c fs vs e2
        split at q
        · rename_i hc
          obtain ⟨x, hx, ow⟩ := R1.owned e2 hm hc.2.1
          have ow' : ∃ a dx fs' ws, x = .ref a ∧ O1 a = some (.sl i) ∧ H1 a = some (.ins (T.cl c) dx fs') ∧ FsR T fs ws fs' ∧ FRs X.K T O1 H1 c i fs vs ws := ow
          obtain ⟨a, dx, fs', ws, rfl, h3, h4, h5, h6⟩ := ow'
          obtain ⟨k1, k2⟩ := F.cl _ hc.1
          refine ⟨.ref a, hx, a, _, dx, fs', rfl, h4, k1, k2, by rw [h5.2.1]; exact hc.2.2, ?_⟩
          have Fw := wr_fm (H := H1) (o := .ins (T.cl c) dx (putF (T.fld g) y fs')) h3
          have hlen := h6.len
          refine q O1 _ σ (F1.trans Fw) (R1.wr hm h3 hx (lt_of_get e2) ⟨a, dx, _, (setF g y fs ws).2, rfl, h3, upd_same, ?_, ?_⟩)
          · have := h5.put F.ok F.lt y
            rw [setF_fst (g := g) (v := y) (u := v) hlen.2 hlen.1] at this
            exact this
          · have := (h6.put (F.ow _ hc.1) V1)
            refine this.monoB Fw.b fun b o g' e n => ⟨?_, n⟩
            rw [upd_ne (fun z => by rw [z, h3] at n; cases n)]
            exact e
        · exact q.elim
      · exact q.elim
end
end SK

set_option maxHeartbeats 1000000
/-! SK11: making instances, methods, isinstance, own ==. -/
namespace SK
open PySem L2

def MK : Nat := 1000002
/-- a new instance of the class c: its __init__ is m -/
def eMk (c : Nat) (bop : List Nat) (m : FnM) (ar : List Val → List Val) (as : LM) (ks : AM) : EM := fun fr => (as fr).bind fun x => (ks x.2).bind fun z => if lentS x.1 = [] ∧ borOk bop [] 1 x.1 = true then (ofO (fillA z.2 x.1)).bind fun args => (m (.ins c [] [] :: (args ++ ar z.1))).bind fun r => (match r with
  | (.non, [s]) => .ok (s, z.2)
  | _ => .bad) else .bad
def isC (cs : List Nat) : Val → Bool
  | .ins c _ _ => cs.contains c
  | _ => false
def chk (cs : List Nat) (a : EM) : EM := fun fr => (a fr).bind fun x => if isC cs x.1 = true then .ok x else .bad
def chkS (cs : List Nat) (i : Nat) (b : LM) : LM := fun fr => (getS fr i).bind fun v => if isC cs v = true then b fr else .bad

theorem PE.impI {X : Cx} {e : Expr} {t t' : TE} (h : PE X e t) (w : ∀ pins s σ H Q, Inv X pins σ H s → t' σ H Q → t σ H Q) : PE X e t' := ⟨fun pins s σ H Q I q => h.run pins s σ H Q I (w pins s σ H Q I q)⟩
section
variable {K : PySem.W.Frag} {T : Tb} {E : XK} {mu : Nat → Bool} {io : List (Nat × V)}
theorem lentS_nil : ∀ {as : List Lt} {k : Nat}, lentS as = [] → lentP k as = []
  | [], _, _ => rfl
  | .inl i :: r, k, h => by unfold lentS at h; cases h
  | .inr a :: r, k, h => by unfold lentS at h; unfold lentP; exact lentS_nil h
theorem make_core {bop : List Nat} {n : Nat} {m : FnM} {c : Nat} {dv : List Val} {dx : List V} {O1 : Own} {H1 : Hp} {σ : St} {fr1 : Fr} {as : List Lt} {args : List Val} {xs : List V} {Q : VK} {x dz : Addr} (R1 : Rl K T mu io O1 fr1 σ H1) (hd : VRs K T O1 H1 dv dx) (hn : (xs ++ dx).length + 1 = n) (hfl : fr1.length ≤ MK)
    (hx : H1 x = none) (hz : H1 dz = none) (hne : dz ≠ x) (hB : borOk bop [] 1 as = true) (hl : lentS as = []) (hA : ArgL K T mu O1 H1 σ as xs) (hf : fillA fr1 as = some args)
    (h : match m (.ins c [] [] :: (args ++ dv)) with
      | .ok (.non, [s]) => ∀ O' H', Fm O1 H1 O' H' → Rl K T mu io O' fr1 σ H' → VR K T O' H' s (.ref x) → Q (.ref x) H'
      | .exc e => pEx K T E O1 H1 e
      | _ => False) : spG K T [0] bop false n m (.ref x :: (xs ++ dx)) (upd (upd H1 dz (.own x)) x (.ins (T.cl c) dz [])) (fun v H2 => v = .non ∧ Q (.ref x) H2) E := by
  have hx2 : (upd H1 dz (.own x)) x = none := by rw [upd_ne (fun z => hne z.symm)]; exact hx
  have R2 : Rl K T mu io (setOw O1 x (some (.sl MK))) fr1 σ (upd (upd H1 dz (.own x)) x (.ins (T.cl c) dz [])) := (R1.hx (Hx.upd hz)).laid hx2
  have X2 : Hx H1 (upd (upd H1 dz (.own x)) x (.ins (T.cl c) dz [])) := (Hx.upd hz).trans (Hx.upd hx2)
  have F2 : Fm O1 H1 (setOw O1 x (some (.sl MK))) (upd (upd H1 dz (.own x)) x (.ins (T.cl c) dz [])) :=
    ⟨fun a o e n' => ⟨X2 a o e, by rw [setOw_ne (ne_of_none e hx)]; exact n'⟩, fun a o e n' => ⟨X2 a o e, by rw [setOw_ne (ne_of_none e hx)]; exact n'⟩, fun a o e n' => ⟨X2 a o e, by rw [setOw_ne (ne_of_none e hx)]; exact n'⟩, fun a e => by
      by_cases z : a = x
      · rw [z, setOw_same] at e; cases e
      · rw [setOw_ne z] at e; exact e⟩
  have c0 : ∀ j, ([0] : List Nat).contains j = true → j = 0 := fun j hj => by simpa using hj
  refine spG_use (pj := fun _ => MK) (args := .ins c [] [] :: (args ++ dv)) R2.trk (fun j j' hj hj' _ => by rw [c0 j hj, c0 j' hj']) (by simpa using hn) ?_ ?_
  · refine ⟨?_, ?_⟩
    · rw [if_pos (by decide)]
      exact ⟨x, dz, [], [], rfl, setOw_same, upd_same, ⟨rfl, rfl, fun g hg => (by cases hg), fun nm => rfl⟩, trivial⟩
    · refine argsI_of (all := as) (k := 1) R2 (VRs.mono F2 _ _ hd) (fun i hi _ j hj z => ?_) (fun j hj hk => ?_) (fun j i e => ?_) (fun j v e => ?_) (by rw [hl]; exact hB) (hA.mono F2) hf
      · omega
      · have := c0 j (by simpa using hj); omega
      · have := lentP_mem (k := 0) e
        rw [lentS_nil hl] at this
        cases this
      · cases q : ([0] : List Nat).contains (1 + j) with
        | false => rfl
        | true => have := c0 _ q; omega
  · cases hm : m (.ins c [] [] :: (args ++ dv)) with
    | bad => rw [hm] at h; exact h
    | exc e => rw [hm] at h; exact pEx.back F2 h
    | ok p =>
      obtain ⟨v, outs⟩ := p
      rw [hm] at h
      intro O' H' z F' tr' keep oR vR
      have R3 : Rl K T mu io O' fr1 σ H' := by
        refine ⟨R2.len, fun i u e => ?_, tr', R2.io⟩
        obtain ⟨y, g1, g2⟩ := R2.sl i u e
        refine ⟨y, g1, g2.mono F' fun mi a o w e1 e2 e3 => keep i (fun j hj q => ?_) a o w e1 e2 e3⟩
        have := lt_of_get e
        omega
      split at h
      · rename_i s e0
        cases e0
        obtain ⟨⟨y, g1, g2⟩, _⟩ := oR
        simp at g1
        subst g1
        have Fz := freeSlot_fm O' H' MK
        have R4 : Rl K T mu io (freeSlot O' MK) (fr1.set MK none) σ H' := R3.freed
        rw [List.set_eq_of_length_le hfl] at R4
        unfold RtR at vR
        simp only [Bool.false_eq_true, if_false] at vR
        exact ⟨vR.non, h _ H' ((F2.trans F').trans Fz) R4 (OwR.freed Fz (fun a w e o => freeSlot_at e o) g2)⟩
      · rename_i e0; cases e0
      · exact h.elim
end
section
variable {X : Cx} {T : Tb} {E : XK} {mu : Nat → Bool} {io : List (Nat × V)} {e : Expr} {es : List Expr} {ma mb : EM} {ms : LM} {mk : AM} {pos : Pos} {i j : Nat} {x y : Str} {p p' apos : Pos} {cs : List Nat}
variable {CX : CXT} {k n : Nat} {f C : Addr} {fd : FuncData} {ps ks : List Str} {iop bop : List Nat} {ro : Bool} {r : Nat} {m : FnM} {dv : List Val} {dx : List V} {ds : List Value} {kws : List Keyword} {gv : List Value → List Value → List Value} {arV : List V → List V} {ar : List Val → List Val} {c : Nat}
/-- C(e, ..), no keywords -/
theorem se_mk (M : Mk X.K (T.cl c) f) (F : FnOk X.prog X.w X.K X.mg X.base CX k f fd ps (spG X.K T [0] bop false n m)) (hr : Room (k + 1) X.A) (hg : Gl X x := by rfl) (hm : X.mg x = some (.ref (T.cl c))) (hb : Binds X.K fd ps ds) (hd : Vals dx ds) (hdv : ∀ O H, VRs X.K T O H dv dx) (hx : Passes CX X E := by exact pass0) (hN : X.N.length ≤ MK := by decide)
    (ha : SL X T E mu io (e :: es) ms) (hl : ∀ fr as fr', ms fr = .ok (as, fr') → as.length + dv.length + 1 = n) (hdb : (x == ("__debug__" : Str)) = false := by decide) (he : starEach (e :: es) X.env = (false, eval e X.env) :: starEach es X.env := by rfl) (hpl : (backTo pos (starEach es X.env)).any (·.1) = false := by rfl) :
    SE X T E mu io (.Call (.Name x p) (e :: es) [] pos) (eMk c bop m (fun _ => dv) ms aN) :=
  PE.impI (pe_make M F hr hg hm hb hd hx ha hdb he hpl) fun pins s σ H Q I ⟨O, fr, rl, q⟩ => by
    unfold eMk at q
    refine ⟨O, fr, rl, ?_⟩
    cases h1 : ms fr with
    | bad => rw [h1] at q; exact q
    | exc e => rw [h1] at q; exact q
    | ok p =>
      obtain ⟨as, fr1⟩ := p
      rw [h1] at q
      intro O1 H1 xs F1 R1 A1
      simp only [aN, SK.R.bind_ok] at q
      by_cases hc : lentS as = [] ∧ borOk bop [] 1 as = true
      · rw [if_pos hc] at q
        cases h2 : fillA fr1 as with
        | none => rw [h2] at q; exact q.elim
        | some args =>
          rw [h2] at q
          simp only [ofO, SK.R.bind_ok] at q
          intro w dz hw hz hne
          have hlen : (xs ++ dx).length + 1 = n := by
            rw [List.length_append, ← A1.len, ← (hdv O1 H1).len, hl fr as fr1 h1]
          refine make_core R1 (hdv O1 H1) hlen (by rw [R1.len.trans I.len]; exact hN) hw hz hne hc.2 hc.1 A1 h2 ?_
          cases h3 : m (.ins c [] [] :: (args ++ dv)) with
          | bad => rw [h3] at q; exact q
          | exc e => rw [h3] at q; exact pEx.back F1 q
          | ok p =>
            obtain ⟨v, outs⟩ := p
            rw [h3] at q
            simp only [SK.R.bind_ok] at q
            split at q
            · rename_i s e0
              cases e0
              exact fun O' H' F' R' V' => q O' H' _ (F1.trans F') R' V'
            · exact q.elim
      · rw [if_neg hc] at q; exact q.elim
abbrev SKw (X : Cx) (T : Tb) (E : XK) (mu : Nat → Bool) (io : List (Nat × V)) (kws : List Keyword) (m : AM) : Prop := PK X kws (rA X.K T E mu io m)
/-- C(e, .., k = v, ..) -/
theorem se_mkK {np : Nat} (M : Mk X.K (T.cl c) f) (F : FnOk X.prog X.w X.K X.mg X.base CX k f fd ps (spG X.K T [0] bop false n m)) (hr : Room (k + 1) X.A) (hg : Gl X x := by rfl) (hm : X.mg x = some (.ref (T.cl c))) (hb : KBn X.K fd ps (np + 1) ks gv (fun vs zs => vs ++ arV zs)) (hx : Passes CX X E := by exact pass0) (hN : X.N.length ≤ MK := by decide)
    (har : ∀ O H zs zs', VRs X.K T O H zs zs' → zs.length = ks.length → VRs X.K T O H (ar zs) (arV zs') ∧ (ar zs).length + np + 1 = n)
    (ha : SL X T E mu io (e :: es) ms) (hk : SKw X T E mu io kws mk) (hl : ∀ fr as fr', ms fr = .ok (as, fr') → as.length = np) (hlk : ∀ fr zs fr', mk fr = .ok (zs, fr') → zs.length = ks.length)
    (hall : (backToKw pos (keywordEach kws X.env)).all (·.1.isSome) = true := by rfl) (hks : (backToKw pos (keywordEach kws X.env)).filterMap (·.1) = ks := by rfl) (hdb : (x == ("__debug__" : Str)) = false := by decide) (he : starEach (e :: es) X.env = (false, eval e X.env) :: starEach es X.env := by rfl)
    (hpl : ((backTo pos (starEach (e :: es) X.env)).any (·.1) || (backToKw pos (keywordEach kws X.env)).any (·.1.isNone)) = false := by rfl) :
    SE X T E mu io (.Call (.Name x p) (e :: es) kws pos) (eMk c bop m ar ms mk) :=
  PE.impI (pe_makeK M F hr hg hm hb hx ha hk hall hks hdb he hpl) fun pins s σ H Q I ⟨O, fr, rl, q⟩ => by
    unfold eMk at q
    refine ⟨O, fr, rl, ?_⟩
    cases h1 : ms fr with
    | bad => rw [h1] at q; exact q
    | exc e => rw [h1] at q; exact q
    | ok p =>
      obtain ⟨as, fr1⟩ := p
      rw [h1] at q
      intro O1 H1 xs F1 R1 A1
      simp only [SK.R.bind_ok] at q
      refine ⟨O1, fr1, R1, ?_⟩
      cases h4 : mk fr1 with
      | bad => rw [h4] at q; exact q
      | exc e => rw [h4] at q; exact pEx.back F1 q
      | ok p =>
        obtain ⟨zs, fr2⟩ := p
        rw [h4] at q
        intro O2 H2 zs' F2 R2 Z2
        simp only [SK.R.bind_ok] at q
        have A2 := A1.mono F2
        have lz := hlk fr1 zs fr2 h4
        obtain ⟨g1, g2⟩ := har O2 H2 zs zs' Z2 lz
        by_cases hc : lentS as = [] ∧ borOk bop [] 1 as = true
        · rw [if_pos hc] at q
          cases h2 : fillA fr2 as with
          | none => rw [h2] at q; exact q.elim
          | some args =>
            rw [h2] at q
            simp only [ofO, SK.R.bind_ok] at q
            refine ⟨by rw [← A1.len]; exact hl fr as fr1 h1, by rw [← Z2.len]; exact lz, fun w dz hw hz hne => ?_⟩
            have hlen : (xs ++ arV zs').length + 1 = n := by
              rw [List.length_append, ← A1.len, ← g1.len, hl fr as fr1 h1]; omega
            show spG X.K T [0] bop false n m (.ref w :: (xs ++ arV zs')) _ _ E
            refine make_core R2 g1 hlen (by rw [R2.len.trans I.len]; exact hN) hw hz hne hc.2 hc.1 A2 h2 ?_
            cases h3 : m (.ins c [] [] :: (args ++ ar zs)) with
            | bad => rw [h3] at q; exact q
            | exc e => rw [h3] at q; exact pEx.back (F1.trans F2) q
            | ok p =>
              obtain ⟨v, outs⟩ := p
              rw [h3] at q
              simp only [SK.R.bind_ok] at q
              split at q
              · rename_i s e0
                cases e0
                exact fun O' H' F' R' V' => q O' H' _ ((F1.trans F2).trans F') R' V'
              · exact q.elim
        · rw [if_neg hc] at q; exact q.elim
/-! ### methods -/
/-- what of the text the classes cs must have for the method x, the def f -/
structure MtF (K : PySem.W.Frag) (T : Tb) (cs : List Nat) (x : Str) (f : Addr) : Prop where
  nm : ∀ g, g < T.nf → T.fld g ≠ x
  cl : ∀ c, cs.contains c = true → Cls K (T.cl c) ∧ Meth K (T.cl c) x f
theorem FsR.no {x : Str} {fs : List Nat} {ws : List V} {fs' : List (Str × V)} (r : FsR T fs ws fs') (nm : ∀ g, g < T.nf → T.fld g ≠ x) : fs'.lookup x = none := by
  rw [r.2.2.2]
  have : ∀ {fs : List Nat} {ws : List V}, (∀ g ∈ fs, g < T.nf) → ((fs.map T.fld).zip ws).lookup x = none := by
    intro fs
    induction fs with
    | nil => intro ws _; rfl
    | cons f fs ih =>
      intro ws h
      cases ws with
      | nil => rfl
      | cons w ws =>
        have : (x == T.fld f) = false := by simpa using fun z => nm f (h f List.mem_cons_self) z.symm
        show List.lookup x ((T.fld f, w) :: (fs.map T.fld).zip ws) = none
        simp only [List.lookup, this]
        exact ih fun g hg => h g (List.mem_cons_of_mem _ hg)
  exact this r.2.2.1
/-- o.m(..): the object by value -/
theorem lC_imp {K : PySem.W.Frag} {σ : St} {H : Hp} {Q : List V → Hp → Prop} {c0 : Nat} (h0 : cs.contains c0 = true) (h : rL K T E mu io (lC (chk cs ma) ms) σ H Q) : ∃ c, cs.contains c = true ∧ rE K T E mu io ma σ H fun x H1 => (∃ a dx fs ws fs', x = .ref a ∧ H1 a = some (.ins (T.cl c) dx fs') ∧ FsR T fs ws fs') ∧ rL K T E mu io ms σ H1 fun ys H2 => Q (x :: ys) H2 := by
  obtain ⟨O, fr, rl, q⟩ := h
  unfold lC chk at q
  cases h1 : ma fr with
  | bad => rw [h1] at q; exact q.elim
  | exc e => rw [h1] at q; exact ⟨c0, h0, O, fr, rl, by rw [h1]; exact q⟩
  | ok p =>
    obtain ⟨v, fr1⟩ := p
    rw [h1] at q
    simp only [SK.R.bind_ok] at q
    by_cases hc : isC cs v = true
    · rw [if_pos hc] at q
      simp only [SK.R.bind_ok] at q
      cases v with
      | ins c fs vs =>
        refine ⟨c, hc, O, fr, rl, ?_⟩
        rw [h1]
        intro O1 H1 x' F1 R1 V1
        obtain ⟨a, dx, fs', ws, rfl, h4, h5, h6, h7⟩ := V1.ins
        refine ⟨⟨a, dx, fs, ws, fs', rfl, h4, h6⟩, O1, fr1, R1, ?_⟩
        cases h2 : ms fr1 with
        | bad => rw [h2] at q; exact q
        | exc e => rw [h2] at q; exact pEx.back F1 q
        | ok p =>
          obtain ⟨ys, fr2⟩ := p
          rw [h2] at q
          intro O2 H2 ys' F2 R2 A2
          exact q O2 H2 _ (F1.trans F2) R2 ⟨V1.mono F2, A2⟩
      | _ => cases hc
    · rw [if_neg hc] at q; exact q.elim
theorem tpi_of {K : PySem.W.Frag} {O : Own} {H : Hp} {c : Nat} {fs : List Nat} {vs : List Val} {x : V} (tp : TpR K T O H (.ins c fs vs) x) : ∃ a dx fs' ws, x = .ref a ∧ H a = some (.ins (T.cl c) dx fs') ∧ FsR T fs ws fs' ∧ TFs K T O H c fs vs ws := by
  rcases tp with (tp | ⟨w, tp⟩) | tp
  · obtain ⟨a, dx, fs', ws, e, h4, h5, h6, h7⟩ := tp.ins
    exact ⟨a, dx, fs', ws, e, h4, h6, h7.tf h6.1⟩
  · exact tp.elim
  · exact tp
/-- .. in a slot, lent -/
theorem lI_imp {K : PySem.W.Frag} {σ : St} {H : Hp} {Q : List V → Hp → Prop} (hm : mu i = true) (h : rL K T E mu io (chkS cs i (lI i ms)) σ H Q) : ∃ c, cs.contains c = true ∧ tVar i σ H fun x H1 => (∃ a dx fs ws fs', x = .ref a ∧ H1 a = some (.ins (T.cl c) dx fs') ∧ FsR T fs ws fs') ∧ rL K T E mu io ms σ H1 fun ys H2 => Q (x :: ys) H2 := by
  obtain ⟨O, fr, rl, q⟩ := h
  unfold chkS lI at q
  rcases getS_cases fr i with ⟨v, e2, e3⟩ | e3
  · rw [e3] at q
    simp only [SK.R.bind_ok] at q
    by_cases hc : isC cs v = true
    · obtain ⟨v0, e20, e21⟩ := id e2
      rw [if_pos hc, e20] at q
      obtain ⟨x, hx, tp⟩ := rl.tp e2
      cases v with
      | ins c fs vs =>
        obtain ⟨a, dx, fs', ws, rfl, h4, h6, h7⟩ := tpi_of tp
        refine ⟨c, hc, .ref a, hx, ⟨a, dx, fs, ws, fs', rfl, h4, h6⟩, O, fr, rl, ?_⟩
        cases h2 : ms fr with
        | bad => rw [h2] at q; exact q
        | exc e => rw [h2] at q; exact q
        | ok p =>
          obtain ⟨ys, fr2⟩ := p
          rw [h2] at q
          intro O2 H2 ys' F2 R2 A2
          exact q O2 H2 _ F2 R2 ⟨⟨hm, hx⟩, A2⟩
      | _ => cases hc
    · rw [if_neg hc] at q; exact q.elim
  · rw [e3] at q; exact q.elim
/-- .. in a slot, lent to be read -/
theorem lB_imp {K : PySem.W.Frag} {σ : St} {H : Hp} {Q : List V → Hp → Prop} (hm : mu i = true ∨ mu (BOR + i) = true) (h : rL K T E mu io (chkS cs i (lB i ms)) σ H Q) : ∃ c, cs.contains c = true ∧ tVar i σ H fun x H1 => (∃ a dx fs ws fs', x = .ref a ∧ H1 a = some (.ins (T.cl c) dx fs') ∧ FsR T fs ws fs') ∧ rL K T E mu io ms σ H1 fun ys H2 => Q (x :: ys) H2 := by
  obtain ⟨O, fr, rl, q⟩ := h
  unfold chkS lB at q
  rcases getS_cases fr i with ⟨v, e2, e3⟩ | e3
  · rw [e3] at q
    simp only [SK.R.bind_ok] at q
    by_cases hc : isC cs v = true
    · obtain ⟨v0, e20, e21⟩ := id e2
      rw [if_pos hc, e20] at q
      obtain ⟨x, hx, tp⟩ := rl.tp e2
      cases v with
      | ins c fs vs =>
        obtain ⟨a, dx, fs', ws, rfl, h4, h6, h7⟩ := tpi_of tp
        refine ⟨c, hc, .ref a, hx, ⟨a, dx, fs, ws, fs', rfl, h4, h6⟩, O, fr, rl, ?_⟩
        cases h2 : ms fr with
        | bad => rw [h2] at q; exact q
        | exc e => rw [h2] at q; exact q
        | ok p =>
          obtain ⟨ys, fr2⟩ := p
          rw [h2] at q
          intro O2 H2 ys' F2 R2 A2
          exact q O2 H2 _ F2 R2 ⟨⟨hm, hx⟩, A2⟩
      | _ => cases hc
    · rw [if_neg hc] at q; exact q.elim
  · rw [e3] at q; exact q.elim
variable {mn : Str} {o : Expr} {pl : Sem Bool} {c0 : Nat}
/-- what the two forms of a method call ask of the text -/
abbrev MtE (X : Cx) (o : Expr) (mn : Str) (es : List Expr) (apos pos : Pos) (pl : Sem Bool) : Prop := eval (.Call (.Attribute o mn apos) es [] pos) X.env = (do
      let ov ← eval o X.env
      standAt apos.atName
      let (f, first) ← holding [ov] (getMethod ov mn pl)
      callWith pos f first (backTo pos (starEach es X.env)) (backToKw pos (keywordEach [] X.env)))
theorem sx_mt (hM : MtF X.K T cs mn f) (h0 : cs.contains c0 = true) (F : FnOk X.prog X.w X.K X.mg X.base CX k f fd ps (spG X.K T iop bop ro n m)) (hr : Room k X.A) (hb : Binds X.K fd ps ds) (hd : Vals dx ds) (hdv : ∀ O H, VRs X.K T O H dv dx) (hRES : iop.contains RES = false := by rfl) (hx : Passes CX X E := by exact pass0)
    (ho : SE X T E mu io o ma) (ha : SL X T E mu io (e :: es) ms) (hl : ∀ fr as fr', lC (chk cs ma) ms fr = .ok (as, fr') → as.length + dv.length = n) (hst : starEach (e :: es) X.env = (false, eval e X.env) :: starEach es X.env := by rfl) (hpl : (backTo pos (starEach es X.env)).any (·.1) = false := by rfl) (ht : MtE X o mn (e :: es) apos pos pl := by rfl) :
    SX X T E mu io ro r (.Call (.Attribute o mn apos) (e :: es) [] pos) (callM iop bop m dv (lC (chk cs ma) ms)) := by
  refine ⟨fun pins s σ H Q I h => ?_⟩
  obtain ⟨c, hc, h3⟩ := lC_imp h0 (call_imp hdv hRES hl h)
  obtain ⟨k1, k2⟩ := hM.cl c hc
  refine (pe_meth (pl := pl) ho k1 k2 F hr hb hd hx ha hst hpl ht).run pins s σ H Q I ?_
  obtain ⟨O, fr, rl, q⟩ := h3
  refine ⟨O, fr, rl, ?_⟩
  cases h1 : ma fr with
  | bad => rw [h1] at q; exact q
  | exc e => rw [h1] at q; exact q
  | ok p =>
    obtain ⟨v, fr1⟩ := p
    rw [h1] at q
    intro O1 H1 x' F1 R1 V1
    obtain ⟨⟨a, dx, fs, ws, fs', rfl, h4, h6⟩, q2⟩ := q O1 H1 x' F1 R1 V1
    exact ⟨a, dx, fs', rfl, h4, h6.no hM.nm, q2⟩
theorem sx_mt0 (hM : MtF X.K T cs mn f) (h0 : cs.contains c0 = true) (F : FnOk X.prog X.w X.K X.mg X.base CX k f fd ps (spG X.K T iop bop ro n m)) (hr : Room k X.A) (hb : Binds X.K fd ps ds) (hd : Vals dx ds) (hdv : ∀ O H, VRs X.K T O H dv dx) (hRES : iop.contains RES = false := by rfl) (hx : Passes CX X E := by exact pass0)
    (ho : SE X T E mu io o ma) (hl : ∀ fr as fr', lC (chk cs ma) lN fr = .ok (as, fr') → as.length + dv.length = n) (ht : MtE X o mn [] apos pos pl := by rfl) :
    SX X T E mu io ro r (.Call (.Attribute o mn apos) [] [] pos) (callM iop bop m dv (lC (chk cs ma) lN)) := by
  refine ⟨fun pins s σ H Q I h => ?_⟩
  obtain ⟨c, hc, h3⟩ := lC_imp h0 (call_imp hdv hRES hl h)
  obtain ⟨k1, k2⟩ := hM.cl c hc
  refine (pe_meth0 (pl := pl) ho k1 k2 F hr hb hd hx ht).run pins s σ H Q I ?_
  obtain ⟨O, fr, rl, q⟩ := h3
  refine ⟨O, fr, rl, ?_⟩
  cases h1 : ma fr with
  | bad => rw [h1] at q; exact q
  | exc e => rw [h1] at q; exact q
  | ok p =>
    obtain ⟨v, fr1⟩ := p
    rw [h1] at q
    intro O1 H1 x' F1 R1 V1
    obtain ⟨⟨a, dx, fs, ws, fs', rfl, h4, h6⟩, q2⟩ := q O1 H1 x' F1 R1 V1
    exact ⟨a, dx, fs', rfl, h4, h6.no hM.nm, rL_nil q2⟩
theorem sx_mtS (lend : Bool) (hm : mu i = true ∨ (lend = false ∧ mu (BOR + i) = true) := by first | exact .inl rfl | exact .inr ⟨rfl, rfl⟩) (sl : Sl X i x) (hM : MtF X.K T cs mn f) (F : FnOk X.prog X.w X.K X.mg X.base CX k f fd ps (spG X.K T iop bop ro n m)) (hr : Room k X.A) (hb : Binds X.K fd ps ds) (hd : Vals dx ds) (hdv : ∀ O H, VRs X.K T O H dv dx) (hRES : iop.contains RES = false := by rfl) (hx : Passes CX X E := by exact pass0)
    (ha : SL X T E mu io (e :: es) ms) (hl : ∀ fr as fr', chkS cs i (if lend = true then lI i ms else lB i ms) fr = .ok (as, fr') → as.length + dv.length = n) (hst : starEach (e :: es) X.env = (false, eval e X.env) :: starEach es X.env := by rfl) (hpl : (backTo pos (starEach es X.env)).any (·.1) = false := by rfl) (ht : MtE X (.Name x p) mn (e :: es) apos pos pl := by rfl) :
    SX X T E mu io ro r (.Call (.Attribute (.Name x p) mn apos) (e :: es) [] pos) (callM iop bop m dv (chkS cs i (if lend = true then lI i ms else lB i ms))) := by
  refine ⟨fun pins s σ H Q I h => ?_⟩
  have h2 := call_imp hdv hRES hl h
  have h3 : ∃ c, cs.contains c = true ∧ tVar i σ H fun x H1 => (∃ a dx fs ws fs', x = .ref a ∧ H1 a = some (.ins (T.cl c) dx fs') ∧ FsR T fs ws fs') ∧ rL X.K T E mu io ms σ H1 fun ys H2 => spG X.K T iop bop ro n m (x :: ys ++ dx) H2 Q E := by
    cases lend with
    | true => exact lI_imp (hm.elim (fun z => z) fun z => by cases z.1) h2
    | false => exact lB_imp (hm.elim .inl fun z => .inr z.2) h2
  obtain ⟨c, hc, h3⟩ := h3
  obtain ⟨k1, k2⟩ := hM.cl c hc
  refine (pe_meth (pl := pl) sl.pe k1 k2 F hr hb hd hx ha hst hpl ht).run pins s σ H Q I ?_
  obtain ⟨v, hv, ⟨a, dx, fs, ws, fs', rfl, h4, h6⟩, q2⟩ := h3
  exact ⟨.ref a, hv, a, dx, fs', rfl, h4, h6.no hM.nm, q2⟩
theorem sx_mtS0 (lend : Bool) (hm : mu i = true ∨ (lend = false ∧ mu (BOR + i) = true) := by first | exact .inl rfl | exact .inr ⟨rfl, rfl⟩) (sl : Sl X i x) (hM : MtF X.K T cs mn f) (F : FnOk X.prog X.w X.K X.mg X.base CX k f fd ps (spG X.K T iop bop ro n m)) (hr : Room k X.A) (hb : Binds X.K fd ps ds) (hd : Vals dx ds) (hdv : ∀ O H, VRs X.K T O H dv dx) (hRES : iop.contains RES = false := by rfl) (hx : Passes CX X E := by exact pass0)
    (hl : ∀ fr as fr', chkS cs i (if lend = true then lI i lN else lB i lN) fr = .ok (as, fr') → as.length + dv.length = n) (ht : MtE X (.Name x p) mn [] apos pos pl := by rfl) :
    SX X T E mu io ro r (.Call (.Attribute (.Name x p) mn apos) [] [] pos) (callM iop bop m dv (chkS cs i (if lend = true then lI i lN else lB i lN))) := by
  refine ⟨fun pins s σ H Q I h => ?_⟩
  have h2 := call_imp hdv hRES hl h
  have h3 : ∃ c, cs.contains c = true ∧ tVar i σ H fun x H1 => (∃ a dx fs ws fs', x = .ref a ∧ H1 a = some (.ins (T.cl c) dx fs') ∧ FsR T fs ws fs') ∧ rL X.K T E mu io lN σ H1 fun ys H2 => spG X.K T iop bop ro n m (x :: ys ++ dx) H2 Q E := by
    cases lend with
    | true => exact lI_imp (hm.elim (fun z => z) fun z => by cases z.1) h2
    | false => exact lB_imp (hm.elim .inl fun z => .inr z.2) h2
  obtain ⟨c, hc, h3⟩ := h3
  obtain ⟨k1, k2⟩ := hM.cl c hc
  refine (pe_meth0 (pl := pl) sl.pe k1 k2 F hr hb hd hx ht).run pins s σ H Q I ?_
  obtain ⟨v, hv, ⟨a, dx, fs, ws, fs', rfl, h4, h6⟩, q2⟩ := h3
  exact ⟨.ref a, hv, a, dx, fs', rfl, h4, h6.no hM.nm, rL_nil q2⟩
end
end SK

set_option maxHeartbeats 1000000
/-! SK12: isinstance, own ==. -/
namespace SK
open PySem L2

/-- a value's type -/
def tyV (T : Tb) : Val → Value
  | .non => .type "NoneType"
  | .bl _ => .type "bool"
  | .int _ => .type "int"
  | .str _ => .type "str"
  | .tup _ => .type "tuple"
  | .lst _ => .type "list"
  | .dic _ _ => .type "dict"
  | .ins c _ _ => .ref (T.cl c)
  | .scr _ => .type "list"
structure ClsI (K : PySem.W.Frag) (C : Addr) : Prop where
  cl : Cls K C
  ha : PySem.W.findIn K (.ref C) "__class__" = some (some (.builtin "object.__class__"))
  hm : PySem.W.mroIn K C (.type "object") = some true
structure InsI (K : PySem.W.Frag) (T : Tb) : Prop where
  hn : PySem.W.specialIn K (.builtin "object.__class__") "__get__" = some (some (.builtin "getset_descriptor.__get__"))
  htk : PySem.W.takesIn K (.builtin "object.__class__") = some true
  cl : ∀ c, ClsI K (T.cl c)
  kd : ∀ a kvs, T.kd a kvs → ∃ o, K.lookup a = some o ∧ o.cls = .type "dict"
section
variable {K : PySem.W.Frag} {T : Tb} {O : Own} {H : Hp}
theorem ty_of (W : InsI K T) : ∀ {v : Val} {x : V}, VR K T O H v x → TyX K H x (tyV T v)
  | .non, x, h => by cases h.non; exact .base .non
  | .bl b, x, h => by cases h.bl; exact .base (.bl b)
  | .int i, x, h => by cases h.int; exact .base (.int i)
  | .str s, x, h => by obtain ⟨z, rfl, _⟩ := h.str; exact .base (.str z)
  | .tup xs, x, h => by
    obtain ⟨a, vs, rfl, t, r⟩ := h.tup
    rcases t with ⟨t, _⟩ | t
    · exact .base (.tup t)
    · rcases t H with (t | ⟨o, t⟩) | ⟨o, its, n, hk, hc, _⟩
      · exact .base (.tup t)
      · exact .fTuple t
      · exact .kTuple hk hc
  | .lst xs, x, h => by
    obtain ⟨a, vs, rfl, t, r⟩ := h.lst
    exact .base (.lst t.1)
  | .dic ks vs, x, h => by
    unfold VR at h
    obtain ⟨a, kvs, rfl, t, q, r⟩ := h
    rcases t with ⟨t, _⟩ | t
    · exact .base (.dK t)
    · obtain ⟨o, h1, h2⟩ := W.kd a kvs t
      exact .kDict h1 h2
  | .ins c fs vs, x, h => by
    obtain ⟨a, dx, fs', ws, rfl, h4, h5, h6, h7⟩ := h.ins
    exact .base (.ins h4 (W.cl c).cl (W.cl c).ha W.hn W.htk (W.cl c).hm)
  | .scr ns, x, h => by
    unfold VR at h
    obtain ⟨a, rfl, h | ⟨⟨o, h⟩, _⟩ | h⟩ := h
    · exact .base (.lst h.1)
    · exact .base (.frz h)
    · rcases h H with (t | ⟨o, t⟩) | ⟨o, its, n, hk, hc, _⟩
      · exact .base (.lst t)
      · exact .base (.frz t)
      · exact .kList hk hc
end
/-- isinstance(e, c): f answers by the value -/
def eIs (f : Val → Option Bool) (a : EM) : EM := fun fr => (a fr).bind fun x => (ofO (f x.1)).bind fun b => .ok (.bl b, x.2)
def eIsS (f : Val → Option Bool) (i : Nat) : EM := fun fr => (getS fr i).bind fun v => (ofO (f v)).bind fun b => .ok (.bl b, fr)
section
variable {X : Cx} {T : Tb} {E : XK} {mu : Nat → Bool} {io : List (Nat × V)} {e c : Expr} {es : List Expr} {ma mb : EM} {pos : Pos} {i j : Nat} {x y g : Str} {p p' apos : Pos} {cs : List Nat} {cv : V} {cu : Value} {f : Val → Option Bool}
theorem se_is (W : InsI X.K T) (hf : ∀ v b, f v = some b → PySem.W.kitOne X.K (tyV T v) cu = some b) (hg : Gl X g := by rfl) (hm : X.mg g = none) (hv : bootBuiltins g = some (.builtin "isinstance") := by first | rfl | decide +kernel) (ha : SE X T E mu io e ma) (hc : PE X c (tC cv)) (hk : ClsV cv cu) (hn : g ≠ "__name__" := by decide) (hdb : (g == ("__debug__" : Str)) = false := by decide)
    (he : starEach [e, c] X.env = (false, eval e X.env) :: starEach [c] X.env := by rfl) (he2 : starEach [c] X.env = (false, eval c X.env) :: starEach [] X.env := by rfl) (hpl : (backTo pos (starEach [c] X.env)).any (·.1) = false := by rfl) : SE X T E mu io (.Call (.Name g p) [e, c] [] pos) (eIs f ma) :=
  PE.imp (pe_callB call_isi hg hm hv (pa_cons ha (pa_cons hc pa_nil he2) he) hn hdb he hpl) fun σ H Q ⟨O, fr, rl, q⟩ => by
    unfold eIs at q
    refine ⟨O, fr, rl, ?_⟩
    cases h1 : ma fr with
    | bad => rw [h1] at q; exact q
    | exc e => rw [h1] at q; exact q
    | ok p =>
      obtain ⟨v, fr1⟩ := p
      rw [h1] at q
      intro O1 H1 x' F1 R1 V1
      simp only [SK.R.bind_ok] at q
      cases h2 : f v with
      | none => rw [h2] at q; exact q.elim
      | some b =>
        rw [h2] at q
        exact ⟨x', cv, _, cu, b, rfl, hk, ty_of W V1, hf v b h2, q O1 H1 _ F1 R1 vr_bl⟩
theorem se_isS (W : InsI X.K T) (hf : ∀ v b, f v = some b → PySem.W.kitOne X.K (tyV T v) cu = some b) (hg : Gl X g := by rfl) (hm : X.mg g = none) (hv : bootBuiltins g = some (.builtin "isinstance") := by first | rfl | decide +kernel) (s : Sl X i x) (hc : PE X c (tC cv)) (hk : ClsV cv cu) (hn : g ≠ "__name__" := by decide) (hdb : (g == ("__debug__" : Str)) = false := by decide)
    (he : starEach [.Name x p', c] X.env = (false, eval (.Name x p') X.env) :: starEach [c] X.env := by rfl) (he2 : starEach [c] X.env = (false, eval c X.env) :: starEach [] X.env := by rfl) (hpl : (backTo pos (starEach [c] X.env)).any (·.1) = false := by rfl) : SE X T E mu io (.Call (.Name g p) [.Name x p', c] [] pos) (eIsS f i) :=
  PE.imp (pe_callB call_isi hg hm hv (pa_cons s.pe (pa_cons hc pa_nil he2) he) hn hdb he hpl) fun σ H Q ⟨O, fr, rl, q⟩ => by
    unfold eIsS at q
    rcases getS_cases fr i with ⟨v, e2, e3⟩ | e3
    · rw [e3] at q
      obtain ⟨x, hx, tp⟩ := rl.tp e2
      simp only [SK.R.bind_ok] at q
      cases h2 : f v with
      | none => rw [h2] at q; exact q.elim
      | some b =>
        rw [h2] at q
        exact ⟨x, hx, x, cv, _, cu, b, rfl, hk, ty_of W tp.on, hf v b h2, q O H _ (Fm.refl _ _) rl vr_bl⟩
    · rw [e3] at q; exact q.elim
/-- a tuple of classes -/
structure PCs (X : Cx) (es : List Expr) (cvs : List V) : Prop where
  pa : PA X es (fun σ H Q => Q cvs H)
theorem pcs_nil : PCs X [] [] := ⟨pa_nil⟩
theorem pcs_cons {cvs : List V} (h : PE X e (tC cv)) (r : PCs X es cvs) (hs : starEach (e :: es) X.env = (false, eval e X.env) :: starEach es X.env := by rfl) : PCs X (e :: es) (cv :: cvs) := ⟨pa_cons h r.pa hs⟩
theorem se_isT {es : List Expr} {cvs : List V} {cus : List Value} {kk : Nat} {pt : Pos} (W : InsI X.K T) (hf : ∀ v b, f v = some b → PySem.W.kitAny X.K (tyV T v) cus = some b) (hg : Gl X g := by rfl) (hm : X.mg g = none) (hv : bootBuiltins g = some (.builtin "isinstance") := by first | rfl | decide +kernel) (ha : SE X T E mu io e ma) (hc : PCs X es cvs) (hl : cvs.length ≤ 100) (hk : Paired ClsV cvs cus) (hn : g ≠ "__name__" := by decide) (hdb : (g == ("__debug__" : Str)) = false := by decide)
    (he : starEach [e, .Tuple es kk pt] X.env = (false, eval e X.env) :: starEach [.Tuple es kk pt] X.env := by rfl) (he2 : starEach [.Tuple es kk pt] X.env = (false, eval (.Tuple es kk pt) X.env) :: starEach [] X.env := by rfl) (hpl : (backTo pos (starEach [.Tuple es kk pt] X.env)).any (·.1) = false := by rfl) : SE X T E mu io (.Call (.Name g p) [e, .Tuple es kk pt] [] pos) (eIs f ma) :=
  PE.imp (pe_callB call_isiT hg hm hv (pa_cons ha (pa_cons (pe_tup hc.pa) pa_nil he2) he) hn hdb he hpl) fun σ H Q ⟨O, fr, rl, q⟩ => by
    unfold eIs at q
    refine ⟨O, fr, rl, ?_⟩
    cases h1 : ma fr with
    | bad => rw [h1] at q; exact q
    | exc e => rw [h1] at q; exact q
    | ok p =>
      obtain ⟨v, fr1⟩ := p
      rw [h1] at q
      intro O1 H1 x' F1 R1 V1
      simp only [SK.R.bind_ok] at q
      cases h2 : f v with
      | none => rw [h2] at q; exact q.elim
      | some b =>
        rw [h2] at q
        refine ⟨by have : sizeLine = 16777216 := rfl; omega, fun tp htp => ?_⟩
        have X2 : Hx H1 (upd H1 tp (.tup cvs)) := Hx.upd htp
        exact ⟨x', tp, cvs, _, cus, b, rfl, upd_same, hk, ty_of W (V1.mono X2.fm), hf v b h2, q O1 _ _ (F1.trans X2.fm) (R1.hx X2) vr_bl⟩
theorem se_isTS {es : List Expr} {cvs : List V} {cus : List Value} {kk : Nat} {pt : Pos} (W : InsI X.K T) (hf : ∀ v b, f v = some b → PySem.W.kitAny X.K (tyV T v) cus = some b) (hg : Gl X g := by rfl) (hm : X.mg g = none) (hv : bootBuiltins g = some (.builtin "isinstance") := by first | rfl | decide +kernel) (s : Sl X i x) (hc : PCs X es cvs) (hl : cvs.length ≤ 100) (hk : Paired ClsV cvs cus) (hn : g ≠ "__name__" := by decide) (hdb : (g == ("__debug__" : Str)) = false := by decide)
    (he : starEach [.Name x p', .Tuple es kk pt] X.env = (false, eval (.Name x p') X.env) :: starEach [.Tuple es kk pt] X.env := by rfl) (he2 : starEach [.Tuple es kk pt] X.env = (false, eval (.Tuple es kk pt) X.env) :: starEach [] X.env := by rfl) (hpl : (backTo pos (starEach [.Tuple es kk pt] X.env)).any (·.1) = false := by rfl) : SE X T E mu io (.Call (.Name g p) [.Name x p', .Tuple es kk pt] [] pos) (eIsS f i) :=
  PE.imp (pe_callB call_isiT hg hm hv (pa_cons s.pe (pa_cons (pe_tup hc.pa) pa_nil he2) he) hn hdb he hpl) fun σ H Q ⟨O, fr, rl, q⟩ => by
    unfold eIsS at q
    rcases getS_cases fr i with ⟨v, e2, e3⟩ | e3
    · rw [e3] at q
      obtain ⟨x, hx, tp⟩ := rl.tp e2
      simp only [SK.R.bind_ok] at q
      cases h2 : f v with
      | none => rw [h2] at q; exact q.elim
      | some b =>
        rw [h2] at q
        refine ⟨x, hx, by have : sizeLine = 16777216 := rfl; omega, fun t htp => ?_⟩
        have X2 : Hx H (upd H t (.tup cvs)) := Hx.upd htp
        exact ⟨x, t, cvs, _, cus, b, rfl, upd_same, hk, ty_of W ((tp.on).monoB X2.fm.b), hf v b h2, q O _ _ X2.fm (rl.hx X2) vr_bl⟩
    · rw [e3] at q; exact q.elim
/-! ### == by an own __eq__ -/
/-- x == y, x != y: x an instance of cs, whose __eq__ is m -/
def okE (cs : List Nat) (nf : Nat → Val → Bool) (a b : Val) : Bool := match a with
  | .ins c _ _ => cs.contains c && nf c b
  | _ => false
def eEqI (cs : List Nat) (nf : Nat → Val → Bool) (neg : Bool) (m : FnM) (a b : EM) : EM := fun fr => (a fr).bind fun x => (b x.2).bind fun y => if okE cs nf x.1 y.1 = true then (m [x.1, y.1]).bind fun r => (ofO (isB r.1)).bind fun k => .ok (.bl (if neg = true then !k else k), y.2) else .bad
/-- what of the text the classes cs must have for ==: __eq__ at g -/
structure EqF (K : PySem.W.Frag) (T : Tb) (cs : List Nat) (g : Addr) : Prop where
  eq : ∀ c, cs.contains c = true → PySem.W.findIn K (.ref (T.cl c)) "__eq__" = some (some (.ref g))
  ne : ∀ c, cs.contains c = true → PySem.W.findIn K (.ref (T.cl c)) "__ne__" = some (some (.builtin "object.__ne__"))
  mo : ∀ c, cs.contains c = true → PySem.W.mroIn K (T.cl c) (.type "object") = some true
  fn : PySem.W.isFn K (.ref g) = true
variable {CX : CXT} {k n : Nat} {gf : Addr} {fd : FuncData} {ps : List Str} {bop : List Nat} {m : FnM} {sp : Sp}
def rOwnE (K : PySem.W.Frag) (T : Tb) (cs : List Nat) (E : XK) (neg : Bool) (sp : Sp) : R2 := fun x y H Q => ∃ c a dx fs' t, cs.contains c = true ∧ x = .ref a ∧ H a = some (.ins (T.cl c) dx fs') ∧ TyX K H y t ∧ PySem.W.notFirst K (T.cl c) t = true ∧
  sp [x, y] H (fun z H' => ∃ k, z = .bl k ∧ Q (.bl (if neg = true then !k else k)) H') E
theorem run_fnAt {A : Around} {pins : List (Addr × Obj)} {σ : St} {H : Hp} {s : Shared} {Q : VK} {us : List Value} {vs : List V} {f : Addr} (F : FnOk X.prog X.w X.K X.mg X.base CX k f fd ps sp) (hr : Room k A) (e0 : Env0 X.prog X.w X.K X.mg X.base A X.stack s H) (hb : Binds X.K fd ps []) (hx : Passes CX X E) (I : Inv X pins σ H s) (r : Vals vs us) (h : sp vs H Q E) :
    wpAny (model X.prog X.w) A (call (.ref f) us) (EP X pins σ Q) X.xe s := by
  have hl : (us ++ []).length = ps.length := by rw [List.append_nil, ← r.length]; exact F.len _ _ _ _ h
  have hb' := hb s us I.kIn hl
  rw [List.append_nil] at hb'
  refine wpAny_call (codeAny_mono (F.run A X.stack s H ⟨us, []⟩ us vs Q E hr e0 hb' r h) fun r s' hq => ?_)
  cases r with
  | error e => exact hx pins σ H s e s' I hq
  | ok fl =>
    cases fl with
    | ret u => exact I.after hq
    | next => exact False.elim hq
    | brk => exact False.elim hq
    | cont => exact False.elim hq
theorem o_own (hE : EqF X.K T cs gf) (F : FnOk X.prog X.w X.K X.mg X.base CX k gf fd ps sp) (hr : Room k X.A) (hb : Binds X.K fd ps []) (hx : Passes CX X E) : OpR X (compareOp .Eq) (rOwnE X.K T cs E false sp) := by
  intro pins s σ H x y v u Q I rx ry ⟨c, a, dx, fs', t, hc, e1, h1, h2, h3, q⟩
  subst e1
  cases (show v = Value.ref a from rx)
  obtain ⟨mA, O, _⟩ := ins_get I.hok h1
  obtain ⟨od, J, _⟩ := O.look
  obtain ⟨P, Z, p, _⟩ := kit_of I ry h2
  obtain ⟨mm, hF⟩ := I.fr
  show wpAny (model X.prog X.w) X.A (richCompare .Eq (.ref a) u) (EP X pins σ Q) X.xe s
  refine PySem.W.cmp_K (op := .Eq) (tb := t) hr.units0 hF I.ok.mod.kin J (Z.ty _ _ I.kIn p) h3 (hE.eq c hc) hE.fn ?_
  refine wpAny_mono (run_fnAt (us := [.ref a, u]) (vs := [.ref a, y]) F hr I.env0 hb hx I (.cons rfl (.cons ry .nil)) q) (fun w s' z => ?_) fun _ _ x => x
  obtain ⟨z', H', I', rz, b, e, qz⟩ := z
  subst e
  cases (show w = Value.bool b from rz)
  exact ⟨.bl b, H', I', rfl, qz⟩
end
section
open PySem.W
variable {prog : Program} {w : World} {A : Around} {E : Value → Shared → Prop} {s : Shared} {K : Frag} {x C L f : Addr} {h₀ : Heap} {m : Str → Option Value} {ox : Obj} {od : Option Obj} {b tb : Value}
theorem one_ne : findIn K (.ref C) "__ne__" = some (some (.builtin "object.__ne__")) → ∀ self, bindSpecial (.builtin "object.__ne__") self = pure (.builtin "object.__ne__", [self]) := fun _ self =>
  (Slot.of (T := "object") (name := "__ne__") (owner := "object") (n := "__ne__") (by rw [typeLookup_type, builtinLookup_eq_fast]; kernel_rfl) (by decide +kernel) (by decide +kernel) (by decide +kernel)
    (.inl (by decide +kernel)) (by rw [isSubtype_type]; kernel_rfl)).bind self
/-- x != b by the own __eq__ -/
theorem ne_K {Q : Value → Shared → Prop} (hu : A.units + 1 < cLine) (F : PyProof.Rows.Fr h₀ L s.heap m) (X₀ : K.In h₀) (I : InstAt s.heap x ox C od) (hb : Looks (model prog w) s.heap (typeOf b) tb) (hn : notFirst K C tb = true)
    (hs : findIn K (.ref C) "__eq__" = some (some (.ref f))) (hf : isFn K (.ref f) = true) (hne : findIn K (.ref C) "__ne__" = some (some (.builtin "object.__ne__"))) (hmo : mroIn K C (.type "object") = some true)
    (h : wpAny (model prog w) A.in1 (call (.ref f) [.ref x, b]) (fun v s' => ∃ k, v = .bool k ∧ Q (.bool (!k)) s') E s) : wpAny (model prog w) A (richCompare .NotEq (.ref x) b) Q E s := by
  have X := X₀.keeps F.keep
  have body : wpAny (model prog w) A (call (.builtin "object.__ne__") [.ref x, b]) (fun v s' => ∃ k, v = .bool k ∧ Q (.bool k) s') E s := by
    refine wpAny_call (codeAny_call_builtin (Slot.of (T := "object") (name := "__ne__") (owner := "object") (n := "__ne__") (by rw [typeLookup_type, builtinLookup_eq_fast]; kernel_rfl) (by decide +kernel) (by decide +kernel) (by decide +kernel)
      (.inl (by decide +kernel)) (by rw [isSubtype_type]; kernel_rfl)).plain PySem.F.cmpEntry_ne (check_slot PySem.F.cmpKind_ne PySem.F.cmpSplit_ne (I.type.andThen (looks_mroIn X hmo)) (PySem.F.cmpArgs_ne _ _) ?_))
    show wpAny (model prog w) A.in1 (Builtin.«object.__ne__» ⟨[.ref x, b], []⟩) _ _ s
    unfold Builtin.«object.__ne__»
    have hu1 : A.in1.units < cLine := hu
    repeat (first | with_reducible refine wpAny_cRoomFor hu1 ?_ | with_reducible refine ifBound_K X I hs hf (wpAny_mono h (fun v s' h' => ?_) fun _ _ h' => h') | wp_step)
    obtain ⟨k, rfl, q⟩ := h'
    refine wpAny_bind (wpAny_truthy_bool ?_)
    exact wpAny_pure ⟨_, rfl, q⟩
  have one : wpAny (model prog w) A (tryCompare (.ref x) "__ne__" b) (fun r s' => ∃ v, r = some v ∧ Q v s') E s := by
    unfold tryCompare
    refine wpAny_bind ?_
    simp only [callSpecialIfBound?, bindSpecialIfBound?]
    refine wpAny_holding (wpAny_bind (wpAny_bind (wpAny_bind (I.type.here ((looks_findIn X hne).here ?_)))))
    refine wpAny_bind (wpAny_askSetting (wpAny_ite ?_))
    have fin : wpAny (model prog w) A (call (.builtin "object.__ne__") ([.ref x] ++ [b]) >>= fun v => pure (some v)) (fun r s' => wpAny (model prog w) A (match r with | some .notImplemented => pure none | none => pure none | some r => pure (some r)) (fun r s' => ∃ v, r = some v ∧ Q v s') E s') E s := by
      refine wpAny_bind (wpAny_mono body (fun v s' h' => wpAny_pure ?_) fun _ _ h' => h')
      obtain ⟨k, rfl, q⟩ := h'
      exact wpAny_pure ⟨_, rfl, q⟩
    split
    · exact wpAny_bind (wpAny_of_eq (one_ne hne _) (wpAny_pure fin))
    · exact wpAny_tryCatch (wpAny_bind (wpAny_of_eq (one_ne hne _) (wpAny_pure fin)))
  unfold richCompare
  simp only [oneThing_ref]
  refine wpAny_holding (wpAny_bind (wpAny_cRoomFor (by omega) ?_))
  refine wpAny_bind (I.type.here (wpAny_bind (hb.here ?_)))
  split
  · rename_i q
    have e : subIn K tb (.ref C) = some false := by
      rcases Bool.or_eq_true_iff.mp hn with e | e
      · rw [beq_iff_eq.mp e] at q; simp at q
      · exact beq_iff_eq.mp e
    refine wpAny_bind ((looks_subIn X e).here ?_)
    simp only [Bool.false_eq_true, if_false]
    refine wpAny_bind (wpAny_mono one (fun r s' z => ?_) fun _ _ e => e)
    obtain ⟨v, rfl, hq⟩ := z
    exact wpAny_pure hq
  · refine wpAny_bind (wpAny_pure ?_)
    simp only [Bool.false_eq_true, if_false]
    refine wpAny_bind (wpAny_mono one (fun r s' z => ?_) fun _ _ e => e)
    obtain ⟨v, rfl, hq⟩ := z
    exact wpAny_pure hq
end
section
variable {X : Cx} {T : Tb} {E : XK} {mu : Nat → Bool} {io : List (Nat × V)} {ma mb : EM} {pos : Pos} {cs : List Nat} {CX : CXT} {k n : Nat} {gf : Addr} {fd : FuncData} {ps : List Str} {bop : List Nat} {m : FnM} {sp : Sp} {a b : Expr} {nf : Nat → Val → Bool}
theorem o_ownN (hE : EqF X.K T cs gf) (F : FnOk X.prog X.w X.K X.mg X.base CX k gf fd ps sp) (hr : Room (k + 1) X.A) (hb : Binds X.K fd ps []) (hx : Passes CX X E) : OpR X (compareOp .NotEq) (rOwnE X.K T cs E true sp) := by
  intro pins s σ H x y v u Q I rx ry ⟨c, a, dx, fs', t, hc, e1, h1, h2, h3, q⟩
  subst e1
  cases (show v = Value.ref a from rx)
  obtain ⟨mA, O, _⟩ := ins_get I.hok h1
  obtain ⟨od, J, _⟩ := O.look
  obtain ⟨P, Z, p, _⟩ := kit_of I ry h2
  obtain ⟨mm, hF⟩ := I.fr
  show wpAny (model X.prog X.w) X.A (richCompare .NotEq (.ref a) u) (EP X pins σ Q) X.xe s
  refine ne_K (tb := t) (by have := hr.un; omega) hF I.ok.mod.kin J (Z.ty _ _ I.kIn p) h3 (hE.eq c hc) hE.fn (hE.ne c hc) (hE.mo c hc) ?_
  refine wpAny_mono (run_fnAt (us := [.ref a, u]) (vs := [.ref a, y]) F hr.in1 I.env0.in1 hb hx I (.cons rfl (.cons ry .nil)) q) (fun w s' z => ?_) fun _ _ x => x
  obtain ⟨z', H', I', rz, b, e, qz⟩ := z
  subst e
  cases (show w = Value.bool b from rz)
  exact ⟨b, rfl, .bl (!b), H', I', rfl, qz⟩
theorem eEqI_imp {K : PySem.W.Frag} {neg : Bool} (W : InsI K T) (hnf : ∀ c v, cs.contains c = true → nf c v = true → PySem.W.notFirst K (T.cl c) (tyV T v) = true) {σ : St} {H : Hp} {Q : VK} (h : rE K T E mu io (eEqI cs nf neg m ma mb) σ H Q) :
    tOp (rOwnE K T cs E neg (spG K T [] bop false 2 m)) (rE K T E mu io ma) (rE K T E mu io mb) σ H Q := by
  obtain ⟨O, fr, rl, q⟩ := h
  unfold eEqI at q
  refine ⟨O, fr, rl, ?_⟩
  cases h1 : ma fr with
  | bad => rw [h1] at q; exact q
  | exc e => rw [h1] at q; exact q
  | ok p =>
    obtain ⟨x, fr1⟩ := p
    rw [h1] at q
    intro O1 H1 x' F1 R1 V1
    refine ⟨O1, fr1, R1, ?_⟩
    simp only [SK.R.bind_ok] at q
    cases h2 : mb fr1 with
    | bad => rw [h2] at q; exact q
    | exc e => rw [h2] at q; exact pEx.back F1 q
    | ok p =>
      obtain ⟨y, fr2⟩ := p
      rw [h2] at q
      intro O2 H2 y' F2 R2 V2
      simp only [SK.R.bind_ok] at q
      by_cases hk : okE cs nf x y = true
      · rw [if_pos hk] at q
        cases x with
        | ins c fs vs =>
          have hk' : (cs.contains c && nf c y) = true := hk
          rw [Bool.and_eq_true] at hk'
          have V1' := V1.mono F2
          obtain ⟨a, dx, fs', ws, rfl, h4, h5, h6, h7⟩ := V1'.ins
          refine ⟨c, a, dx, fs', _, hk'.1, rfl, h4, ty_of W V2, hnf c y hk'.1 hk'.2, ?_⟩
          have V1'' : VR K T O2 H2 (.ins c fs vs) (.ref a) := V1'
          refine call_core (r := 0) (iop := []) (bop := bop) (ro := false) (dv := []) (dx := []) (as := [.inr (.inl (.ins c fs vs)), .inr (.inl y)]) (args := [.ins c fs vs, y]) (xs := [.ref a, y']) R2 (fun _ _ => VRs.nil) rfl rfl rfl rfl rfl ⟨V1'', V2, trivial⟩ rfl ?_
          show match m [.ins c fs vs, y] with
            | .ok (v, outs) => _
            | .exc e => _
            | .bad => _
          cases h3 : m [.ins c fs vs, y] with
          | bad => rw [h3] at q; exact q
          | exc e => rw [h3] at q; exact pEx.back (F1.trans F2) q
          | ok p =>
            obtain ⟨v, outs⟩ := p
            rw [h3] at q
            simp only [SK.R.bind_ok] at q
            intro O3 H3 z F3 R3 V3
            unfold RtR at V3
            simp only [Bool.false_eq_true, if_false] at V3
            cases v with
            | bl k =>
              refine ⟨k, V3.bl, ?_⟩
              exact q O3 H3 _ ((F1.trans F2).trans F3) R3 vr_bl
            | _ => exact q.elim
        | _ => cases hk
      · rw [if_neg hk] at q; exact q.elim
theorem se_eqI (W : InsI X.K T) (hnf : ∀ c v, cs.contains c = true → nf c v = true → PySem.W.notFirst X.K (T.cl c) (tyV T v) = true) (hE : EqF X.K T cs gf) (F : FnOk X.prog X.w X.K X.mg X.base CX k gf fd ps (spG X.K T [] bop false 2 m)) (hr : Room k X.A) (hb : Binds X.K fd ps []) (hx : Passes CX X E := by exact pass0)
    (ha : SE X T E mu io a ma) (hb' : SE X T E mu io b mb) (hm : behindInMarks .Eq b = false := by first | exact nomark _ | with_unfolding_all rfl) : SE X T E mu io (.Compare a [.Eq] [b] pos) (eEqI cs nf false m ma mb) :=
  PE.imp (pe_cmpR (o_own hE F hr hb hx) ha hb' hm) fun σ H Q h => eEqI_imp W hnf h
theorem st_eqI (W : InsI X.K T) (hnf : ∀ c v, cs.contains c = true → nf c v = true → PySem.W.notFirst X.K (T.cl c) (tyV T v) = true) (hE : EqF X.K T cs gf) (F : FnOk X.prog X.w X.K X.mg X.base CX k gf fd ps (spG X.K T [] bop false 2 m)) (hr : Room k X.A) (hb : Binds X.K fd ps []) (hx : Passes CX X E := by exact pass0)
    (ha : SE X T E mu io a ma) (hb' : SE X T E mu io b mb) (hm : behindInMarks .Eq b = false := by first | exact nomark _ | with_unfolding_all rfl) : ST X T E mu io (.Compare a [.Eq] [b] pos) (tBl (eEqI cs nf false m ma mb)) :=
  PT.imp (pt_cmpR (o_own hE F hr hb hx) ha hb' hm) fun σ H Q h => tOp_tTest (fun _ _ _ => eEqI_imp W hnf) (tBl_imp h)
theorem se_neI (W : InsI X.K T) (hnf : ∀ c v, cs.contains c = true → nf c v = true → PySem.W.notFirst X.K (T.cl c) (tyV T v) = true) (hE : EqF X.K T cs gf) (F : FnOk X.prog X.w X.K X.mg X.base CX k gf fd ps (spG X.K T [] bop false 2 m)) (hr : Room (k + 1) X.A) (hb : Binds X.K fd ps []) (hx : Passes CX X E := by exact pass0)
    (ha : SE X T E mu io a ma) (hb' : SE X T E mu io b mb) (hm : behindInMarks .NotEq b = false := by first | exact nomark _ | with_unfolding_all rfl) : SE X T E mu io (.Compare a [.NotEq] [b] pos) (eEqI cs nf true m ma mb) :=
  PE.imp (pe_cmpR (o_ownN hE F hr hb hx) ha hb' hm) fun σ H Q h => eEqI_imp W hnf h
theorem st_neI (W : InsI X.K T) (hnf : ∀ c v, cs.contains c = true → nf c v = true → PySem.W.notFirst X.K (T.cl c) (tyV T v) = true) (hE : EqF X.K T cs gf) (F : FnOk X.prog X.w X.K X.mg X.base CX k gf fd ps (spG X.K T [] bop false 2 m)) (hr : Room (k + 1) X.A) (hb : Binds X.K fd ps []) (hx : Passes CX X E := by exact pass0)
    (ha : SE X T E mu io a ma) (hb' : SE X T E mu io b mb) (hm : behindInMarks .NotEq b = false := by first | exact nomark _ | with_unfolding_all rfl) : ST X T E mu io (.Compare a [.NotEq] [b] pos) (tBl (eEqI cs nf true m ma mb)) :=
  PT.imp (pt_cmpR (o_ownN hE F hr hb hx) ha hb' hm) fun σ H Q h => tOp_tTest (fun _ _ _ => eEqI_imp W hnf) (tBl_imp h)
end
end SK

set_option maxHeartbeats 1000000
/-! SK13: sorted texts; dicts. -/
namespace SK
open PySem L2 PySem.Spec

/-! ### sorted(xs), xs a short list of texts -/
def insS (x : Sg) : List Sg → List Sg
  | [] => [x]
  | y :: r => if ltCps y x = true then y :: insS x r else x :: y :: r
def sortS : List Sg → List Sg
  | [] => []
  | x :: r => insS x (sortS r)
def txts : List Val → Option (List Sg)
  | [] => some []
  | .str s :: r => (txts r).map (s :: ·)
  | _ => none
def vSorted : List Val → Option Val
  | [.lst xs] => (txts xs).bind fun ss => if ss.length < 64 then some (.lst ((sortS ss).map .str)) else none
  | _ => none
def leS (a b : Sg) : Prop := ltCps b a = false
theorem leS_iff {a b : Sg} : leS a b ↔ a ≤ b := by
  unfold leS
  rw [PyProof.Rows.ltCps_eq, decide_eq_false_iff_not]
  exact List.not_lt
theorem leS_trans {a b c : Sg} (h : leS a b) (g : leS b c) : leS a c := leS_iff.mpr (List.le_trans (leS_iff.mp h) (leS_iff.mp g))
theorem leS_anti {a b : Sg} (h : leS a b) (g : leS b a) : a = b := List.le_antisymm (leS_iff.mp h) (leS_iff.mp g)
theorem leS_total {a b : Sg} (h : ltCps a b = true) : leS a b := by
  rw [leS_iff]
  rw [PyProof.Rows.ltCps_eq, decide_eq_true_iff] at h
  exact List.le_of_lt h
theorem insS_perm (x : Sg) : ∀ l, (insS x l).Perm (x :: l)
  | [] => .refl _
  | y :: r => by
    unfold insS
    split
    · exact ((insS_perm x r).cons y).trans (.swap _ _ _)
    · exact .refl _
theorem sortS_perm : ∀ l, (sortS l).Perm l
  | [] => .refl _
  | x :: r => (insS_perm x _).trans ((sortS_perm r).cons x)
theorem insS_sorted (x : Sg) : ∀ l, l.Pairwise leS → (insS x l).Pairwise leS
  | [], _ => by unfold insS; simp
  | y :: r, h => by
    unfold insS
    obtain ⟨h1, h2⟩ := List.pairwise_cons.mp h
    split
    · rename_i hl
      refine List.pairwise_cons.mpr ⟨fun z hz => ?_, insS_sorted x r h2⟩
      rcases List.mem_cons.mp ((insS_perm x r).mem_iff.mp hz) with rfl | hz
      · exact leS_total hl
      · exact h1 z hz
    · rename_i hl
      have hxy : leS x y := by unfold leS; simpa using hl
      refine List.pairwise_cons.mpr ⟨fun z hz => ?_, h⟩
      rcases List.mem_cons.mp hz with rfl | hz
      · exact hxy
      · exact leS_trans hxy (h1 z hz)
theorem sortS_sorted : ∀ l, (sortS l).Pairwise leS
  | [] => .nil
  | x :: r => insS_sorted x _ (sortS_sorted r)
theorem rising_pw : ∀ (l : List Str) (p : Str), PyProof.Rows.risingS p l = true → ((p :: l).map fun z => z.cps.toList).Pairwise leS
  | [], p, _ => by simp
  | x :: r, p, h => by
    have h' : (!ltCps x.cps.toList p.cps.toList && PyProof.Rows.risingS x r) = true := h
    rw [Bool.and_eq_true] at h'
    have ih := rising_pw r x h'.2
    have hpx : leS p.cps.toList x.cps.toList := by unfold leS; simpa using h'.1
    refine List.pairwise_cons.mpr ⟨fun z hz => ?_, ih⟩
    rcases List.mem_cons.mp hz with rfl | hz
    · exact hpx
    · exact leS_trans hpx ((List.pairwise_cons.mp ih).1 z hz)
theorem sorted_uniq {xs ys : List Str} (hp : ys.Perm xs) (hs : PyProof.Rows.sortedS ys = true) : ys.map (fun z => z.cps.toList) = sortS (xs.map fun z => z.cps.toList) := by
  refine List.Perm.eq_of_pairwise (le := leS) (fun a b _ _ => leS_anti) ?_ (sortS_sorted _) ((hp.map _).trans (sortS_perm _).symm)
  cases ys with
  | nil => exact .nil
  | cons y r => exact rising_pw r y hs
section
variable {X : Cx} {T : Tb} {E : XK} {mu : Nat → Bool} {io : List (Nat × V)}
theorem strs_ok {K : PySem.W.Frag} {O : Own} {H : Hp} : ∀ {xs : List Val} {ss : List Sg} {vs : List V}, txts xs = some ss → VRs K T O H xs vs → ∃ zs : List Str, vs = zs.map V.str ∧ zs.map (fun z => z.cps.toList) = ss
  | [], ss, vs, h, r => by cases h; rw [r.inv0]; exact ⟨[], rfl, rfl⟩
  | .str s :: xs, ss, vs, h, r => by
    unfold txts at h
    obtain ⟨y, q, rfl, h1, h2⟩ := r.inv
    cases e : txts xs with
    | none => rw [e] at h; cases h
    | some l =>
      rw [e] at h; cases h
      obtain ⟨z, rfl, hz⟩ := h1.str
      obtain ⟨zs, e1, e2⟩ := strs_ok e h2
      exact ⟨z :: zs, by rw [e1]; rfl, by rw [List.map_cons, hz, e2]⟩
  | .non :: _, _, _, h, _ => by cases h
  | .int _ :: _, _, _, h, _ => by cases h
  | .bl _ :: _, _, _, h, _ => by cases h
  | .tup _ :: _, _, _, h, _ => by cases h
  | .lst _ :: _, _, _, h, _ => by cases h
  | .dic _ _ :: _, _, _, h, _ => by cases h
  | .ins _ _ _ :: _, _, _, h, _ => by cases h
  | .scr _ :: _, _, _, h, _ => by cases h
theorem vrs_strs {K : PySem.W.Frag} {O : Own} {H : Hp} : ∀ (zs : List Str), VRs K T O H ((zs.map fun z => z.cps.toList).map Val.str) (zs.map V.str)
  | [] => VRs.nil
  | z :: zs => .cons (by unfold VR; exact ⟨z, rfl, rfl⟩) (vrs_strs zs)
theorem c_sorted : CallR X (.builtin "sorted") (rN X.K T vSorted) := by
  intro pins s σ H xs us Q I r ⟨O, as, tr, va, q⟩
  unfold vSorted at q
  split at q
  · rename_i ys
    cases e : txts ys with
    | none => rw [e] at q; exact q.elim
    | some ss =>
      rw [e] at q
      simp only [Option.bind_some] at q
      split at q
      · rename_i hl
        obtain ⟨x, rfl, h⟩ := va.one
        obtain ⟨p, vs, rfl, t, rr⟩ := h.lst
        obtain ⟨zs, rfl, hz⟩ := strs_ok e rr
        have hlen : zs.length = ss.length := by rw [← hz, List.length_map]
        refine cr_sortedS pins s σ H _ us Q I r ⟨p, zs, rfl, t.sq, by rw [hlen]; exact hl, fun ws l hp hs hn => ?_⟩
        have e2 := sorted_uniq hp hs
        rw [hz] at e2
        have rs : VRs X.K T O H ((sortS ss).map Val.str) (ws.map V.str) := by rw [← e2]; exact vrs_strs ws
        obtain ⟨a, b⟩ := vr_new tr hn rs
        exact q _ _ a b
      · exact q.elim
  · exact q.elim
end
/-! ### dicts -/
def kEq : Val → Val → Bool
  | .int a, .int b => a == b
  | .str a, .str b => a == b
  | _, _ => false
def isK : Val → Bool
  | .int _ => true
  | .str _ => true
  | _ => false
def dGet (k : Val) : List Val → List Val → Option Val
  | x :: ks, v :: vs => if kEq x k = true then some v else dGet k ks vs
  | _, _ => none
def dPut {α : Type} (k : Val) (v : α) : List Val → List α → List Val × List α
  | x :: ks, w :: vs => if kEq x k = true then (x :: ks, v :: vs) else (x :: (dPut k v ks vs).1, w :: (dPut k v ks vs).2)
  | _, _ => ([k], [v])
theorem kVal_inj {a b : Key} (h : kVal a = kVal b) : a = b := by
  cases a with
  | inl i => cases b with
    | inl j => injection h with h; rw [h]
    | inr y => cases h
  | inr x => cases b with
    | inl j => cases h
    | inr y =>
      injection h with h
      obtain ⟨x⟩ := x
      obtain ⟨y⟩ := y
      have : x = y := Array.toList_inj.mp h
      rw [this]
theorem kEq_iff {a b : Key} : kEq (kVal a) (kVal b) = true ↔ a = b := by
  constructor
  · intro h
    apply kVal_inj
    cases a <;> cases b <;> simp [kVal, kEq] at h ⊢ <;> exact h
  · rintro rfl
    cases a <;> simp [kVal, kEq]
theorem key_of {K : PySem.W.Frag} {T : Tb} {O : Own} {H : Hp} {k : Val} {y : V} (hk : isK k = true) (h : VR K T O H k y) : ∃ kk : Key, y = kV kk ∧ k = kVal kk := by
  cases k with
  | int i => exact ⟨.inl i, h.int, rfl⟩
  | str s => obtain ⟨z, rfl, hz⟩ := h.str; exact ⟨.inr z, rfl, by rw [← hz]; rfl⟩
  | _ => cases hk
section
variable {K : PySem.W.Frag} {T : Tb} {O : Own} {H : Hp}
theorem dGet_ok {kk : Key} : ∀ {kvs : List (Key × V)} {vs : List Val}, VRs K T O H vs (kvs.map (·.2)) →
    (∀ v, dGet (kVal kk) (kvs.map fun p => kVal p.1) vs = some v → ∃ y, valV kvs kk = some y ∧ VR K T O H v y) ∧ (dGet (kVal kk) (kvs.map fun p => kVal p.1) vs = none → valV kvs kk = none)
  | [], vs, r => ⟨fun v h => by cases vs <;> (simp [dGet] at h), fun _ => rfl⟩
  | p :: kvs, vs, r => by
    cases vs with
    | nil => have := r.len; simp at this
    | cons v vs =>
      obtain ⟨y, q, e, h1, h2⟩ := r.inv
      simp at e
      obtain ⟨e1, e2⟩ := e
      subst e1
      subst e2
      obtain ⟨g1, g2⟩ := dGet_ok (kk := kk) h2
      simp only [List.map_cons, dGet]
      by_cases hk : kEq (kVal p.1) (kVal kk) = true
      · rw [if_pos hk]
        have := kEq_iff.mp hk
        refine ⟨fun w hw => ?_, fun z => by cases z⟩
        cases hw
        exact ⟨p.2, by unfold valV; rw [List.find?_cons_of_pos (by simpa using this)]; rfl, h1⟩
      · rw [if_neg hk]
        have hne : ¬ p.1 = kk := fun z => hk (kEq_iff.mpr z)
        have e3 : valV (p :: kvs) kk = valV kvs kk := by unfold valV; rw [List.find?_cons_of_neg (by simpa using hne)]
        rw [e3]
        exact ⟨g1, g2⟩
theorem putK_cons (kk : Key) (x : V) (p : Key × V) (kvs : List (Key × V)) : putK (p :: kvs) kk x = if p.1 = kk then (p.1, x) :: kvs.map (fun kv => if kv.1 = kk then (kv.1, x) else kv) else p :: putK kvs kk x := by
  unfold putK
  by_cases h : p.1 = kk
  · rw [if_pos h, if_pos (by simp [h]), List.map_cons, if_pos h]
  · rw [if_neg h]
    have : ((p :: kvs).any fun kv => decide (kv.1 = kk)) = (kvs.any fun kv => decide (kv.1 = kk)) := by simp [h]
    rw [this]
    split
    · rw [List.map_cons, if_neg h]
    · rfl
/-- keys that differ -/
def nodupK : List Val → Bool
  | [] => true
  | k :: ks => !(ks.any fun x => kEq x k) && nodupK ks
theorem noKey {kk : Key} {kvs : List (Key × V)} (h : ((kvs.map fun p => kVal p.1).any fun x => kEq x (kVal kk)) = false) (x : V) : kvs.map (fun kv => if kv.1 = kk then (kv.1, x) else kv) = kvs := by
  induction kvs with
  | nil => rfl
  | cons p r ih =>
    simp only [List.map_cons, List.any_cons, Bool.or_eq_false_iff] at h
    have hne : ¬ p.1 = kk := fun z => by rw [kEq_iff.mpr z] at h; cases h.1
    rw [List.map_cons, if_neg hne, ih h.2]
theorem dPut_ok {kk : Key} {v : Val} {x : V} (hv : VR K T O H v x) : ∀ {kvs : List (Key × V)} {vs : List Val}, nodupK (kvs.map fun p => kVal p.1) = true → VRs K T O H vs (kvs.map (·.2)) →
    (dPut (kVal kk) v (kvs.map fun p => kVal p.1) vs).1 = (putK kvs kk x).map (fun p => kVal p.1) ∧ VRs K T O H (dPut (kVal kk) v (kvs.map fun p => kVal p.1) vs).2 ((putK kvs kk x).map (·.2))
  | [], vs, _, r => by
    have : vs = [] := by cases vs with
      | nil => rfl
      | cons v vs => have := r.len; simp at this
    subst this
    exact ⟨rfl, .cons hv .nil⟩
  | p :: kvs, vs, nd, r => by
    cases vs with
    | nil => have := r.len; simp at this
    | cons w vs =>
      obtain ⟨y, q, e, h1, h2⟩ := r.inv
      simp at e
      obtain ⟨e1, e2⟩ := e
      subst e1
      subst e2
      have nd' : (!((kvs.map fun p => kVal p.1).any fun x => kEq x (kVal p.1)) && nodupK (kvs.map fun p => kVal p.1)) = true := nd
      rw [Bool.and_eq_true] at nd'
      obtain ⟨g1, g2⟩ := dPut_ok (kk := kk) hv nd'.2 h2
      rw [putK_cons]
      simp only [List.map_cons, dPut]
      by_cases hk : kEq (kVal p.1) (kVal kk) = true
      · have hp := kEq_iff.mp hk
        rw [if_pos hk, if_pos hp, noKey (by rw [← hp]; simpa using nd'.1)]
        exact ⟨rfl, .cons hv h2⟩
      · have hne : ¬ p.1 = kk := fun z => hk (kEq_iff.mpr z)
        rw [if_neg hk, if_neg hne]
        exact ⟨by rw [List.map_cons, g1], .cons h1 g2⟩
end
end SK

set_option maxHeartbeats 1000000
/-! SK14: dicts: displays, subscripts, comprehensions. -/
namespace SK
open PySem L2 PySem.Spec

abbrev DM := Fr → R (List (Val × Val) × Fr)
def dN : DM := fun fr => .ok ([], fr)
def dC (a b : EM) (r : DM) : DM := fun fr => (a fr).bind fun k => (b k.2).bind fun v => (r v.2).bind fun y => .ok ((k.1, v.1) :: y.1, y.2)
def mergeD : List (Val × Val) → List Val × List Val → List Val × List Val
  | [], d => d
  | (k, v) :: r, d => mergeD r (dPut k v d.1 d.2)
def allK : List (Val × Val) → Bool
  | [] => true
  | (k, _) :: r => isK k && allK r
/-- keys of a display stay apart -/
def okM : List (Val × Val) → List Val × List Val → Bool
  | [], _ => true
  | (k, v) :: r, d => nodupK d.1 && okM r (dPut k v d.1 d.2)
def eDisp (d : DM) : EM := fun fr => (d fr).bind fun x => if allK x.1 = true ∧ okM x.1 ([], []) = true ∧ x.1.length ≤ 15 then .ok (.dic (mergeD x.1 ([], [])).1 (mergeD x.1 ([], [])).2, x.2) else .bad
/-- slot[e], a dict -/
def eIxD (i : Nat) (b : EM) : EM := fun fr => (getS fr i).bind fun _ => (b fr).bind fun y => (getS y.2 i).bind fun v => match v with
  | .dic ks vs => if isK y.1 = true then (ofO (dGet y.1 ks vs)).bind fun w => .ok (w, y.2) else .bad
  | _ => .bad
/-- slot[e] = v, a dict that the slot owns -/
def sPutD (i : Nat) (v b : EM) : SM := fun fr => (v fr).bind fun x => (getS x.2 i).bind fun _ => (b x.2).bind fun y => match y.2[i]? with
  | some (some (.dic ks vs)) => if isK y.1 = true ∧ nodupK ks = true ∧ ks.length < 16777216 then .ok (.nx, y.2.set i (some (.dic (dPut y.1 x.1 ks vs).1 (dPut y.1 x.1 ks vs).2))) else .bad
  | _ => .bad
def vLenD : List Val → Option Val
  | [.dic ks _] => some (.int ks.length)
  | _ => none
/-- a dict comprehension: keys apart as they come -/
def dcL (own : List Nat) (g : GM) (t : TM) (ek ev : EM) : List Val → List Val × List Val → Fr → R ((List Val × List Val) × Fr)
  | [], d, fr => .ok (d, fr)
  | x :: xs, d, fr => (noX (g x (wipF fr own))).bind fun fr1 => (noX (t fr1)).bind fun k => if k.1 = true then (noX (ek k.2)).bind fun y => (noX (ev y.2)).bind fun v => if isK y.1 = true ∧ nodupK d.1 = true ∧ d.1.length < 16777216 then dcL own g t ek ev xs (dPut y.1 v.1 d.1 d.2) v.2 else .bad
    else dcL own g t ek ev xs d k.2
def eDc (own : List Nat) (i : IM) (g : GM) (t : TM) (ek ev : EM) : EM := fun fr => (i fr).bind fun x => (noX (dcL own g t ek ev x.1 ([], []) x.2)).bind fun r => .ok (.dic r.1.1 r.1.2, putF' x.2 r.2 own)

section
variable {X : Cx} {T : Tb} {E : XK} {mu : Nat → Bool} {io : List (Nat × V)} {e : Expr} {es : List Expr} {ma mb : EM} {ms : AM} {pos : Pos} {i j : Nat} {x y : Str} {p p' apos : Pos}
/-! ### displays -/
def VPs (K : PySem.W.Frag) (T : Tb) (O : Own) (H : Hp) : List (Val × Val) → List (V × V) → Prop
  | [], [] => True
  | a :: r, b :: s => (VR K T O H a.1 b.1 ∧ VR K T O H a.2 b.2) ∧ VPs K T O H r s
  | _, _ => False
theorem VPs.mono {K : PySem.W.Frag} {O O' : Own} {H H' : Hp} (f : Fm O H O' H') : ∀ {r s}, VPs K T O H r s → VPs K T O' H' r s
  | [], [], _ => trivial
  | a :: r, b :: s, ⟨h, t⟩ => ⟨⟨VR.mono f _ _ h.1, VR.mono f _ _ h.2⟩, t.mono f⟩
  | [], _ :: _, h => h.elim
  | _ :: _, [], h => h.elim
def pD (K : PySem.W.Frag) (T : Tb) (E : XK) (mu : Nat → Bool) (io : List (Nat × V)) (O : Own) (σ : St) (H : Hp) (Q : List (V × V) → Hp → Prop) : R (List (Val × Val) × Fr) → Prop
  | .ok (ps, fr') => ∀ O' H' xs, Fm O H O' H' → Rl K T mu io O' fr' σ H' → VPs K T O' H' ps xs → Q xs H'
  | .exc e => pEx K T E O H e
  | .bad => False
/-- the readings of a display's pairs -/
inductive SPs (X : Cx) (T : Tb) (E : XK) (mu : Nat → Bool) (io : List (Nat × V)) (pos : Pos) : List (Option Expr) → List Expr → DM → Prop
  | nil : SPs X T E mu io pos [] [] dN
  | cons {k v ks vs a b r} : SE X T E mu io k a → SE X T E mu io v b → SPs X T E mu io pos ks vs r → SPs X T E mu io pos (some k :: ks) (v :: vs) (dC a b r)
theorem SPs.pps {ks vs d} (h : SPs X T E mu io pos ks vs d) : ∃ trs, PPs X pos ks vs trs ∧ ∀ O fr σ H Q, Rl X.K T mu io O fr σ H → pD X.K T E mu io O σ H Q (d fr) → tPairs trs σ H Q := by
  induction h with
  | nil => exact ⟨[], pps_nil, fun O fr σ H Q rl q => q O H [] (Fm.refl _ _) rl trivial⟩
  | cons hk hv hr ih =>
    rename_i k v ks vs a b r
    obtain ⟨trs, h1, h2⟩ := ih
    refine ⟨(rE X.K T E mu io a, rE X.K T E mu io b) :: trs, pps_cons hk hv h1, fun O fr σ H Q rl q => ?_⟩
    refine ⟨O, fr, rl, ?_⟩
    unfold dC at q
    cases e1 : a fr with
    | bad => rw [e1] at q; exact q
    | exc e => rw [e1] at q; exact q
    | ok p =>
      obtain ⟨x, fr1⟩ := p
      rw [e1] at q
      intro O1 H1 x' F1 R1 V1
      refine ⟨O1, fr1, R1, ?_⟩
      simp only [SK.R.bind_ok] at q
      cases e2 : b fr1 with
      | bad => rw [e2] at q; exact q
      | exc e => rw [e2] at q; exact pEx.back F1 q
      | ok p =>
        obtain ⟨y, fr2⟩ := p
        rw [e2] at q
        intro O2 H2 y' F2 R2 V2
        simp only [SK.R.bind_ok] at q
        refine h2 O2 fr2 σ H2 _ R2 ?_
        cases e3 : r fr2 with
        | bad => rw [e3] at q; exact q
        | exc e => rw [e3] at q; exact pEx.back (F1.trans F2) q
        | ok p =>
          obtain ⟨ps, fr3⟩ := p
          rw [e3] at q
          intro O3 H3 ps' F3 R3 V3
          exact q O3 H3 _ ((F1.trans F2).trans F3) R3 ⟨⟨V1.mono (F2.trans F3), V2.mono F3⟩, V3⟩
theorem mergeD_ok {K : PySem.W.Frag} {O : Own} {H : Hp} : ∀ {ps : List (Val × Val)} {xs : List (V × V)} {kvs0 : List (Key × V)} {d : List Val × List Val}, allK ps = true → okM ps d = true → VPs K T O H ps xs → d.1 = kvs0.map (fun p => kVal p.1) → VRs K T O H d.2 (kvs0.map (·.2)) →
    ∃ kvs : List (Key × V), xs = kvs.map (fun kv => (kV kv.1, kv.2)) ∧ kvs.length = ps.length ∧ (mergeD ps d).1 = (mergeK kvs0 kvs).map (fun p => kVal p.1) ∧ VRs K T O H (mergeD ps d).2 ((mergeK kvs0 kvs).map (·.2))
  | [], [], kvs0, d, _, _, _, h1, h2 => ⟨[], rfl, rfl, h1, h2⟩
  | (k, v) :: r, (x, y) :: s, kvs0, d, ha, ho, ⟨⟨g1, g2⟩, g3⟩, h1, h2 => by
    have ha' : (isK k && allK r) = true := ha
    rw [Bool.and_eq_true] at ha'
    have ho' : (nodupK d.1 && okM r (dPut k v d.1 d.2)) = true := ho
    rw [Bool.and_eq_true] at ho'
    obtain ⟨kk, e1, e2⟩ := key_of ha'.1 g1
    subst e1
    obtain ⟨d1, d2⟩ := d
    dsimp only at h1 h2 ho'
    subst h1
    obtain ⟨p1, p2⟩ := dPut_ok (kk := kk) g2 (by exact ho'.1) h2
    rw [← e2] at p1 p2
    obtain ⟨kvs, q1, q2, q3, q4⟩ := mergeD_ok (kvs0 := putK kvs0 kk y) ha'.2 ho'.2 g3 p1 p2
    exact ⟨(kk, y) :: kvs, by rw [q1]; rfl, by rw [List.length_cons, q2, List.length_cons], q3, q4⟩
  | [], _ :: _, _, _, _, _, h, _, _ => h.elim
  | _ :: _, [], _, _, _, _, h, _, _ => h.elim
theorem disp_core {K : PySem.W.Frag} {d : DM} {O : Own} {fr : Fr} {σ : St} {H : Hp} {Q : VK} {ro : Bool} {r : Nat} {q0 : Addr} (hq0 : H q0 = none) (rl : Rl K T mu io O fr σ H)
    (q : match eDisp d fr with
      | .ok (v, fr') => ∀ O' H' x, Fm O H O' H' → Rl K T mu io O' fr' σ H' → RtR K T ro r O' H' v x → Q x H'
      | .exc e => pEx K T E O H e
      | .bad => False) :
    pD K T E mu io (setOw O q0 (some .tmp)) σ (upd H q0 (.dK [])) (fun ps H2 => H2 q0 = some (.dK []) ∧ ∃ kvs : List (Key × V), ps = kvs.map (fun kv => (kV kv.1, kv.2)) ∧ kvs.length ≤ 15 ∧ Q (.ref q0) (upd H2 q0 (.dK (mergeK [] kvs)))) (d fr) := by
  unfold eDisp at q
  have f0 : FmD q0 O H (setOw O q0 (some .tmp)) (upd H q0 (.dK [])) := FmD.begin hq0
  cases e1 : d fr with
  | bad => rw [e1] at q; exact q
  | exc e =>
    rw [e1] at q
    have F0 : Fm O H (setOw O q0 (some .tmp)) (upd H q0 (.dK [])) := by
      have := f0.fin (w := some .tmp) hq0 (fun z => nomatch z)
      rw [show setOw (setOw O q0 (some .tmp)) q0 (some .tmp) = setOw O q0 (some .tmp) from funext fun a => by unfold setOw; split <;> rfl] at this
      exact this
    exact pEx.back F0 q
  | ok p =>
    obtain ⟨ps, fr1⟩ := p
    rw [e1] at q
    simp only [SK.R.bind_ok] at q
    intro O2 H2 xs F2 R2 V2
    by_cases hc : allK ps = true ∧ okM ps ([], []) = true ∧ ps.length ≤ 15
    · rw [if_pos hc] at q
      obtain ⟨hD, oD⟩ := F2.tmp q0 _ upd_same setOw_same
      refine ⟨hD, ?_⟩
      obtain ⟨kvs, g1, g2, g3, g4⟩ := mergeD_ok (kvs0 := []) (d := ([], [])) hc.1 hc.2.1 V2 rfl .nil
      refine ⟨kvs, g1, by rw [g2]; exact hc.2.2, ?_⟩
      have f1 : FmD q0 O H O2 (upd H2 q0 (.dK (mergeK [] kvs))) := (f0.step F2).put hq0 _
      have R3 : Rl K T mu io O2 fr1 σ (upd H2 q0 (.dK (mergeK [] kvs))) := R2.putOut oD
      have mono : Fb O2 H2 O2 (upd H2 q0 (.dK (mergeK [] kvs))) := fun a u e n => ⟨by rw [upd_ne (fun z => by rw [z, oD] at n; cases n)]; exact e, n⟩
      have V4 := VRs.monoB mono _ _ g4
      cases ro with
      | true =>
        refine q (setOw O2 q0 (some (.sl r))) _ _ (f1.fin hq0 fun z => nomatch z) (R3.outTo oD) ?_
        unfold RtR
        rw [if_pos rfl]
        refine ⟨q0, _, rfl, setOw_same, upd_same, g3, VRs.monoB (fun a u e n => ⟨e, ?_⟩) _ _ V4⟩
        rw [setOw_ne (fun z => by rw [z, oD] at n; cases n)]
        exact n
      | false =>
        refine q (setOw O2 q0 none) _ _ (f1.fin hq0 fun z => nomatch z) (R3.outTo oD) ?_
        unfold RtR
        rw [if_neg Bool.false_ne_true]
        unfold VR
        refine ⟨q0, _, rfl, .inl ⟨upd_same, setOw_same⟩, g3, VRs.monoB (fun a u e n => ⟨e, ?_⟩) _ _ V4⟩
        rw [setOw_ne (fun z => by rw [z, oD] at n; cases n)]
        exact n
    · rw [if_neg hc] at q; exact q.elim
theorem sx_disp {ks : List (Option Expr)} {vs : List Expr} {d : DM} {ro : Bool} {r : Nat} (h : SPs X T E mu io pos ks vs d) (hall : ks.all (·.isSome) = true) (hl : ks.length = vs.length) (h0 : ks ≠ []) (h15 : ks.length ≤ 15) : SX X T E mu io ro r (.Dict ks vs pos) (eDisp d) := by
  obtain ⟨trs, h1, h2⟩ := h.pps
  exact PE.imp (pe_disp h1 hall hl h0 h15) fun σ H Q ⟨O, fr, rl, q⟩ p hp => h2 _ fr σ _ _ (rl.laid hp) (disp_core hp rl q)
/-! ### subscripts -/
theorem se_ixD {b : Expr} (nokd : ∀ a kvs, ¬ T.kd a kvs) (hu : X.A.units + 1 < cLine) (s : Sl X i x) (hb : SE X T E mu io b mb) (hs : NoSl b := by intro _ _; rfl) : SE X T E mu io (.Subscript (.Name x p) b pos) (eIxD i mb) :=
  PE.imp (pe_dget hu s.pe hb hs) fun σ H Q ⟨O, fr, rl, q⟩ => by
    unfold eIxD at q
    rcases getS_cases fr i with ⟨v0, e0, e1⟩ | e1
    · rw [e1] at q
      obtain ⟨x, hx, _⟩ := rl.tp e0
      refine ⟨x, hx, O, fr, rl, ?_⟩
      simp only [SK.R.bind_ok] at q
      cases h2 : mb fr with
      | bad => rw [h2] at q; exact q
      | exc e => rw [h2] at q; exact q
      | ok p =>
        obtain ⟨y, fr2⟩ := p
        rw [h2] at q
        intro O2 H2 y' F2 R2 V2
        simp only [SK.R.bind_ok] at q
        rcases getS_cases fr2 i with ⟨v, e2, e3⟩ | e3
        · rw [e3] at q
          obtain ⟨x', hx', tp⟩ := R2.tp e2
          rw [hx] at hx'
          cases hx'
          simp only [SK.R.bind_ok] at q
          split at q
          · rename_i ks vs
            split at q
            · rename_i hk
              obtain ⟨kk, e4, e5⟩ := key_of hk V2
              obtain ⟨a, kvs, rfl, h3, h4, h5⟩ := tp.dic
              rcases h3 with h3 | h3
              · subst h4
                subst e5
                cases h6 : dGet (kVal kk) (kvs.map fun p => kVal p.1) vs with
                | none => rw [h6] at q; exact q.elim
                | some w =>
                  rw [h6] at q
                  obtain ⟨z, g1, g2⟩ := (dGet_ok h5).1 w h6
                  refine ⟨a, z, rfl, ?_, q O2 H2 z F2 R2 g2⟩
                  rw [← g1, e4]
                  exact DGet.k h3
              · exact absurd h3 (nokd _ _)
            · exact q.elim
          · exact q.elim
        · rw [e3] at q; exact q.elim
    · rw [e1] at q; exact q.elim
theorem Rl.dicW {K : PySem.W.Frag} {O : Own} {H : Hp} {fr : Fr} {σ : St} {i : Nat} {a : Addr} {ks vs : List Val} {kvs : List (Key × V)} (rl : Rl K T mu io O fr σ H) (hm : mu i = true) (hs : σ[i]? = some (some (.ref a))) (ho : O a = some (.sl i)) (hi : i < fr.length) (hk : ks = kvs.map (fun p => kVal p.1)) (r : VRs K T O H vs (kvs.map (·.2))) : Rl K T mu io O (fr.set i (some (.dic ks vs))) σ (upd H a (.dK kvs)) :=
  rl.wr hm ho hs hi (show OwL K T O _ (.sl i) (.dic ks vs) (.ref a) from ⟨a, kvs, rfl, ho, upd_same, hk, r.mono (wr_fm ho)⟩)
theorem ss_putD {b v : Expr} {mv : EM} (hu : X.A.units + 1 < cLine) (hm : mu i = true := by rfl) (s : Sl X i x) (hv : SE X T E mu io v mv) (hb : SE X T E mu io b mb)
    (hs : swapsWith v (some (.Subscript (.Name x p) b p')) pos.line X.env = pure false := by rfl) : SS X T E mu io (.Assign [.Subscript (.Name x p) b p'] v pos) (sPutD i mv mb) :=
  PS.imp (ps_dput hu s.pe hb hv hs) fun D σ H ⟨O, fr, rl, q⟩ => by
    unfold sPutD at q
    refine ⟨O, fr, rl, ?_⟩
    cases h2 : mv fr with
    | bad => rw [h2] at q; exact q
    | exc e => rw [h2] at q; exact q
    | ok p =>
      obtain ⟨y, fr2⟩ := p
      rw [h2] at q
      intro O2 H2 y' F2 R2 V2
      simp only [SK.R.bind_ok] at q
      rcases getS_cases fr2 i with ⟨v0, e0, e1⟩ | e1
      · rw [e1] at q
        obtain ⟨x, hx, _⟩ := R2.tp e0
        refine ⟨x, hx, O2, fr2, R2, ?_⟩
        simp only [SK.R.bind_ok] at q
        cases h3 : mb fr2 with
        | bad => rw [h3] at q; exact q
        | exc e => rw [h3] at q; exact pEx.back F2 q
        | ok p =>
          obtain ⟨z, fr3⟩ := p
          rw [h3] at q
          intro O3 H3 z' F3 R3 V3
          simp only [SK.R.bind_ok] at q
          split at q
          · rename_i ks vs e3
            split at q
            · rename_i hc
              obtain ⟨x', g1, g2⟩ := R3.owned e3 hm rfl
              have g2' : ∃ a kvs, x' = .ref a ∧ O3 a = some (.sl i) ∧ H3 a = some (.dK kvs) ∧ ks = kvs.map (fun p => kVal p.1) ∧ VRs X.K T O3 H3 vs (kvs.map (·.2)) := g2
              obtain ⟨a, kvs, rfl, g3, g4, g5, g6⟩ := g2'
              rw [hx] at g1
              cases g1
              obtain ⟨kk, e4, e5⟩ := key_of hc.1 V3
              subst g5
              subst e5
              obtain ⟨p1, p2⟩ := dPut_ok (kk := kk) (V2.mono F3) hc.2.1 g6
              refine ⟨a, _, rfl, ?_, q O3 _ σ ((F2.trans F3).trans (wr_fm g3)) (R3.dicW hm hx g3 (lt_of_get e3) p1 p2)⟩
              rw [e4]
              exact DPut.k g4 (by have := hc.2.2; rw [List.length_map] at this; exact this)
            · exact q.elim
          · exact q.elim
      · rw [e1] at q; exact q.elim
theorem c_lenD (nokd : ∀ a kvs, ¬ T.kd a kvs) : CallR X (.builtin "len") (rN X.K T vLenD) := by
  intro pins s σ H xs us Q I r ⟨O, as, tr, va, q⟩
  unfold vLenD at q
  split at q
  · rename_i ks vs
    obtain ⟨x, rfl, h⟩ := va.one
    unfold VR at h
    obtain ⟨a, kvs, rfl, t, e, rr⟩ := h
    rcases t with t | t
    · exact call_lenD pins s σ H _ us Q I r ⟨a, kvs, rfl, t.1, by rw [show kvs.length = ks.length by rw [e, List.length_map]]; exact q H _ (Hx.refl _) vr_int⟩
    · exact absurd t (nokd _ _)
  · exact q.elim
/-! ### comprehensions -/
section
variable {K : PySem.W.Frag} {g : GM} {t : TM} {ek ev : EM} {own : List Nat} {ts : List Nat} {σ : St} {H : Hp} {Q : VK}
theorem wipe_wipe (own : List Nat) (σ : St) : wipe (wipe σ own) own = wipe σ own := by
  apply List.ext_getElem?
  intro q
  have key : ∀ (own : List Nat) (τ : St) (q : Nat), (L2.wipe τ own)[q]? = if q ∈ own then (if q < τ.length then some none else none) else τ[q]? := by
    intro own
    induction own with
    | nil => intro τ q; simp [L2.wipe]
    | cons w vs ih =>
      intro τ q
      show ((L2.wipe τ vs).set w none)[q]? = _
      by_cases e : q = w
      · subst e
        rw [List.getElem?_set, if_pos rfl, wipe_length, if_pos List.mem_cons_self]
      · rw [List.getElem?_set_ne (fun z => e z.symm), ih]
        by_cases h : q ∈ vs
        · rw [if_pos h, if_pos (List.mem_cons_of_mem _ h)]
        · rw [if_neg h, if_neg (fun z => by rcases List.mem_cons.mp z with z | z; exact e z; exact h z)]
  rw [key, key, wipe_length]
  split <;> rfl
theorem dc_core' (hio : ∀ p ∈ io, p.1 ∉ own) (hmu : ∀ i ∈ own, mu i = false) (hts : ∀ i ∈ ts, i ∈ own) {O1 : Own} {fr1 : Fr} {H1 : Hp} {J : It} {xs : List Val} {d : List Val × List Val} {frE : Fr} (R1 : Rl K T mu io O1 fr1 σ H1) (W1 : Walks K T J xs O1 H1)
    (hz : dcL own g t ek ev xs ([], []) fr1 = .ok (d, frE)) (D : Addr) (hD : H1 D = none)
    (fin : ∀ O' H' kvs, FmD D O1 H1 O' H' → O' D = some .tmp → H' D = some (.dK kvs) → d.1 = kvs.map (fun p => kVal p.1) → VRs K T O' H' d.2 (kvs.map (·.2)) → Rl K T mu io O' (putF' fr1 frE own) σ H' → Q (.ref D) H') :
    ∃ W : Nat → Nat → Hp → Prop, (∃ m, W 0 m (upd H1 D (.dK []))) ∧ ∀ i m H, W i m H →
      (J.stop i H ∧ Q (.ref D) H) ∨ (J.go i H ∧ ∃ Nx : Hp → Prop, (∀ H', Nx H' → ∃ m', m' < m ∧ W (i + 1) m' H') ∧ ∀ x H', J.yld i H x H' → rG K T mu io ts g x (wipe σ own) H' fun σ2 H2 => wipe σ2 own = wipe σ own ∧ rT K T L2.E0 mu io t σ2 H2 fun b H3 =>
        if b = true then rE K T L2.E0 mu io ek σ2 H3 fun y H4 => rE K T L2.E0 mu io ev σ2 H4 fun z H5 => ∃ kvs k, y = kV k ∧ H5 D = some (.dK kvs) ∧ kvs.length < sizeLine ∧ Nx (upd H5 D (.dK (putK kvs k z))) else Nx H3) := by
  refine ⟨fun j k H' => k = xs.length - j ∧ ∃ O' fr' σ' acc kvs, wipe σ' own = wipe σ own ∧ Rl K T mu io O' fr' σ' H' ∧ FmD D O1 H1 O' H' ∧ O' D = some .tmp ∧ H' D = some (.dK kvs) ∧ acc.1 = kvs.map (fun p => kVal p.1) ∧ VRs K T O' H' acc.2 (kvs.map (·.2)) ∧ dcL own g t ek ev (xs.drop j) acc fr' = .ok (d, frE),
    ⟨_, rfl, setOw O1 D (some .tmp), fr1, σ, ([], []), [], rfl, R1.laid hD, FmD.begin hD, setOw_same, upd_same, rfl, VRs.nil, by simpa using hz⟩, ?_⟩
  rintro j k H' ⟨rfl, O', fr', σ', acc, kvs, hw, R', F', oD, hHD, hk, V', hq⟩
  obtain ⟨hstop, hgo⟩ := W1 O' H' F'.byv F'.out R'.trk j
  by_cases hj : j < xs.length
  · right
    have hx : xs[j]? = some xs[j] := List.getElem?_eq_getElem hj
    obtain ⟨h1, h2⟩ := hgo _ hx
    refine ⟨h1, fun H2 => ∃ O2 fr2 σ2 acc kvs, wipe σ2 own = wipe σ own ∧ Rl K T mu io O2 fr2 σ2 H2 ∧ FmD D O1 H1 O2 H2 ∧ O2 D = some .tmp ∧ H2 D = some (.dK kvs) ∧ acc.1 = kvs.map (fun p => kVal p.1) ∧ VRs K T O2 H2 acc.2 (kvs.map (·.2)) ∧ dcL own g t ek ev (xs.drop (j + 1)) acc fr2 = .ok (d, frE),
      fun H2 hN => ⟨_, by omega, rfl, hN⟩, fun x H2 hy => ?_⟩
    obtain ⟨X2, V2⟩ := h2 x H2 hy
    have Rw : Rl K T mu io O' (wipF fr' own) (wipe σ own) H2 := by rw [← hw]; exact (R'.hx X2).wip own hio
    refine ⟨O', wipF fr' own, xs[j], Rw, V2, ?_⟩
    rw [List.drop_eq_getElem_cons hj] at hq
    unfold dcL at hq
    cases h3 : g xs[j] (wipF fr' own) with
    | bad => rw [h3] at hq; cases hq
    | exc e => rw [h3] at hq; cases hq
    | ok fr3 =>
      rw [h3] at hq
      intro O3 H3 σ3 F3 R3 x3
      have hw3 : wipe σ3 own = wipe σ own := (x3.wipe hts).trans (wipe_wipe own σ)
      refine ⟨hw3, O3, fr3, R3, ?_⟩
      have F03 := X2.fm.trans F3
      simp only [noX, SK.R.bind_ok] at hq
      cases h4 : t fr3 with
      | bad => rw [h4] at hq; cases hq
      | exc e => rw [h4] at hq; cases hq
      | ok p =>
        obtain ⟨b, fr4⟩ := p
        rw [h4] at hq
        intro O4 H4 F4 R4
        have F04 := F03.trans F4
        simp only [SK.R.bind_ok] at hq
        cases b with
        | false =>
          have ⟨hD4, oD4⟩ := F04.tmp D _ hHD oD
          exact ⟨O4, fr4, σ3, acc, kvs, hw3, R4, F'.step F04, oD4, hD4, hk, V'.mono F04, by simpa using hq⟩
        | true =>
          simp only [if_true] at hq ⊢
          refine ⟨O4, fr4, R4, ?_⟩
          cases h5 : ek fr4 with
          | bad => rw [h5] at hq; cases hq
          | exc e => rw [h5] at hq; cases hq
          | ok p =>
            obtain ⟨y, fr5⟩ := p
            rw [h5] at hq
            intro O5 H5 y' F5 R5 V5
            refine ⟨O5, fr5, R5, ?_⟩
            simp only [SK.R.bind_ok] at hq
            cases h6 : ev fr5 with
            | bad => rw [h6] at hq; cases hq
            | exc e => rw [h6] at hq; cases hq
            | ok p =>
              obtain ⟨z, fr6⟩ := p
              rw [h6] at hq
              intro O6 H6 z' F6 R6 V6
              simp only [SK.R.bind_ok] at hq
              by_cases hc : isK y = true ∧ nodupK acc.1 = true ∧ acc.1.length < 16777216
              · rw [if_pos hc] at hq
                have F06 := (F04.trans F5).trans F6
                have ⟨hD6, oD6⟩ := F06.tmp D _ hHD oD
                obtain ⟨kk, e1, e2⟩ := key_of hc.1 (V5.mono F6)
                obtain ⟨a1, a2⟩ := acc
                dsimp only at hk hc V' hq
                subst hk
                subst e2
                obtain ⟨p1, p2⟩ := dPut_ok (kk := kk) V6 hc.2.1 (V'.mono F06)
                refine ⟨kvs, kk, e1, hD6, by have := hc.2.2; rw [List.length_map] at this; exact this, O6, fr6, σ3, _, _, hw3, R6.putOut oD6, (F'.step F06).put hD _, oD6, upd_same, p1, ?_, hq⟩
                refine VRs.monoB (fun a u e n => ⟨?_, n⟩) _ _ p2
                rw [upd_ne (fun z => by rw [z, oD6] at n; cases n)]
                exact e
              · rw [if_neg hc] at hq; cases hq
  · left
    rw [List.drop_of_length_le (by omega)] at hq
    cases hq
    exact ⟨hstop (by omega), fin O' H' kvs F' oD hHD hk V' (Rl.unwip (H0 := H1) (O0 := O1) own R1 F'.byv F'.out hmu hw R')⟩
end
theorem sx_dc {ro : Bool} {r : Nat} {kx vx tg iter : Expr} {ifs : List Expr} {scope : Scope} {own : List (Str × Nat)} {ts : List Nat} {i : IM} {g : GM} {t : TM} {ek ev : EM} (hc : X.calm = true := by rfl) (hN : X.N.Nodup) (hi : SI X T E mu io tg iter i) (ok : BlkOk X.N X.env.scope scope own)
    (hio : ∀ p ∈ io, p.1 ∉ own.map (·.2) := by exact io_own rfl) (hmu : ∀ i ∈ own.map (·.2), mu i = false := by decide) (hts : ∀ i ∈ ts, i ∈ own.map (·.2) := by decide)
    (hg : ∀ (s : Shared) (H : Hp) (C : Addr) (cl : List (Str × Addr)) (fp : List Addr), SG (X.blk s H scope (compEnvC scope cl C X.env) fp) T mu io ts tg g) (ht : ∀ (s : Shared) (H : Hp) (C : Addr) (cl : List (Str × Addr)) (fp : List Addr), STs (X.blk s H scope (compEnvC scope cl C X.env) fp) T L2.E0 mu io ifs t)
    (hk : ∀ (s : Shared) (H : Hp) (C : Addr) (cl : List (Str × Addr)) (fp : List Addr), SE (X.blk s H scope (compEnvC scope cl C X.env) fp) T L2.E0 mu io kx ek) (he : ∀ (s : Shared) (H : Hp) (C : Addr) (cl : List (Str × Addr)) (fp : List Addr), SE (X.blk s H scope (compEnvC scope cl C X.env) fp) T L2.E0 mu io vx ev) (hs : ∀ x, foldedSetIterable iter X.env x = pure x := by intro _; rfl) :
    SX X T E mu io ro r (.DictComp kx vx [⟨tg, iter, ifs, 0⟩] scope pos) (eDc (own.map (·.2)) i g t ek ev) :=
  PE.imp (pe_dc hc hN hi ok hg ht hk he hs) fun σ H Q ⟨O, fr, rl, q⟩ => by
    unfold eDc at q
    refine ⟨O, fr, rl, ?_⟩
    cases h : i fr with
    | bad => rw [h] at q; exact q
    | exc e => rw [h] at q; exact q
    | ok p =>
      obtain ⟨xs, fr1⟩ := p
      rw [h] at q
      intro O1 H1 J F1 R1 W1 D hD
      simp only [SK.R.bind_ok] at q
      cases hz : dcL (own.map (·.2)) g t ek ev xs ([], []) fr1 with
      | bad => rw [hz] at q; exact q.elim
      | exc e => rw [hz] at q; exact q.elim
      | ok p =>
        obtain ⟨d, frE⟩ := p
        rw [hz] at q
        simp only [noX, SK.R.bind_ok] at q
        refine dc_core' hio hmu hts R1 W1 hz D hD fun O' H' kvs F' oD hHD hk' V' R' => ?_
        cases ro with
        | true =>
          refine q (setOw O' D (some (.sl r))) H' _ (F1.trans (F'.fin hD fun z => nomatch z)) (R'.outTo oD) ?_
          unfold RtR
          rw [if_pos rfl]
          refine ⟨D, kvs, rfl, setOw_same, hHD, hk', VRs.monoB (fun a u e n => ⟨e, ?_⟩) _ _ V'⟩
          rw [setOw_ne (fun z => by rw [z, oD] at n; cases n)]
          exact n
        | false =>
          refine q (setOw O' D none) H' _ (F1.trans (F'.fin hD fun z => nomatch z)) (R'.outTo oD) ?_
          unfold RtR
          rw [if_neg Bool.false_ne_true]
          unfold VR
          refine ⟨D, kvs, rfl, .inl ⟨hHD, setOw_same⟩, hk', VRs.monoB (fun a u e n => ⟨e, ?_⟩) _ _ V'⟩
          rw [setOw_ne (fun z => by rw [z, oD] at n; cases n)]
          exact n
end
end SK

set_option maxHeartbeats 1000000
/-! SK15: super().__init__(..) of a class's own __init__, as its last statement. -/
namespace SK
open PySem L2 PySem.Spec

/-- statements of a body, said where the body runs -/
structure PSa (X : Cx) (body : List Stmt) (st : List Stmt) (t : TS) : Prop where
  run : ∀ (s : Shared) (σ : St) (H : Hp) (D : Ends), Inv X [] σ H s → t D σ H → _root_.PySem.wpAt (model X.prog X.w) X.A (.func body X.env) (execs st X.env) (SP X [] D) X.xe s
abbrev SSa (X : Cx) (T : Tb) (E : XK) (mu : Nat → Bool) (io : List (Nat × V)) (body st : List Stmt) (m : SM) : Prop := PSa X body st (rS X.K T E mu io m)
/-- what super() asks of the text: D the class of the text, C that of the instance, f the def, f2 the def that is meant -/
structure SupF (X : Cx) (mn : Str) (C D f f2 cc cda : Addr) : Prop where
  hks : X.env.kindOf "super" = some .globalImplicit
  hkc : X.env.kindOf "__class__" = some .free
  hk : X.env.scope.kind = .function
  fu : X.env.func = some f
  fd : ∃ (of : Obj) (fd : FuncData) (ar : Arg), X.K.lookup f = some of ∧ of.data = .func fd ∧ (fd.params.posonlyargs ++ fd.params.args).head? = some ar ∧ X.N[0]? = some ar.arg ∧ X.env.kindOf ar.arg = some .local
  co : X.env.code = .ref cda
  cda : ∃ (oc : Obj) (vs : Array Value) (file : Str) (tf : Tok), X.K.lookup cda = some oc ∧ oc.data = .fields vs ∧ vs[2]? = some (.str file tf) ∧ ((X.prog.main.file : Str) == file) = true
  cl : X.env.cells.lookup ("__class__" : Str) = some cc
  cc : ∃ (oc : Obj), X.K.lookup cc = some oc ∧ oc.data = .cell (some (.ref D))
  cD : (PySem.W.clsIn X.K D).isSome = true
  cC : (PySem.W.clsIn X.K C).isSome = true
  sub : PySem.W.mroIn X.K C (.ref D) = some true
  ho : PySem.W.nsIn X.K cStatics "thirdparty.any" = some none
  hm : PySem.W.ks_superIn X.K C D mn = some (some (.ref f2))
  ty : PySem.W.typeIn X.K (.ref f2) = some (.type "function")
  fi : PySem.W.fnIn X.K f2 = true
  mg : X.mg "super" = none
  top : (X.prog.main.scope.names.lookup ("super" : Str)).isSome = false
section
variable {X : Cx} {T : Tb} {E : XK} {mu : Nat → Bool} {io : List (Nat × V)} {body st : List Stmt} {stm : Stmt} {m m2 : SM}
theorem ssa_cons (h1 : SS X T E mu io stm m) (h2 : SSa X T E mu io body st m2) : SSa X T E mu io body (stm :: st) (sSeq m m2) := by
  refine ⟨fun s σ H D I ⟨O, fr, rl, q⟩ => ?_⟩
  refine ks_wpAt_execs_cons (wpAt_of_wpAny (wpAny_mono (h1.run [] s σ H { D with nx := fun σ' H' => rS X.K T E mu io m2 D σ' H' } I ⟨O, fr, rl, ?_⟩) (fun f s' hs => ?_) fun _ _ x => x))
  · unfold sSeq at q
    cases h : m fr with
    | bad => rw [h] at q; exact q
    | exc e => rw [h] at q; exact q
    | ok p =>
      obtain ⟨f, fr1⟩ := p
      rw [h] at q
      simp only [SK.R.bind_ok] at q
      cases f with
      | nx => exact fun O1 H1 σ1 F1 R1 => ⟨O1, fr1, R1, pS.back F1 q⟩
      | rt v => exact q
      | bk => exact q
      | ct => exact q
  · cases f with
    | next =>
      obtain ⟨σ', H', J, q'⟩ := hs
      exact h2.run s' σ' H' D J q'
    | ret u => exact hs
    | brk => exact hs
    | cont => exact hs
theorem super_base {mn : Str} {C D f f2 cc cda : Addr} (S : SupF X mn C D f f2 cc cda) {σ : St} {H : Hp} {s : Shared} {a dx : Addr} {fs : List (Str × V)} {p0 p1 : Pos} {whole : Sem Value} {Q : Value → Shared → Prop} (hat : (mn == ("__class__" : Str)) = false) (I : Inv X [] σ H s) (hs : σ[0]? = some (some (.ref a))) (hH : H a = some (.ins C dx fs))
    (h : ∀ so s', s'.heap.get? so = some (PySem.W.ks_superObj D a C) → Inv X [] σ H s' → Q (.ref so) s') :
    _root_.PySem.wpAt (model X.prog X.w) X.A (.func body X.env) (attributeBase (.Call (.Name "super" p0) [] [] p1) mn X.env whole) Q X.xe s := by
  obtain ⟨of, fd, ar, k1, k2, k3, k4, k5⟩ := S.fd
  obtain ⟨oc, vs, file, tf, k6, k7, k8, k9⟩ := S.cda
  obtain ⟨oc2, k10, k11⟩ := S.cc
  have KX := I.kIn
  obtain ⟨cdD, hcD⟩ := Option.isSome_iff_exists.mp S.cD
  obtain ⟨oD, hD1, hD2⟩ : ∃ oD, s.heap.get? D = some oD ∧ oD.data = .cls cdD := by
    unfold PySem.W.clsIn at hcD
    split at hcD
    · rename_i c d cd' sl ho
      cases hcD
      exact ⟨_, KX _ _ ho, rfl⟩
    · cases hcD
  obtain ⟨mA, O, _⟩ := ins_get I.hok hH
  obtain ⟨od, J, _⟩ := O.look
  refine ks_wpAt_super_base S.hks S.hkc hat S.fu (KX _ _ k1) k2 k3 S.co (KX _ _ k6) k7 k8 k9 S.top ?_
  obtain ⟨mb, h1, h2⟩ := I.mod.blt
  refine PySem.W.ks_loadName_global S.hk S.hks (Calls.loadGlobal_builtin (by rw [I.ok.glob]; exact I.mod.glob.keeps I.bk) S.mg (by rw [I.ok.blt]; exact h1.keeps I.bk) ((h2 _ (by decide)).trans (by first | rfl | decide +kernel)) ⟨rfl, ?_⟩)
  refine wpAny_loadName_free S.hk S.hkc S.cl ⟨_, KX _ _ k10, k11⟩ ?_
  obtain ⟨m, hn, hl⟩ := I.loc
  obtain ⟨u, ru, lk⟩ := hl 0 ar.arg (.ref a) k4 hs (.inl k5)
  cases (show u = Value.ref a from ru)
  have hm : m ar.arg = some (.ref a) := by
    rcases lk with ⟨_, z⟩ | ⟨z, _⟩
    · exact z
    · rw [k5] at z; rcases z with z | z <;> cases z
  refine wpAny_loadName_local S.hk k5 hn hm ?_
  refine ks_wpAny_isType_cls hD1 hD2 ⟨rfl, ?_⟩
  obtain ⟨hh, g, d, t, os⟩ := s
  refine ks_wpAny_call_super hD1 hD2 J.at_ J.cls (fun c e => ?_) (PySem.W.looks_mroIn KX S.sub) (fun h' e k => ?_)
  · have := J.no
    unfold PySem.W.notCls at this
    rw [e] at this
    exact Bool.noConfusion this
  · exact h _ _ e (I.kept (t' := t) k)
theorem super_meth {mn : Str} {C D f f2 cc cda : Addr} (S : SupF X mn C D f f2 cc cda) {σ : St} {H : Hp} {s : Shared} {a dx so : Addr} {fs : List (Str × V)} {pl : Sem Bool} {Q : Value × List Value → Shared → Prop} {E' : Value → Shared → Prop} (hat : (mn == ("__class__" : Str)) = false) (I : Inv X [] σ H s) (hH : H a = some (.ins C dx fs))
    (hso : s.heap.get? so = some (PySem.W.ks_superObj D a C))
    (h : ∀ q s', X.base.get? q = none → Inv X [(q, PySem.W.methodObj (.ref f2) (.ref a))] σ H s' → Q (.ref q, []) s') : wpAny (model X.prog X.w) X.A (getMethod (.ref so) mn pl) Q E' s := by
  have KX := I.kIn
  obtain ⟨mA, O, _⟩ := ins_get I.hok hH
  obtain ⟨od, J, _⟩ := O.look
  obtain ⟨cd, hc⟩ := Option.isSome_iff_exists.mp S.cC
  have hm := S.hm
  unfold PySem.W.ks_superIn at hm
  rw [hc] at hm
  obtain ⟨of, hof, hofc⟩ : ∃ of, s.heap.get? f2 = some of ∧ of.cls = .type "function" := by
    have ht' : (X.K.lookup f2).map (·.cls) = some (.type "function") := S.ty
    cases z : X.K.lookup f2 with
    | none => rw [z] at ht'; cases ht'
    | some of => rw [z] at ht'; exact ⟨of, KX _ _ z, Option.some.inj ht'⟩
  have hb := ClX.base_none I (Nat.le_refl _)
  obtain ⟨hh, g, d, t, os⟩ := s
  refine ks_wpAny_getMethod_super hso (PySem.W.looks_opaque KX S.ho) (l₀ := cd.mro) ?_ rfl KX hm hof hofc (PySem.W.ks_ne KX J hc) hat ?_
  · exact fun A Q E s k q => wpAny_bind ((PySem.W.looks_clsIn KX hc) A _ E s k (wpAny_pure q))
  · exact h _ _ hb (ClX.pin_new (s := ⟨hh, g, d, t, os⟩) I (fun _ _ z => Heap.get?_push_of_some _ z) (Nat.le_refl _) (Heap.get?_push_size hh rfl) (fun v z => nomatch z))
/-- self, lent, of the class c -/
def sSup (c : Nat) (iop bop : List Nat) (m : FnM) (dv : List Val) (ms : LM) : SM := fun fr => (callM iop bop m dv (chkS [c] 0 (lI 0 ms)) fr).bind fun x => .ok (.nx, x.2)
theorem ssa_super {CX : CXT} {k n : Nat} {f f2 D cc cda : Addr} {fd : FuncData} {ps : List Str} {iop bop : List Nat} {mf : FnM} {dv : List Val} {dx : List V} {ds : List Value} {ms : LM} {mn : Str} {c : Nat} {e : Expr} {es : List Expr} {p0 p1 ap pos pos' : Pos} {pl : Sem Bool}
    (S : SupF X mn (T.cl c) D f f2 cc cda) (hat : (mn == ("__class__" : Str)) = false := by decide) (hm : mu 0 = true := by rfl) (F : FnOk X.prog X.w X.K X.mg X.base CX k f2 fd ps (spG X.K T iop bop false n mf)) (hr : Room k X.A) (hb : Binds X.K fd ps ds) (hd : Vals dx ds) (hdv : ∀ O H, VRs X.K T O H dv dx) (hRES : iop.contains RES = false := by rfl) (hx : Passes CX X E := by exact pass0)
    (ha : SL X T E mu io (e :: es) ms) (hl : ∀ fr as fr', chkS [c] 0 (lI 0 ms) fr = .ok (as, fr') → as.length + dv.length = n) (he : starEach (e :: es) X.env = (false, eval e X.env) :: starEach es X.env := by rfl) (hpl : (backTo pos (starEach es X.env)).any (·.1) = false := by rfl)
    (hi : interactive X.env = false := by rfl) (hsw : swapsWith (.Call (.Attribute (.Call (.Name "super" p0) [] [] p1) mn ap) (e :: es) [] pos) none pos'.line X.env = pure false := by rfl)
    (ht : eval (.Call (.Attribute (.Call (.Name "super" p0) [] [] p1) mn ap) (e :: es) [] pos) X.env = (do
      let ov ← attributeBase (.Call (.Name "super" p0) [] [] p1) mn X.env (eval (.Call (.Name "super" p0) [] [] p1) X.env)
      standAt ap.atName
      let (f, first) ← holding [ov] (getMethod ov mn pl)
      callWith pos f first (backTo pos (starEach (e :: es) X.env)) []) := by rfl) :
    SSa X T E mu io body [.Expr (.Call (.Attribute (.Call (.Name "super" p0) [] [] p1) mn ap) (e :: es) [] pos) pos'] (sSup c iop bop mf dv ms) := by
  refine ⟨fun s σ H Dd I ⟨O, fr, rl, q⟩ => ?_⟩
  have h0 : rX X.K T E mu io false 0 (callM iop bop mf dv (chkS [c] 0 (lI 0 ms))) σ H (fun _ H' => Dd.nx σ H') := by
    refine ⟨O, fr, rl, ?_⟩
    unfold sSup at q
    cases h : callM iop bop mf dv (chkS [c] 0 (lI 0 ms)) fr with
    | bad => rw [h] at q; exact q
    | exc e => rw [h] at q; exact q
    | ok p => obtain ⟨v, fr1⟩ := p; rw [h] at q; exact fun O1 H1 x F1 R1 V1 => q O1 H1 σ F1 R1
  obtain ⟨c', hc', y, hy, ⟨a, dx', fs, ws, fs', rfl, h4, h6⟩, q2⟩ := lI_imp hm (call_imp hdv hRES hl h0)
  have ec : c' = c := by simpa using hc'
  subst ec
  refine ks_wpAt_execs_cons (ks_wpAt_Expr_any (ks_wpAt_MethodCall (pl := pl) (super_base S hat I hy h4 fun so s1 hso I1 => ?_) ht) hi hsw)
  refine super_meth S hat I1 h4 hso fun qq s2 hbq I2 => ?_
  have hL : qq ≠ X.env.locals := (I2.pin _ (List.mem_append_right _ List.mem_cons_self)).2.2.1
  refine PySem.W.callWith_M (K := X.K) (h₀ := X.base) (first := []) I2.ok.mod.kin (news_at hL hbq (ClX.pin_at I2)) List.mem_cons_self S.fi (thn (ha.run pos _ s2 σ H _ I2 q2) fun us s3 ⟨vs, H2, I3, rv, q3⟩ => ⟨⟨ClX.pin_at I3, I3.kIn⟩, ?_⟩) he hpl
  have z : wpAny (model X.prog X.w) X.A (call (.ref qq) us) (EP X [(qq, PySem.W.methodObj (.ref f2) (.ref a))] σ fun _ H' => Dd.nx σ H') X.xe s3 := by
    have r2 : Vals ((V.ref a :: vs) ++ dx) ((Value.ref a :: us) ++ ds) := Vals.append (.cons rfl rv) hd
    have hlen : ((Value.ref a :: us) ++ ds).length = ps.length := by rw [← r2.length]; exact F.len _ _ _ _ q3
    refine wpAny_call (PySem.W.method_call (ClX.pin_at I3) (codeAny_mono (F.run X.A X.stack s3 H2 ⟨.ref a :: us, []⟩ ((Value.ref a :: us) ++ ds) _ _ E hr I3.env0 (hb s3 (.ref a :: us) I3.kIn hlen) r2 q3) fun r s' hq => ?_))
    cases r with
    | error e => exact hx _ σ H2 s3 e s' I3 hq
    | ok fl =>
      cases fl with
      | ret u => exact I3.after hq
      | next => exact False.elim hq
      | brk => exact False.elim hq
      | cont => exact False.elim hq
  refine thn z fun v s4 hv => ?_
  obtain ⟨v', H', I4, rv', q4⟩ := ClX.unpinE hv
  refine wpAt_of_wpAny ?_
  have := (pss_nil (X := X)).run [] s4 σ H' Dd I4 q4
  exact this
end
/-! ### a def whose text says super() -/
structure FnScopeS (N P : List Str) (sc : Scope) : Prop where
  kind : sc.kind = .function
  co : sc.isCoroutine = false
  gen : sc.isGenerator = false
  nd : N.Nodup
  pre : N.take P.length = P
  par : ∀ x ∈ P, sc.names.lookup x = some .local
  nocell : ∀ y ∈ sc.names, y.2 ≠ .cell
  free : ∀ y, sc.names.lookup y = some .free → y = ("__class__" : Str)
/-- a def as it stands behind the top, its cell at cc -/
structure FunDS (K : PySem.W.Frag) (x qual : Str) (params : Arguments) (body : List Stmt) (scope : Scope) (dvs : List V) (kws : List (Str × V)) (cc f : Addr) (fd : FuncData) : Prop where
  ex : ∃ (oc : Value) (od : Option Addr) (dV kV doc pm : Value) (an : Option Addr) (cdv ct : Value) (osl : Array (Option Value)),
    fd = PySem.W.ksFn x qual params body scope dV kV doc pm an cdv ct cc ∧ K.lookup f = some ⟨oc, od, .func fd, osl⟩ ∧ PySem.W.codeIn K cdv qual = true ∧ DflV K dV dvs ∧ KwdV K kV kws
  kp : PySem.W.keepIn K (.ref f) = true
  ce : ∃ (o : Obj) (v : Option Value), K.lookup cc = some o ∧ o.data = .cell v
def cxS (CX : CXT) (P : Program) (w : World) (K : PySem.W.Frag) (mg : Str → Option Value) (base : Heap) (N : List Str) (qual : Str) (scope : Scope) (f : Addr) (cd : Value) (cc : Addr) (A : Around) (outer : List Env) (s : Shared) (H : Hp) (E : XK) : Cx where
  prog := P
  w := w
  K := K
  mg := mg
  base := base
  A := A.deeper (PySem.W.ksEnv qual scope s.heap.objs.size f cd cc)
  N := N
  s_0 := s
  H_0 := H
  env := PySem.W.ksEnv qual scope s.heap.objs.size f cd cc
  outer := outer
  stack := PySem.W.ksEnv qual scope s.heap.objs.size f cd cc :: outer
  ex := []
  calm := true
  fn := fun y => y != ("__class__" : Str)
  pn := []
  xe := fun e s' => wpAny (model P w) (A.deeper (PySem.W.ksEnv qual scope s.heap.objs.size f cd cc)) (leaving (PySem.W.ksEnv qual scope s.heap.objs.size f cd cc) e) (fun _ s'' => CX outer H s E e s'') (fun e' s'' => CX outer H s E e' s'') s'
theorem lookup_of_mem {l : List (Str × Value)} {x : Str} {u : Value} (h : (x, u) ∈ l) (hu : ∀ v, (x, v) ∈ l → v = u) : l.lookup x = some u := by
  induction l with
  | nil => cases h
  | cons p r ih =>
    obtain ⟨y, v⟩ := p
    by_cases e : x = y
    · subst e
      rw [List.lookup_cons_self, hu v List.mem_cons_self]
    · have : (x == y) = false := by simpa using e
      show (match x == y with | true => some v | false => r.lookup x) = _
      rw [this]
      refine ih ?_ fun w hw => hu w (List.mem_cons_of_mem _ hw)
      rcases List.mem_cons.mp h with z | z
      · cases z; exact absurd rfl e
      · exact z
theorem zip_uniq {ps : List Str} (nd : ps.Nodup) : ∀ {us : List Value} {i : Nat} {x : Str} {u v : Value}, ps[i]? = some x → us[i]? = some u → (x, v) ∈ ps.zip us → v = u := fun {us i x u v} h1 h2 hm => by
  obtain ⟨j, hj⟩ := List.getElem?_of_mem hm
  have hz := List.getElem?_zip_eq_some.mp hj
  obtain ⟨z1, z2⟩ := hz
  have hi := (List.getElem?_eq_some_iff.mp h1)
  have hj' := (List.getElem?_eq_some_iff.mp z1)
  have : i = j := by
    have := List.getElem_inj (h₀ := hi.1) (h₁ := hj'.1) nd
    exact this.mp (hi.2.trans hj'.2.symm)
  subst this
  rw [h2] at z2
  exact (Option.some.inj z2).symm
theorem fn_okS {CX : CXT} {P : Program} {w : World} {K : PySem.W.Frag} {mg : Str → Option Value} {base : Heap} {x qual : Str} {params : Arguments} {body : List Stmt} {scope : Scope} {dvs : List V} {kws : List (Str × V)} {f cc : Addr} {fd : FuncData} {N ps : List Str} {k : Nat} {T : Tb} {mu : Nat → Bool} {iop bop : List Nat} {ro : Bool} {m : SM}
    (F : FunDS K x qual params body scope dvs kws cc f fd) (S : FnScopeS N ps scope) (hl : ps.length ≤ N.length) (hmu : ∀ i, i < ps.length → mu i = iop.contains i) (hio : ∀ j ∈ iop, j < ps.length) (hbo : ∀ i, i < ps.length → mu (BOR + i) = bop.contains i) (hro : mu RES = ro)
    (hbody : ∀ (cdv : Value) (A : Around) (outer : List Env) (s : Shared) (H : Hp) (vs : List V) (E : XK), (∃ (oc : Value) (od : Option Addr) (dV kV doc pm : Value) (an : Option Addr) (ct : Value) (osl : Array (Option Value)), K.lookup f = some ⟨oc, od, .func (PySem.W.ksFn x qual params body scope dV kV doc pm an cdv ct cc), osl⟩) → PySem.W.codeIn K cdv qual = true → Room k (A.deeper (PySem.W.ksEnv qual scope s.heap.objs.size f cdv cc)) →
      SSa (cxS CX P w K mg base N qual scope f cdv cc A outer s H E) T E mu (iop.map fun j => (j, vs.getD j .non)) body body m) :
    FnOk P w K mg base CX (k + 1) f fd ps (spG K T iop bop ro ps.length (runF N.length iop ro m)) := by
  obtain ⟨oc, od, dV, kV, doc, pm, an, cdv, ct, osl, rfl, lk, hcd, _, _⟩ := F.ex
  refine ⟨fun vs H Q E h => h.1, fun A outer s H args us vs Q E hr e0 hb r hsp => ?_⟩
  have hvl : vs.length = ps.length := hsp.1
  obtain ⟨_, O, vals, tr, hA, q⟩ := hsp
  have KX : K.In s.heap := e0.mod.kin.keeps fun b o e => (e0.bs b o e).1
  have lim : s.heap.NoLimit := e0.mod.nolimit.keeps fun b o e => (e0.bs b o e).1
  have pp : (ps.zip us).length = ps.length := by rw [List.length_zip, ← r.length, hvl, Nat.min_self]
  refine ks_codeAny_call_defAt (fd := PySem.W.ksFn x qual params body scope dV kV doc pm an cdv ct cc) (body := body) (binds := ps.zip us) hr.depth (KX _ _ lk) rfl lim (PySem.W.codeRec_of KX hcd) rfl hb S.nocell (fun y hy => S.par _ (List.of_mem_zip hy).1) (fun h₁ hns hk => ?_) S.co S.gen S.kind
  have e0c := e0
  obtain ⟨oce, ve, hce, hced⟩ := F.ce
  have hccb : base.get? cc = some oce := e0.mod.kin cc oce hce
  have noA : ∀ b : Addr, b ∉ (cxS CX P w K mg base N qual scope f cdv cc A outer s H E).ex := fun b z => absurd (show b ∈ ([] : List Addr) from z) (by simp)
  have I : Inv (cxS CX P w K mg base N qual scope f cdv cc A outer s H E) [] (start N vs) H { s with heap := h₁, toks := s.toks + (ps.zip us).length } := by
    refine ⟨⟨e0.mod, S.kind, rfl, rfl, Nat.le_refl _, fun y z c h1 h2 => ?_, fun y hy => ?_, fun y c hf h => ?_, fun _ => hr.hd, Around.frames_deeper e0.frames, .inr ⟨rfl, rfl⟩, fun b z => absurd z (noA b), e0.bs, e0.bsz, fun b _ _ => noA b, fun b z => absurd z (noA b), e0.funs, e0.frf⟩,
      rfl, e0.bare, Un.kept hk, ⟨_, hns, fun i y v h1 h2 h3 => ?_⟩, fun y c h => ?_, e0.hok.fresh (Nat.le_refl _), fun y c h => ?_, fun p hp => absurd (show p ∈ ([] : List (Addr × Obj)) from hp) (by simp), e0.hok.kept hk, ?_⟩
    · have a1 : y = ("__class__" : Str) := by
        have h1' : List.lookup y [(("__class__" : Str), cc)] = some c := h1
        by_cases e : y = ("__class__" : Str)
        · exact e
        · have : (y == ("__class__" : Str)) = false := by simpa using e
          simp [List.lookup, this] at h1'
      have a2 : z = ("__class__" : Str) := by
        have h1' : List.lookup z [(("__class__" : Str), cc)] = some c := h2
        by_cases e : z = ("__class__" : Str)
        · exact e
        · have : (z == ("__class__" : Str)) = false := by simpa using e
          simp [List.lookup, this] at h1'
      rw [a1, a2]
    · have hy : scope.names.lookup y = some .cell ∨ scope.names.lookup y = some .free := hy
      rcases hy with hy | hy
      · exact absurd rfl (S.nocell _ (PySem.mem_of_lookup hy))
      · rw [S.free y hy]
        exact ⟨cc, List.lookup_cons_self⟩
    · exfalso
      have hf : (y != ("__class__" : Str)) = true := hf
      have h1' : List.lookup y [(("__class__" : Str), cc)] = some c := h
      have : (y == ("__class__" : Str)) = false := by simpa using hf
      simp [List.lookup, this] at h1'
    · have hi : i < vs.length := by
        unfold L2.start at h2
        by_cases hi : i < vs.length
        · exact hi
        · rw [List.getElem?_append_right (by simpa using hi)] at h2
          rw [List.getElem?_replicate] at h2
          split at h2 <;> cases h2
      have ha : vs[i]? = some v := by
        unfold L2.start at h2
        rw [List.getElem?_append_left (by simpa using hi), List.getElem?_map] at h2
        cases e : vs[i]? with
        | none => rw [e] at h2; cases h2
        | some a => rw [e] at h2; cases h2; rfl
      obtain ⟨u, hu, rv⟩ := r.get ha
      have hp : ps[i]? = some y := by
        rw [← S.pre, List.getElem?_take_of_lt (by omega)]; exact h1
      have ndP : ps.Nodup := by rw [← S.pre]; exact S.nd.sublist (List.take_sublist _ _)
      refine ⟨u, rv, .inl ⟨S.par y (List.mem_of_getElem? hp), ?_⟩⟩
      refine lookup_of_mem (List.mem_reverse.mpr (List.mem_of_getElem? (i := i) (List.getElem?_zip_eq_some.mpr ⟨hp, hu⟩))) fun v' hv' => ?_
      exact zip_uniq ndP hp hu (List.mem_reverse.mp hv')
    · have h1' : List.lookup y [(("__class__" : Str), cc)] = some c := h
      by_cases e : y = ("__class__" : Str)
      · subst e
        rw [List.lookup_cons_self] at h1'
        cases h1'
        exact ⟨ve, oce, hk _ _ (e0.bs _ _ hccb).1, hced⟩
      · have : (y == ("__class__" : Str)) = false := by simpa using e
        simp [List.lookup, this] at h1'
    · have h1' : List.lookup y [(("__class__" : Str), cc)] = some c := h
      by_cases e : y = ("__class__" : Str)
      · subst e
        rw [List.lookup_cons_self] at h1'
        cases h1'
        exact (e0.bs _ _ hccb).2
      · have : (y == ("__class__" : Str)) = false := by simpa using e
        simp [List.lookup, this] at h1'
    · unfold L2.start
      show _ = N.length
      rw [List.length_append, List.length_map, List.length_replicate]
      omega
  have hmu' : ∀ i, iop.contains i = true → mu i = true := fun i hi => by
    rw [hmu i (hio i (by simpa using hi))]; exact hi
  have hrun := (hbody cdv A outer s H vs E ⟨oc, od, dV, kV, doc, pm, an, ct, osl, lk⟩ hcd (hr.deeper _)).run _ (start N vs) H { nx := fun _ H' => Q .non H', rt := Q } I ⟨O, initF N.length vals, Rl.start tr hA (by omega) (fun i hi => hmu i (by omega)) (fun i hi => hbo i (by omega)) (fun j hj => by have := hio j hj; omega), ?_⟩
  · refine ks_wpAt_mono hrun (fun fl s' hs => ?_) fun e s' hs => hs
    have fin : ∀ {σ' : St} {H' : Hp} {v : V} {u : Value}, Inv (cxS CX P w K mg base N qual scope f cdv cc A outer s H E) [] σ' H' s' → RelV v u → Q v H' → CE outer P w H s Q u s' :=
      fun {σ' H' v u} J rv q => ⟨v, H', J.os, J.bare, J.base, J.hok, rv, q⟩
    cases fl with
    | ret u =>
      obtain ⟨v, σ', H', J, rv, q⟩ := hs
      exact fin J rv q
    | next =>
      obtain ⟨σ', H', J, q⟩ := hs
      exact fin (v := V.non) (u := Value.none) J rfl q
    | brk =>
      obtain ⟨_, _, _, q⟩ := hs
      exact False.elim q
    | cont =>
      obtain ⟨_, _, _, q⟩ := hs
      exact False.elim q
  · unfold runF at q
    cases hm : m (initF N.length vals) with
    | bad => rw [hm] at q; exact q
    | exc e => rw [hm] at q; exact q
    | ok p =>
      obtain ⟨fl, fr'⟩ := p
      rw [hm] at q
      simp only [SK.R.bind_ok] at q
      have fin : ∀ (v : Val) (x : V) (O' : Own) (H' : Hp) (σ' : St) (outs : List Val), outsOf fr' iop = some outs → Fm O H O' H' → Rl K T mu (iop.map fun j => (j, vs.getD j .non)) O' fr' σ' H' → RsR K T O' H' mu v x →
          (∀ O' H' x, Fm O H O' H' → (∀ a, O' a ≠ none → H' a ≠ none) → OutsR K T O' H' vs iop outs → RtR K T ro RES O' H' v x → Q x H') → Q x H' := fun v x O' H' σ' outs ho F' R' V' g =>
        g O' H' x F' R'.trk (outs_ok hmu' (fun j hj => by have := hio j hj; omega) R' (fun j h => h) ho) (by
          unfold RtR; rw [← hro]; exact V')
      cases fl with
      | bk => exact q.elim
      | ct => exact q.elim
      | nx =>
        cases ro with
        | true => exact q.elim
        | false =>
          simp only [Bool.false_eq_true, if_false] at q
          cases ho : outsOf fr' iop with
          | none => rw [ho] at q; exact q.elim
          | some outs =>
            rw [ho] at q
            exact fun O' H' σ' F' R' => fin .non .non O' H' σ' outs ho F' R' (rsr_val hro (by unfold VR; rfl)) q
      | rt v =>
        cases ho : outsOf fr' iop with
        | none => rw [ho] at q; exact q.elim
        | some outs =>
          rw [ho] at q
          exact fun O' H' σ' x F' R' V' => fin v x O' H' σ' outs ho F' R' V' q
end SK

set_option maxHeartbeats 1000000
/-! SK16: what the kernel sees of the text behind the top: defs with their defaults, facts about classes. -/
namespace SK
open PySem L2 PySem.Spec He

/-! ### values that stand in the text -/
mutual
def vrB (K : PySem.W.Frag) : Val → Value → Bool
  | .non, u => (match u with
    | .none => true
    | _ => false)
  | .bl b, u => (match u with
    | .bool c => b == c
    | _ => false)
  | .int i, u => (match u with
    | .int j _ => i == j
    | _ => false)
  | .str s, u => (match u with
    | .str z _ => z.cps.toList == s
    | _ => false)
  | .tup xs, u => (match u with
    | .ref a => (match K.lookup a with
      | some ⟨.type c, _, .seq its _, _⟩ => decide (c = "tuple") && (decide (its.size ≤ sizeLine) && vrsB K xs its.toList)
      | _ => false)
    | _ => false)
  | _, _ => false
def vrsB (K : PySem.W.Frag) : List Val → List Value → Bool
  | [], us => us.isEmpty
  | v :: vs, us => (match us with
    | u :: us => vrB K v u && vrsB K vs us
    | [] => false)
end
mutual
theorem vrB_ok {K : PySem.W.Frag} : ∀ (v : Val) (u : Value), vrB K v u = true → ∃ x : V, RelV x u ∧ ∀ T O H, VR K T O H v x
  | .non, u, h => by
    unfold vrB at h
    split at h
    · exact ⟨.non, rfl, fun _ _ _ => vr_non⟩
    · cases h
  | .bl b, u, h => by
    unfold vrB at h
    split at h
    · rw [eq_of_beq h]; exact ⟨.bl _, rfl, fun _ _ _ => vr_bl⟩
    · cases h
  | .int b, u, h => by
    unfold vrB at h
    split at h
    · rw [eq_of_beq h]; exact ⟨.int _, ⟨_, rfl⟩, fun _ _ _ => vr_int⟩
    · cases h
  | .str b, u, h => by
    unfold vrB at h
    split at h
    · rw [← eq_of_beq h]; exact ⟨.str _, ⟨_, rfl⟩, fun _ _ _ => vr_str⟩
    · cases h
  | .tup xs, u, h => by
    unfold vrB at h
    split at h
    · rename_i a
      split at h
      · rename_i c od its n sl hk
        rw [Bool.and_eq_true, Bool.and_eq_true] at h
        obtain ⟨h1, h2, h3⟩ := h
        obtain ⟨vs, r, q⟩ := vrsB_ok xs its.toList h3
        refine ⟨.ref a, rfl, fun T O H => ?_⟩
        unfold VR
        exact ⟨a, vs, rfl, .inr fun H' => .inr ⟨_, its, n, hk, congrArg Value.type (of_decide_eq_true h1), rfl, of_decide_eq_true h2, r⟩, q T O H⟩
      · cases h
    · cases h
  | .lst _, u, h => by unfold vrB at h; cases h
  | .dic _ _, u, h => by unfold vrB at h; cases h
  | .ins _ _ _, u, h => by unfold vrB at h; cases h
  | .scr _, u, h => by unfold vrB at h; cases h
theorem vrsB_ok {K : PySem.W.Frag} : ∀ (vs : List Val) (us : List Value), vrsB K vs us = true → ∃ xs : List V, Vals xs us ∧ ∀ T O H, VRs K T O H vs xs
  | [], us, h => by
    unfold vrsB at h
    cases us with
    | nil => exact ⟨[], .nil, fun _ _ _ => .nil⟩
    | cons u us => cases h
  | v :: vs, us, h => by
    unfold vrsB at h
    split at h
    · rename_i u us
      rw [Bool.and_eq_true] at h
      obtain ⟨x, r, q⟩ := vrB_ok v u h.1
      obtain ⟨xs, rs, qs⟩ := vrsB_ok vs us h.2
      exact ⟨x :: xs, .cons r rs, fun T O H => .cons (q T O H) (qs T O H)⟩
    · cases h
end
/-! ### defs -/
def dflX (K : PySem.W.Frag) (dV : Value) (dfl : List Val) : Bool := match dfl with
  | [] => (match dV with
    | .none => true
    | _ => false)
  | v :: vs => (match dV with
    | .ref T => (match K.lookup T with
      | some ⟨_, _, .seq its _, _⟩ => vrsB K (v :: vs) its.toList
      | _ => false)
    | _ => false)
theorem dflX_ok {K : PySem.W.Frag} {dV : Value} {dfl : List Val} (h : dflX K dV dfl = true) : ∃ dvs, DflV K dV dvs ∧ ∀ T O H, VRs K T O H dfl dvs := by
  unfold dflX at h
  split at h
  · split at h
    · exact ⟨[], .inl ⟨rfl, rfl⟩, fun _ _ _ => .nil⟩
    · cases h
  · rename_i v vs
    split at h
    · rename_i T
      split at h
      · rename_i oc od its n osl hk
        obtain ⟨xs, r, q⟩ := vrsB_ok _ _ h
        refine ⟨xs, .inr ⟨?_, T, _, its.toList, n, rfl, hk, by simp, r⟩, q⟩
        intro e
        have := (q ⟨fun _ => 0, 0, fun _ => "", fun _ _ => false, fun _ _ => False⟩ ON (fun _ => none)).len
        rw [e] at this
        simp at this
      · cases h
    · cases h
def kwdX (K : PySem.W.Frag) (kV : Value) (kwd : List (Str × Val)) : Bool := match kwd with
  | [] => true
  | q :: qs => (match kV with
    | .ref D => (q :: qs).all fun q => (match PySem.W.nsIn K D q.1 with
      | some (some u) => vrB K q.2 u
      | _ => false)
    | _ => false)
theorem kwdX_ok {K : PySem.W.Frag} {kV : Value} {kwd : List (Str × Val)} (h : kwdX K kV kwd = true) : ∃ kws, KwdV K kV kws ∧ kws.map (·.1) = kwd.map (·.1) ∧ ∀ T O H, VRs K T O H (kwd.map (·.2)) (kws.map (·.2)) := by
  unfold kwdX at h
  split at h
  · exact ⟨[], .inl rfl, rfl, fun _ _ _ => .nil⟩
  · rename_i q qs
    split at h
    · rename_i D
      have key : ∀ l : List (Str × Val), (l.all fun q => (match PySem.W.nsIn K D q.1 with
          | some (some u) => vrB K q.2 u
          | _ => false)) = true → ∃ kws : List (Str × V), (∀ q ∈ kws, ∃ u, PySem.W.nsIn K D q.1 = some (some u) ∧ RelV q.2 u) ∧ kws.map (·.1) = l.map (·.1) ∧ ∀ T O H, VRs K T O H (l.map (·.2)) (kws.map (·.2)) := by
        intro l
        induction l with
        | nil => intro _; exact ⟨[], fun q hq => (by cases hq), rfl, fun _ _ _ => VRs.nil⟩
        | cons p r ih =>
          intro h
          rw [List.all_cons, Bool.and_eq_true] at h
          obtain ⟨kws, a, b, c⟩ := ih h.2
          have h1 := h.1
          split at h1
          · rename_i u hu
            obtain ⟨x, rx, vx⟩ := vrB_ok _ _ h1
            refine ⟨(p.1, x) :: kws, fun q hq => ?_, by rw [List.map_cons, List.map_cons, b], fun T O H => .cons (vx T O H) (c T O H)⟩
            rcases List.mem_cons.mp hq with rfl | hq
            · exact ⟨u, hu, rx⟩
            · exact a q hq
          · cases h1
      obtain ⟨kws, a, b, c⟩ := key _ h
      exact ⟨kws, .inr ⟨D, rfl, a⟩, b, c⟩
    · cases h
/-- how a def's function object is made up, for binding -/
structure FunB (K : PySem.W.Frag) (params : Arguments) (dvs : List V) (kws : List (Str × V)) (fd : FuncData) : Prop where
  ex : ∃ (x qual : Str) (body : List Stmt) (scope : Scope) (cl : List (Str × Addr)) (dV kV doc pm : Value) (an : Option Addr) (cdv ct : Value), fd = PySem.W.fnX x qual params body scope cl dV kV doc pm an cdv ct ∧ DflV K dV dvs ∧ KwdV K kV kws
section
variable {K : PySem.W.Frag} {params : Arguments} {dvs : List V} {kws : List (Str × V)} {fd : FuncData} {ps : List Str}
theorem FunD.b {x qual : Str} {body : List Stmt} {scope : Scope} {f : Addr} (F : FunD K x qual params body scope dvs kws f fd) : FunB K params dvs kws fd := by
  obtain ⟨oc, od, dV, kV, doc, pm, an, cdv, ct, osl, e, lk, hcd, hD, hK⟩ := F.ex
  exact ⟨x, qual, body, scope, [], dV, kV, doc, pm, an, cdv, ct, e, hD, hK⟩
theorem FunDS.b {x qual : Str} {body : List Stmt} {scope : Scope} {f cc : Addr} (F : FunDS K x qual params body scope dvs kws cc f fd) : FunB K params dvs kws fd := by
  obtain ⟨oc, od, dV, kV, doc, pm, an, cdv, ct, osl, e, lk, hcd, hD, hK⟩ := F.ex
  exact ⟨x, qual, body, scope, _, dV, kV, doc, pm, an, cdv, ct, e, hD, hK⟩
/-- no defaults in the text -/
theorem FunB.n0 (F : FunB K params [] kws fd) (h : ∀ (x qual : Str) (body : List Stmt) (scope : Scope) (cl : List (Str × Addr)) (kV doc pm : Value) (an : Option Addr) (cdv ct : Value) (us : List Value), us.length = ps.length → bindArgs (PySem.W.fnX x qual params body scope cl .none kV doc pm an cdv ct) ⟨us, []⟩ = pure (ps.zip us)) : Binds K fd ps [] := by
  obtain ⟨x, qual, body, scope, cl, dV, kV, doc, pm, an, cdv, ct, rfl, hD, hK⟩ := F.ex
  rcases hD with ⟨_, rfl⟩ | ⟨e, _⟩
  · exact .all (h x qual body scope cl kV doc pm an cdv ct)
  · exact absurd rfl e
/-- defaults for places; n values, keywords ks; no keyword-only parameter lacks -/
theorem FunB.n1 (F : FunB K params dvs kws fd) (hd : dvs ≠ []) (n : Nat) (ks : List Str) (g : {α : Type} → List α → List α → List α → List α) (hrel : ∀ {vs ds zs : List V} {us its ws : List Value}, Vals vs us → Vals ds its → Vals zs ws → Vals (g vs ds zs) (g us its ws))
    (h : ∀ (x qual : Str) (body : List Stmt) (scope : Scope) (cl : List (Str × Addr)) (T : Addr) (kV doc pm : Value) (an : Option Addr) (cdv ct : Value) (us its ws : List Value), us.length = n → its.length = dvs.length → ws.length = ks.length →
      ∃ k, bindArgs (PySem.W.fnX x qual params body scope cl (.ref T) kV doc pm an cdv ct) ⟨us, ks.zip ws⟩ = seqItems? (.ref T) >>= k ∧ k (some its.toArray) = pure (ps.zip (g us its ws))) :
    ∃ its : List Value, Vals dvs its ∧ KBn K fd ps n ks (fun us ws => g us its ws) (fun vs zs => g vs dvs zs) := by
  obtain ⟨x, qual, body, scope, cl, dV, kV, doc, pm, an, cdv, ct, rfl, hD, hK⟩ := F.ex
  rcases hD with ⟨e, _⟩ | ⟨_, T, o, its, m, rfl, lT, oT, rT⟩
  · exact absurd e hd
  · refine ⟨its, rT, ⟨fun s us ws X l1 l2 => ?_, fun r1 r2 => hrel r1 rT r2⟩⟩
    obtain ⟨k, e1, e2⟩ := h x qual body scope cl T kV doc pm an cdv ct us its ws l1 rT.length.symm l2
    refine BindsTo.of_looks fun M => ?_
    rw [e1]
    exact looks_items X lT oT (.of_pure e2)
/-- defaults for places and for keyword-only parameters (all of these lack) -/
theorem FunB.n2 (F : FunB K params dvs kws fd) (hd : dvs ≠ []) (hk : kws ≠ []) (n : Nat) (g : {α : Type} → List α → List α → List α → List α) (hrel : ∀ {vs ds zs : List V} {us its ws : List Value}, Vals vs us → Vals ds its → Vals zs ws → Vals (g vs ds zs) (g us its ws))
    (h : ∀ (x qual : Str) (body : List Stmt) (scope : Scope) (cl : List (Str × Addr)) (T D : Addr) (doc pm : Value) (an : Option Addr) (cdv ct : Value) (us its mv : List Value), us.length = n → its.length = dvs.length → mv.length = kws.length →
      ∃ k, bindArgs (PySem.W.fnX x qual params body scope cl (.ref T) (.ref D) doc pm an cdv ct) ⟨us, []⟩ = seqItems? (.ref T) >>= k ∧ KwChain D ((kws.map (·.1)).zip mv) (k (some its.toArray)) (ps.zip (g us its mv))) :
    ∃ its mv : List Value, Vals dvs its ∧ Vals (kws.map (·.2)) mv ∧ KBn K fd ps n [] (fun us ws => g us its mv) (fun vs zs => g vs dvs (kws.map (·.2))) := by
  obtain ⟨x, qual, body, scope, cl, dV, kV, doc, pm, an, cdv, ct, rfl, hD, hK⟩ := F.ex
  rcases hD with ⟨e, _⟩ | ⟨_, T, o, its, m, rfl, lT, oT, rT⟩
  · exact absurd e hd
  · rcases hK with e | ⟨D, rfl, hq⟩
    · exact absurd e hk
    · obtain ⟨mv, hl, rk, hks⟩ := kwd_vals hq
      refine ⟨its, mv, rT, rk, ⟨fun s us ws X l1 l2 => ?_, fun r1 r2 => hrel r1 rT rk⟩⟩
      obtain ⟨k, e1, e2⟩ := h x qual body scope cl T D doc pm an cdv ct us its mv l1 rT.length.symm hl
      have ew : ws = [] := List.eq_nil_of_length_eq_zero l2
      subst ew
      refine BindsTo.of_looks fun M => ?_
      show PySem.W.Looks M s.heap (bindArgs _ ⟨us, []⟩) _
      rw [e1]
      exact looks_items X lT oT (KwChain.looks X hks e2)
theorem KBn.binds {n : Nat} {g : List Value → List Value → List Value} {gV : List V → List V → List V} {ds : List Value} (b : KBn K fd ps n [] g gV) (hg : ∀ us, us.length = n → g us [] = us ++ ds) (hl : n + ds.length = ps.length) : Binds K fd ps ds := fun s us X h => by
  have h1 : us.length = n := by rw [List.length_append] at h; omega
  have := b.to s us [] X h1 rfl
  rw [hg us h1] at this
  exact this
end
/-! ### the defs of a text, as the kernel sees them -/
abbrev FnX : Type := Option (Str × Str × Arguments × FuncBody × Scope × Addr × List Str × Addr)
def fnXO (K : PySem.W.Frag) (p : Str × Option Str) : FnX := match K.lookup (fAd K p) with
  | some ⟨_, _, .func fd, _⟩ => some (fd.name, fd.qualname, fd.params, fd.body, fd.scope, fd.globals, fd.closure.map (·.1), fd.builtins)
  | _ => none
/-- where it stands, its name, qualified name, parameters, body, scope; whether it says super(); its defaults -/
structure DefX where
  at_ : Str × Option Str
  name : Str
  qual : Str
  params : Arguments
  body : List Stmt
  scope : Scope
  sup : Bool := false
  dfl : List Val := []
  kwd : List (Str × Val) := []
def DefX.val (d : DefX) : FnX := some (d.name, d.qual, d.params, .stmts d.body, d.scope, mainGlobals, if d.sup = true then [("__class__" : Str)] else [], builtinsNs)
/-- its cell -/
def ccOf (K : PySem.W.Frag) (p : Str × Option Str) : Addr := match K.lookup (fAd K p) with
  | some ⟨_, _, .func fd, _⟩ => (match fd.closure with
    | q :: _ => q.2
    | [] => 0)
  | _ => 0
def isCell (K : PySem.W.Frag) (c : Addr) : Bool := match K.lookup c with
  | some o => (match o.data with
    | .cell _ => true
    | _ => false)
  | none => false
def DefX.ok (K : PySem.W.Frag) (d : DefX) : Bool := PySem.W.keepIn K (.ref (fAd K d.at_)) && (match K.lookup (fAd K d.at_) with
  | some ⟨_, _, .func fd, _⟩ => PySem.W.codeIn K fd.code d.qual && (dflX K fd.defaults d.dfl && kwdX K fd.kwdefaults d.kwd)
  | _ => false) && (!d.sup || isCell K (ccOf K d.at_))
/-- its function object's data -/
def fdA (K : PySem.W.Frag) (p : Str × Option Str) : FuncData := match K.lookup (fAd K p) with
  | some ⟨_, _, .func fd, _⟩ => fd
  | _ => PySem.W.fnOf "" "" { posonlyargs := [], args := [], vararg := none, kwonlyargs := [], kw_defaults := [], kwarg := none, defaults := [] } [] { kind := .function, names := [], isGenerator := false, isCoroutine := false } .none .none .none .none none .none .none
theorem DefX.funD {K : PySem.W.Frag} {d : DefX} (hs : d.sup = false) (e : fnXO K d.at_ = d.val) (c : d.ok K = true) :
    ∃ dvs kws, FunD K d.name d.qual d.params d.body d.scope dvs kws (fAd K d.at_) (fdA K d.at_) ∧ (∀ T O H, VRs K T O H d.dfl dvs) ∧ kws.map (·.1) = d.kwd.map (·.1) ∧ ∀ T O H, VRs K T O H (d.kwd.map (·.2)) (kws.map (·.2)) := by
  obtain ⟨c1, _⟩ := ba c
  obtain ⟨kp, c2⟩ := ba c1
  unfold fnXO at e
  cases q : K.lookup (fAd K d.at_) with
  | none => rw [q] at c2; cases c2
  | some o =>
    obtain ⟨oc, od, dt, osl⟩ := o
    rw [q] at c2 e
    cases dt with
    | func fd =>
      have efd : fdA K d.at_ = fd := by unfold fdA; rw [q]
      rw [efd]
      obtain ⟨n1, n2, n3, n4, n5, n6, n7, n8, n9, n10, n11, n12, n13, n14, n15⟩ := fd
      have e2 : (some (n1, n2, n3, n4, n5, n6, n7.map (·.1), n15) : FnX) = some (d.name, d.qual, d.params, .stmts d.body, d.scope, mainGlobals, if d.sup = true then [("__class__" : Str)] else [], builtinsNs) := e
      rw [hs] at e2
      simp only [Option.some.injEq, Prod.mk.injEq, Bool.false_eq_true, if_false] at e2
      obtain ⟨h1, h2, h3, h4, h5, h6, h7, h8⟩ := e2
      have h7 : n7 = [] := List.map_eq_nil_iff.mp h7
      subst h1 h2 h3 h4 h5 h6 h7 h8
      obtain ⟨k1, k2⟩ := ba (show (PySem.W.codeIn K n13 d.qual && (dflX K n8 d.dfl && kwdX K n9 d.kwd)) = true from c2)
      obtain ⟨k3, k4⟩ := ba k2
      obtain ⟨dvs, g1, g2⟩ := dflX_ok k3
      obtain ⟨kws, g3, g4, g5⟩ := kwdX_ok k4
      exact ⟨dvs, kws, ⟨⟨oc, od, n8, n9, n10, n11, n12, n13, n14, osl, rfl, q, k1, g1, g3⟩, kp⟩, g2, g4, g5⟩
    | _ => cases c2
theorem DefX.funDS {K : PySem.W.Frag} {d : DefX} (hs : d.sup = true) (e : fnXO K d.at_ = d.val) (c : d.ok K = true) :
    ∃ dvs kws, FunDS K d.name d.qual d.params d.body d.scope dvs kws (ccOf K d.at_) (fAd K d.at_) (fdA K d.at_) ∧ (∀ T O H, VRs K T O H d.dfl dvs) ∧ kws.map (·.1) = d.kwd.map (·.1) ∧ ∀ T O H, VRs K T O H (d.kwd.map (·.2)) (kws.map (·.2)) := by
  obtain ⟨c1, cc⟩ := ba c
  obtain ⟨kp, c2⟩ := ba c1
  rw [hs] at cc
  have cc : isCell K (ccOf K d.at_) = true := cc
  have hce : ∃ (o : Obj) (v : Option Value), K.lookup (ccOf K d.at_) = some o ∧ o.data = .cell v := by
    unfold isCell at cc
    split at cc
    · rename_i o ho
      split at cc
      · rename_i v hv; exact ⟨o, v, ho, hv⟩
      · cases cc
    · cases cc
  unfold fnXO at e
  cases q : K.lookup (fAd K d.at_) with
  | none => rw [q] at c2; cases c2
  | some o =>
    obtain ⟨oc, od, dt, osl⟩ := o
    rw [q] at c2 e
    cases dt with
    | func fd =>
      have efd : fdA K d.at_ = fd := by unfold fdA; rw [q]
      rw [efd]
      have ecc : ccOf K d.at_ = (match fd.closure with
        | q :: _ => q.2
        | [] => 0) := by unfold ccOf; rw [q]
      obtain ⟨n1, n2, n3, n4, n5, n6, n7, n8, n9, n10, n11, n12, n13, n14, n15⟩ := fd
      have e2 : (some (n1, n2, n3, n4, n5, n6, n7.map (·.1), n15) : FnX) = some (d.name, d.qual, d.params, .stmts d.body, d.scope, mainGlobals, if d.sup = true then [("__class__" : Str)] else [], builtinsNs) := e
      rw [hs] at e2
      simp only [Option.some.injEq, Prod.mk.injEq, if_true] at e2
      obtain ⟨h1, h2, h3, h4, h5, h6, h7, h8⟩ := e2
      cases n7 with
      | nil => cases h7
      | cons p r =>
        cases r with
        | cons _ _ => simp at h7
        | nil =>
          obtain ⟨pn, pc⟩ := p
          have hp : pn = ("__class__" : Str) := by simpa using h7
          have ecc : ccOf K d.at_ = pc := ecc
          rw [ecc] at hce ⊢
          subst h1 h2 h3 h4 h5 h6 hp h8
          obtain ⟨k1, k2⟩ := ba (show (PySem.W.codeIn K n13 d.qual && (dflX K n8 d.dfl && kwdX K n9 d.kwd)) = true from c2)
          obtain ⟨k3, k4⟩ := ba k2
          obtain ⟨dvs, g1, g2⟩ := dflX_ok k3
          obtain ⟨kws, g3, g4, g5⟩ := kwdX_ok k4
          exact ⟨dvs, kws, ⟨⟨oc, od, n8, n9, n10, n11, n12, n13, n14, osl, rfl, q, k1, g1, g3⟩, kp, hce⟩, g2, g4, g5⟩
    | _ => cases c2
/-! ### the Hook -/
abbrev AlX : Type := Bool × List FnX
def obsX (ck : List (PySem.W.Frag → Bool)) (fn : List DefX) (K : PySem.W.Frag) : AlX := ((ck.all fun f => f K) && fn.all fun d => d.ok K, fn.map fun d => fnXO K d.at_)
def valX (fn : List DefX) : AlX := (true, fn.map DefX.val)
def SaysX (ck : List (PySem.W.Frag → Bool)) (fn : List DefX) (K : PySem.W.Frag) : Prop := obsX ck fn K = valX fn
def obsXG (n : Nat) (ck : List (PySem.W.Frag → Bool)) (fn : List DefX) (g : Addr → Option Obj) : AlX := obsX ck fn (frG g (cStatics :: asD g n))
def hookX (n : Nat) (ck : List (PySem.W.Frag → Bool)) (fn : List DefX) : PySem.W.Hook where
  α := AlX
  obs := fun s => obsXG n ck fn s.heap.get?
  val := fun _ => valX fn
  says := fun _ h => ∃ K : PySem.W.Frag, K.In h ∧ SaysX ck fn K
  of := fun _ _ e => ⟨_, frG_in, e⟩
  keeps := fun _ _ _ ⟨K, hK, c⟩ k => ⟨K, PySem.W.Frag.In.keeps hK k, c⟩
theorem obsXG_eq {n : Nat} {ck : List (PySem.W.Frag → Bool)} {fn : List DefX} {g : Addr → Option Obj} {s : Shared} (h : ∀ a, g a = s.heap.get? a) : obsXG n ck fn g = (hookX n ck fn).obs s := by
  have e : g = s.heap.get? := funext h
  rw [e] <;> rfl
section
variable {ck : List (PySem.W.Frag → Bool)} {fn : List DefX} {K : PySem.W.Frag}
theorem SaysX.fact (c : SaysX ck fn K) (i : Nat) {f : PySem.W.Frag → Bool} (h : ck[i]? = some f := by rfl) : f K = true := by
  have c1 := (ba (show ((ck.all fun f => f K) && fn.all fun d => d.ok K) = true from congrArg (fun z : AlX => z.1) c)).1
  exact List.all_eq_true.mp c1 f (List.mem_of_getElem? h)
theorem SaysX.def0 (c : SaysX ck fn K) (i : Nat) {d : DefX} (h : fn[i]? = some d) : fnXO K d.at_ = d.val ∧ d.ok K = true := by
  have c2 := (ba (show ((ck.all fun f => f K) && fn.all fun d => d.ok K) = true from congrArg (fun z : AlX => z.1) c)).2
  have e : fn.map (fun d => fnXO K d.at_) = fn.map DefX.val := congrArg (fun z : AlX => z.2) c
  have e2 : (fn.map fun d => fnXO K d.at_)[i]? = (fn.map DefX.val)[i]? := by rw [e]
  rw [List.getElem?_map, List.getElem?_map, h] at e2
  exact ⟨Option.some.inj e2, List.all_eq_true.mp c2 d (List.mem_of_getElem? h)⟩
theorem SaysX.def_ (c : SaysX ck fn K) (i : Nat) {d : DefX} (h : fn[i]? = some d := by rfl) (hs : d.sup = false := by rfl) :
    ∃ dvs kws, FunD K d.name d.qual d.params d.body d.scope dvs kws (fAd K d.at_) (fdA K d.at_) ∧ (∀ T O H, VRs K T O H d.dfl dvs) ∧ kws.map (·.1) = d.kwd.map (·.1) ∧ ∀ T O H, VRs K T O H (d.kwd.map (·.2)) (kws.map (·.2)) := DefX.funD hs (c.def0 i h).1 (c.def0 i h).2
theorem SaysX.defS (c : SaysX ck fn K) (i : Nat) {d : DefX} (h : fn[i]? = some d := by rfl) (hs : d.sup = true := by rfl) :
    ∃ dvs kws, FunDS K d.name d.qual d.params d.body d.scope dvs kws (ccOf K d.at_) (fAd K d.at_) (fdA K d.at_) ∧ (∀ T O H, VRs K T O H d.dfl dvs) ∧ kws.map (·.1) = d.kwd.map (·.1) ∧ ∀ T O H, VRs K T O H (d.kwd.map (·.2)) (kws.map (·.2)) := DefX.funDS hs (c.def0 i h).1 (c.def0 i h).2
end
/-! ### facts about names and classes -/
def gloB (x : Str) (K : PySem.W.Frag) : Bool := (Fa.glo x).ok K
def freeB (x : Str) (K : PySem.W.Frag) : Bool := (Fa.free x).ok K
/-- a module's constant, as a value -/
def conB (x : Str) (v : Val) (K : PySem.W.Frag) : Bool := match PySem.W.nsIn K mainGlobals x with
  | some (some u) => vrB K v u
  | _ => false
theorem conB_ok {K : PySem.W.Frag} {h : Heap} {mg : Str → Option Value} (X : K.In h) (G : h.Ns mainGlobals mg) {x : Str} {v : Val} (c : conB x v K = true) : ∃ (u : Value) (y : V), mg x = some u ∧ RelV y u ∧ ∀ T O H, VR K T O H v y := by
  unfold conB at c
  split at c
  · rename_i u hu
    obtain ⟨y, r, q⟩ := vrB_ok _ _ c
    exact ⟨u, y, PySem.W.mg_of X G hu, r, q⟩
  · cases c
theorem se_con {X : Cx} {T : Tb} {E : XK} {mu : Nat → Bool} {io : List (Nat × V)} {x : Str} {v : Val} {pos : Pos} (hg : Gl X x := by rfl) (hm : ∃ (u : Value) (y : V), X.mg x = some u ∧ RelV y u ∧ ∀ T O H, VR X.K T O H v y) (hd : (x == ("__debug__" : Str)) = false := by decide) : SE X T E mu io (.Name x pos) (eC v) := by
  obtain ⟨u, y, h1, h2, h3⟩ := hm
  exact PE.imp (pe_glob hg h1 h2 hd) fun σ H Q ⟨O, fr, R, q⟩ => q O H _ (Fm.refl _ _) R (h3 _ _ _)
def clsB (K : PySem.W.Frag) (C : Addr) : Bool := PySem.W.plainGet K C Str.empty && (PySem.W.hasDictIn K C && (PySem.W.plainOver K C && eqO (PySem.W.findIn K (.ref C) "__setattr__") (some (some (.builtin "object.__setattr__")))))
theorem clsB_ok {K : PySem.W.Frag} {C : Addr} (c : clsB K C = true) : Cls K C := by
  obtain ⟨c1, c⟩ := ba c
  obtain ⟨c2, c⟩ := ba c
  obtain ⟨c3, c4⟩ := ba c
  exact ⟨c1, c2, c3, eqO_ok c4⟩
section
variable {K : PySem.W.Frag} {T : Tb}
def allC (cs : List Nat) (p : Nat → Bool) : Bool := cs.all p
theorem allC_ok {cs : List Nat} {p : Nat → Bool} (h : allC cs p = true) {c : Nat} (hc : cs.contains c = true) : p c = true := List.all_eq_true.mp h c (by simpa using hc)
/-- the table of a text: its classes, its field names -/
def tb (cn : List Str) (fn : List Str) (K : PySem.W.Frag) : Tb := ⟨fun c => ga K (cn.getD c (cn.headD "")), fn.length, fun g => fn.getD g "", fun _ _ => false, fun _ _ => False⟩
theorem fld_ok {cn fn : List Str} (h : fn.Nodup) : FldOk (tb cn fn K) := fun g g' hg hg' e => by
  have hg : g < fn.length := hg
  have hg' : g' < fn.length := hg'
  have e : fn.getD g "" = fn.getD g' "" := e
  rw [List.getD_eq_getElem?_getD, List.getD_eq_getElem?_getD, List.getElem?_eq_getElem hg, List.getElem?_eq_getElem hg'] at e
  exact (List.getElem_inj (h₀ := hg) (h₁ := hg') h).mp e
variable {cn fn : List Str}
def fldB (cn fn : List Str) (cs : List Nat) (g : Nat) (K : PySem.W.Frag) : Bool := allC cs fun c => clsB K ((tb cn fn K).cl c) && eqO (PySem.W.findIn K (.ref ((tb cn fn K).cl c)) ((tb cn fn K).fld g)) (some none)
theorem fldB_ok {cs : List Nat} {g : Nat} (nd : fn.Nodup) (hg : g < fn.length) (h : fldB cn fn cs g K = true) : FldF K (tb cn fn K) cs g :=
  ⟨fld_ok nd, hg, fun c hc => let z := ba (allC_ok h hc); ⟨clsB_ok z.1, eqO_ok z.2⟩, fun _ _ => rfl⟩
/-- the method m of the classes cs, as the first of them has it -/
def mtA (cn : List Str) (cs : List Nat) (m : Str) (K : PySem.W.Frag) : Addr := ma K (ga K (cn.getD (cs.headD 0) (cn.headD ""))) m
def mtB (cn fn : List Str) (cs : List Nat) (m : Str) (K : PySem.W.Frag) : Bool := allC cs fun c => clsB K ((tb cn fn K).cl c) && (eqO (PySem.W.findIn K (.ref ((tb cn fn K).cl c)) m) (some (some (.ref (mtA cn cs m K)))) && (PySem.W.isFn K (.ref (mtA cn cs m K)) && PySem.W.keepIn K (.ref (mtA cn cs m K))))
theorem mtB_ok {cs : List Nat} {m : Str} (hn : (fn.all fun x => x != m) = true) (h : mtB cn fn cs m K = true) : MtF K (tb cn fn K) cs m (mtA cn cs m K) :=
  ⟨fun g hg e => by
    have hg : g < fn.length := hg
    have e : fn.getD g "" = m := e
    rw [List.getD_eq_getElem?_getD, List.getElem?_eq_getElem hg] at e
    have := List.all_eq_true.mp hn _ (List.getElem_mem hg)
    rw [show fn[g] = m from e] at this
    simp at this, fun c hc => by
    obtain ⟨z1, z⟩ := ba (allC_ok h hc)
    obtain ⟨z2, z⟩ := ba z
    obtain ⟨z3, z4⟩ := ba z
    exact ⟨clsB_ok z1, eqO_ok z2, z3, z4⟩⟩
def eqB (cn fn : List Str) (cs : List Nat) (K : PySem.W.Frag) : Bool := PySem.W.isFn K (.ref (mtA cn cs "__eq__" K)) && allC cs fun c => eqO (PySem.W.findIn K (.ref ((tb cn fn K).cl c)) "__eq__") (some (some (.ref (mtA cn cs "__eq__" K)))) &&
  (eqO (PySem.W.findIn K (.ref ((tb cn fn K).cl c)) "__ne__") (some (some (.builtin "object.__ne__"))) && decide (PySem.W.mroIn K ((tb cn fn K).cl c) (.type "object") = some true))
theorem eqB_ok {cs : List Nat} (h : eqB cn fn cs K = true) : EqF K (tb cn fn K) cs (mtA cn cs "__eq__" K) := by
  obtain ⟨h1, h2⟩ := ba h
  exact ⟨fun c hc => eqO_ok (ba (allC_ok h2 hc)).1, fun c hc => eqO_ok (ba (ba (allC_ok h2 hc)).2).1, fun c hc => of_decide_eq_true (ba (ba (allC_ok h2 hc)).2).2, h1⟩
def insB (cn fn : List Str) (K : PySem.W.Frag) : Bool := eqO (PySem.W.specialIn K (.builtin "object.__class__") "__get__") (some (some (.builtin "getset_descriptor.__get__"))) && (decide (PySem.W.takesIn K (.builtin "object.__class__") = some true) &&
  cn.all fun x => clsB K (ga K x) && (eqO (PySem.W.findIn K (.ref (ga K x)) "__class__") (some (some (.builtin "object.__class__"))) && decide (PySem.W.mroIn K (ga K x) (.type "object") = some true)))
theorem cl_mem (hn : cn ≠ []) (c : Nat) : ∃ x ∈ cn, (tb cn fn K).cl c = ga K x := by
  show ∃ x ∈ cn, ga K (cn.getD c (cn.headD "")) = ga K x
  rw [List.getD_eq_getElem?_getD]
  by_cases h : c < cn.length
  · rw [List.getElem?_eq_getElem h]; exact ⟨_, List.getElem_mem h, rfl⟩
  · rw [List.getElem?_eq_none (by omega)]
    cases cn with
    | nil => exact absurd rfl hn
    | cons y r => exact ⟨y, List.mem_cons_self, rfl⟩
theorem insB_ok (hn : cn ≠ []) (h : insB cn fn K = true) : InsI K (tb cn fn K) := by
  obtain ⟨h1, h⟩ := ba h
  obtain ⟨h2, h⟩ := ba h
  refine ⟨eqO_ok h1, of_decide_eq_true h2, fun c => ?_, fun _ _ z => z.elim⟩
  obtain ⟨x, hx, e⟩ := cl_mem (fn := fn) (K := K) hn c
  rw [e]
  obtain ⟨z1, z⟩ := ba (List.all_eq_true.mp h x hx)
  obtain ⟨z2, z3⟩ := ba z
  exact ⟨clsB_ok z1, eqO_ok z2, of_decide_eq_true z3⟩
/-- the names of built-in types that values have -/
def tyNs : List String := ["NoneType", "bool", "int", "str", "tuple", "list", "dict"]
/-- an answer by the type: bt for the built-in ones, ct for the classes -/
def byT {α : Type} (bt : String → α) (ct : Nat → α) : Val → α
  | .non => bt "NoneType"
  | .bl _ => bt "bool"
  | .int _ => bt "int"
  | .str _ => bt "str"
  | .tup _ => bt "tuple"
  | .lst _ => bt "list"
  | .dic _ _ => bt "dict"
  | .ins c _ _ => ct c
  | .scr _ => bt "list"
theorem byT_ok {α : Type} {bt : String → α} {ct : Nat → α} {P : Value → α → Prop} (h1 : ∀ t ∈ tyNs, P (.type t) (bt t)) (h2 : ∀ c, P (.ref (T.cl c)) (ct c)) : ∀ v, P (tyV T v) (byT bt ct v) := fun v => by
  cases v <;> first | exact h1 _ (by decide) | exact h2 _
/-- isinstance: the types in ts and the classes in ds are it, no others -/
def isA (ts : List String) (ds : List Nat) (n : Nat) : Val → Option Bool := byT (fun t => some (ts.contains t)) fun c => if c < n then some (ds.contains c) else none
def isAB (cn fn : List Str) (us : List (PySem.W.Frag → Value)) (ts : List String) (ds : List Nat) (K : PySem.W.Frag) : Bool := (tyNs.all fun t => decide (PySem.W.kitAny K (.type t) (us.map fun u => u K) = some (ts.contains t))) &&
  (List.range cn.length).all fun c => decide (PySem.W.kitAny K (.ref ((tb cn fn K).cl c)) (us.map fun u => u K) = some (ds.contains c))
theorem isAB_ok {us : List (PySem.W.Frag → Value)} {ts : List String} {ds : List Nat} (h : isAB cn fn us ts ds K = true) : ∀ v b, isA ts ds cn.length v = some b → PySem.W.kitAny K (tyV (tb cn fn K) v) (us.map fun u => u K) = some b := by
  obtain ⟨h1, h2⟩ := ba h
  refine fun v => byT_ok (P := fun u o => ∀ b, o = some b → PySem.W.kitAny K u (us.map fun u => u K) = some b) (fun t ht b e => ?_) (fun c b e => ?_) v
  · rw [← e]; exact of_decide_eq_true (List.all_eq_true.mp h1 t ht)
  · split at e
    · rename_i hc
      rw [← e]; exact of_decide_eq_true (List.all_eq_true.mp h2 c (by simpa using hc))
    · cases e
theorem kit_one {t u : Value} {b : Bool} (h : PySem.W.kitAny K t [u] = some b) : PySem.W.kitOne K t u = some b := by
  unfold PySem.W.kitAny at h
  split at h
  · rename_i e; rw [e]; exact h
  · rename_i e; rw [e]; exact h
  · cases h
theorem isAB_one {u : PySem.W.Frag → Value} {ts : List String} {ds : List Nat} (h : isAB cn fn [u] ts ds K = true) : ∀ v b, isA ts ds cn.length v = some b → PySem.W.kitOne K (tyV (tb cn fn K) v) (u K) = some b := fun v b e => kit_one (isAB_ok h v b e)
/-- what may stand on the right of an own ==: no class below the left one's -/
def nfA (n : Nat) (bad : List (Nat × Nat)) (c : Nat) : Val → Bool := byT (fun _ => true) fun d => decide (d < n) && !bad.contains (c, d)
def nfB (cn fn : List Str) (bad : List (Nat × Nat)) (cs : List Nat) (K : PySem.W.Frag) : Bool := allC cs fun c => (tyNs.all fun t => PySem.W.notFirst K ((tb cn fn K).cl c) (.type t)) && (List.range cn.length).all fun d => bad.contains (c, d) || PySem.W.notFirst K ((tb cn fn K).cl c) (.ref ((tb cn fn K).cl d))
theorem nfB_ok {bad : List (Nat × Nat)} {cs : List Nat} (h : nfB cn fn bad cs K = true) : ∀ c v, cs.contains c = true → nfA cn.length bad c v = true → PySem.W.notFirst K ((tb cn fn K).cl c) (tyV (tb cn fn K) v) = true := fun c v hc => by
  obtain ⟨h1, h2⟩ := ba (allC_ok h hc)
  refine byT_ok (P := fun u o => o = true → PySem.W.notFirst K ((tb cn fn K).cl c) u = true) (fun t ht _ => List.all_eq_true.mp h1 t ht) (fun d e => ?_) v
  rw [Bool.and_eq_true] at e
  have := List.all_eq_true.mp h2 d (by simpa using e.1)
  rcases Bool.or_eq_true_iff.mp this with z | z
  · rw [z] at e; cases e.2
  · exact z
def mkB (x : Str) (K : PySem.W.Frag) : Bool := (Fa.mkr x).ok K
end
/-- super() in the def at p, an __init__ of the class D's text, for instances of C; the def that is meant stands at q -/
def supB (file : Str) (mn : Str) (p q : Str × Option Str) (D C : Str) (K : PySem.W.Frag) : Bool := (match K.lookup (fAd K p) with
    | some ⟨_, _, .func fd, _⟩ => (match fd.code with
      | .ref cda => (match K.lookup cda with
        | some o => (match o.data with
          | .fields vs => (match (vs[2]? : Option Value) with
            | some (.str z _) => (file == z)
            | _ => false)
          | _ => false)
        | none => false)
      | _ => false)
    | _ => false) && ((match K.lookup (ccOf K p) with
    | some o => (match o.data with
      | .cell (some (.ref d)) => decide (d = ga K D)
      | _ => false)
    | none => false) && ((PySem.W.clsIn K (ga K D)).isSome && ((PySem.W.clsIn K (ga K C)).isSome && (decide (PySem.W.mroIn K (ga K C) (.ref (ga K D)) = some true) && (eqO (PySem.W.nsIn K cStatics "thirdparty.any") (some none) &&
    (eqO (PySem.W.ks_superIn K (ga K C) (ga K D) mn) (some (some (.ref (fAd K q)))) && (decide (PySem.W.typeIn K (.ref (fAd K q)) = some (.type "function")) && (PySem.W.fnIn K (fAd K q) && eqO (PySem.W.nsIn K mainGlobals "super") (some none)))))))))
end SK

set_option maxHeartbeats 1000000
/-! SK17: a lent list walked, copied; small helpers for printed texts. -/
namespace SK
open PySem L2 PySem.Spec

def iItB (i : Nat) : IM := fun fr => (getS fr i).bind fun v => (ofO (itOf v)).bind fun xs => .ok (xs, fr)
def eTpS (i : Nat) : EM := fun fr => (getS fr i).bind fun v => match v with
  | .lst xs => .ok (.tup xs, fr)
  | .tup xs => .ok (.tup xs, fr)
  | _ => .bad
def eLsS (i : Nat) : EM := fun fr => (getS fr i).bind fun v => match v with
  | .lst xs => .ok (.lst xs, fr)
  | .tup xs => .ok (.lst xs, fr)
  | _ => .bad
theorem walks_lstO {K : PySem.W.Frag} {T : Tb} {O : Own} {H : Hp} {a : Addr} {vs xs} (h : H a = some (.lst vs)) (o : O a = some .out) (r : VRs K T O H xs vs) : Walks K T (Itl K a) xs O H := fun O' H' f f2 tr i => by
  have h' : SqL K H' a vs := SqL.of (f2 a _ h o).1
  exact ⟨fun hl => ⟨vs, h', by rw [← r.len]; exact hl⟩, fun v hv => by
    obtain ⟨x, h1, h2⟩ := r.get hv
    refine ⟨⟨vs, x, h', h1⟩, fun y H'' ⟨e, hy⟩ => ?_⟩
    subst e
    have := hy vs h'
    rw [h1] at this
    cases this
    exact ⟨Hx.refl _, VR.monoB f _ _ h2⟩⟩
section
variable {X : Cx} {T : Tb} {E : XK} {mu : Nat → Bool} {io : List (Nat × V)} {e : Expr} {es : List Expr} {ma mb : EM} {ms : AM} {pos : Pos} {i j : Nat} {x y : Str} {p p' apos : Pos}
theorem si_bo {tg : Expr} (hm : mu i = false := by rfl) (hb : mu (BOR + i) = true := by rfl) (s : Sl X i x) : SI X T E mu io tg (.Name x p) (iItB i) := by
  refine ⟨fun pins s' σ H Q I ⟨O, fr, rl, q⟩ => ?_⟩
  unfold iItB at q
  rcases getS_cases fr i with ⟨v, e2, e3⟩ | e3
  · rw [e3] at q
    simp only [SK.R.bind_ok] at q
    obtain ⟨v0, e20, e21⟩ := e2
    obtain ⟨x', hx, bo⟩ := rl.sl i v0 e20
    unfold SlR at bo
    rw [if_neg (by rw [hm]; exact Bool.false_ne_true), if_pos hb] at bo
    rw [unfz_not (BoR.nf bo)] at e21
    subst e21
    cases v0 with
    | lst xs =>
      rcases bo with (bo | ⟨a, vs, e1, o, h, r⟩) | bo
      · obtain ⟨a, vs, e1, t, r⟩ := bo.lst
        exact (pi_list s.pe).run pins s' σ H Q I ⟨x', hx, a, e1, ⟨vs, SqL.fm t (Fb.refl _ _)⟩, q O H _ (Fm.refl _ _) rl (walks_lst t r)⟩
      · exact (pi_list s.pe).run pins s' σ H Q I ⟨x', hx, a, e1, ⟨vs, SqL.of h⟩, q O H _ (Fm.refl _ _) rl (walks_lstO h o r)⟩
      · exact bo.elim
    | tup xs =>
      rcases bo with (bo | bo) | bo
      · obtain ⟨a, vs, e1, t, r⟩ := bo.tup
        exact (pi_tup s.pe).run pins s' σ H Q I ⟨x', hx, a, e1, ⟨vs, SqT.fm t (Fb.refl _ _)⟩, q O H _ (Fm.refl _ _) rl (walks_tup t r)⟩
      · exact bo.elim
      · exact bo.elim
    | str xs =>
      rcases bo with (bo | bo) | bo
      · obtain ⟨z, rfl, hz⟩ := bo.str
        subst hz
        exact (pi_str s.pe).run pins s' σ H Q I ⟨_, hx, z, rfl, q O H _ (Fm.refl _ _) rl walks_str⟩
      · exact bo.elim
      · exact bo.elim
    | _ => exact q.elim
  · rw [e3] at q; exact q.elim
theorem eTpS_imp {K : PySem.W.Frag} {σ : St} {H : Hp} {Q : VK} (h : rE K T E mu io (eTpS i) σ H Q) : ∃ x, σ[i]? = some (some x) ∧ ∃ p ys, [x] = [V.ref p] ∧ ((SqL K H p ys ∧ ∀ l, H l = none → Q (.ref l) (upd H l (.tup ys))) ∨ (SqT K H p ys ∧ Q (.ref p) H)) := by
  obtain ⟨O, fr, rl, q⟩ := h
  unfold eTpS at q
  rcases getS_cases fr i with ⟨v, e2, e3⟩ | e3
  · rw [e3] at q
    obtain ⟨x, hx, tp⟩ := rl.tp e2
    simp only [SK.R.bind_ok] at q
    cases v with
    | lst xs =>
      obtain ⟨a, vs, rfl, h, r⟩ := tp.lst
      exact ⟨_, hx, a, vs, rfl, .inl ⟨SqL.of h, fun l hl => by obtain ⟨z1, z2⟩ := vr_newT rl.trk hl r; exact q O _ _ z1.fm (rl.hx z1) z2⟩⟩
    | tup xs =>
      have V1 := tp.val trivial
      obtain ⟨a, vs, rfl, t, r⟩ := V1.tup
      exact ⟨_, hx, a, vs, rfl, .inr ⟨t.sq, q O H _ (Fm.refl _ _) rl V1⟩⟩
    | _ => exact q.elim
  · rw [e3] at q; exact q.elim
theorem eLsS_imp {K : PySem.W.Frag} {σ : St} {H : Hp} {Q : VK} (h : rE K T E mu io (eLsS i) σ H Q) : ∃ x, σ[i]? = some (some x) ∧ ∃ p ys, [x] = [V.ref p] ∧ (SqL K H p ys ∨ SqT K H p ys) ∧ ∀ l, H l = none → Q (.ref l) (upd H l (.lst ys)) := by
  obtain ⟨O, fr, rl, q⟩ := h
  unfold eLsS at q
  rcases getS_cases fr i with ⟨v, e2, e3⟩ | e3
  · rw [e3] at q
    obtain ⟨x, hx, tp⟩ := rl.tp e2
    simp only [SK.R.bind_ok] at q
    cases v with
    | lst xs =>
      obtain ⟨a, vs, rfl, h, r⟩ := tp.lst
      exact ⟨_, hx, a, vs, rfl, .inl (SqL.of h), fun l hl => by obtain ⟨z1, z2⟩ := vr_new rl.trk hl r; exact q O _ _ z1.fm (rl.hx z1) z2⟩
    | tup xs =>
      obtain ⟨a, vs, rfl, t, r⟩ := (tp.val trivial).tup
      exact ⟨_, hx, a, vs, rfl, .inr t.sq, fun l hl => by obtain ⟨z1, z2⟩ := vr_new rl.trk hl r; exact q O _ _ z1.fm (rl.hx z1) z2⟩
    | _ => exact q.elim
  · rw [e3] at q; exact q.elim
theorem se_tpS {g : Str} {pf : Pos} (hg : Gl X g := by rfl) (hm : X.mg g = none) (hv : bootBuiltins g = some (.type "tuple") := by first | rfl | decide +kernel) (s : Sl X i x) (hn : g ≠ "__name__" := by decide) (hdb : (g == ("__debug__" : Str)) = false := by decide)
    (he : starEach [.Name x p] X.env = (false, eval (.Name x p) X.env) :: starEach [] X.env := by rfl) (hpl : (backTo pos (starEach [] X.env)).any (·.1) = false := by rfl) : SE X T E mu io (.Call (.Name g pf) [.Name x p] [] pos) (eTpS i) :=
  PE.imp (pe_callTy call_tuple_of hg hm hv (pa_cons s.pe pa_nil he) hn hdb he hpl) fun σ H Q h => by
    obtain ⟨x, hx, q⟩ := eTpS_imp h
    exact ⟨x, hx, q⟩
theorem se_lsS {g : Str} {pf : Pos} (hg : Gl X g := by rfl) (hm : X.mg g = none) (hv : bootBuiltins g = some (.type "list") := by first | rfl | decide +kernel) (s : Sl X i x) (hn : g ≠ "__name__" := by decide) (hdb : (g == ("__debug__" : Str)) = false := by decide)
    (he : starEach [.Name x p] X.env = (false, eval (.Name x p) X.env) :: starEach [] X.env := by rfl) (hpl : (backTo pos (starEach [] X.env)).any (·.1) = false := by rfl) : SE X T E mu io (.Call (.Name g pf) [.Name x p] [] pos) (eLsS i) :=
  PE.imp (pe_callTy call_list_of hg hm hv (pa_cons s.pe pa_nil he) hn hdb he hpl) fun σ H Q h => by
    obtain ⟨x, hx, q⟩ := eLsS_imp h
    exact ⟨x, hx, q⟩
end
/-! ### how many arguments -/
def LenL (m : LM) (k : Nat) : Prop := ∀ fr as fr', m fr = .ok (as, fr') → as.length = k
theorem lnN : LenL lN 0 := fun fr as fr' e => by cases e; rfl
theorem lnC {a : EM} {b : LM} {k : Nat} (h : LenL b k) : LenL (lC a b) (k + 1) := fun fr as fr' e => by
  unfold lC at e
  cases h1 : a fr with
  | bad => rw [h1] at e; cases e
  | exc x => rw [h1] at e; cases e
  | ok p =>
    rw [h1] at e
    simp only [SK.R.bind_ok] at e
    cases h2 : b p.2 with
    | bad => rw [h2] at e; cases e
    | exc x => rw [h2] at e; cases e
    | ok q => rw [h2] at e; cases e; rw [List.length_cons, h _ _ _ h2]
theorem lnI {i : Nat} {b : LM} {k : Nat} (h : LenL b k) : LenL (lI i b) (k + 1) := fun fr as fr' e => by
  unfold lI at e
  split at e
  · cases h2 : b fr with
    | bad => rw [h2] at e; cases e
    | exc x => rw [h2] at e; cases e
    | ok q => rw [h2] at e; cases e; rw [List.length_cons, h _ _ _ h2]
  · cases e
theorem lnB {i : Nat} {b : LM} {k : Nat} (h : LenL b k) : LenL (lB i b) (k + 1) := fun fr as fr' e => by
  unfold lB at e
  split at e
  · cases h2 : b fr with
    | bad => rw [h2] at e; cases e
    | exc x => rw [h2] at e; cases e
    | ok q => rw [h2] at e; cases e; rw [List.length_cons, h _ _ _ h2]
  · cases e
theorem lnK {cs : List Nat} {i : Nat} {b : LM} {k : Nat} (h : LenL b k) : LenL (chkS cs i b) k := fun fr as fr' e => by
  unfold chkS at e
  cases h1 : getS fr i with
  | bad => rw [h1] at e; cases e
  | exc x => rw [h1] at e; cases e
  | ok v =>
    rw [h1] at e
    simp only [SK.R.bind_ok] at e
    split at e
    · exact h _ _ _ e
    · cases e
theorem hlo {m : LM} {k n : Nat} {dv : List Val} (h : LenL m k) (e : k + dv.length = n) : ∀ fr as fr', m fr = .ok (as, fr') → as.length + dv.length = n := fun fr as fr' z => by rw [h _ _ _ z]; exact e
theorem hlo1 {m : LM} {k n : Nat} {dv : List Val} (h : LenL m k) (e : k + dv.length + 1 = n) : ∀ fr as fr', m fr = .ok (as, fr') → as.length + dv.length + 1 = n := fun fr as fr' z => by rw [h _ _ _ z]; exact e
def LenA (m : AM) (k : Nat) : Prop := ∀ fr as fr', m fr = .ok (as, fr') → as.length = k
theorem laN : LenA aN 0 := fun fr as fr' e => by cases e; rfl
theorem laC {a : EM} {b : AM} {k : Nat} (h : LenA b k) : LenA (aC a b) (k + 1) := fun fr as fr' e => by
  unfold aC at e
  cases h1 : a fr with
  | bad => rw [h1] at e; cases e
  | exc x => rw [h1] at e; cases e
  | ok p =>
    rw [h1] at e
    simp only [SK.R.bind_ok] at e
    cases h2 : b p.2 with
    | bad => rw [h2] at e; cases e
    | exc x => rw [h2] at e; cases e
    | ok q => rw [h2] at e; cases e; rw [List.length_cons, h _ _ _ h2]
/-! ### what is known of a text behind its top -/
structure FK (ck : List (PySem.W.Frag → Bool)) (fn : List DefX) (K : PySem.W.Frag) (mg : Str → Option Value) : Prop where
  ns : ∃ h : Heap, K.In h ∧ h.Ns mainGlobals mg
  c : SaysX ck fn K
section
variable {ck : List (PySem.W.Frag → Bool)} {fn : List DefX} {K : PySem.W.Frag} {mg : Str → Option Value}
theorem FK.glo (F : FK ck fn K mg) (i : Nat) {x : Str} (h : ck[i]? = some (gloB x) := by rfl) : mg x = some (.ref (He.ga K x)) := let ⟨_, X, G⟩ := F.ns; He.glo_ok X G (F.c.fact i h)
theorem FK.free (F : FK ck fn K mg) (i : Nat) {x : Str} (h : ck[i]? = some (freeB x) := by rfl) : mg x = none := let ⟨_, X, G⟩ := F.ns; He.free_ok X G (F.c.fact i h)
theorem FK.con (F : FK ck fn K mg) (i : Nat) {x : Str} {v : Val} (h : ck[i]? = some (conB x v) := by rfl) : ∃ (u : Value) (y : V), mg x = some u ∧ RelV y u ∧ ∀ T O H, VR K T O H v y := let ⟨_, X, G⟩ := F.ns; conB_ok X G (F.c.fact i h)
end
end SK

set_option maxHeartbeats 1000000
/-! SK18: binding with defaults in the forms that printed texts use; what is never reached. -/
namespace SK
open PySem L2 PySem.Spec

def sBad : SM := fun _ => .bad
theorem ss_bad {X : Cx} {T : Tb} {E : XK} {mu : Nat → Bool} {io : List (Nat × V)} {st : Stmt} : SS X T E mu io st sBad := ⟨fun _ _ _ _ _ _ ⟨O, fr, rl, q⟩ => q.elim⟩
section
variable {K : PySem.W.Frag} {params : Arguments} {dvs : List V} {kws : List (Str × V)} {fd : FuncData} {ps : List Str}
/-- n values are written, the defaults behind the first j fill up -/
theorem FunB.pos1 (F : FunB K params dvs kws fd) (n m j : Nat) (hm : dvs.length = m) (m0 : m ≠ 0) (hp : n + (m - j) = ps.length)
    (h : ∀ (x qual : Str) (body : List Stmt) (scope : Scope) (cl : List (Str × Addr)) (T : Addr) (kV doc pm : Value) (an : Option Addr) (cdv ct : Value) (us its : List Value), us.length = n → its.length = m →
      ∃ k, bindArgs (PySem.W.fnX x qual params body scope cl (.ref T) kV doc pm an cdv ct) ⟨us, []⟩ = seqItems? (.ref T) >>= k ∧ k (some its.toArray) = pure (ps.zip (us ++ its.drop j))) :
    ∃ ds, Vals (dvs.drop j) ds ∧ Binds K fd ps ds := by
  obtain ⟨its, r, B⟩ := F.n1 (ps := ps) (fun e => by rw [e] at hm; exact m0 hm.symm) n [] (fun us ds ws => us ++ ds.drop j) (fun r1 r2 _ => r1.append (r2.drop j)) fun x qual body scope cl T kV doc pm an cdv ct us its ws h1 h2 h3 => h x qual body scope cl T kV doc pm an cdv ct us its h1 (h2.trans hm)
  refine ⟨its.drop j, r.drop j, KBn.binds B (fun us _ => rfl) ?_⟩
  rw [List.length_drop, ← r.length, hm]
  exact hp
/-- .. the keywords ks stand last -/
theorem FunB.key1 (F : FunB K params dvs kws fd) (n m j : Nat) (ks : List Str) (hm : dvs.length = m) (m0 : m ≠ 0)
    (h : ∀ (x qual : Str) (body : List Stmt) (scope : Scope) (cl : List (Str × Addr)) (T : Addr) (kV doc pm : Value) (an : Option Addr) (cdv ct : Value) (us its ws : List Value), us.length = n → its.length = m → ws.length = ks.length →
      ∃ k, bindArgs (PySem.W.fnX x qual params body scope cl (.ref T) kV doc pm an cdv ct) ⟨us, ks.zip ws⟩ = seqItems? (.ref T) >>= k ∧ k (some its.toArray) = pure (ps.zip (us ++ (its.drop j ++ ws)))) :
    ∃ its : List Value, KBn K fd ps n ks (fun us ws => us ++ (its.drop j ++ ws)) (fun vs zs => vs ++ (dvs.drop j ++ zs)) := by
  obtain ⟨its, r, B⟩ := F.n1 (ps := ps) (fun e => by rw [e] at hm; exact m0 hm.symm) n ks (fun us ds ws => us ++ (ds.drop j ++ ws)) (fun r1 r2 r3 => r1.append ((r2.drop j).append r3)) fun x qual body scope cl T kV doc pm an cdv ct us its ws h1 h2 h3 => h x qual body scope cl T kV doc pm an cdv ct us its ws h1 (h2.trans hm) h3
  exact ⟨its, B⟩
/-- n values; defaults; the keyword-only ones lack -/
theorem FunB.pos2 (F : FunB K params dvs kws fd) (n m j q : Nat) (kn : List Str) (hk : kws.map (·.1) = kn) (hm : dvs.length = m) (m0 : m ≠ 0) (q0 : kn ≠ []) (hq : kn.length = q) (hp : n + ((m - j) + q) = ps.length)
    (h : ∀ (x qual : Str) (body : List Stmt) (scope : Scope) (cl : List (Str × Addr)) (T D : Addr) (doc pm : Value) (an : Option Addr) (cdv ct : Value) (us its mv : List Value), us.length = n → its.length = m → mv.length = q →
      ∃ k, bindArgs (PySem.W.fnX x qual params body scope cl (.ref T) (.ref D) doc pm an cdv ct) ⟨us, []⟩ = seqItems? (.ref T) >>= k ∧ KwChain D (kn.zip mv) (k (some its.toArray)) (ps.zip (us ++ (its.drop j ++ mv)))) :
    ∃ ds, Vals (dvs.drop j ++ kws.map (·.2)) ds ∧ Binds K fd ps ds := by
  have hkl : kws.length = q := by rw [← hq, ← hk, List.length_map]
  obtain ⟨its, mv, r, r2, B⟩ := F.n2 (ps := ps) (fun e => by rw [e] at hm; exact m0 hm.symm) (fun e => q0 (by rw [← hk, e]; rfl)) n (fun us ds ws => us ++ (ds.drop j ++ ws)) (fun r1 r2 r3 => r1.append ((r2.drop j).append r3)) fun x qual body scope cl T D doc pm an cdv ct us its mv h1 h2 h3 => by
    rw [hk]
    exact h x qual body scope cl T D doc pm an cdv ct us its mv h1 (h2.trans hm) (h3.trans hkl)
  refine ⟨its.drop j ++ mv, (r.drop j).append r2, KBn.binds B (fun us _ => rfl) ?_⟩
  rw [List.length_append, List.length_drop, ← r.length, hm, ← r2.length, List.length_map, hkl]
  exact hp
end
/-! ### owned results -/
section
variable {X : Cx} {T : Tb} {E : XK} {mu : Nat → Bool} {io : List (Nat × V)} {e a b : Expr} {es : List Expr} {ma mb : EM} {ms : AM} {pos : Pos} {i r : Nat} {x : Str} {p : Pos}
theorem own_lay {K : PySem.W.Frag} {O1 : Own} {fr1 : Fr} {σ : St} {H1 : Hp} {D : Addr} {xs : List Val} {ys : List V} {Q : VK} (R1 : Rl K T mu io O1 fr1 σ H1) (hp : H1 D = none) (V1 : VRs K T O1 H1 xs ys) (q : ∀ O' H' x, Fm O1 H1 O' H' → Rl K T mu io O' fr1 σ H' → OwR K T O' H' r (.lst xs) x → Q x H') : Q (.ref D) (upd H1 D (.lst ys)) := by
  have f0 : FmD D O1 H1 (setOw O1 D (some .tmp)) (upd H1 D (.lst ys)) := FmD.begin hp
  have f1 : Fm O1 H1 (setOw O1 D (some (.sl r))) (upd H1 D (.lst ys)) := by
    have := f0.fin (w := some (.sl r)) hp (fun z => nomatch z)
    rw [show setOw (setOw O1 D (some .tmp)) D (some (.sl r)) = setOw O1 D (some (.sl r)) from funext fun a => by unfold setOw; split <;> rfl] at this
    exact this
  exact q _ _ _ f1 (R1.laid hp) ⟨D, ys, rfl, setOw_same, upd_same, V1.mono f1⟩
theorem so_list {g : Str} {pf : Pos} (hg : Gl X g := by rfl) (hm : X.mg g = none) (hv : bootBuiltins g = some (.type "list") := by first | rfl | decide +kernel) (ha : SA X T E mu io [e] ms) (hn : g ≠ "__name__" := by decide) (hdb : (g == ("__debug__" : Str)) = false := by decide)
    (he : starEach [e] X.env = (false, eval e X.env) :: starEach [] X.env := by rfl) (hpl : (backTo pos (starEach [] X.env)).any (·.1) = false := by rfl) : SO X T E mu io r (.Call (.Name g pf) [e] [] pos) (eN vList ms) :=
  PE.imp (pe_callTy call_list_of hg hm hv ha hn hdb he hpl) fun σ H Q ⟨O, fr, rl, q⟩ => by
    unfold eN at q
    refine ⟨O, fr, rl, ?_⟩
    cases h1 : ms fr with
    | bad => rw [h1] at q; exact q
    | exc e => rw [h1] at q; exact q
    | ok p =>
      obtain ⟨xs, fr1⟩ := p
      rw [h1] at q
      intro O1 H1 xs' F1 R1 V1
      simp only [SK.R.bind_ok] at q
      unfold vList at q
      split at q
      · obtain ⟨x, rfl, h⟩ := V1.one
        obtain ⟨p, vs, rfl, t, rr⟩ := h.lst
        exact ⟨p, vs, rfl, .inl t.sq, fun l hl => own_lay R1 hl rr fun O' H' x g => q O' H' x (F1.trans g)⟩
      · obtain ⟨x, rfl, h⟩ := V1.one
        obtain ⟨p, vs, rfl, t, rr⟩ := h.tup
        exact ⟨p, vs, rfl, .inr t.sq, fun l hl => own_lay R1 hl rr fun O' H' x g => q O' H' x (F1.trans g)⟩
      · exact q.elim
theorem so_listS {g : Str} {pf : Pos} (hg : Gl X g := by rfl) (hm : X.mg g = none) (hv : bootBuiltins g = some (.type "list") := by first | rfl | decide +kernel) (s : Sl X i x) (hn : g ≠ "__name__" := by decide) (hdb : (g == ("__debug__" : Str)) = false := by decide)
    (he : starEach [.Name x p] X.env = (false, eval (.Name x p) X.env) :: starEach [] X.env := by rfl) (hpl : (backTo pos (starEach [] X.env)).any (·.1) = false := by rfl) : SO X T E mu io r (.Call (.Name g pf) [.Name x p] [] pos) (eLsS i) :=
  PE.imp (pe_callTy call_list_of hg hm hv (pa_cons s.pe pa_nil he) hn hdb he hpl) fun σ H Q ⟨O, fr, rl, q⟩ => by
    unfold eLsS at q
    rcases getS_cases fr i with ⟨v, e2, e3⟩ | e3
    · rw [e3] at q
      obtain ⟨x, hx, tp⟩ := rl.tp e2
      simp only [SK.R.bind_ok] at q
      cases v with
      | lst xs =>
        obtain ⟨a, vs, rfl, h, rr⟩ := tp.lst
        exact ⟨_, hx, a, vs, rfl, .inl (SqL.of h), fun l hl => own_lay rl hl rr q⟩
      | tup xs =>
        obtain ⟨a, vs, rfl, t, rr⟩ := (tp.val trivial).tup
        exact ⟨_, hx, a, vs, rfl, .inr t.sq, fun l hl => own_lay rl hl rr q⟩
      | _ => exact q.elim
    · rw [e3] at q; exact q.elim
def vCat : Val → Val → Option Val
  | .lst xs, .lst ys => if xs.length + ys.length ≤ 16777216 then some (.lst (xs ++ ys)) else none
  | _, _ => none
theorem so_add (ha : SE X T E mu io a ma) (hb : SE X T E mu io b mb) : SO X T E mu io r (.BinOp a .Add b pos) (e2 vCat ma mb) :=
  PE.imp (pe_op op_cat ha hb) fun σ H Q ⟨O, fr, rl, q⟩ => by
    unfold e2 at q
    refine ⟨O, fr, rl, ?_⟩
    cases h1 : ma fr with
    | bad => rw [h1] at q; exact q
    | exc e => rw [h1] at q; exact q
    | ok p =>
      obtain ⟨x, fr1⟩ := p
      rw [h1] at q
      intro O1 H1 x' F1 R1 V1
      refine ⟨O1, fr1, R1, ?_⟩
      simp only [SK.R.bind_ok] at q
      cases h2 : mb fr1 with
      | bad => rw [h2] at q; exact q
      | exc e => rw [h2] at q; exact pEx.back F1 q
      | ok p =>
        obtain ⟨y, fr2⟩ := p
        rw [h2] at q
        intro O2 H2 y' F2 R2 V2
        simp only [SK.R.bind_ok] at q
        have V1' := VR.mono F2 _ _ V1
        unfold vCat at q
        split at q
        · split at q
          · rename_i hl
            obtain ⟨p, vs, rfl, t, rr⟩ := V1'.lst
            obtain ⟨p', vs', rfl, t', rr'⟩ := V2.lst
            exact ⟨p, p', vs, vs', rfl, rfl, t.1, t'.1, by rw [← rr.len, ← rr'.len]; exact hl, fun l hl => own_lay R2 hl (rr.app rr') fun O' H' x g => q O' H' x ((F1.trans F2).trans g)⟩
          · exact q.elim
        · exact q.elim
end
/-! ### short words for printed texts -/
theorem slm {X : Cx} (i : Nat) {x : Str} (hN : X.N[i]? = some x := by rfl) (hv : Vis X.env.scope x := by first | exact .inl rfl | exact .inr (.inl rfl) | exact .inr (.inr rfl)) (hd : (x == ("__debug__" : Str)) = false := by decide) (hcd : (x == ("__classdict__" : Str)) = false := by decide) : Sl X i x := ⟨hN, hv, hd, hcd⟩
theorem hu20 {A : Around} {k : Nat} (hr : Room k A) : A.units + 20 < cLine := by have := hr.un; omega
theorem hu21 {A : Around} {k : Nat} (hr : Room k A) : A.units + 21 < cLine := by have := hr.un; omega
theorem hu1 {A : Around} {k : Nat} (hr : Room k A) : A.units + 1 < cLine := by have := hr.un; omega
end SK

set_option maxHeartbeats 1000000
/-! SK19: super() in a printed text. -/
namespace SK
open PySem L2 PySem.Spec He

theorem ccOf_eq {K : PySem.W.Frag} {p : Str × Option Str} {oc : Value} {od : Option Addr} {fd : FuncData} {osl : Array (Option Value)} {y : Str} {cc : Addr} {r : List (Str × Addr)} (lk : K.lookup (fAd K p) = some ⟨oc, od, .func fd, osl⟩) (h : fd.closure = (y, cc) :: r) : ccOf K p = cc := by
  unfold ccOf
  rw [lk]
  show (match fd.closure with
    | q :: _ => q.2
    | [] => 0) = cc
  rw [h]
theorem sup_ok {CX : CXT} {P : Program} {w : World} {K : PySem.W.Frag} {mg : Str → Option Value} {base : Heap} {N : List Str} {x qual : Str} {params : Arguments} {body : List Stmt} {scope : Scope} {A : Around} {outer : List Env} {s : Shared} {H : Hp} {E : XK} {mn C D : Str} {p q : Str × Option Str} {oc : Value} {od : Option Addr} {dV kV doc pm cdv ct : Value} {an : Option Addr} {osl : Array (Option Value)} {cc : Addr} {ar : Arg}
    (ns : ∃ h : Heap, K.In h ∧ h.Ns mainGlobals mg) (h : supB P.main.file mn p q D C K = true) (lk : K.lookup (fAd K p) = some ⟨oc, od, .func (PySem.W.ksFn x qual params body scope dV kV doc pm an cdv ct cc), osl⟩)
    (h1 : scope.names.lookup ("super" : Str) = some .globalImplicit) (h2 : scope.names.lookup ("__class__" : Str) = some .free) (h3 : scope.kind = .function) (h4 : (params.posonlyargs ++ params.args).head? = some ar) (h5 : N[0]? = some ar.arg) (h6 : scope.names.lookup ar.arg = some .local)
    (h7 : (P.main.scope.names.lookup ("super" : Str)).isSome = false) : ∃ cda, SupF (cxS CX P w K mg base N qual scope (fAd K p) cdv cc A outer s H E) mn (ga K C) (ga K D) (fAd K p) (fAd K q) cc cda := by
  have ecc : ccOf K p = cc := ccOf_eq lk rfl
  unfold supB at h
  rw [lk, ecc] at h
  obtain ⟨g1, h⟩ := ba h
  obtain ⟨g2, h⟩ := ba h
  obtain ⟨g3, h⟩ := ba h
  obtain ⟨g4, h⟩ := ba h
  obtain ⟨g5, h⟩ := ba h
  obtain ⟨g6, h⟩ := ba h
  obtain ⟨g7, h⟩ := ba h
  obtain ⟨g8, h⟩ := ba h
  obtain ⟨g9, g10⟩ := ba h
  cases cdv with
  | ref cda =>
    have g1 : (match K.lookup cda with
        | some o => (match o.data with
          | .fields vs => (match (vs[2]? : Option Value) with
            | some (.str z _) => (P.main.file == z)
            | _ => false)
          | _ => false)
        | none => false) = true := g1
    split at g1
    · rename_i o ho
      split at g1
      · rename_i vs hvs
        split at g1
        · rename_i z tf hz
          split at g2
          · rename_i o2 ho2
            split at g2
            · rename_i d hd
              obtain ⟨hh, X, G⟩ := ns
              have ed : d = ga K D := of_decide_eq_true g2
              subst ed
              exact ⟨cda, ⟨h1, h2, h3, rfl, ⟨_, _, ar, lk, rfl, h4, h5, h6⟩, rfl, ⟨o, vs, z, tf, ho, hvs, hz, g1⟩, rfl, ⟨o2, ho2, hd⟩, g3, g4, of_decide_eq_true g5, eqO_ok g6, eqO_ok g7, of_decide_eq_true g8, g9, PySem.W.mg_none_of X G (eqO_ok g10), h7⟩⟩
            · cases g2
          · cases g2
        · cases g1
      · cases g1
    · cases g1
  | _ => cases g1
/-! ### keywords -/
section
variable {X : Cx} {T : Tb} {E : XK} {mu : Nat → Bool} {io : List (Nat × V)} {e : Expr} {kws : List Keyword} {ma : EM} {mk : AM} {nm : Option Str} {kpos : Pos}
theorem pk_nil0 : SKw X T E mu io [] aN := ⟨fun pos pins s σ H Q I ⟨O, fr, rl, q⟩ => pk_nil.run pos pins s σ H Q I (q O H [] (Fm.refl _ _) rl VRs.nil)⟩
theorem skw_cons (ha : SE X T E mu io e ma) (hr : SKw X T E mu io kws mk) : SKw X T E mu io (⟨nm, e, kpos⟩ :: kws) (aC ma mk) := ⟨fun pos pins s σ H Q I h => (pk_cons ha hr).run pos pins s σ H Q I (aC_imp h)⟩
end
theorem free_of {ns : List (Str × NameKind)} (h : ∀ p ∈ ns, p.2 = .free → p.1 = ("__class__" : Str)) : ∀ y, ns.lookup y = some .free → y = ("__class__" : Str) := fun y e => h (y, .free) (PySem.mem_of_lookup e) rfl
end SK

set_option maxHeartbeats 1000000
/-! SK20: the end of a law: what its def promises, at the script. -/
namespace SK
open PySem L2
theorem spG_law {K : PySem.W.Frag} {T : Tb} {H : Hp} {a : Addr} {ns : List Int} {m : FnM} {E : XK} (hS : SqL K H a (ns.map V.int)) {o : List Val} (h : m [.scr ns] = .ok (.bl true, o)) : spG K T [] [] false 1 m [.ref a] H (fun v _ => v = .bl true) E := by
  refine ⟨rfl, fun _ => none, [.scr ns], fun _ q => absurd rfl q, ⟨?_, trivial⟩, ?_⟩
  · show VR K T _ H (.scr ns) (.ref a)
    unfold VR
    refine ⟨a, rfl, ?_⟩
    rcases hS with (h1 | ⟨o, h1⟩) | h1
    · exact .inl ⟨h1, rfl⟩
    · exact .inr (.inl ⟨⟨o, h1⟩, rfl⟩)
    · exact .inr (.inr fun _ => .inr h1)
  · rw [h]
    intro O' H' x _ _ _ r
    have r : VR K T O' H' (.bl true) x := r
    unfold VR at r
    exact r
end SK

namespace SK
open PySem (seqIndex?)
open PySem.Spec (ltCps)
open L2 (atI ixN)

/-! ### plain laws: results that are fine -/
def Sat {α : Type} (r : R α) (Q : α → Prop) : Prop := ∃ a, r = .ok a ∧ Q a
theorem sat_ok {α : Type} {a : α} {Q : α → Prop} : Sat (.ok a) Q ↔ Q a :=
  ⟨fun ⟨b, e, q⟩ => by cases e; exact q, fun q => ⟨a, rfl, q⟩⟩
theorem sat_bind {α β : Type} {r : R α} {f : α → R β} {Q : β → Prop} : Sat (r.bind f) Q ↔ Sat r (fun a => Sat (f a) Q) :=
  ⟨fun ⟨b, e, q⟩ => let ⟨a, e1, e2⟩ := R.bind_eq e; ⟨a, e1, b, e2, q⟩, fun ⟨a, e, b, e2, q⟩ => ⟨b, by rw [e]; exact e2, q⟩⟩
theorem Sat.imp {α : Type} {r : R α} {P Q : α → Prop} (h : Sat r P) (i : ∀ a, P a → Q a) : Sat r Q := let ⟨a, e, p⟩ := h; ⟨a, e, i a p⟩
theorem sat_ofO {α : Type} {o : Option α} {a : α} {Q : α → Prop} (h : o = some a) (q : Q a) : Sat (ofO o) Q := by rw [h]; exact ⟨a, rfl, q⟩

/-- a walk over a list, by what holds at each turn -/
theorem forL_sat {g : GM} {b : SM} {Q : Fl × Fr → Prop} (I : List Val → Fr → Prop)
    (turn : ∀ x r fr, I (x :: r) fr → Sat (noX (g x fr)) fun fr1 => Sat (b fr1) fun z => match z.1 with
      | .nx => I r z.2
      | .ct => I r z.2
      | .bk => Q (.nx, z.2)
      | .rt v => Q (.rt v, z.2))
    (fin : ∀ fr, I [] fr → Q (.nx, fr)) : ∀ xs fr, I xs fr → Sat (forL g b xs fr) Q
  | [], fr, h => ⟨_, rfl, fin fr h⟩
  | x :: r, fr, h => by
    obtain ⟨fr1, e1, z, e2, q⟩ := turn x r fr h
    unfold forL
    rw [e1]
    show Sat ((b fr1).bind _) Q
    rw [e2]
    obtain ⟨f, fr2⟩ := z
    cases f with
    | nx => exact forL_sat I turn fin r fr2 q
    | ct => exact forL_sat I turn fin r fr2 q
    | bk => exact ⟨_, rfl, q⟩
    | rt v => exact ⟨_, rfl, q⟩

theorem noX_ok {α : Type} {r : R α} {a : α} (h : r = .ok a) : noX r = .ok a := by rw [h]; rfl
theorem noX_sat {α : Type} {r : R α} {Q : α → Prop} : Sat (noX r) Q ↔ Sat r Q := by
  cases r with
  | ok a => exact Iff.rfl
  | exc e => exact ⟨fun ⟨_, e, _⟩ => (by cases e), fun ⟨_, e, _⟩ => (by cases e)⟩
  | bad => exact Iff.rfl

theorem set_set {α : Type} (l : List α) (i : Nat) (a b : α) : (l.set i a).set i b = l.set i b := by
  induction l generalizing i with
  | nil => rfl
  | cons x r ih => cases i with
    | zero => rfl
    | succ i => exact congrArg (x :: ·) (ih i)
theorem set_getD {α : Type} (l : List (Option α)) (i : Nat) : l.set i (l.getD i none) = l := by
  induction l generalizing i with
  | nil => rfl
  | cons x r ih => cases i with
    | zero => rfl
    | succ i => exact congrArg (x :: ·) (ih i)
/-- a comprehension of one name whose element is plain -/
theorem lcL_plain {i : Nat} {e : EM} {fr : Fr} {f : Val → Val} : ∀ (xs : List Val) (fr0 : Fr), fr0.set i none = fr.set i none → (∀ x ∈ xs, e (fr.set i (some x)) = .ok (f x, fr.set i (some x))) →
    ∃ fr', lcL [i] (gN i) tTrue e xs fr0 = .ok (xs.map f, fr') ∧ fr'.set i none = fr.set i none
  | [], fr0, h, _ => ⟨fr0, rfl, h⟩
  | x :: xs, fr0, h, he => by
    have e1 : (wipF fr0 [i]).set i (some x) = fr.set i (some x) := by
      show (fr0.set i none).set i (some x) = _
      rw [h, set_set]
    obtain ⟨fr', a, b⟩ := lcL_plain xs (fr.set i (some x)) (by rw [set_set]) fun y hy => he y (List.mem_cons_of_mem _ hy)
    refine ⟨fr', ?_, b⟩
    unfold lcL
    show (noX (R.ok ((wipF fr0 [i]).set i (some x)))).bind _ = _
    rw [e1]
    show (noX (e (fr.set i (some x)))).bind _ = _
    rw [he x (List.mem_cons_self ..)]
    show (lcL [i] (gN i) tTrue e xs (fr.set i (some x))).bind _ = _
    rw [a]
    rfl
theorem eLc_plain {i : Nat} {im : IM} {e : EM} {fr0 fr : Fr} {f : Val → Val} {xs : List Val} (hi : im fr0 = .ok (xs, fr)) (hl : xs.length ≤ 16777216) (he : ∀ x ∈ xs, e (fr.set i (some x)) = .ok (f x, fr.set i (some x))) :
    eLc [i] im (gN i) tTrue e fr0 = .ok (.lst (xs.map f), fr) := by
  obtain ⟨fr', a, b⟩ := lcL_plain (i := i) (e := e) (fr := fr) (f := f) xs fr rfl he
  unfold eLc
  rw [hi]
  show (noX (lcL [i] (gN i) tTrue e xs fr)).bind _ = _
  rw [a]
  show (ofO (fits (xs.map f).length)).bind _ = _
  rw [List.length_map]
  unfold fits
  rw [if_pos hl]
  show R.ok (Val.lst (xs.map f), (fr'.set i (fr.getD i none))) = _
  have : fr'.set i (fr.getD i none) = fr := by
    rw [← set_set fr' i none, b, set_set, set_getD]
  rw [this]
/-! ### numbers that are drawn -/
def PoolV (v : Val) : Prop := ∃ b m : Int, v = .lst [.int b, .int m] ∧ 0 ≤ b ∧ 0 ≤ m ∧ m < 2147483647
end SK
namespace SK
open PySem (seqIndex?)
open PySem.Spec (ltCps)
open L2 (atI ixN)
/-- a while, by what holds at each turn and a measure -/
theorem whL_sat {t : TM} {b : SM} {Q : Fl × Fr → Prop} (I : Nat → Fr → Prop)
    (turn : ∀ n fr, I n fr → Sat (t fr) fun x => (x.1 = false ∧ Q (.nx, x.2)) ∨ (x.1 = true ∧ ∃ m, n = m + 1 ∧ Sat (b x.2) fun z => match z.1 with
      | .nx => I m z.2
      | .ct => I m z.2
      | .bk => Q (.nx, z.2)
      | .rt v => Q (.rt v, z.2))) : ∀ n fuel fr, I n fr → n < fuel → Sat (whL t b fuel fr) Q
  | n, 0, fr, _, h => absurd h (Nat.not_lt_zero _)
  | n, fuel + 1, fr, h, hf => by
    obtain ⟨⟨k, fr1⟩, e1, q⟩ := turn n fr h
    unfold whL
    rw [e1]
    rcases q with ⟨q1, q2⟩ | ⟨q1, m, rfl, z, e2, q⟩
    · cases q1
      exact ⟨_, rfl, q2⟩
    · cases q1
      show Sat ((b fr1).bind _) Q
      rw [e2]
      obtain ⟨f, fr2⟩ := z
      cases f with
      | nx => exact whL_sat I turn m fuel fr2 q (by omega)
      | ct => exact whL_sat I turn m fuel fr2 q (by omega)
      | bk => exact ⟨_, rfl, q⟩
      | rt v => exact ⟨_, rfl, q⟩
theorem atI_nat {α : Type} {xs : List α} {r : Int} (h0 : 0 ≤ r) (h1 : r < xs.length) : ∃ x, x ∈ xs ∧ xs[r.toNat]? = some x ∧ atI xs r = some x := by
  have hl : r.toNat < xs.length := by omega
  refine ⟨xs[r.toNat], List.getElem_mem hl, List.getElem?_eq_getElem hl, ?_⟩
  unfold atI ixN
  simp [h0, h1, Int.not_lt.mpr h0, List.getElem?_eq_getElem hl]
theorem insP (x : Sg) : ∀ l : List Sg, (insS x l).Perm (x :: l)
  | [] => .refl _
  | y :: r => by
    unfold insS
    split
    · exact ((insP x r).cons y).trans (.swap ..)
    · exact .refl _
theorem sortP : ∀ l : List Sg, (sortS l).Perm l
  | [] => .refl _
  | x :: r => (insP x (sortS r)).trans ((sortP r).cons x)
theorem txts_str : ∀ l : List Sg, txts (l.map .str) = some l
  | [] => rfl
  | x :: r => by
    show (txts (r.map .str)).map (x :: ·) = _
    rw [txts_str r]; rfl
end SK
namespace SK
@[simp] theorem isFz_non : isFz .non = false := rfl
@[simp] theorem isFz_bl {b} : isFz (.bl b) = false := rfl
@[simp] theorem isFz_int {i} : isFz (.int i) = false := rfl
@[simp] theorem isFz_str {s} : isFz (.str s) = false := rfl
@[simp] theorem isFz_tup {s} : isFz (.tup s) = false := rfl
@[simp] theorem isFz_lst {s} : isFz (.lst s) = false := rfl
@[simp] theorem isFz_dic {s t} : isFz (.dic s t) = false := rfl
@[simp] theorem isFz_scr {s} : isFz (.scr s) = false := rfl
@[simp] theorem isFz_ins0 {c} : isFz (.ins c [] []) = false := rfl
@[simp] theorem isFz_ins {c f fs vs} : isFz (.ins c (f :: fs) vs) = false := rfl
@[simp] theorem unfz_non : unfz .non = .non := rfl
@[simp] theorem unfz_bl {b} : unfz (.bl b) = .bl b := rfl
@[simp] theorem unfz_int {i} : unfz (.int i) = .int i := rfl
@[simp] theorem unfz_str {s} : unfz (.str s) = .str s := rfl
@[simp] theorem unfz_tup {s} : unfz (.tup s) = .tup s := rfl
@[simp] theorem unfz_lst {s} : unfz (.lst s) = .lst s := rfl
@[simp] theorem unfz_dic {s t} : unfz (.dic s t) = .dic s t := rfl
@[simp] theorem unfz_scr {s} : unfz (.scr s) = .scr s := rfl
@[simp] theorem unfz_ins0 {c} : unfz (.ins c [] []) = .ins c [] [] := rfl
@[simp] theorem unfz_ins {c f fs vs} : unfz (.ins c (f :: fs) vs) = .ins c (f :: fs) vs := rfl
@[simp] theorem isFz_fz' (v : Val) : isFz (fz v) = true := isFz_fz v
@[simp] theorem unfz_fz' (v : Val) : unfz (fz v) = v := unfz_fz v
theorem PoolV.nfz {p : Val} (h : PoolV p) : isFz p = false := by obtain ⟨_, _, rfl, _⟩ := h; rfl
theorem PoolV.unfz {p : Val} (h : PoolV p) : unfz p = p := by obtain ⟨_, _, rfl, _⟩ := h; rfl
end SK
namespace SK
theorem erase_perm {α : Type} : ∀ (l : List α) (i : Nat) (x : α), l[i]? = some x → (x :: l.eraseIdx i).Perm l
  | [], _, _, h => by simp at h
  | y :: r, 0, x, h => by simp at h; subst h; exact .refl _
  | y :: r, i + 1, x, h => by
    have h : r[i]? = some x := by simpa using h
    exact (List.Perm.swap _ _ _).trans ((erase_perm r i x h).cons y)
end SK
namespace SK
open L2 (atI ixN)
theorem cutL_take {α : Type} (xs : List α) (k : Int) (h : 0 ≤ k) : cutL xs none (some k) = xs.take k.toNat := by
  unfold cutL HT.sIx
  simp [Int.not_lt.mpr h]
def unS : Val → Option Sg
  | .str s => some s
  | _ => none
theorem unS_map : ∀ l : List Sg, (l.map Val.str).filterMap unS = l
  | [] => rfl
  | x :: r => by rw [List.map_cons, List.filterMap_cons]; simp only [unS]; rw [unS_map r]
theorem perm_strs {ys : List Val} {ls : List Sg} (h : ys.Perm (ls.map .str)) : ∃ zs : List Sg, ys = zs.map .str ∧ zs.Perm ls := by
  refine ⟨ys.filterMap unS, ?_, ?_⟩
  · have : ∀ l : List Val, (∀ y ∈ l, ∃ s, y = .str s) → l = (l.filterMap unS).map .str := by
      intro l
      induction l with
      | nil => intro _; rfl
      | cons x r ih =>
        intro hx
        obtain ⟨s, rfl⟩ := hx x (List.mem_cons_self ..)
        rw [List.filterMap_cons]
        simp only [unS]
        rw [List.map_cons, ← ih fun y hy => hx y (List.mem_cons_of_mem _ hy)]
    refine this ys fun y hy => ?_
    have := h.subset hy
    obtain ⟨s, _, rfl⟩ := List.mem_map.mp this
    exact ⟨s, rfl⟩
  · have := h.filterMap unS
    rwa [unS_map] at this
end SK
namespace SK
/-! ### what follows stays folded until it is reached -/
def Thn (b : SM) (Q : Fl × Fr → Prop) (x : Fl × Fr) : Prop := match x.1 with
  | .nx => Sat (b x.2) Q
  | f => Q (f, x.2)
theorem thn_nx {b Q fr} : Thn b Q (.nx, fr) = Sat (b fr) Q := rfl
theorem thn_rt {b Q fr v} : Thn b Q (.rt v, fr) = Q (.rt v, fr) := rfl
theorem thn_bk {b Q fr} : Thn b Q (.bk, fr) = Q (.bk, fr) := rfl
theorem thn_ct {b Q fr} : Thn b Q (.ct, fr) = Q (.ct, fr) := rfl
theorem sat_sSeq {a b : SM} {fr Q} : Sat (sSeq a b fr) Q = Sat (a fr) (Thn b Q) := by
  refine propext (sat_bind.trans ⟨fun h => h.imp ?_, fun h => h.imp ?_⟩) <;>
  · rintro ⟨f, fr⟩ h
    cases f
    · exact h
    all_goals first | exact (sat_ok (Q := Q)).mp h | exact (sat_ok (Q := Q)).mpr h
def Br (a b : SM) (Q : Fl × Fr → Prop) (x : Bool × Fr) : Prop := if x.1 = true then Sat (a x.2) Q else Sat (b x.2) Q
theorem br_mk {a b Q k fr} : Br a b Q (k, fr) = if k = true then Sat (a fr) Q else Sat (b fr) Q := rfl
theorem sat_sIf {t : TM} {a b : SM} {fr Q} : Sat (sIf t a b fr) Q = Sat (t fr) (Br a b Q) := by
  refine propext (sat_bind.trans ⟨fun h => h.imp ?_, fun h => h.imp ?_⟩) <;>
  · rintro ⟨k, fr⟩ h
    cases k <;> exact h
def Ret (iop : List Nat) (ro : Bool) (Q : Val × List Val → Prop) (x : Fl × Fr) : Prop := match x.1 with
  | .nx => if ro = true then False else Sat (ofO (outsOf x.2 iop)) fun o => Q (.non, o)
  | .rt v => Sat (ofO (outsOf x.2 iop)) fun o => Q (v, o)
  | _ => False
theorem ret_nx {iop Q fr} : Ret iop false Q (.nx, fr) = Sat (ofO (outsOf fr iop)) fun o => Q (.non, o) := rfl
theorem ret_rt {iop ro Q fr v} : Ret iop ro Q (.rt v, fr) = Sat (ofO (outsOf fr iop)) fun o => Q (v, o) := rfl
theorem sat_runF {n iop ro body args Q} : Sat (runF n iop ro body args) Q = Sat (body (initF n args)) (Ret iop ro Q) := by
  have key : ∀ x : Fl × Fr, Sat (match x.1 with
    | .rt v => (ofO (outsOf x.2 iop)).bind fun o => R.ok (v, o)
    | .nx => if ro = true then .bad else (ofO (outsOf x.2 iop)).bind fun o => R.ok (.non, o)
    | _ => .bad) Q ↔ Ret iop ro Q x := by
    have nb : Sat (R.bad : R (Val × List Val)) Q ↔ False := ⟨fun ⟨_, e, _⟩ => (by cases e), fun h => h.elim⟩
    rintro ⟨f, fr⟩
    cases f with
    | nx =>
      cases ro with
      | true => exact nb
      | false => exact sat_bind.trans ⟨fun h => h.imp fun _ h => (sat_ok (Q := Q)).mp h, fun h => h.imp fun _ h => (sat_ok (Q := Q)).mpr h⟩
    | rt v => exact sat_bind.trans ⟨fun h => h.imp fun _ h => (sat_ok (Q := Q)).mp h, fun h => h.imp fun _ h => (sat_ok (Q := Q)).mpr h⟩
    | bk => exact nb
    | ct => exact nb
  exact propext (sat_bind.trans ⟨fun h => h.imp fun x h => (key x).mp h, fun h => h.imp fun x h => (key x).mpr h⟩)
def ForK (g : GM) (b : SM) (Q : Fl × Fr → Prop) (x : List Val × Fr) : Prop := Sat (forL g b x.1 x.2) Q
theorem forK_mk {g b Q xs fr} : ForK g b Q (xs, fr) = Sat (forL g b xs fr) Q := rfl
theorem sat_sFor {i : IM} {g : GM} {b : SM} {fr Q} : Sat (sFor i g b fr) Q = Sat (i fr) (ForK g b Q) := propext sat_bind
def SetK (i : Nat) (Q : Fl × Fr → Prop) (x : Val × Fr) : Prop := Q (.nx, x.2.set i (some x.1))
theorem setK_mk {i Q v fr} : SetK i Q (v, fr) = Q (.nx, fr.set i (some v)) := rfl
theorem sat_sSet {i : Nat} {a : EM} {fr Q} : Sat (sSet i a fr) Q = Sat (a fr) (SetK i Q) :=
  propext (sat_bind.trans ⟨fun h => h.imp fun _ h => (sat_ok (Q := Q)).mp h, fun h => h.imp fun _ h => (sat_ok (Q := Q)).mpr h⟩)
def ExK (Q : Fl × Fr → Prop) (x : Val × Fr) : Prop := Q (.nx, x.2)
theorem exK_mk {Q v fr} : ExK Q (v, fr) = Q (.nx, fr) := rfl
theorem sat_sEx {a : EM} {fr Q} : Sat (sEx a fr) Q = Sat (a fr) (ExK Q) :=
  propext (sat_bind.trans ⟨fun h => h.imp fun _ h => (sat_ok (Q := Q)).mp h, fun h => h.imp fun _ h => (sat_ok (Q := Q)).mpr h⟩)
def RtK (Q : Fl × Fr → Prop) (x : Val × Fr) : Prop := Q (.rt x.1, x.2)
theorem rtK_mk {Q v fr} : RtK Q (v, fr) = Q (.rt v, fr) := rfl
theorem sat_sRet {a : EM} {fr Q} : Sat (sRet a fr) Q = Sat (a fr) (RtK Q) :=
  propext (sat_bind.trans ⟨fun h => h.imp fun _ h => (sat_ok (Q := Q)).mp h, fun h => h.imp fun _ h => (sat_ok (Q := Q)).mpr h⟩)
end SK
namespace SK
open L2 (atI ixN)
theorem sat_lc {i : Nat} {im : IM} {e : EM} {fr0 fr : Fr} {Q : Val × Fr → Prop} (f : Val → Val) (xs : List Val) (hi : im fr0 = .ok (xs, fr)) (hl : xs.length ≤ 16777216) (he : ∀ x ∈ xs, e (fr.set i (some x)) = .ok (f x, fr.set i (some x))) (h : Q (.lst (xs.map f), fr)) :
    Sat (eLc [i] im (gN i) tTrue e fr0) Q := ⟨_, eLc_plain hi hl he, h⟩
theorem bools_true {α : Type} : ∀ xs : List α, bools (xs.map fun _ => .bl true) = some (xs.map fun _ => true)
  | [] => rfl
  | _ :: r => by
    show (bools (r.map fun _ => .bl true)).map (true :: ·) = _
    rw [bools_true r]; rfl
theorem vAll_true {α : Type} (xs : List α) : vAll [.lst (xs.map fun _ => .bl true)] = some (.bl true) := by
  show (bools _).map _ = _
  rw [bools_true]
  show some (Val.bl _) = _
  have : (xs.map fun _ => true).all id = true := by induction xs with
    | nil => rfl
    | cons x r ih => exact ih
  rw [this]
theorem dPut_new {α : Type} {k : Val} {v : α} : ∀ {ks : List Val} {vs : List α}, (∀ x ∈ ks, kEq x k = false) → ks.length = vs.length → dPut k v ks vs = (ks ++ [k], vs ++ [v])
  | [], [], _, _ => rfl
  | [], _ :: _, _, h => by cases h
  | _ :: _, [], _, h => by cases h
  | x :: ks, w :: vs, h, hl => by
    have e : kEq x k = false := h x (List.mem_cons_self ..)
    have := dPut_new (v := v) (ks := ks) (vs := vs) (fun y hy => h y (List.mem_cons_of_mem _ hy)) (by simpa using hl)
    unfold dPut
    rw [if_neg (by rw [e]; exact Bool.false_ne_true), this]
    rfl
theorem kEq_str {a b : Sg} : kEq (.str a) (.str b) = (a == b) := rfl
theorem nodupK_str : ∀ {l : List Sg}, l.Nodup → nodupK (l.map .str) = true
  | [], _ => rfl
  | x :: r, h => by
    have h1 := List.nodup_cons.mp h
    show (!((r.map Val.str).any fun y => kEq y (.str x)) && nodupK (r.map .str)) = true
    rw [nodupK_str h1.2, Bool.and_true]
    rw [Bool.not_eq_true', List.any_eq_false]
    intro y hy
    obtain ⟨s, hs, rfl⟩ := List.mem_map.mp hy
    rw [kEq_str]
    intro e
    exact h1.1 (eq_of_beq e ▸ hs)
theorem dcL_words {i : Nat} {ek ev : EM} {fr : Fr} : ∀ (ws pre : List Sg) (vs : List Val) (fr0 : Fr), fr0.set i none = fr.set i none → vs.length = pre.length → (pre ++ ws).Nodup → (pre ++ ws).length < 16777216 →
    (∀ x ∈ ws, ek (fr.set i (some (.str x))) = .ok (.str x, fr.set i (some (.str x)))) → (∀ x ∈ ws, ∃ v, ev (fr.set i (some (.str x))) = .ok (v, fr.set i (some (.str x)))) →
    ∃ vs' fr', dcL [i] (gN i) tTrue ek ev (ws.map .str) (pre.map .str, vs) fr0 = .ok (((pre ++ ws).map .str, vs'), fr') ∧ fr'.set i none = fr.set i none
  | [], pre, vs, fr0, h, _, _, _, _, _ => ⟨vs, fr0, by rw [List.append_nil]; rfl, h⟩
  | x :: ws, pre, vs, fr0, h, hv, hn, hl, hk, he => by
    have e1 : (wipF fr0 [i]).set i (some (.str x)) = fr.set i (some (.str x)) := by
      show (fr0.set i none).set i (some _) = _
      rw [h, set_set]
    obtain ⟨v, ev1⟩ := he x (List.mem_cons_self ..)
    have hn' : ((pre ++ [x]) ++ ws).Nodup := by rw [List.append_assoc]; exact hn
    have hd : ∀ y ∈ pre.map Val.str, kEq y (.str x) = false := fun y hy => by
      obtain ⟨s, hs, rfl⟩ := List.mem_map.mp hy
      rw [kEq_str]
      refine Bool.eq_false_iff.mpr fun e => ?_
      have := (List.nodup_append.mp hn).2.2 s hs x (List.mem_cons_self ..)
      exact this (eq_of_beq e)
    obtain ⟨vs', fr', a, b⟩ := dcL_words (ek := ek) (ev := ev) (fr := fr) ws (pre ++ [x]) (vs ++ [v]) (fr.set i (some (.str x))) (by rw [set_set]) (by simp [hv]) hn' (by rw [List.append_assoc]; exact hl)
      (fun y hy => hk y (List.mem_cons_of_mem _ hy)) (fun y hy => he y (List.mem_cons_of_mem _ hy))
    refine ⟨vs', fr', ?_, b⟩
    rw [List.map_cons]
    unfold dcL
    show (noX (R.ok ((wipF fr0 [i]).set i (some (.str x))))).bind _ = _
    rw [e1]
    show (noX (ek (fr.set i (some (.str x))))).bind _ = _
    rw [hk x (List.mem_cons_self ..)]
    show (noX (ev (fr.set i (some (.str x))))).bind _ = _
    rw [ev1]
    have c2 : nodupK (pre.map Val.str) = true := nodupK_str (List.nodup_append.mp hn).1
    have c3 : (pre.map Val.str).length < 16777216 := by rw [List.length_map]; rw [List.length_append] at hl; omega
    show (if isK (.str x) = true ∧ nodupK (pre.map Val.str) = true ∧ (pre.map Val.str).length < 16777216 then _ else _) = _
    rw [if_pos ⟨rfl, c2, c3⟩, dPut_new hd (by rw [List.length_map, hv])]
    have e2 : pre.map Val.str ++ [.str x] = (pre ++ [x]).map .str := by simp
    rw [e2]
    rw [a, List.append_assoc]
    rfl
theorem sat_dc {i : Nat} {im : IM} {ek ev : EM} {fr0 fr : Fr} {Q : Val × Fr → Prop} (ws : List Sg) (hi : im fr0 = .ok (ws.map .str, fr)) (hl : ws.length < 16777216) (hn : ws.Nodup)
    (hk : ∀ x ∈ ws, ek (fr.set i (some (.str x))) = .ok (.str x, fr.set i (some (.str x)))) (he : ∀ x ∈ ws, ∃ v, ev (fr.set i (some (.str x))) = .ok (v, fr.set i (some (.str x))))
    (h : ∀ vs, Q (.dic (ws.map .str) vs, fr)) : Sat (eDc [i] im (gN i) tTrue ek ev fr0) Q := by
  obtain ⟨vs', fr', a, b⟩ := dcL_words (i := i) (ek := ek) (ev := ev) (fr := fr) ws [] [] fr rfl rfl hn hl hk he
  refine ⟨_, ?_, h vs'⟩
  unfold eDc
  rw [hi]
  show (noX (dcL [i] (gN i) tTrue ek ev (ws.map .str) ([], []) fr)).bind _ = _
  have a : dcL [i] (gN i) tTrue ek ev (ws.map .str) ([], []) fr = _ := a
  rw [a]
  show R.ok (Val.dic _ _, (fr'.set i (fr.getD i none))) = _
  have : fr'.set i (fr.getD i none) = fr := by
    rw [← set_set fr' i none, b, set_set, set_getD]
  rw [this]
  rfl
/-! ### words -/
def LTS : Sg := [97, 98, 99, 100, 101, 102, 103, 104, 105, 106, 107, 108, 109, 110, 111, 112, 113, 114, 115, 116, 117, 118, 119, 120, 121, 122]
def isWd (s : Sg) : Bool := decide (1 ≤ s.length) && (decide (s.length ≤ 8) && s.all fun c => decide (c ∈ LTS))
theorem isWd_ok {s : Sg} (h : isWd s = true) : 1 ≤ s.length ∧ s.length ≤ 8 ∧ ∀ c ∈ s, c ∈ LTS := by
  unfold isWd at h
  simpa using h
end SK
namespace SK
theorem bools_rep : ∀ n : Nat, bools (List.replicate n (.bl true)) = some (List.replicate n true)
  | 0 => rfl
  | n + 1 => by
    show (bools (List.replicate n (.bl true))).map (true :: ·) = _
    rw [bools_rep n]; rfl
@[simp] theorem vAll_rep (n : Nat) : vAll [.lst (List.replicate n (.bl true))] = some (.bl true) := by
  show (bools _).map _ = _
  rw [bools_rep]
  show some (Val.bl _) = _
  have : (List.replicate n true).all id = true := by induction n with
    | zero => rfl
    | succ n ih => exact ih
  rw [this]
end SK
namespace SK
theorem map_constV {α : Type} (c : Val) : ∀ xs : List α, xs.map (fun _ => c) = List.replicate xs.length c
  | [] => rfl
  | x :: r => by rw [List.map_cons, map_constV c r]; rfl
theorem sat_lcT {i : Nat} {im : IM} {e : EM} {fr0 fr : Fr} {Q : Val × Fr → Prop} (xs : List Val) (hi : im fr0 = .ok (xs, fr)) (hl : xs.length ≤ 16777216) (he : ∀ x ∈ xs, e (fr.set i (some x)) = .ok (.bl true, fr.set i (some x))) (h : Q (.lst (List.replicate xs.length (.bl true)), fr)) :
    Sat (eLc [i] im (gN i) tTrue e fr0) Q := sat_lc (fun _ => .bl true) xs hi hl he (by rw [map_constV]; exact h)
end SK
namespace SK
end SK
namespace SK
open L2 (atI ixN)
theorem lcL_none {i : Nat} {t : TM} {e : EM} {fr : Fr} : ∀ (xs : List Val) (fr0 : Fr), fr0.set i none = fr.set i none → (∀ x ∈ xs, t (fr.set i (some x)) = .ok (false, fr.set i (some x))) →
    ∃ fr', lcL [i] (gN i) t e xs fr0 = .ok ([], fr') ∧ fr'.set i none = fr.set i none
  | [], fr0, h, _ => ⟨fr0, rfl, h⟩
  | x :: xs, fr0, h, he => by
    have e1 : (wipF fr0 [i]).set i (some x) = fr.set i (some x) := by
      show (fr0.set i none).set i (some x) = _
      rw [h, set_set]
    obtain ⟨fr', a, b⟩ := lcL_none (e := e) xs (fr.set i (some x)) (by rw [set_set]) fun y hy => he y (List.mem_cons_of_mem _ hy)
    refine ⟨fr', ?_, b⟩
    unfold lcL
    show (noX (R.ok ((wipF fr0 [i]).set i (some x)))).bind _ = _
    rw [e1]
    show (noX (t (fr.set i (some x)))).bind _ = _
    rw [he x (List.mem_cons_self ..)]
    exact a
theorem sat_lcN {i : Nat} {im : IM} {t : TM} {e : EM} {fr0 fr : Fr} {Q : Val × Fr → Prop} (xs : List Val) (hi : im fr0 = .ok (xs, fr)) (he : ∀ x ∈ xs, t (fr.set i (some x)) = .ok (false, fr.set i (some x))) (h : Q (.lst [], fr)) :
    Sat (eLc [i] im (gN i) t e fr0) Q := by
  obtain ⟨fr', a, b⟩ := lcL_none (i := i) (t := t) (e := e) (fr := fr) xs fr rfl he
  refine ⟨_, ?_, h⟩
  unfold eLc
  rw [hi]
  show (noX (lcL [i] (gN i) t e xs fr)).bind _ = _
  rw [a]
  show R.ok (Val.lst [], (fr'.set i (fr.getD i none))) = _
  have : fr'.set i (fr.getD i none) = fr := by
    rw [← set_set fr' i none, b, set_set, set_getD]
  rw [this]
end SK
namespace SK
open L2 (atI ixN)
theorem cutL_drop {α : Type} (xs : List α) (k : Nat) : cutL xs (some (k : Int)) none = xs.drop k := by
  unfold cutL HT.sIx
  have h : ¬ ((k : Int) < 0) := by omega
  simp only [if_neg h, Int.toNat_natCast]
  by_cases hk : k ≤ xs.length
  · rw [Nat.min_eq_left hk]
    exact List.take_of_length_le (by rw [List.length_drop]; omega)
  · rw [Nat.min_eq_right (by omega), List.drop_eq_nil_of_le (Nat.le_refl _), List.drop_eq_nil_of_le (by omega)]
    simp
/-- a comprehension of one name with a test, all plain -/
theorem lcL_filter {i : Nat} {t : TM} {e : EM} {fr : Fr} {p : Val → Bool} : ∀ (xs : List Val) (fr0 : Fr), fr0.set i none = fr.set i none →
    (∀ x ∈ xs, t (fr.set i (some x)) = .ok (p x, fr.set i (some x))) → (∀ x ∈ xs, e (fr.set i (some x)) = .ok (x, fr.set i (some x))) →
    ∃ fr', lcL [i] (gN i) t e xs fr0 = .ok (xs.filter p, fr') ∧ fr'.set i none = fr.set i none
  | [], fr0, h, _, _ => ⟨fr0, rfl, h⟩
  | x :: xs, fr0, h, ht, he => by
    have e1 : (wipF fr0 [i]).set i (some x) = fr.set i (some x) := by
      show (fr0.set i none).set i (some x) = _
      rw [h, set_set]
    obtain ⟨fr', a, b⟩ := lcL_filter (e := e) (p := p) xs (fr.set i (some x)) (by rw [set_set]) (fun y hy => ht y (List.mem_cons_of_mem _ hy)) fun y hy => he y (List.mem_cons_of_mem _ hy)
    refine ⟨fr', ?_, b⟩
    unfold lcL
    show (noX (R.ok ((wipF fr0 [i]).set i (some x)))).bind _ = _
    rw [e1]
    show (noX (t (fr.set i (some x)))).bind _ = _
    rw [ht x (List.mem_cons_self ..), List.filter_cons]
    cases hp : p x with
    | false => exact a
    | true =>
      show (noX (e (fr.set i (some x)))).bind _ = _
      rw [he x (List.mem_cons_self ..)]
      show (lcL [i] (gN i) t e xs (fr.set i (some x))).bind _ = _
      rw [a]
      rfl
theorem sat_lcF {i : Nat} {im : IM} {t : TM} {e : EM} {fr0 fr : Fr} {Q : Val × Fr → Prop} (p : Val → Bool) (xs : List Val) (hi : im fr0 = .ok (xs, fr)) (hl : xs.length ≤ 16777216)
    (ht : ∀ x ∈ xs, t (fr.set i (some x)) = .ok (p x, fr.set i (some x))) (he : ∀ x ∈ xs, e (fr.set i (some x)) = .ok (x, fr.set i (some x))) (h : Q (.lst (xs.filter p), fr)) :
    Sat (eLc [i] im (gN i) t e fr0) Q := by
  obtain ⟨fr', a, b⟩ := lcL_filter (i := i) (t := t) (e := e) (fr := fr) (p := p) xs fr rfl ht he
  refine ⟨_, ?_, h⟩
  unfold eLc
  rw [hi]
  show (noX (lcL [i] (gN i) t e xs fr)).bind _ = _
  rw [a]
  show (ofO (fits (xs.filter p).length)).bind _ = _
  unfold fits
  rw [if_pos (Nat.le_trans (List.length_filter_le ..) hl)]
  show R.ok (Val.lst (xs.filter p), (fr'.set i (fr.getD i none))) = _
  have : fr'.set i (fr.getD i none) = fr := by
    rw [← set_set fr' i none, b, set_set, set_getD]
  rw [this]
end SK
namespace SK
theorem sat_noX {α : Type} {r : R α} {Q : α → Prop} : Sat (noX r) Q = Sat r Q := propext noX_sat
end SK

namespace SK
open PySem (seqIndex?)
open PySem.Spec (ltCps)
open L2 (atI ixN)
@[simp] theorem x_eC (v : Val) (fr : Fr) : eC v fr = (.ok (v, fr) : R (Val × Fr)) := rfl
@[simp] theorem x_eV (i : Nat) (fr : Fr) : eV i fr = (match fr[i]? with
  | some (some v) => .ok (v, fr)
  | _ => .bad : R (Val × Fr)) := rfl
@[simp] theorem x_eMv (i : Nat) (fr : Fr) : eMv i fr = (match fr[i]? with
  | some (some v) => .ok (unfz v, fr.set i (some (fz (unfz v))))
  | _ => .bad : R (Val × Fr)) := rfl
@[simp] theorem x_e1 (f : Val → Option Val) (a : EM) (fr : Fr) : e1 f a fr = ((a fr).bind fun x => (ofO (f x.1)).bind fun v => .ok (v, x.2) : R (Val × Fr)) := rfl
@[simp] theorem x_e2 (f : Val → Val → Option Val) (a b : EM) (fr : Fr) : e2 f a b fr = ((a fr).bind fun x => (b x.2).bind fun y => (ofO (f x.1 y.1)).bind fun v => .ok (v, y.2) : R (Val × Fr)) := rfl
@[simp] theorem x_truth_1 : truth (.non) = some false := rfl
@[simp] theorem x_truth_2 : truth (.bl b) = some b := rfl
@[simp] theorem x_truth_3 : truth (.int i) = some (i != 0) := rfl
@[simp] theorem x_truth_4 : truth (.str s) = if s.length ≤ 16777216 then some (!s.isEmpty) else none := rfl
@[simp] theorem x_truth_5 : truth (.tup xs) = some (!xs.isEmpty) := rfl
@[simp] theorem x_truth_6 : truth (.lst xs) = some (!xs.isEmpty) := rfl
@[simp] theorem x_truth_7 : truth (.dic u1_ u2_) = none := rfl
@[simp] theorem x_truth_8 : truth (.ins u1_ u2_ u3_) = none := rfl
@[simp] theorem x_truth_9 : truth (.scr u1_) = none := rfl
@[simp] theorem x_tV (a : EM) (fr : Fr) : tV a fr = ((a fr).bind fun x => (ofO (truth x.1)).bind fun b => .ok (b, x.2) : R (Bool × Fr)) := rfl
@[simp] theorem x_isB_1 : isB (.bl b) = some b := rfl
@[simp] theorem x_tBl (a : EM) (fr : Fr) : tBl a fr = ((a fr).bind fun x => (ofO (isB x.1)).bind fun b => .ok (b, x.2) : R (Bool × Fr)) := rfl
@[simp] theorem x_tAn (a b : TM) (fr : Fr) : tAn a b fr = ((a fr).bind fun x => if x.1 = true then b x.2 else .ok (false, x.2) : R (Bool × Fr)) := rfl
@[simp] theorem x_tOr (a b : TM) (fr : Fr) : tOr a b fr = ((a fr).bind fun x => if x.1 = true then .ok (true, x.2) else b x.2 : R (Bool × Fr)) := rfl
@[simp] theorem x_tNo (a : TM) (fr : Fr) : tNo a fr = ((a fr).bind fun x => .ok (!x.1, x.2) : R (Bool × Fr)) := rfl
@[simp] theorem x_eIf (t : TM) (a b : EM) (fr : Fr) : eIf t a b fr = ((t fr).bind fun x => if x.1 = true then a x.2 else b x.2 : R (Val × Fr)) := rfl
@[simp] theorem x_eAn (a b : EM) (fr : Fr) : eAn a b fr = ((a fr).bind fun x => (ofO (truth x.1)).bind fun k => if k = true then b x.2 else .ok x : R (Val × Fr)) := rfl
@[simp] theorem x_eOr (a b : EM) (fr : Fr) : eOr a b fr = ((a fr).bind fun x => (ofO (truth x.1)).bind fun k => if k = true then .ok x else b x.2 : R (Val × Fr)) := rfl
@[simp] theorem x_eNo (a : EM) (fr : Fr) : eNo a fr = ((a fr).bind fun x => (ofO (truth x.1)).bind fun k => .ok (.bl (!k), x.2) : R (Val × Fr)) := rfl
@[simp] theorem x_eCh (f g : Val → Val → Option Val) (a b c : EM) (fr : Fr) : eCh f g a b c fr = ((a fr).bind fun x => (b x.2).bind fun y => (ofO (f x.1 y.1)).bind fun z => (ofO (isB z)).bind fun k =>
  if k = true then (c y.2).bind fun u => (ofO (g y.1 u.1)).bind fun v => .ok (v, u.2) else .ok (.bl false, y.2) : R (Val × Fr)) := rfl
@[simp] theorem x_aN  (fr : Fr) : aN  fr = (.ok ([], fr) : R (List Val × Fr)) := rfl
@[simp] theorem x_aC (a : EM) (b : AM) (fr : Fr) : aC a b fr = ((a fr).bind fun x => (b x.2).bind fun y => .ok (x.1 :: y.1, y.2) : R (List Val × Fr)) := rfl
@[simp] theorem x_seqOf_1 : seqOf (.tup xs) = some xs := rfl
@[simp] theorem x_seqOf_2 : seqOf (.lst xs) = some xs := rfl
@[simp] theorem x_aS (a : EM) (b : AM) (fr : Fr) : aS a b fr = ((a fr).bind fun x => (ofO (seqOf x.1)).bind fun xs => (b x.2).bind fun y => .ok (xs ++ y.1, y.2) : R (List Val × Fr)) := rfl
@[simp] theorem x_fits (n : Nat) : fits n = (if n ≤ 16777216 then some () else none : Option Unit) := rfl
@[simp] theorem x_eTup (a : AM) (fr : Fr) : eTup a fr = ((a fr).bind fun x => (ofO (fits x.1.length)).bind fun _ => .ok (.tup x.1, x.2) : R (Val × Fr)) := rfl
@[simp] theorem x_eLst (a : AM) (fr : Fr) : eLst a fr = ((a fr).bind fun x => (ofO (fits x.1.length)).bind fun _ => .ok (.lst x.1, x.2) : R (Val × Fr)) := rfl
@[simp] theorem x_sNil  (fr : Fr) : sNil  fr = (.ok (.nx, fr) : R (Fl × Fr)) := rfl
@[simp] theorem x_sBk  (fr : Fr) : sBk  fr = (.ok (.bk, fr) : R (Fl × Fr)) := rfl
@[simp] theorem x_sCt  (fr : Fr) : sCt  fr = (.ok (.ct, fr) : R (Fl × Fr)) := rfl
@[simp] theorem x_noX_1 : noX (.ok a) = .ok a := rfl
@[simp] theorem x_gN (i : Nat) (v : Val) (fr : Fr) : gN i v fr = (.ok (fr.set i (some v)) : R Fr) := rfl
@[simp] theorem x_gT (gs : List GM) (v : Val) (fr : Fr) : gT gs v fr = ((ofO (seqOf v)).bind fun xs => gAll gs xs fr : R Fr) := rfl
@[simp] theorem x_tTrue  (fr : Fr) : tTrue  fr = (.ok (true, fr) : R (Bool × Fr)) := rfl
@[simp] theorem x_iSq (a : EM) (fr : Fr) : iSq a fr = ((a fr).bind fun x => (ofO (seqOf x.1)).bind fun xs => .ok (xs, x.2) : R (List Val × Fr)) := rfl
@[simp] theorem x_sWh (n : Nat) (t : TM) (b : SM) : sWh n t b = (whL t b n : SM) := rfl
@[simp] theorem x_sAsg (a : EM) (g : GM) (fr : Fr) : sAsg a g fr = ((a fr).bind fun x => (noX (g x.1 x.2)).bind fun fr1 => .ok (.nx, fr1) : R (Fl × Fr)) := rfl
@[simp] theorem x_initF (n : Nat) (args : List Val) : initF n args = (args.map some ++ List.replicate (n - args.length) none : Fr) := rfl
@[simp] theorem x_lN  (fr : Fr) : lN  fr = (.ok ([], fr) : R (List Lt × Fr)) := rfl
@[simp] theorem x_lC (a : EM) (b : LM) (fr : Fr) : lC a b fr = ((a fr).bind fun x => (b x.2).bind fun y => .ok (.inr (.inl x.1) :: y.1, y.2) : R (List Lt × Fr)) := rfl
@[simp] theorem x_lI (i : Nat) (b : LM) (fr : Fr) : lI i b fr = (match fr[i]? with
  | some (some _) => (b fr).bind fun y => .ok (.inl i :: y.1, y.2)
  | _ => .bad : R (List Lt × Fr)) := rfl
@[simp] theorem x_lB (i : Nat) (b : LM) (fr : Fr) : lB i b fr = (match fr[i]? with
  | some (some _) => (b fr).bind fun y => .ok (.inr (.inr i) :: y.1, y.2)
  | _ => .bad : R (List Lt × Fr)) := rfl
@[simp] theorem x_valA_1 : valA fr (.inl v) = some v := rfl
@[simp] theorem x_valA_2 : valA fr (.inr i) = match fr[i]? with
    | some (some v) => some (unfz v)
    | _ => none := rfl
@[simp] theorem x_callM (iop bop : List Nat) (m : FnM) (dv : List Val) (as : LM) (fr : Fr) : callM iop bop m dv as fr = ((as fr).bind fun x => if lentP 0 x.1 = iop ∧ nodupB (lentS x.1) = true ∧ borOk bop (lentS x.1) 0 x.1 = true then (ofO (fillA x.2 x.1)).bind fun args => (m (args ++ dv)).bind fun r => .ok (r.1, setAll x.2 (lentS x.1) r.2) else .bad : R (Val × Fr)) := rfl
@[simp] theorem x_vAdd_1 : vAdd (.int a) (.int b) = some (.int (a + b)) := rfl
@[simp] theorem x_vAdd_2 : vAdd (.str a) (.str b) = if a.length + b.length ≤ 16777216 then some (.str (a ++ b)) else none := rfl
@[simp] theorem x_vAdd_3 : vAdd (.lst a) (.lst b) = if a.length + b.length ≤ 16777216 then some (.lst (a ++ b)) else none := rfl
@[simp] theorem x_vAdd_4 : vAdd (.tup a) (.tup b) = if a.length + b.length ≤ 16777216 then some (.tup (a ++ b)) else none := rfl
@[simp] theorem x_vSub_1 : vSub (.int a) (.int b) = some (.int (a - b)) := rfl
@[simp] theorem x_vMul_1 : vMul (.int a) (.int b) = if (-(2 ^ 64) < a ∧ a < 2 ^ 64) ∨ (-(2 ^ 64) < b ∧ b < 2 ^ 64) then some (.int (a * b)) else none := rfl
@[simp] theorem x_vMul_2 : vMul (.lst a) (.int b) = if -(2 ^ 63) ≤ b ∧ b < 2 ^ 63 ∧ a.length * b.toNat ≤ 16777216 then some (.lst (List.replicate b.toNat a).flatten) else none := rfl
@[simp] theorem x_vDiv_1 : vDiv (.int a) (.int b) = if 0 < b ∧ b < 1073741824 then some (.int (a / b)) else none := rfl
@[simp] theorem x_vMod_1 : vMod (.int a) (.int b) = if 0 < b then some (.int (a % b)) else none := rfl
@[simp] theorem x_vPow_1 : vPow (.int a) (.int b) = if 0 ≤ b ∧ b ≤ 1000000 ∧ a.natAbs < 2 ^ 64 then some (.int (a ^ b.toNat)) else none := rfl
@[simp] theorem x_vNeg_1 : vNeg (.int a) = some (.int (-a)) := rfl
@[simp] theorem x_vLt_1 : vLt (.int a) (.int b) = some (.bl (decide (a < b))) := rfl
@[simp] theorem x_vLe_1 : vLe (.int a) (.int b) = some (.bl (decide (a ≤ b))) := rfl
@[simp] theorem x_vGt_1 : vGt (.int a) (.int b) = some (.bl (decide (b < a))) := rfl
@[simp] theorem x_vGe_1 : vGe (.int a) (.int b) = some (.bl (decide (b ≤ a))) := rfl
@[simp] theorem x_vEq (a b : Val) : vEq a b = ((eqv 20 a b).map .bl : Option Val) := rfl
@[simp] theorem x_vNe (a b : Val) : vNe a b = ((eqv 20 a b).map fun k => .bl (!k) : Option Val) := rfl
@[simp] theorem x_vIn (a b : Val) : vIn a b = ((inV a b).map .bl : Option Val) := rfl
@[simp] theorem x_vNotIn (a b : Val) : vNotIn a b = ((inV a b).map fun k => .bl (!k) : Option Val) := rfl
@[simp] theorem x_isNon_1 : isNon (.non) = true := rfl
@[simp] theorem x_vIs_1 : vIs (a) (.non) = some (.bl (isNon a)) := rfl
@[simp] theorem x_vIs_2 : vIs (.bl a) (.bl b) = some (.bl (a == b)) := rfl
@[simp] theorem x_vIsNot_1 : vIsNot (a) (.non) = some (.bl (!isNon a)) := rfl
@[simp] theorem x_vIsNot_2 : vIsNot (.bl a) (.bl b) = some (.bl (!(a == b))) := rfl
@[simp] theorem x_eN (f : List Val → Option Val) (ms : AM) (fr : Fr) : eN f ms fr = ((ms fr).bind fun x => (ofO (f x.1)).bind fun v => .ok (v, x.2) : R (Val × Fr)) := rfl
@[simp] theorem x_vLen_1 : vLen ([.lst xs]) = some (.int xs.length) := rfl
@[simp] theorem x_vLen_2 : vLen ([.tup xs]) = some (.int xs.length) := rfl
@[simp] theorem x_vLen_3 : vLen ([.str s]) = if s.length ≤ 16777216 then some (.int s.length) else none := rfl
@[simp] theorem x_vLen_4 : vLen ([.scr ns]) = some (.int ns.length) := rfl
@[simp] theorem x_vInt_1 : vInt ([.int i]) = some (.int i) := rfl
@[simp] theorem x_vInt_2 : vInt ([.bl b]) = some (.int (if b then 1 else 0)) := rfl
@[simp] theorem x_vMax_1 : vMax ([.int i, .int j]) = some (.int (if j > i then j else i)) := rfl
@[simp] theorem x_vMin_1 : vMin ([.int i, .int j]) = some (.int (if j < i then j else i)) := rfl
@[simp] theorem x_vList_1 : vList ([.lst xs]) = some (.lst xs) := rfl
@[simp] theorem x_vList_2 : vList ([.tup xs]) = some (.lst xs) := rfl
@[simp] theorem x_vTuple_1 : vTuple ([.lst xs]) = some (.tup xs) := rfl
@[simp] theorem x_vTuple_2 : vTuple ([.tup xs]) = some (.tup xs) := rfl
@[simp] theorem x_vIx_1 : vIx (.lst xs) (.int i) = atI xs i := rfl
@[simp] theorem x_vIx_2 : vIx (.tup xs) (.int i) = atI xs i := rfl
@[simp] theorem x_vIx_3 : vIx (.str s) (.int i) = if s.length ≤ 16777216 then (atI s i).map fun c => .str [c] else none := rfl
@[simp] theorem x_vIx_4 : vIx (.scr ns) (.int i) = (atI ns i).map .int := rfl
@[simp] theorem x_oN  (fr : Fr) : oN  fr = (.ok (none, fr) : R (Option Int × Fr)) := rfl
@[simp] theorem x_isI_1 : isI (.int i) = some i := rfl
@[simp] theorem x_oS (a : EM) (fr : Fr) : oS a fr = ((a fr).bind fun x => (ofO (isI x.1)).bind fun i => .ok (some i, x.2) : R (Option Int × Fr)) := rfl
@[simp] theorem x_vSl (v : Val) (lo hi : Option Int) : vSl v lo hi = (match v with
  | .lst xs => some (.lst (cutL xs lo hi))
  | .tup xs => some (.tup (cutL xs lo hi))
  | _ => none : Option Val) := rfl
@[simp] theorem x_eSl (a : EM) (l h : OM) (fr : Fr) : eSl a l h fr = ((a fr).bind fun x => (l x.2).bind fun lo => (h lo.2).bind fun hi => (ofO (vSl x.1 lo.1 hi.1)).bind fun v => .ok (v, hi.2) : R (Val × Fr)) := rfl
@[simp] theorem x_itOf_1 : itOf (.tup xs) = some xs := rfl
@[simp] theorem x_itOf_2 : itOf (.lst xs) = some xs := rfl
@[simp] theorem x_itOf_3 : itOf (.str s) = some (s.map fun c => .str [c]) := rfl
@[simp] theorem x_iIt (a : EM) (fr : Fr) : iIt a fr = ((a fr).bind fun x => (ofO (itOf x.1)).bind fun xs => .ok (xs, x.2) : R (List Val × Fr)) := rfl
@[simp] theorem x_iRg (a : AM) (fr : Fr) : iRg a fr = ((a fr).bind fun x => match x.1 with
  | [.int n] => if -(2 ^ 62) ≤ n ∧ n < 2 ^ 62 then .ok (rngL n, x.2) else .bad
  | _ => .bad : R (List Val × Fr)) := rfl
@[simp] theorem x_iRg2 (a : AM) (fr : Fr) : iRg2 a fr = ((a fr).bind fun x => match x.1 with
  | [.int m, .int n] => if -(2 ^ 62) ≤ m ∧ m < 2 ^ 62 ∧ -(2 ^ 62) ≤ n ∧ n < 2 ^ 62 then .ok (rngL2 m n, x.2) else .bad
  | _ => .bad : R (List Val × Fr)) := rfl
@[simp] theorem x_iEn (a : AM) (fr : Fr) : iEn a fr = ((a fr).bind fun x => match x.1 with
  | [.lst xs] => .ok (enL 0 xs, x.2)
  | _ => .bad : R (List Val × Fr)) := rfl
@[simp] theorem x_iZp (a : AM) (fr : Fr) : iZp a fr = ((a fr).bind fun x => match x.1 with
  | [.lst xs, .lst ys] => .ok (zipL xs ys, x.2)
  | [.tup xs, .tup ys] => .ok (zipL xs ys, x.2)
  | _ => .bad : R (List Val × Fr)) := rfl
@[simp] theorem x_flt_1 : flt (.non) = true := rfl
@[simp] theorem x_flt_2 : flt (.bl u1_) = true := rfl
@[simp] theorem x_flt_3 : flt (.int u1_) = true := rfl
@[simp] theorem x_flt_4 : flt (.str u1_) = true := rfl
@[simp] theorem x_getS (fr : Fr) (i : Nat) : getS fr i = (match fr[i]? with
  | some (some v) => .ok (unfz v)
  | _ => .bad : R Val) := rfl
@[simp] theorem x_flO (v : Option Val) : flO v = (match v with
  | some w => if flt w = true then .ok w else .bad
  | none => .bad : R Val) := rfl
@[simp] theorem x_e2L (f : Val → Val → Option Val) (i : Nat) (b : EM) (fr : Fr) : e2L f i b fr = ((getS fr i).bind fun _ => (b fr).bind fun y => (getS y.2 i).bind fun v => (flO (f v y.1)).bind fun w => .ok (w, y.2) : R (Val × Fr)) := rfl
@[simp] theorem x_e2R (f : Val → Val → Option Val) (a : EM) (i : Nat) (fr : Fr) : e2R f a i fr = ((a fr).bind fun x => (getS x.2 i).bind fun v => (flO (f x.1 v)).bind fun w => .ok (w, x.2) : R (Val × Fr)) := rfl
@[simp] theorem x_e2S (f : Val → Val → Option Val) (i j : Nat) (fr : Fr) : e2S f i j fr = ((getS fr i).bind fun x => (getS fr j).bind fun v => (flO (f x v)).bind fun w => .ok (w, fr) : R (Val × Fr)) := rfl
@[simp] theorem x_eNS (f : List Val → Option Val) (i : Nat) (fr : Fr) : eNS f i fr = ((getS fr i).bind fun v => (flO (f [v])).bind fun w => .ok (w, fr) : R (Val × Fr)) := rfl
@[simp] theorem x_eVp (i : Nat) (fr : Fr) : eVp i fr = ((getS fr i).bind fun v => match v with
  | .lst _ => .bad
  | .dic _ _ => .bad
  | .ins _ _ _ => .bad
  | v => .ok (v, fr) : R (Val × Fr)) := rfl
@[simp] theorem x_tVS (i : Nat) (fr : Fr) : tVS i fr = ((getS fr i).bind fun v => (ofO (truth v)).bind fun b => .ok (b, fr) : R (Bool × Fr)) := rfl
@[simp] theorem x_eIxS (i : Nat) (b : EM) (fr : Fr) : eIxS i b fr = ((getS fr i).bind fun _ => (b fr).bind fun y => (getS y.2 i).bind fun v => (ofO (vIx v y.1)).bind fun w => .ok (w, y.2) : R (Val × Fr)) := rfl
@[simp] theorem x_eApp (i : Nat) (a : EM) (fr : Fr) : eApp i a fr = (match fr[i]? with
  | some (some (.lst _)) => (a fr).bind fun y => match y.2[i]? with
    | some (some (.lst xs)) => if xs.length < 16777216 then .ok (.non, y.2.set i (some (.lst (xs ++ [y.1])))) else .bad
    | _ => .bad
  | _ => .bad : R (Val × Fr)) := rfl
@[simp] theorem x_eExt (i : Nat) (a : EM) (fr : Fr) : eExt i a fr = (match fr[i]? with
  | some (some (.lst _)) => (a fr).bind fun y => match y.1, y.2[i]? with
    | .lst zs, some (some (.lst xs)) => if xs.length + zs.length ≤ 16777216 then .ok (.non, y.2.set i (some (.lst (xs ++ zs)))) else .bad
    | _, _ => .bad
  | _ => .bad : R (Val × Fr)) := rfl
@[simp] theorem x_ePop (i : Nat) (fr : Fr) : ePop i fr = (match fr[i]? with
  | some (some (.lst xs)) => (ofO xs[xs.length - 1]?).bind fun v => .ok (v, fr.set i (some (.lst xs.dropLast)))
  | _ => .bad : R (Val × Fr)) := rfl
@[simp] theorem x_ePopA (i : Nat) (a : EM) (fr : Fr) : ePopA i a fr = (match fr[i]? with
  | some (some (.lst _)) => (a fr).bind fun y => match y.1, y.2[i]? with
    | .int k, some (some (.lst xs)) => if -(2 ^ 63) ≤ k ∧ k < 2 ^ 63 then (match seqIndex? k xs.length with
      | some j => (ofO xs[j]?).bind fun v => .ok (v, y.2.set i (some (.lst (xs.eraseIdx j))))
      | none => .bad) else .bad
    | _, _ => .bad
  | _ => .bad : R (Val × Fr)) := rfl
@[simp] theorem x_eClr (i : Nat) (fr : Fr) : eClr i fr = (match fr[i]? with
  | some (some (.lst _)) => .ok (.non, fr.set i (some (.lst [])))
  | _ => .bad : R (Val × Fr)) := rfl
@[simp] theorem x_sSetL (i : Nat) (v b : EM) (fr : Fr) : sSetL i v b fr = ((v fr).bind fun x => (getS x.2 i).bind fun _ => (b x.2).bind fun y => match y.1, y.2[i]? with
  | .int k, some (some (.lst xs)) => (match ixN xs.length k with
    | some j => .ok (.nx, y.2.set i (some (.lst (xs.set j x.1))))
    | none => .bad)
  | _, _ => .bad : R (Fl × Fr)) := rfl
@[simp] theorem x_isLD_1 : isLD (.lst u1_) = true := rfl
@[simp] theorem x_isLD_2 : isLD (.dic u1_ u2_) = true := rfl
@[simp] theorem x_sParX (r1 : Bool) (i j : Nat) (a b : EM) (fr : Fr) : sParX r1 i j a b fr = ((a fr).bind fun x => if r1 = true ∧ isLD x.1 = false then .bad else (b x.2).bind fun y => .ok (.nx, (y.2.set i (some x.1)).set j (some y.1)) : R (Fl × Fr)) := rfl
@[simp] theorem x_eAtS (cs : List Nat) (g : Nat) (i : Nat) (fr : Fr) : eAtS cs g i fr = ((getS fr i).bind fun v => match v with
  | .ins c fs vs => if cs.contains c = true then (ofO (getF g fs vs)).bind fun w => .ok (w, fr) else .bad
  | _ => .bad : R (Val × Fr)) := rfl
@[simp] theorem x_sAt (cs : List Nat) (g : Nat) (i : Nat) (a : EM) (fr : Fr) : sAt cs g i a fr = ((a fr).bind fun x => match x.2[i]? with
  | some (some (.ins c fs vs)) => if cs.contains c = true ∧ isFz (.ins c fs vs) = false ∧ fs.length < 1000 then .ok (.nx, x.2.set i (some (.ins c (setF g x.1 fs vs).1 (setF g x.1 fs vs).2))) else .bad
  | _ => .bad : R (Fl × Fr)) := rfl
@[simp] theorem x_eMk (c : Nat) (bop : List Nat) (m : FnM) (ar : List Val → List Val) (as : LM) (ks : AM) (fr : Fr) : eMk c bop m ar as ks fr = ((as fr).bind fun x => (ks x.2).bind fun z => if lentS x.1 = [] ∧ borOk bop [] 1 x.1 = true then (ofO (fillA z.2 x.1)).bind fun args => (m (.ins c [] [] :: (args ++ ar z.1))).bind fun r => (match r with
  | (.non, [s]) => .ok (s, z.2)
  | _ => .bad) else .bad : R (Val × Fr)) := rfl
@[simp] theorem x_chk (cs : List Nat) (a : EM) (fr : Fr) : chk cs a fr = ((a fr).bind fun x => if isC cs x.1 = true then .ok x else .bad : R (Val × Fr)) := rfl
@[simp] theorem x_chkS (cs : List Nat) (i : Nat) (b : LM) (fr : Fr) : chkS cs i b fr = ((getS fr i).bind fun v => if isC cs v = true then b fr else .bad : R (List Lt × Fr)) := rfl
@[simp] theorem x_eIs (f : Val → Option Bool) (a : EM) (fr : Fr) : eIs f a fr = ((a fr).bind fun x => (ofO (f x.1)).bind fun b => .ok (.bl b, x.2) : R (Val × Fr)) := rfl
@[simp] theorem x_eIsS (f : Val → Option Bool) (i : Nat) (fr : Fr) : eIsS f i fr = ((getS fr i).bind fun v => (ofO (f v)).bind fun b => .ok (.bl b, fr) : R (Val × Fr)) := rfl
@[simp] theorem x_eEqI (cs : List Nat) (nf : Nat → Val → Bool) (neg : Bool) (m : FnM) (a b : EM) (fr : Fr) : eEqI cs nf neg m a b fr = ((a fr).bind fun x => (b x.2).bind fun y => if okE cs nf x.1 y.1 = true then (m [x.1, y.1]).bind fun r => (ofO (isB r.1)).bind fun k => .ok (.bl (if neg = true then !k else k), y.2) else .bad : R (Val × Fr)) := rfl
@[simp] theorem x_dN  (fr : Fr) : dN  fr = (.ok ([], fr) : R (List (Val × Val) × Fr)) := rfl
@[simp] theorem x_dC (a b : EM) (r : DM) (fr : Fr) : dC a b r fr = ((a fr).bind fun k => (b k.2).bind fun v => (r v.2).bind fun y => .ok ((k.1, v.1) :: y.1, y.2) : R (List (Val × Val) × Fr)) := rfl
@[simp] theorem x_eDisp (d : DM) (fr : Fr) : eDisp d fr = ((d fr).bind fun x => if allK x.1 = true ∧ okM x.1 ([], []) = true ∧ x.1.length ≤ 15 then .ok (.dic (mergeD x.1 ([], [])).1 (mergeD x.1 ([], [])).2, x.2) else .bad : R (Val × Fr)) := rfl
@[simp] theorem x_eIxD (i : Nat) (b : EM) (fr : Fr) : eIxD i b fr = ((getS fr i).bind fun _ => (b fr).bind fun y => (getS y.2 i).bind fun v => match v with
  | .dic ks vs => if isK y.1 = true then (ofO (dGet y.1 ks vs)).bind fun w => .ok (w, y.2) else .bad
  | _ => .bad : R (Val × Fr)) := rfl
@[simp] theorem x_sPutD (i : Nat) (v b : EM) (fr : Fr) : sPutD i v b fr = ((v fr).bind fun x => (getS x.2 i).bind fun _ => (b x.2).bind fun y => match y.2[i]? with
  | some (some (.dic ks vs)) => if isK y.1 = true ∧ nodupK ks = true ∧ ks.length < 16777216 then .ok (.nx, y.2.set i (some (.dic (dPut y.1 x.1 ks vs).1 (dPut y.1 x.1 ks vs).2))) else .bad
  | _ => .bad : R (Fl × Fr)) := rfl
@[simp] theorem x_vLenD_1 : vLenD ([.dic ks u1_]) = some (.int ks.length) := rfl
@[simp] theorem x_sSup (c : Nat) (iop bop : List Nat) (m : FnM) (dv : List Val) (ms : LM) (fr : Fr) : sSup c iop bop m dv ms fr = ((callM iop bop m dv (chkS [c] 0 (lI 0 ms)) fr).bind fun x => .ok (.nx, x.2) : R (Fl × Fr)) := rfl
@[simp] theorem x_isA (ts : List String) (ds : List Nat) (n : Nat) : isA ts ds n = (byT (fun t => some (ts.contains t)) fun c => if c < n then some (ds.contains c) else none : Val → Option Bool) := rfl
@[simp] theorem x_iItB (i : Nat) (fr : Fr) : iItB i fr = ((getS fr i).bind fun v => (ofO (itOf v)).bind fun xs => .ok (xs, fr) : R (List Val × Fr)) := rfl
@[simp] theorem x_eTpS (i : Nat) (fr : Fr) : eTpS i fr = ((getS fr i).bind fun v => match v with
  | .lst xs => .ok (.tup xs, fr)
  | .tup xs => .ok (.tup xs, fr)
  | _ => .bad : R (Val × Fr)) := rfl
@[simp] theorem x_eLsS (i : Nat) (fr : Fr) : eLsS i fr = ((getS fr i).bind fun v => match v with
  | .lst xs => .ok (.lst xs, fr)
  | .tup xs => .ok (.lst xs, fr)
  | _ => .bad : R (Val × Fr)) := rfl
@[simp] theorem x_vCat_1 : vCat (.lst xs) (.lst ys) = if xs.length + ys.length ≤ 16777216 then some (.lst (xs ++ ys)) else none := rfl
end SK
namespace SK
open PySem (seqIndex?)
open PySem.Spec (ltCps)
open L2 (atI ixN)
@[simp] theorem x_ofO_s {α : Type} {a : α} : ofO (some a) = .ok a := rfl
@[simp] theorem x_ofO_n {α : Type} : (ofO none : R α) = .bad := rfl
@[simp] theorem x_getF_1 {g f : Nat} {fs : List Nat} {v : Val} {vs : List Val} : getF g (f :: fs) (v :: vs) = if f = g then some v else getF g fs vs := rfl
@[simp] theorem x_vAt_1 {cs : List Nat} {g c : Nat} {fs : List Nat} {vs : List Val} : vAt cs g (.ins c fs vs) = if cs.contains c = true then getF g fs vs else none := rfl
end SK

set_option maxHeartbeats 0
namespace K01
open PySem PySem.Spec L2 SK
abbrev PR : Program := (PySem.Challenge.rw_shutlids_k01_things_made).prog
abbrev top (i : Nat) : Stmt := PySem.Challenge.pw_shutlids_k01_things_made.main.body.getD i (.Pass ⟨0, 0, 0, 0⟩)
def cn : List PySem.Str := ["Thing", "Part", "Fastening", "Tool", "Variant"]
def fnm : List PySem.Str := ["title", "ways", "record", "must", "due", "holds", "rounds", "options"]
abbrev TT (K : PySem.W.Frag) : Tb := tb cn fnm K
def d_law_pool : DefX := { at_ := ("_law_pool", none), name := "_law_pool", qual := "_law_pool", params := defArgs (top 25), body := defBody (top 25), scope := defScope (top 25) }
def d_law_take : DefX := { at_ := ("_law_take", none), name := "_law_take", qual := "_law_take", params := defArgs (top 26), body := defBody (top 26), scope := defScope (top 26) }
def d_law_one : DefX := { at_ := ("_law_one", none), name := "_law_one", qual := "_law_one", params := defArgs (top 27), body := defBody (top 27), scope := defScope (top 27) }
def d_law_turned : DefX := { at_ := ("_law_turned", none), name := "_law_turned", qual := "_law_turned", params := defArgs (top 28), body := defBody (top 28), scope := defScope (top 28) }
def d_law_ways : DefX := { at_ := ("_law_ways", none), name := "_law_ways", qual := "_law_ways", params := defArgs (top 29), body := defBody (top 29), scope := defScope (top 29) }
def d_law_due : DefX := { at_ := ("_law_due", none), name := "_law_due", qual := "_law_due", params := defArgs (top 30), body := defBody (top 30), scope := defScope (top 30) }
def d_law_deeds : DefX := { at_ := ("_law_deeds", none), name := "_law_deeds", qual := "_law_deeds", params := defArgs (top 32), body := defBody (top 32), scope := defScope (top 32) }
def d_law_box : DefX := { at_ := ("_law_box", none), name := "_law_box", qual := "_law_box", params := defArgs (top 31), body := defBody (top 31), scope := defScope (top 31) }
def d_law_lists : DefX := { at_ := ("_law_lists", none), name := "_law_lists", qual := "_law_lists", params := defArgs (top 35), body := defBody (top 35), scope := defScope (top 35) }
def d_is_row : DefX := { at_ := ("is_row", none), name := "is_row", qual := "is_row", params := defArgs (top 10), body := defBody (top 10), scope := defScope (top 10) }
def d_is_word : DefX := { at_ := ("is_word", none), name := "is_word", qual := "is_word", params := defArgs (top 9), body := defBody (top 9), scope := defScope (top 9) }
def d_are_words : DefX := { at_ := ("are_words", none), name := "are_words", qual := "are_words", params := defArgs (top 11), body := defBody (top 11), scope := defScope (top 11) }
def d_are_ways : DefX := { at_ := ("are_ways", none), name := "are_ways", qual := "are_ways", params := defArgs (top 16), body := defBody (top 16), scope := defScope (top 16) }
def d_look_at : DefX := { at_ := ("look_at", none), name := "look_at", qual := "look_at", params := defArgs (top 18), body := defBody (top 18), scope := defScope (top 18) }
def d_is_due : DefX := { at_ := ("is_due", none), name := "is_due", qual := "is_due", params := defArgs (top 17), body := defBody (top 17), scope := defScope (top 17) }
def d_Thing_init : DefX := { at_ := ("Thing", some "__init__"), name := "__init__", qual := "Thing.__init__", params := defArgs (inClass (top 19) 0), body := defBody (inClass (top 19) 0), scope := defScope (inClass (top 19) 0) }
def d_Part_init : DefX := { at_ := ("Part", some "__init__"), name := "__init__", qual := "Part.__init__", params := defArgs (inClass (top 20) 0), body := defBody (inClass (top 20) 0), scope := defScope (inClass (top 20) 0), sup := true, dfl := [(.tup [(.tup [])])], kwd := [("must", (.bl false)), ("due", (.str [97, 108, 119, 97, 121, 115]))] }
def d_law_told_part : DefX := { at_ := ("_law_told_part", none), name := "_law_told_part", qual := "_law_told_part", params := defArgs (top 33), body := defBody (top 33), scope := defScope (top 33) }
def d_Thing_eq : DefX := { at_ := ("Part", some "__eq__"), name := "__eq__", qual := "Thing.__eq__", params := defArgs (inClass (top 19) 1), body := defBody (inClass (top 19) 1), scope := defScope (inClass (top 19) 1) }
def d_is_whole : DefX := { at_ := ("is_whole", none), name := "is_whole", qual := "is_whole", params := defArgs (top 7), body := defBody (top 7), scope := defScope (top 7) }
def d_is_number : DefX := { at_ := ("is_number", none), name := "is_number", qual := "is_number", params := defArgs (top 8), body := defBody (top 8), scope := defScope (top 8) }
def d_Fastening_init : DefX := { at_ := ("Fastening", some "__init__"), name := "__init__", qual := "Fastening.__init__", params := defArgs (inClass (top 21) 0), body := defBody (inClass (top 21) 0), scope := defScope (inClass (top 21) 0), sup := true, dfl := [(.int 1), (.tup [(.tup [])])] }
def d_Tool_init : DefX := { at_ := ("Tool", some "__init__"), name := "__init__", qual := "Tool.__init__", params := defArgs (inClass (top 22) 0), body := defBody (inClass (top 22) 0), scope := defScope (inClass (top 22) 0), sup := true, dfl := [(.tup [(.tup [])])] }
def d_law_parts_right : DefX := { at_ := ("_law_parts_right", none), name := "_law_parts_right", qual := "_law_parts_right", params := defArgs (top 36), body := defBody (top 36), scope := defScope (top 36) }
def d_law_told_fastening : DefX := { at_ := ("_law_told_fastening", none), name := "_law_told_fastening", qual := "_law_told_fastening", params := defArgs (top 34), body := defBody (top 34), scope := defScope (top 34) }
def d_law_fastenings_right : DefX := { at_ := ("_law_fastenings_right", none), name := "_law_fastenings_right", qual := "_law_fastenings_right", params := defArgs (top 37), body := defBody (top 37), scope := defScope (top 37) }
def d_Variant_init : DefX := { at_ := ("Variant", some "__init__"), name := "__init__", qual := "Variant.__init__", params := defArgs (inClass (top 23) 0), body := defBody (inClass (top 23) 0), scope := defScope (inClass (top 23) 0) }
def d_Variant_eq : DefX := { at_ := ("Variant", some "__eq__"), name := "__eq__", qual := "Variant.__eq__", params := defArgs (inClass (top 23) 1), body := defBody (inClass (top 23) 1), scope := defScope (inClass (top 23) 1) }
def d_law : DefX := { at_ := ("law", none), name := "law", qual := "law", params := defArgs (top 38), body := defBody (top 38), scope := defScope (top 38) }
def dfs : List DefX := [d_law_pool, d_law_take, d_law_one, d_law_turned, d_law_ways, d_law_due, d_law_deeds, d_law_box, d_law_lists, d_is_row, d_is_word, d_are_words, d_are_ways, d_look_at, d_is_due, d_Thing_init, d_Part_init, d_law_told_part, d_Thing_eq, d_is_whole, d_is_number, d_Fastening_init, d_Tool_init, d_law_parts_right, d_law_told_fastening, d_law_fastenings_right, d_Variant_init, d_Variant_eq, d_law]
def ck : List (PySem.W.Frag → Bool) := [freeB "len",
  freeB "min",
  freeB "max",
  freeB "range",
  freeB "int",
  gloB "_law_pool",
  gloB "_law_take",
  gloB "_law_one",
  freeB "enumerate",
  freeB "list",
  gloB "_law_turned",
  freeB "sorted",
  freeB "tuple",
  gloB "_law_ways",
  gloB "_law_due",
  gloB "_law_deeds",
  gloB "_law_box",
  gloB "_law_lists",
  isAB cn fnm [fun _ => .type "bool"] ["bool"] [],
  insB cn fnm,
  freeB "isinstance",
  freeB "bool",
  isAB cn fnm [fun _ => .type "list", fun _ => .type "tuple"] ["list", "tuple"] [],
  gloB "is_row",
  conB "MOST_WAYS" (.int 3),
  isAB cn fnm [fun _ => .type "str"] ["str"] [],
  freeB "str",
  conB "MOST_LETTERS" (.int 8),
  conB "LETTERS" (.str [97, 98, 99, 100, 101, 102, 103, 104, 105, 106, 107, 108, 109, 110, 111, 112, 113, 114, 115, 116, 117, 118, 119, 120, 121, 122]),
  freeB "all",
  gloB "is_word",
  conB "MOST_LIDS" (.int 3),
  gloB "are_words",
  gloB "are_ways",
  isAB cn fnm [fun _ => .type "tuple"] ["tuple"] [],
  gloB "is_due",
  gloB "look_at",
  fldB cn fnm [1] 3,
  fldB cn fnm [1] 4,
  fldB cn fnm [0, 1, 2, 3, 4] 0,
  fldB cn fnm [0, 1, 2, 3] 1,
  fldB cn fnm [0, 1, 2, 3] 2,
  supB PR.main.file "__init__" ("Part", some "__init__") ("Thing", some "__init__") "Part" "Part",
  mkB "Part",
  gloB "Part",
  gloB "_law_told_part",
  isAB cn fnm [fun K => .ref (He.ga K "Thing")] [] [0, 1, 2, 3],
  gloB "Thing",
  nfB cn fnm [] [1, 2, 3],
  eqB cn fnm [1, 2, 3],
  isAB cn fnm [fun _ => .type "int"] ["bool", "int"] [],
  gloB "is_whole",
  conB "MOST_ROUNDS" (.int 3),
  gloB "is_number",
  fldB cn fnm [2] 5,
  fldB cn fnm [2] 6,
  supB PR.main.file "__init__" ("Fastening", some "__init__") ("Thing", some "__init__") "Fastening" "Fastening",
  mkB "Fastening",
  gloB "Fastening",
  supB PR.main.file "__init__" ("Tool", some "__init__") ("Thing", some "__init__") "Tool" "Tool",
  mkB "Tool",
  gloB "Tool",
  gloB "_law_parts_right",
  gloB "_law_told_fastening",
  gloB "_law_fastenings_right",
  fldB cn fnm [4] 7,
  mkB "Variant",
  gloB "Variant",
  isAB cn fnm [fun K => .ref (He.ga K "Variant")] [] [4],
  nfB cn fnm [] [4],
  eqB cn fnm [4],
  gloB "law"]
section
variable {w : World} {K : PySem.W.Frag} {mg : PySem.Str → Option Value} {base : Heap}
theorem bd_law_pool (F : FK ck dfs K mg) : Binds K (fdA K ("_law_pool", none)) ["_law_script", "_law_k"] [] := by
  obtain ⟨dvs, kws, FD, h1, _, _⟩ := F.c.def_ 0 (d := d_law_pool)
  have e : dvs = [] := (h1 (TT K) ON (fun _ => none)).inv0
  subst e
  exact (SK.FunD.b FD).n0 fun _ _ _ _ _ _ _ _ _ _ _ us hl => match us, hl with | [_, _], _ => rfl
theorem kp_law_pool (F : FK ck dfs K mg) : PySem.W.keepIn K (.ref (He.fAd K ("_law_pool", none))) = true := by
  obtain ⟨_, _, FD, _⟩ := F.c.def_ 0 (d := d_law_pool)
  exact FD.kp
theorem bd_law_take (F : FK ck dfs K mg) : Binds K (fdA K ("_law_take", none)) ["_law_pool_here", "_law_bound"] [] := by
  obtain ⟨dvs, kws, FD, h1, _, _⟩ := F.c.def_ 1 (d := d_law_take)
  have e : dvs = [] := (h1 (TT K) ON (fun _ => none)).inv0
  subst e
  exact (SK.FunD.b FD).n0 fun _ _ _ _ _ _ _ _ _ _ _ us hl => match us, hl with | [_, _], _ => rfl
theorem kp_law_take (F : FK ck dfs K mg) : PySem.W.keepIn K (.ref (He.fAd K ("_law_take", none))) = true := by
  obtain ⟨_, _, FD, _⟩ := F.c.def_ 1 (d := d_law_take)
  exact FD.kp
theorem bd_law_one (F : FK ck dfs K mg) : Binds K (fdA K ("_law_one", none)) ["_law_pool_here", "_law_things"] [] := by
  obtain ⟨dvs, kws, FD, h1, _, _⟩ := F.c.def_ 2 (d := d_law_one)
  have e : dvs = [] := (h1 (TT K) ON (fun _ => none)).inv0
  subst e
  exact (SK.FunD.b FD).n0 fun _ _ _ _ _ _ _ _ _ _ _ us hl => match us, hl with | [_, _], _ => rfl
theorem kp_law_one (F : FK ck dfs K mg) : PySem.W.keepIn K (.ref (He.fAd K ("_law_one", none))) = true := by
  obtain ⟨_, _, FD, _⟩ := F.c.def_ 2 (d := d_law_one)
  exact FD.kp
theorem bd_law_turned (F : FK ck dfs K mg) : Binds K (fdA K ("_law_turned", none)) ["_law_pool_here", "_law_things"] [] := by
  obtain ⟨dvs, kws, FD, h1, _, _⟩ := F.c.def_ 3 (d := d_law_turned)
  have e : dvs = [] := (h1 (TT K) ON (fun _ => none)).inv0
  subst e
  exact (SK.FunD.b FD).n0 fun _ _ _ _ _ _ _ _ _ _ _ us hl => match us, hl with | [_, _], _ => rfl
theorem kp_law_turned (F : FK ck dfs K mg) : PySem.W.keepIn K (.ref (He.fAd K ("_law_turned", none))) = true := by
  obtain ⟨_, _, FD, _⟩ := F.c.def_ 3 (d := d_law_turned)
  exact FD.kp
theorem bd_law_ways (F : FK ck dfs K mg) : Binds K (fdA K ("_law_ways", none)) ["_law_pool_here", "_law_lids"] [] := by
  obtain ⟨dvs, kws, FD, h1, _, _⟩ := F.c.def_ 4 (d := d_law_ways)
  have e : dvs = [] := (h1 (TT K) ON (fun _ => none)).inv0
  subst e
  exact (SK.FunD.b FD).n0 fun _ _ _ _ _ _ _ _ _ _ _ us hl => match us, hl with | [_, _], _ => rfl
theorem kp_law_ways (F : FK ck dfs K mg) : PySem.W.keepIn K (.ref (He.fAd K ("_law_ways", none))) = true := by
  obtain ⟨_, _, FD, _⟩ := F.c.def_ 4 (d := d_law_ways)
  exact FD.kp
theorem bd_law_due (F : FK ck dfs K mg) : Binds K (fdA K ("_law_due", none)) ["_law_pool_here", "_law_kinds"] [] := by
  obtain ⟨dvs, kws, FD, h1, _, _⟩ := F.c.def_ 5 (d := d_law_due)
  have e : dvs = [] := (h1 (TT K) ON (fun _ => none)).inv0
  subst e
  exact (SK.FunD.b FD).n0 fun _ _ _ _ _ _ _ _ _ _ _ us hl => match us, hl with | [_, _], _ => rfl
theorem kp_law_due (F : FK ck dfs K mg) : PySem.W.keepIn K (.ref (He.fAd K ("_law_due", none))) = true := by
  obtain ⟨_, _, FD, _⟩ := F.c.def_ 5 (d := d_law_due)
  exact FD.kp
theorem bd_law_deeds (F : FK ck dfs K mg) : Binds K (fdA K ("_law_deeds", none)) ["_law_box_here"] [] := by
  obtain ⟨dvs, kws, FD, h1, _, _⟩ := F.c.def_ 6 (d := d_law_deeds)
  have e : dvs = [] := (h1 (TT K) ON (fun _ => none)).inv0
  subst e
  exact (SK.FunD.b FD).n0 fun _ _ _ _ _ _ _ _ _ _ _ us hl => match us, hl with | [_], _ => rfl
theorem kp_law_deeds (F : FK ck dfs K mg) : PySem.W.keepIn K (.ref (He.fAd K ("_law_deeds", none))) = true := by
  obtain ⟨_, _, FD, _⟩ := F.c.def_ 6 (d := d_law_deeds)
  exact FD.kp
theorem bd_law_box (F : FK ck dfs K mg) : Binds K (fdA K ("_law_box", none)) ["_law_pool_here", "_law_many_parts", "_law_many_fastenings", "_law_many_tools", "_law_many_variants"] [] := by
  obtain ⟨dvs, kws, FD, h1, _, _⟩ := F.c.def_ 7 (d := d_law_box)
  have e : dvs = [] := (h1 (TT K) ON (fun _ => none)).inv0
  subst e
  exact (SK.FunD.b FD).n0 fun _ _ _ _ _ _ _ _ _ _ _ us hl => match us, hl with | [_, _, _, _, _], _ => rfl
theorem kp_law_box (F : FK ck dfs K mg) : PySem.W.keepIn K (.ref (He.fAd K ("_law_box", none))) = true := by
  obtain ⟨_, _, FD, _⟩ := F.c.def_ 7 (d := d_law_box)
  exact FD.kp
theorem bd_law_lists (F : FK ck dfs K mg) : Binds K (fdA K ("_law_lists", none)) ["_law_ways_here"] [] := by
  obtain ⟨dvs, kws, FD, h1, _, _⟩ := F.c.def_ 8 (d := d_law_lists)
  have e : dvs = [] := (h1 (TT K) ON (fun _ => none)).inv0
  subst e
  exact (SK.FunD.b FD).n0 fun _ _ _ _ _ _ _ _ _ _ _ us hl => match us, hl with | [_], _ => rfl
theorem kp_law_lists (F : FK ck dfs K mg) : PySem.W.keepIn K (.ref (He.fAd K ("_law_lists", none))) = true := by
  obtain ⟨_, _, FD, _⟩ := F.c.def_ 8 (d := d_law_lists)
  exact FD.kp
theorem insI (F : FK ck dfs K mg) : InsI K (TT K) := insB_ok (List.cons_ne_nil _ _) (F.c.fact 19)
theorem bd_is_row (F : FK ck dfs K mg) : Binds K (fdA K ("is_row", none)) ["value"] [] := by
  obtain ⟨dvs, kws, FD, h1, _, _⟩ := F.c.def_ 9 (d := d_is_row)
  have e : dvs = [] := (h1 (TT K) ON (fun _ => none)).inv0
  subst e
  exact (SK.FunD.b FD).n0 fun _ _ _ _ _ _ _ _ _ _ _ us hl => match us, hl with | [_], _ => rfl
theorem kp_is_row (F : FK ck dfs K mg) : PySem.W.keepIn K (.ref (He.fAd K ("is_row", none))) = true := by
  obtain ⟨_, _, FD, _⟩ := F.c.def_ 9 (d := d_is_row)
  exact FD.kp
theorem bd_is_word (F : FK ck dfs K mg) : Binds K (fdA K ("is_word", none)) ["value"] [] := by
  obtain ⟨dvs, kws, FD, h1, _, _⟩ := F.c.def_ 10 (d := d_is_word)
  have e : dvs = [] := (h1 (TT K) ON (fun _ => none)).inv0
  subst e
  exact (SK.FunD.b FD).n0 fun _ _ _ _ _ _ _ _ _ _ _ us hl => match us, hl with | [_], _ => rfl
theorem kp_is_word (F : FK ck dfs K mg) : PySem.W.keepIn K (.ref (He.fAd K ("is_word", none))) = true := by
  obtain ⟨_, _, FD, _⟩ := F.c.def_ 10 (d := d_is_word)
  exact FD.kp
theorem bd_are_words (F : FK ck dfs K mg) : Binds K (fdA K ("are_words", none)) ["value", "low", "high"] [] := by
  obtain ⟨dvs, kws, FD, h1, _, _⟩ := F.c.def_ 11 (d := d_are_words)
  have e : dvs = [] := (h1 (TT K) ON (fun _ => none)).inv0
  subst e
  exact (SK.FunD.b FD).n0 fun _ _ _ _ _ _ _ _ _ _ _ us hl => match us, hl with | [_, _, _], _ => rfl
theorem kp_are_words (F : FK ck dfs K mg) : PySem.W.keepIn K (.ref (He.fAd K ("are_words", none))) = true := by
  obtain ⟨_, _, FD, _⟩ := F.c.def_ 11 (d := d_are_words)
  exact FD.kp
theorem bd_are_ways (F : FK ck dfs K mg) : Binds K (fdA K ("are_ways", none)) ["value"] [] := by
  obtain ⟨dvs, kws, FD, h1, _, _⟩ := F.c.def_ 12 (d := d_are_ways)
  have e : dvs = [] := (h1 (TT K) ON (fun _ => none)).inv0
  subst e
  exact (SK.FunD.b FD).n0 fun _ _ _ _ _ _ _ _ _ _ _ us hl => match us, hl with | [_], _ => rfl
theorem kp_are_ways (F : FK ck dfs K mg) : PySem.W.keepIn K (.ref (He.fAd K ("are_ways", none))) = true := by
  obtain ⟨_, _, FD, _⟩ := F.c.def_ 12 (d := d_are_ways)
  exact FD.kp
theorem bd_look_at (F : FK ck dfs K mg) : Binds K (fdA K ("look_at", none)) ["rows"] [] := by
  obtain ⟨dvs, kws, FD, h1, _, _⟩ := F.c.def_ 13 (d := d_look_at)
  have e : dvs = [] := (h1 (TT K) ON (fun _ => none)).inv0
  subst e
  exact (SK.FunD.b FD).n0 fun _ _ _ _ _ _ _ _ _ _ _ us hl => match us, hl with | [_], _ => rfl
theorem bd_is_due (F : FK ck dfs K mg) : Binds K (fdA K ("is_due", none)) ["value"] [] := by
  obtain ⟨dvs, kws, FD, h1, _, _⟩ := F.c.def_ 14 (d := d_is_due)
  have e : dvs = [] := (h1 (TT K) ON (fun _ => none)).inv0
  subst e
  exact (SK.FunD.b FD).n0 fun _ _ _ _ _ _ _ _ _ _ _ us hl => match us, hl with | [_], _ => rfl
theorem kp_is_due (F : FK ck dfs K mg) : PySem.W.keepIn K (.ref (He.fAd K ("is_due", none))) = true := by
  obtain ⟨_, _, FD, _⟩ := F.c.def_ 14 (d := d_is_due)
  exact FD.kp
theorem kp_look_at (F : FK ck dfs K mg) : PySem.W.keepIn K (.ref (He.fAd K ("look_at", none))) = true := by
  obtain ⟨_, _, FD, _⟩ := F.c.def_ 13 (d := d_look_at)
  exact FD.kp
theorem fld_must (F : FK ck dfs K mg) : FldF K (TT K) [1] 3 := fldB_ok (by decide +kernel) (by decide) (F.c.fact 37)
theorem fld_due (F : FK ck dfs K mg) : FldF K (TT K) [1] 4 := fldB_ok (by decide +kernel) (by decide) (F.c.fact 38)
theorem fld_title (F : FK ck dfs K mg) : FldF K (TT K) [0, 1, 2, 3, 4] 0 := fldB_ok (by decide +kernel) (by decide) (F.c.fact 39)
theorem fld_ways (F : FK ck dfs K mg) : FldF K (TT K) [0, 1, 2, 3] 1 := fldB_ok (by decide +kernel) (by decide) (F.c.fact 40)
theorem fld_record (F : FK ck dfs K mg) : FldF K (TT K) [0, 1, 2, 3] 2 := fldB_ok (by decide +kernel) (by decide) (F.c.fact 41)
theorem bd_Thing_init (F : FK ck dfs K mg) : Binds K (fdA K ("Thing", some "__init__")) ["self", "sort", "title", "ways", "rest"] [] := by
  obtain ⟨dvs, kws, FD, h1, _, _⟩ := F.c.def_ 15 (d := d_Thing_init)
  have e : dvs = [] := (h1 (TT K) ON (fun _ => none)).inv0
  subst e
  exact (SK.FunD.b FD).n0 fun _ _ _ _ _ _ _ _ _ _ _ us hl => match us, hl with | [_, _, _, _, _], _ => rfl
theorem bd_Part_init_3_must_due (F : FK ck dfs K mg) : ∃ (dx : List V) (its : List Value), KBn K (fdA K ("Part", some "__init__")) ["self", "title", "ways", "must", "due"] 3 ["must", "due"] (fun us ws => us ++ (its.drop 1 ++ ws)) (fun vs zs => vs ++ (dx ++ zs)) ∧ ∀ T O H, VRs K T O H [] dx := by
  obtain ⟨dvs, kws, FD, h1, h2, h3⟩ := F.c.defS 16 (d := d_Part_init)
  have l1 : dvs.length = 1 := (h1 (TT K) ON (fun _ => none)).len.symm
  obtain ⟨its, B⟩ := (SK.FunDS.b FD).key1 (ps := ["self", "title", "ways", "must", "due"]) 3 1 1 ["must", "due"] l1 (by decide) fun _ _ _ _ _ _ _ _ _ _ _ _ us its ws z1 z2 z3 => match us, its, ws, z1, z2, z3 with | [_, _, _], [_], [_, _], _, _, _ => ⟨_, rfl, rfl⟩
  exact ⟨_, its, B, fun T O H => (h1 T O H).drop 1⟩
theorem mk_Part (F : FK ck dfs K mg) : Mk K ((TT K).cl 1) (He.fAd K ("Part", some "__init__")) := He.mkr_ok (F.c.fact 43)
theorem bd_law_told_part (F : FK ck dfs K mg) : Binds K (fdA K ("_law_told_part", none)) ["_law_part"] [] := by
  obtain ⟨dvs, kws, FD, h1, _, _⟩ := F.c.def_ 17 (d := d_law_told_part)
  have e : dvs = [] := (h1 (TT K) ON (fun _ => none)).inv0
  subst e
  exact (SK.FunD.b FD).n0 fun _ _ _ _ _ _ _ _ _ _ _ us hl => match us, hl with | [_], _ => rfl
theorem kp_law_told_part (F : FK ck dfs K mg) : PySem.W.keepIn K (.ref (He.fAd K ("_law_told_part", none))) = true := by
  obtain ⟨_, _, FD, _⟩ := F.c.def_ 17 (d := d_law_told_part)
  exact FD.kp
theorem eqF_Thing (F : FK ck dfs K mg) : EqF K (TT K) [1, 2, 3] (He.fAd K ("Part", some "__eq__")) := eqB_ok (F.c.fact 49)
theorem bd_Thing_eq (F : FK ck dfs K mg) : Binds K (fdA K ("Part", some "__eq__")) ["self", "other"] [] := by
  obtain ⟨dvs, kws, FD, h1, _, _⟩ := F.c.def_ 18 (d := d_Thing_eq)
  have e : dvs = [] := (h1 (TT K) ON (fun _ => none)).inv0
  subst e
  exact (SK.FunD.b FD).n0 fun _ _ _ _ _ _ _ _ _ _ _ us hl => match us, hl with | [_, _], _ => rfl
theorem bd_is_whole (F : FK ck dfs K mg) : Binds K (fdA K ("is_whole", none)) ["value"] [] := by
  obtain ⟨dvs, kws, FD, h1, _, _⟩ := F.c.def_ 19 (d := d_is_whole)
  have e : dvs = [] := (h1 (TT K) ON (fun _ => none)).inv0
  subst e
  exact (SK.FunD.b FD).n0 fun _ _ _ _ _ _ _ _ _ _ _ us hl => match us, hl with | [_], _ => rfl
theorem kp_is_whole (F : FK ck dfs K mg) : PySem.W.keepIn K (.ref (He.fAd K ("is_whole", none))) = true := by
  obtain ⟨_, _, FD, _⟩ := F.c.def_ 19 (d := d_is_whole)
  exact FD.kp
theorem bd_is_number (F : FK ck dfs K mg) : Binds K (fdA K ("is_number", none)) ["value", "low", "high"] [] := by
  obtain ⟨dvs, kws, FD, h1, _, _⟩ := F.c.def_ 20 (d := d_is_number)
  have e : dvs = [] := (h1 (TT K) ON (fun _ => none)).inv0
  subst e
  exact (SK.FunD.b FD).n0 fun _ _ _ _ _ _ _ _ _ _ _ us hl => match us, hl with | [_, _, _], _ => rfl
theorem kp_is_number (F : FK ck dfs K mg) : PySem.W.keepIn K (.ref (He.fAd K ("is_number", none))) = true := by
  obtain ⟨_, _, FD, _⟩ := F.c.def_ 20 (d := d_is_number)
  exact FD.kp
theorem fld_holds (F : FK ck dfs K mg) : FldF K (TT K) [2] 5 := fldB_ok (by decide +kernel) (by decide) (F.c.fact 54)
theorem fld_rounds (F : FK ck dfs K mg) : FldF K (TT K) [2] 6 := fldB_ok (by decide +kernel) (by decide) (F.c.fact 55)
theorem bd_Fastening_init_5 (F : FK ck dfs K mg) : ∃ (ds : List Value) (dx : List V), Binds K (fdA K ("Fastening", some "__init__")) ["self", "title", "holds", "rounds", "ways"] ds ∧ Vals dx ds ∧ ∀ T O H, VRs K T O H [] dx := by
  obtain ⟨dvs, kws, FD, h1, h2, h3⟩ := F.c.defS 21 (d := d_Fastening_init)
  have l1 : dvs.length = 2 := (h1 (TT K) ON (fun _ => none)).len.symm
  obtain ⟨ds, r, B⟩ := (SK.FunDS.b FD).pos1 (ps := ["self", "title", "holds", "rounds", "ways"]) 5 2 2 l1 (by decide) rfl fun _ _ _ _ _ _ _ _ _ _ _ _ us its z1 z2 => match us, its, z1, z2 with | [_, _, _, _, _], [_, _], _, _ => ⟨_, rfl, rfl⟩
  exact ⟨ds, _, B, r, fun T O H => (h1 T O H).drop 2⟩
theorem mk_Fastening (F : FK ck dfs K mg) : Mk K ((TT K).cl 2) (He.fAd K ("Fastening", some "__init__")) := He.mkr_ok (F.c.fact 57)
theorem bd_Tool_init_3 (F : FK ck dfs K mg) : ∃ (ds : List Value) (dx : List V), Binds K (fdA K ("Tool", some "__init__")) ["self", "title", "ways"] ds ∧ Vals dx ds ∧ ∀ T O H, VRs K T O H [] dx := by
  obtain ⟨dvs, kws, FD, h1, h2, h3⟩ := F.c.defS 22 (d := d_Tool_init)
  have l1 : dvs.length = 1 := (h1 (TT K) ON (fun _ => none)).len.symm
  obtain ⟨ds, r, B⟩ := (SK.FunDS.b FD).pos1 (ps := ["self", "title", "ways"]) 3 1 1 l1 (by decide) rfl fun _ _ _ _ _ _ _ _ _ _ _ _ us its z1 z2 => match us, its, z1, z2 with | [_, _, _], [_], _, _ => ⟨_, rfl, rfl⟩
  exact ⟨ds, _, B, r, fun T O H => (h1 T O H).drop 1⟩
theorem mk_Tool (F : FK ck dfs K mg) : Mk K ((TT K).cl 3) (He.fAd K ("Tool", some "__init__")) := He.mkr_ok (F.c.fact 60)
theorem bd_Part_init_2 (F : FK ck dfs K mg) : ∃ (ds : List Value) (dx : List V), Binds K (fdA K ("Part", some "__init__")) ["self", "title", "ways", "must", "due"] ds ∧ Vals dx ds ∧ ∀ T O H, VRs K T O H [(.tup [(.tup [])]), (.bl false), (.str [97, 108, 119, 97, 121, 115])] dx := by
  obtain ⟨dvs, kws, FD, h1, h2, h3⟩ := F.c.defS 16 (d := d_Part_init)
  have l1 : dvs.length = 1 := (h1 (TT K) ON (fun _ => none)).len.symm
  obtain ⟨ds, r, B⟩ := (SK.FunDS.b FD).pos2 (ps := ["self", "title", "ways", "must", "due"]) 2 1 0 2 ["must", "due"] h2 l1 (by decide) (List.cons_ne_nil _ _) rfl rfl fun _ _ _ _ _ _ _ _ _ _ _ _ us its mv z1 z2 z3 => match us, its, mv, z1, z2, z3 with | [_, _], [_], [_, _], _, _, _ => ⟨_, rfl, ⟨_, _, _, _, _, _, rfl, rfl, _, _, _, _, _, _, rfl, rfl, rfl⟩⟩
  exact ⟨ds, _, B, r, fun T O H => ((h1 T O H).drop 0).app (h3 T O H)⟩
theorem bd_law_parts_right (F : FK ck dfs K mg) : Binds K (fdA K ("_law_parts_right", none)) ["_law_part"] [] := by
  obtain ⟨dvs, kws, FD, h1, _, _⟩ := F.c.def_ 23 (d := d_law_parts_right)
  have e : dvs = [] := (h1 (TT K) ON (fun _ => none)).inv0
  subst e
  exact (SK.FunD.b FD).n0 fun _ _ _ _ _ _ _ _ _ _ _ us hl => match us, hl with | [_], _ => rfl
theorem kp_law_parts_right (F : FK ck dfs K mg) : PySem.W.keepIn K (.ref (He.fAd K ("_law_parts_right", none))) = true := by
  obtain ⟨_, _, FD, _⟩ := F.c.def_ 23 (d := d_law_parts_right)
  exact FD.kp
theorem bd_law_told_fastening (F : FK ck dfs K mg) : Binds K (fdA K ("_law_told_fastening", none)) ["_law_one_here"] [] := by
  obtain ⟨dvs, kws, FD, h1, _, _⟩ := F.c.def_ 24 (d := d_law_told_fastening)
  have e : dvs = [] := (h1 (TT K) ON (fun _ => none)).inv0
  subst e
  exact (SK.FunD.b FD).n0 fun _ _ _ _ _ _ _ _ _ _ _ us hl => match us, hl with | [_], _ => rfl
theorem kp_law_told_fastening (F : FK ck dfs K mg) : PySem.W.keepIn K (.ref (He.fAd K ("_law_told_fastening", none))) = true := by
  obtain ⟨_, _, FD, _⟩ := F.c.def_ 24 (d := d_law_told_fastening)
  exact FD.kp
theorem bd_Fastening_init_3 (F : FK ck dfs K mg) : ∃ (ds : List Value) (dx : List V), Binds K (fdA K ("Fastening", some "__init__")) ["self", "title", "holds", "rounds", "ways"] ds ∧ Vals dx ds ∧ ∀ T O H, VRs K T O H [(.int 1), (.tup [(.tup [])])] dx := by
  obtain ⟨dvs, kws, FD, h1, h2, h3⟩ := F.c.defS 21 (d := d_Fastening_init)
  have l1 : dvs.length = 2 := (h1 (TT K) ON (fun _ => none)).len.symm
  obtain ⟨ds, r, B⟩ := (SK.FunDS.b FD).pos1 (ps := ["self", "title", "holds", "rounds", "ways"]) 3 2 0 l1 (by decide) rfl fun _ _ _ _ _ _ _ _ _ _ _ _ us its z1 z2 => match us, its, z1, z2 with | [_, _, _], [_, _], _, _ => ⟨_, rfl, rfl⟩
  exact ⟨ds, _, B, r, fun T O H => (h1 T O H).drop 0⟩
theorem bd_law_fastenings_right (F : FK ck dfs K mg) : Binds K (fdA K ("_law_fastenings_right", none)) ["_law_entry"] [] := by
  obtain ⟨dvs, kws, FD, h1, _, _⟩ := F.c.def_ 25 (d := d_law_fastenings_right)
  have e : dvs = [] := (h1 (TT K) ON (fun _ => none)).inv0
  subst e
  exact (SK.FunD.b FD).n0 fun _ _ _ _ _ _ _ _ _ _ _ us hl => match us, hl with | [_], _ => rfl
theorem kp_law_fastenings_right (F : FK ck dfs K mg) : PySem.W.keepIn K (.ref (He.fAd K ("_law_fastenings_right", none))) = true := by
  obtain ⟨_, _, FD, _⟩ := F.c.def_ 25 (d := d_law_fastenings_right)
  exact FD.kp
theorem bd_Tool_init_2 (F : FK ck dfs K mg) : ∃ (ds : List Value) (dx : List V), Binds K (fdA K ("Tool", some "__init__")) ["self", "title", "ways"] ds ∧ Vals dx ds ∧ ∀ T O H, VRs K T O H [(.tup [(.tup [])])] dx := by
  obtain ⟨dvs, kws, FD, h1, h2, h3⟩ := F.c.defS 22 (d := d_Tool_init)
  have l1 : dvs.length = 1 := (h1 (TT K) ON (fun _ => none)).len.symm
  obtain ⟨ds, r, B⟩ := (SK.FunDS.b FD).pos1 (ps := ["self", "title", "ways"]) 2 1 0 l1 (by decide) rfl fun _ _ _ _ _ _ _ _ _ _ _ _ us its z1 z2 => match us, its, z1, z2 with | [_, _], [_], _, _ => ⟨_, rfl, rfl⟩
  exact ⟨ds, _, B, r, fun T O H => (h1 T O H).drop 0⟩
theorem fld_options (F : FK ck dfs K mg) : FldF K (TT K) [4] 7 := fldB_ok (by decide +kernel) (by decide) (F.c.fact 65)
theorem bd_Variant_init (F : FK ck dfs K mg) : Binds K (fdA K ("Variant", some "__init__")) ["self", "title", "options"] [] := by
  obtain ⟨dvs, kws, FD, h1, _, _⟩ := F.c.def_ 26 (d := d_Variant_init)
  have e : dvs = [] := (h1 (TT K) ON (fun _ => none)).inv0
  subst e
  exact (SK.FunD.b FD).n0 fun _ _ _ _ _ _ _ _ _ _ _ us hl => match us, hl with | [_, _, _], _ => rfl
theorem mk_Variant (F : FK ck dfs K mg) : Mk K ((TT K).cl 4) (He.fAd K ("Variant", some "__init__")) := He.mkr_ok (F.c.fact 66)
theorem eqF_Variant (F : FK ck dfs K mg) : EqF K (TT K) [4] (He.fAd K ("Variant", some "__eq__")) := eqB_ok (F.c.fact 70)
theorem bd_Variant_eq (F : FK ck dfs K mg) : Binds K (fdA K ("Variant", some "__eq__")) ["self", "other"] [] := by
  obtain ⟨dvs, kws, FD, h1, _, _⟩ := F.c.def_ 27 (d := d_Variant_eq)
  have e : dvs = [] := (h1 (TT K) ON (fun _ => none)).inv0
  subst e
  exact (SK.FunD.b FD).n0 fun _ _ _ _ _ _ _ _ _ _ _ us hl => match us, hl with | [_, _], _ => rfl
theorem bd_Part_init_3 (F : FK ck dfs K mg) : ∃ (ds : List Value) (dx : List V), Binds K (fdA K ("Part", some "__init__")) ["self", "title", "ways", "must", "due"] ds ∧ Vals dx ds ∧ ∀ T O H, VRs K T O H [(.bl false), (.str [97, 108, 119, 97, 121, 115])] dx := by
  obtain ⟨dvs, kws, FD, h1, h2, h3⟩ := F.c.defS 16 (d := d_Part_init)
  have l1 : dvs.length = 1 := (h1 (TT K) ON (fun _ => none)).len.symm
  obtain ⟨ds, r, B⟩ := (SK.FunDS.b FD).pos2 (ps := ["self", "title", "ways", "must", "due"]) 3 1 1 2 ["must", "due"] h2 l1 (by decide) (List.cons_ne_nil _ _) rfl rfl fun _ _ _ _ _ _ _ _ _ _ _ _ us its mv z1 z2 z3 => match us, its, mv, z1, z2, z3 with | [_, _, _], [_], [_, _], _, _, _ => ⟨_, rfl, ⟨_, _, _, _, _, _, rfl, rfl, _, _, _, _, _, _, rfl, rfl, rfl⟩⟩
  exact ⟨ds, _, B, r, fun T O H => ((h1 T O H).drop 1).app (h3 T O H)⟩
theorem bd_law (F : FK ck dfs K mg) : Binds K (fdA K ("law", none)) ["_law_script"] [] := by
  obtain ⟨dvs, kws, FD, h1, _, _⟩ := F.c.def_ 28 (d := d_law)
  have e : dvs = [] := (h1 (TT K) ON (fun _ => none)).inv0
  subst e
  exact (SK.FunD.b FD).n0 fun _ _ _ _ _ _ _ _ _ _ _ us hl => match us, hl with | [_], _ => rfl
abbrev N_law_pool : List PySem.Str := ["_law_script", "_law_k", "_law_cell", "_law_big", "_law_mixed"]
theorem sc_law_pool : FnScope N_law_pool ["_law_script", "_law_k"] (defScope (top 25)) := ⟨rfl, rfl, rfl, by decide +kernel, rfl, by decide +kernel, by decide +kernel⟩
def mu_law_pool_o (i : Nat) : Bool := [1000000].contains i
def b_law_pool_o : SM := sSeq (sSet 2 (eC (.int 0))) (sSeq (sIf (tBl (e2 vLt (eV 1) (eN vLen (aC (eV 0) (aN))))) (sSet 2 (e2 vIx (eV 0) (eV 1))) (sNil)) (sSeq (sSet 3 (eN vMax (aC (eN vInt (aC (eV 2) (aN))) (aC (eN vInt (aC (e2 vSub (e1 vNeg (eC (.int 1))) (eV 2)) (aN))) (aN))))) (sSeq (sSet 4 (e2 vMod (eN vInt (aC (e2 vMul (e2 vAdd (e2 vAdd (e2 vAdd (e2 vMod (eN vInt (aC (eV 3) (aN))) (eC (.int 2147483629))) (e2 vMul (e2 vMul (eC (.int 7919)) (eV 1)) (eV 1))) (e2 vMul (eC (.int 31)) (eV 1))) (eC (.int 17))) (eC (.int 48271))) (aN))) (eC (.int 2147483647)))) (sRet (eLst (aC (e2 vMul (eV 3) (eN vInt (aC (e2 vGe (eV 3) (e2 vPow (eC (.int 10)) (eC (.int 18)))) (aN)))) (aC (eV 4) (aN))))))))
def m_law_pool_o : FnM := runF 5 [] true b_law_pool_o
theorem s_law_pool_o (F : FK ck dfs K mg) : FnOk PR w K mg base CX0 1 (He.fAd K ("_law_pool", none)) (fdA K ("_law_pool", none)) ["_law_script", "_law_k"] (spG K (TT K) [] [] true 2 m_law_pool_o) := by
  obtain ⟨dvs, kws, FD, _, _, _⟩ := F.c.def_ 0 (d := d_law_pool)
  exact fn_ok (N := N_law_pool) (ps := ["_law_script", "_law_k"]) (k := 0) (mu := mu_law_pool_o) (m := b_law_pool_o) FD sc_law_pool (by decide) (by decide) (by decide) (by decide) rfl (fun cdv A outer s H vs E hr =>
    (ss_cons (ss_set (i := 2) (hN := sc_law_pool.nd) (he := se_int))
    (ss_cons (ss_if (st_cmp o_lt (se_v (i := 1)) (se_callB (hc := c_len) (hm := (F.free 0)) (ha := (sa_cons (se_v (i := 0)) sa_nil)))) (ss_one (ss_set (i := 2) (hN := sc_law_pool.nd) (he := (se_ix (se_v (i := 0)) (se_v (i := 1)))))) ss_nil)
    (ss_cons (ss_set (i := 3) (hN := sc_law_pool.nd) (he := (se_callB (hc := (c_max rfl)) (hm := (F.free 2)) (ha := (sa_cons (se_callTy (hc := c_int) (hm := (F.free 4)) (ha := (sa_cons (se_v (i := 2)) sa_nil))) (sa_cons (se_callTy (hc := c_int) (hm := (F.free 4)) (ha := (sa_cons (se_op o_sub (se_un o_neg se_int) (se_v (i := 2))) sa_nil))) sa_nil))))))
    (ss_cons (ss_set (i := 4) (hN := sc_law_pool.nd) (he := (se_op o_mod (se_callTy (hc := c_int) (hm := (F.free 4)) (ha := (sa_cons (se_op o_mul (se_op o_add (se_op o_add (se_op o_add (se_op o_mod (se_callTy (hc := c_int) (hm := (F.free 4)) (ha := (sa_cons (se_v (i := 3)) sa_nil))) se_int) (se_op o_mul (se_op o_mul se_int (se_v (i := 1))) (se_v (i := 1)))) (se_op o_mul se_int (se_v (i := 1)))) se_int) se_int) sa_nil))) se_int)))
    (ss_one (ss_retO (he := (so_lst (sa_cons (se_op o_mul (se_v (i := 3)) (se_callTy (hc := c_int) (hm := (F.free 4)) (ha := (sa_cons (se_cmp o_ge (se_v (i := 3)) (se_op o_pow se_int se_int)) sa_nil)))) (sa_cons (se_v (i := 4)) sa_nil)))))))))))
abbrev N_law_take : List PySem.Str := ["_law_pool_here", "_law_bound", "_law_result"]
theorem sc_law_take : FnScope N_law_take ["_law_pool_here", "_law_bound"] (defScope (top 26)) := ⟨rfl, rfl, rfl, by decide +kernel, rfl, by decide +kernel, by decide +kernel⟩
def mu_law_take (i : Nat) : Bool := [0].contains i
def b_law_take : SM := sSeq (sIf (tBl (e2 vGt (eIxS 0 (eC (.int 0))) (eC (.int 0)))) (sSeq (sSet 2 (e2 vMod (eN vInt (aC (eIxS 0 (eC (.int 0))) (aN))) (eV 1))) (sSeq (sSetL 0 (e2 vDiv (eIxS 0 (eC (.int 0))) (eV 1)) (eC (.int 0))) (sRet (eV 2)))) (sNil)) (sSeq (sSetL 0 (e2 vMod (eN vInt (aC (e2 vAdd (e2 vMul (eIxS 0 (eC (.int 1))) (eC (.int 39373))) (eC (.int 7))) (aN))) (eC (.int 2147483647))) (eC (.int 1))) (sRet (e2 vMod (eN vInt (aC (e2 vDiv (e2 vMod (eN vInt (aC (e2 vMul (eIxS 0 (eC (.int 1))) (eIxS 0 (eC (.int 1)))) (aN))) (eC (.int 2147483629))) (eC (.int 32))) (aN))) (eV 1))))
def m_law_take : FnM := runF 3 [0] false b_law_take
theorem s_law_take (F : FK ck dfs K mg) : FnOk PR w K mg base CX0 1 (He.fAd K ("_law_take", none)) (fdA K ("_law_take", none)) ["_law_pool_here", "_law_bound"] (spG K (TT K) [0] [] false 2 m_law_take) := by
  obtain ⟨dvs, kws, FD, _, _, _⟩ := F.c.def_ 1 (d := d_law_take)
  exact fn_ok (N := N_law_take) (ps := ["_law_pool_here", "_law_bound"]) (k := 0) (mu := mu_law_take) (m := b_law_take) FD sc_law_take (by decide) (by decide) (by decide) (by decide) rfl (fun cdv A outer s H vs E hr =>
    (ss_cons (ss_if (st_cmp o_gt (se_ixS (slm 0) se_int) se_int) (ss_cons (ss_set (i := 2) (hN := sc_law_take.nd) (he := (se_op o_mod (se_callTy (hc := c_int) (hm := (F.free 4)) (ha := (sa_cons (se_ixS (slm 0) se_int) sa_nil))) (se_v (i := 1)))))
    (ss_cons (ss_setL (k := 0) (s := slm 0) (hv := (se_op o_div (se_ixS (slm 0) se_int) (se_v (i := 1)))) (hb := se_int))
    (ss_one (ss_ret (he := (se_v (i := 2))))))) ss_nil)
    (ss_cons (ss_setL (k := 0) (s := slm 0) (hv := (se_op o_mod (se_callTy (hc := c_int) (hm := (F.free 4)) (ha := (sa_cons (se_op o_add (se_op o_mul (se_ixS (slm 0) se_int) se_int) se_int) sa_nil))) se_int)) (hb := se_int))
    (ss_one (ss_ret (he := (se_op o_mod (se_callTy (hc := c_int) (hm := (F.free 4)) (ha := (sa_cons (se_op o_div (se_op o_mod (se_callTy (hc := c_int) (hm := (F.free 4)) (ha := (sa_cons (se_op o_mul (se_ixS (slm 0) se_int) (se_ixS (slm 0) se_int)) sa_nil))) se_int) se_int) sa_nil))) (se_v (i := 1)))))))))
abbrev N_law_one : List PySem.Str := ["_law_pool_here", "_law_things"]
theorem sc_law_one : FnScope N_law_one ["_law_pool_here", "_law_things"] (defScope (top 27)) := ⟨rfl, rfl, rfl, by decide +kernel, rfl, by decide +kernel, by decide +kernel⟩
def mu_law_one (i : Nat) : Bool := [0].contains i
def b_law_one : SM := sRet (e2 vIx (eV 1) (callM [0] [] m_law_take [] (lI 0 (lC (eN vLen (aC (eV 1) (aN))) (lN)))))
def m_law_one : FnM := runF 2 [0] false b_law_one
theorem s_law_one (F : FK ck dfs K mg) : FnOk PR w K mg base CX0 2 (He.fAd K ("_law_one", none)) (fdA K ("_law_one", none)) ["_law_pool_here", "_law_things"] (spG K (TT K) [0] [] false 2 m_law_one) := by
  obtain ⟨dvs, kws, FD, _, _, _⟩ := F.c.def_ 2 (d := d_law_one)
  exact fn_ok (N := N_law_one) (ps := ["_law_pool_here", "_law_things"]) (k := 1) (mu := mu_law_one) (m := b_law_one) FD sc_law_one (by decide) (by decide) (by decide) (by decide) rfl (fun cdv A outer s H vs E hr =>
    (ss_one (ss_ret (he := (se_ix (se_v (i := 1)) (se_x (sx_call (ro := false) (r := 0) (s_law_take F) (hr.mono (by decide : 1 ≤ 1)) (hm := (F.glo 6)) (hk := (kp_law_take F)) (hb := (bd_law_take F)) (hd := .nil) (hdv := (fun O H => VRs.nil)) (ha := (sl_lend (i := 0) (hr := (sl_cons (se_callB (hc := c_len) (hm := (F.free 0)) (ha := (sa_cons (se_v (i := 1)) sa_nil))) sl_nil)))) (hl := hlo (lnI (lnC lnN)) rfl))))))))
abbrev N_law_turned : List PySem.Str := ["_law_pool_here", "_law_things", "_law_left", "_law_found"]
theorem sc_law_turned : FnScope N_law_turned ["_law_pool_here", "_law_things"] (defScope (top 28)) := ⟨rfl, rfl, rfl, by decide +kernel, rfl, by decide +kernel, by decide +kernel⟩
def mu_law_turned (i : Nat) : Bool := [0, 2, 3].contains i
def b_law_turned : SM := sSeq (sParX true 2 3 (eN vList (aC (eV 1) (aN))) (eLst (aN))) (sSeq (sWh 1000 (tBl (e2L vNe 2 (eLst (aN)))) (sEx (eApp 3 (ePopA 2 (callM [0] [] m_law_take [] (lI 0 (lC (eNS vLen 2) (lN)))))))) (sRet (eMv 3)))
def m_law_turned : FnM := runF 4 [0] false b_law_turned
theorem s_law_turned (F : FK ck dfs K mg) : FnOk PR w K mg base CX0 2 (He.fAd K ("_law_turned", none)) (fdA K ("_law_turned", none)) ["_law_pool_here", "_law_things"] (spG K (TT K) [0] [] false 2 m_law_turned) := by
  obtain ⟨dvs, kws, FD, _, _, _⟩ := F.c.def_ 3 (d := d_law_turned)
  exact fn_ok (N := N_law_turned) (ps := ["_law_pool_here", "_law_things"]) (k := 1) (mu := mu_law_turned) (m := b_law_turned) FD sc_law_turned (by decide) (by decide) (by decide) (by decide) rfl (fun cdv A outer s H vs E hr =>
    (ss_cons (ss_par (ro1 := true) (ro2 := true) (r1 := 1000) (r2 := 1001) (i := 2) (j := 3) (hN := sc_law_turned.nd) (ha := (sx_o (r := 1000) (so_list (hm := (F.free 9)) (ha := (sa_cons (se_v (i := 1)) sa_nil))))) (hb := (sx_o (r := 1001) (so_lst sa_nil))) (m1 := rfl) (m2 := rfl) (hl := (by decide : N_law_turned.length ≤ 1000 ∧ N_law_turned.length ≤ 1001)))
    (ss_cons (ss_while (n := 1000) (hc := (st_cmpL (o_ne (hu20 hr)) (slm 2) (se_lst sa_nil))) (hb := (ss_one (ss_expr (he := (se_app (s := slm 3) (he := (se_popA (s := slm 2) (he := (se_x (sx_call (ro := false) (r := 0) (s_law_take F) (hr.mono (by decide : 1 ≤ 1)) (hm := (F.glo 6)) (hk := (kp_law_take F)) (hb := (bd_law_take F)) (hd := .nil) (hdv := (fun O H => VRs.nil)) (ha := (sl_lend (i := 0) (hr := (sl_cons (se_callBS (hc := c_len) (hm := (F.free 0)) (s := slm 2)) sl_nil)))) (hl := hlo (lnI (lnC lnN)) rfl))))))))))))
    (ss_one (ss_ret (he := (se_mv (i := 3))))))))
abbrev N_law_ways : List PySem.Str := ["_law_pool_here", "_law_lids", "_law_found", "_law_turn"]
theorem sc_law_ways : FnScope N_law_ways ["_law_pool_here", "_law_lids"] (defScope (top 29)) := ⟨rfl, rfl, rfl, by decide +kernel, rfl, by decide +kernel, by decide +kernel⟩
def mu_law_ways (i : Nat) : Bool := [0, 2].contains i
def b_law_ways : SM := sSeq (sSet 2 (eLst (aN))) (sSeq (sFor (iRg (aC (e2 vAdd (eC (.int 1)) (eN vInt (aC (e2 vEq (callM [0] [] m_law_take [] (lI 0 (lC (eC (.int 3)) (lN)))) (eC (.int 0))) (aN)))) (aN))) (gN 3) (sEx (eApp 2 (eN vTuple (aC (eN vSorted (aC (eSl (callM [0] [] m_law_turned [] (lI 0 (lC (eV 1) (lN)))) (oN) (oS (callM [0] [] m_law_take [] (lI 0 (lC (eC (.int 3)) (lN)))))) (aN))) (aN)))))) (sRet (eTpS 2)))
def m_law_ways : FnM := runF 4 [0] false b_law_ways
theorem s_law_ways (F : FK ck dfs K mg) : FnOk PR w K mg base CX0 3 (He.fAd K ("_law_ways", none)) (fdA K ("_law_ways", none)) ["_law_pool_here", "_law_lids"] (spG K (TT K) [0] [] false 2 m_law_ways) := by
  obtain ⟨dvs, kws, FD, _, _, _⟩ := F.c.def_ 4 (d := d_law_ways)
  exact fn_ok (N := N_law_ways) (ps := ["_law_pool_here", "_law_lids"]) (k := 2) (mu := mu_law_ways) (m := b_law_ways) FD sc_law_ways (by decide) (by decide) (by decide) (by decide) rfl (fun cdv A outer s H vs E hr =>
    (ss_cons (ss_setO (i := 2) (r := 1000) (hN := sc_law_ways.nd) (he := (so_lst sa_nil)) (hl := fun σ h => h ▸ (by decide : N_law_ways.length ≤ 1000)))
    (ss_cons (ss_for (ts := [3]) (hi := (si_rg1 (hm := (F.free 3)) (ha := (sa_cons (se_op o_add se_int (se_callTy (hc := c_int) (hm := (F.free 4)) (ha := (sa_cons (se_cmp (o_eq (hu20 hr)) (se_x (sx_call (ro := false) (r := 0) (s_law_take F) (hr.mono (by decide : 1 ≤ 2)) (hm := (F.glo 6)) (hk := (kp_law_take F)) (hb := (bd_law_take F)) (hd := .nil) (hdv := (fun O H => VRs.nil)) (ha := (sl_lend (i := 0) (hr := (sl_cons se_int sl_nil)))) (hl := hlo (lnI (lnC lnN)) rfl))) se_int) sa_nil)))) sa_nil)))) (hg := (sg_n (i := 3) (hN := sc_law_ways.nd))) (hb := (ss_one (ss_expr (he := (se_app (s := slm 2) (he := (se_callTy (hc := c_tuple) (hm := (F.free 12)) (ha := (sa_cons (se_callB (hc := c_sorted) (hm := (F.free 11)) (ha := (sa_cons (se_sl (se_x (sx_call (ro := false) (r := 0) (s_law_turned F) (hr.mono (by decide : 2 ≤ 2)) (hm := (F.glo 10)) (hk := (kp_law_turned F)) (hb := (bd_law_turned F)) (hd := .nil) (hdv := (fun O H => VRs.nil)) (ha := (sl_lend (i := 0) (hr := (sl_cons (se_v (i := 1)) sl_nil)))) (hl := hlo (lnI (lnC lnN)) rfl))) som_n (som_s (se_x (sx_call (ro := false) (r := 0) (s_law_take F) (hr.mono (by decide : 1 ≤ 2)) (hm := (F.glo 6)) (hk := (kp_law_take F)) (hb := (bd_law_take F)) (hd := .nil) (hdv := (fun O H => VRs.nil)) (ha := (sl_lend (i := 0) (hr := (sl_cons se_int sl_nil)))) (hl := hlo (lnI (lnC lnN)) rfl))))) sa_nil))) sa_nil))))))))))
    (ss_one (ss_ret (he := (se_tpS (hm := (F.free 12)) (s := slm 2))))))))
abbrev N_law_due : List PySem.Str := ["_law_pool_here", "_law_kinds"]
theorem sc_law_due : FnScope N_law_due ["_law_pool_here", "_law_kinds"] (defScope (top 30)) := ⟨rfl, rfl, rfl, by decide +kernel, rfl, by decide +kernel, by decide +kernel⟩
def mu_law_due (i : Nat) : Bool := [0].contains i
def b_law_due : SM := sSeq (sIf (tAn (tBl (e2 vNe (eV 1) (eLst (aN)))) (tBl (e2 vEq (callM [0] [] m_law_take [] (lI 0 (lC (eC (.int 3)) (lN)))) (eC (.int 0))))) (sRet (eTup (aC (e2 vIx (e2 vIx (eV 1) (eC (.int 0))) (eC (.int 0))) (aC (eTup (aC (callM [0] [] m_law_one [] (lI 0 (lC (e2 vIx (e2 vIx (eV 1) (eC (.int 0))) (eC (.int 1))) (lN)))) (aN))) (aN))))) (sNil)) (sRet (eIf (tBl (e2 vEq (callM [0] [] m_law_take [] (lI 0 (lC (eC (.int 6)) (lN)))) (eC (.int 0)))) (eC (.str [110, 101, 118, 101, 114])) (eC (.str [97, 108, 119, 97, 121, 115]))))
def m_law_due : FnM := runF 2 [0] false b_law_due
theorem s_law_due (F : FK ck dfs K mg) : FnOk PR w K mg base CX0 3 (He.fAd K ("_law_due", none)) (fdA K ("_law_due", none)) ["_law_pool_here", "_law_kinds"] (spG K (TT K) [0] [] false 2 m_law_due) := by
  obtain ⟨dvs, kws, FD, _, _, _⟩ := F.c.def_ 5 (d := d_law_due)
  exact fn_ok (N := N_law_due) (ps := ["_law_pool_here", "_law_kinds"]) (k := 2) (mu := mu_law_due) (m := b_law_due) FD sc_law_due (by decide) (by decide) (by decide) (by decide) rfl (fun cdv A outer s H vs E hr =>
    (ss_cons (ss_if (st_w (sw_and (st_cmp (o_ne (hu20 hr)) (se_v (i := 1)) (se_lst sa_nil)) (sw_and1 (st_cmp (o_eq (hu20 hr)) (se_x (sx_call (ro := false) (r := 0) (s_law_take F) (hr.mono (by decide : 1 ≤ 2)) (hm := (F.glo 6)) (hk := (kp_law_take F)) (hb := (bd_law_take F)) (hd := .nil) (hdv := (fun O H => VRs.nil)) (ha := (sl_lend (i := 0) (hr := (sl_cons se_int sl_nil)))) (hl := hlo (lnI (lnC lnN)) rfl))) se_int)))) (ss_one (ss_ret (he := (se_tup (sa_cons (se_ix (se_ix (se_v (i := 1)) se_int) se_int) (sa_cons (se_tup (sa_cons (se_x (sx_call (ro := false) (r := 0) (s_law_one F) (hr.mono (by decide : 2 ≤ 2)) (hm := (F.glo 7)) (hk := (kp_law_one F)) (hb := (bd_law_one F)) (hd := .nil) (hdv := (fun O H => VRs.nil)) (ha := (sl_lend (i := 0) (hr := (sl_cons (se_ix (se_ix (se_v (i := 1)) se_int) se_int) sl_nil)))) (hl := hlo (lnI (lnC lnN)) rfl))) sa_nil)) sa_nil)))))) ss_nil)
    (ss_one (ss_ret (he := (se_if (st_cmp (o_eq (hu20 hr)) (se_x (sx_call (ro := false) (r := 0) (s_law_take F) (hr.mono (by decide : 1 ≤ 2)) (hm := (F.glo 6)) (hk := (kp_law_take F)) (hb := (bd_law_take F)) (hd := .nil) (hdv := (fun O H => VRs.nil)) (ha := (sl_lend (i := 0) (hr := (sl_cons se_int sl_nil)))) (hl := hlo (lnI (lnC lnN)) rfl))) se_int) (se_str (by decide +kernel)) (se_str (by decide +kernel))))))))
abbrev N_law_deeds : List PySem.Str := ["_law_box_here", "_law_found", "_law_part", "_law_fastening", "_law_tool"]
theorem sc_law_deeds : FnScope N_law_deeds ["_law_box_here"] (defScope (top 32)) := ⟨rfl, rfl, rfl, by decide +kernel, rfl, by decide +kernel, by decide +kernel⟩
def mu_law_deeds (i : Nat) : Bool := [2000000].contains i
def b_law_deeds : SM := sSeq (sSet 1 (eLst (aN))) (sSeq (sFor (iIt (eIxD 0 (eC (.str [112, 97, 114, 116, 115])))) (gN 2) (sSet 1 (e2 vAdd (eV 1) (eLst (aC (eTup (aC (eC (.str [112, 117, 116])) (aC (e2 vIx (eV 2) (eC (.int 0))) (aN)))) (aC (eTup (aC (eC (.str [116, 97, 107, 101])) (aC (e2 vIx (eV 2) (eC (.int 0))) (aN)))) (aC (eTup (aC (eC (.str [108, 111, 111, 107])) (aC (e2 vIx (eV 2) (eC (.int 0))) (aN)))) (aN)))))))) (sSeq (sFor (iIt (eIxD 0 (eC (.str [102, 97, 115, 116, 101, 110, 105, 110, 103, 115])))) (gN 3) (sSet 1 (e2 vAdd (eV 1) (eLst (aC (eTup (aC (eC (.str [116, 117, 114, 110])) (aC (e2 vIx (eV 3) (eC (.int 0))) (aN)))) (aC (eTup (aC (eC (.str [108, 111, 111, 115, 101, 110])) (aC (e2 vIx (eV 3) (eC (.int 0))) (aN)))) (aN))))))) (sSeq (sFor (iIt (eIxD 0 (eC (.str [116, 111, 111, 108, 115])))) (gN 4) (sSet 1 (e2 vAdd (eV 1) (eLst (aC (eTup (aC (eC (.str [111, 110])) (aC (e2 vIx (eV 4) (eC (.int 0))) (aN)))) (aC (eTup (aC (eC (.str [111, 102, 102])) (aC (e2 vIx (eV 4) (eC (.int 0))) (aN)))) (aN))))))) (sRet (eV 1)))))
def m_law_deeds : FnM := runF 5 [] false b_law_deeds
theorem s_law_deeds (F : FK ck dfs K mg) : FnOk PR w K mg base CX0 1 (He.fAd K ("_law_deeds", none)) (fdA K ("_law_deeds", none)) ["_law_box_here"] (spG K (TT K) [] [0] false 1 m_law_deeds) := by
  obtain ⟨dvs, kws, FD, _, _, _⟩ := F.c.def_ 6 (d := d_law_deeds)
  exact fn_ok (N := N_law_deeds) (ps := ["_law_box_here"]) (k := 0) (mu := mu_law_deeds) (m := b_law_deeds) FD sc_law_deeds (by decide) (by decide) (by decide) (by decide) rfl (fun cdv A outer s H vs E hr =>
    (ss_cons (ss_set (i := 1) (hN := sc_law_deeds.nd) (he := (se_lst sa_nil)))
    (ss_cons (ss_for (ts := [2]) (hi := (si_it (se_ixD (fun _ _ z => z) (hu1 hr) (slm 0) (se_str (by decide +kernel))))) (hg := (sg_n (i := 2) (hN := sc_law_deeds.nd))) (hb := (ss_one (ss_set (i := 1) (hN := sc_law_deeds.nd) (he := (se_op o_add (se_v (i := 1)) (se_lst (sa_cons (se_tup (sa_cons (se_str (by decide +kernel)) (sa_cons (se_ix (se_v (i := 2)) se_int) sa_nil))) (sa_cons (se_tup (sa_cons (se_str (by decide +kernel)) (sa_cons (se_ix (se_v (i := 2)) se_int) sa_nil))) (sa_cons (se_tup (sa_cons (se_str (by decide +kernel)) (sa_cons (se_ix (se_v (i := 2)) se_int) sa_nil))) sa_nil))))))))))
    (ss_cons (ss_for (ts := [3]) (hi := (si_it (se_ixD (fun _ _ z => z) (hu1 hr) (slm 0) (se_str (by decide +kernel))))) (hg := (sg_n (i := 3) (hN := sc_law_deeds.nd))) (hb := (ss_one (ss_set (i := 1) (hN := sc_law_deeds.nd) (he := (se_op o_add (se_v (i := 1)) (se_lst (sa_cons (se_tup (sa_cons (se_str (by decide +kernel)) (sa_cons (se_ix (se_v (i := 3)) se_int) sa_nil))) (sa_cons (se_tup (sa_cons (se_str (by decide +kernel)) (sa_cons (se_ix (se_v (i := 3)) se_int) sa_nil))) sa_nil)))))))))
    (ss_cons (ss_for (ts := [4]) (hi := (si_it (se_ixD (fun _ _ z => z) (hu1 hr) (slm 0) (se_str (by decide +kernel))))) (hg := (sg_n (i := 4) (hN := sc_law_deeds.nd))) (hb := (ss_one (ss_set (i := 1) (hN := sc_law_deeds.nd) (he := (se_op o_add (se_v (i := 1)) (se_lst (sa_cons (se_tup (sa_cons (se_str (by decide +kernel)) (sa_cons (se_ix (se_v (i := 4)) se_int) sa_nil))) (sa_cons (se_tup (sa_cons (se_str (by decide +kernel)) (sa_cons (se_ix (se_v (i := 4)) se_int) sa_nil))) sa_nil)))))))))
    (ss_one (ss_ret (he := (se_v (i := 1))))))))))
abbrev N_law_box : List PySem.Str := ["_law_pool_here", "_law_many_parts", "_law_many_fastenings", "_law_many_tools", "_law_many_variants", "_law_names", "_law_kinds", "_law_parts", "_law_spot", "_law_name", "_law_ways_here", "_law_needs", "_law_fastenings", "_law_holds", "_law_tools", "_law_box_here", "_law_some", "_law_fastening", "_law_deed"]
theorem sc_law_box : FnScope N_law_box ["_law_pool_here", "_law_many_parts", "_law_many_fastenings", "_law_many_tools", "_law_many_variants"] (defScope (top 31)) := ⟨rfl, rfl, rfl, by decide +kernel, rfl, by decide +kernel, by decide +kernel⟩
def mu_law_box (i : Nat) : Bool := [0, 7, 12, 15].contains i
def b_law_box : SM := sSeq (sSet 5 (callM [0] [] m_law_one [] (lI 0 (lC (eLst (aC (eLst (aC (eC (.str [99, 97, 112])) (aC (eC (.str [108, 105, 100])) (aC (eC (.str [112, 105, 110])) (aC (eC (.str [114, 111, 100])) (aN)))))) (aC (eLst (aC (eC (.str [100])) (aC (eC (.str [99])) (aC (eC (.str [98])) (aC (eC (.str [97])) (aN)))))) (aN)))) (lN))))) (sSeq (sSet 5 (eSl (eV 5) (oN) (oS (e2 vAdd (eC (.int 2)) (callM [0] [] m_law_take [] (lI 0 (lC (e2 vSub (eV 1) (eC (.int 1))) (lN)))))))) (sSeq (sSet 6 (eSl (eLst (aC (eTup (aC (eC (.str [107, 105, 110, 100])) (aC (eTup (aC (eC (.str [120])) (aC (eC (.str [121])) (aN)))) (aN)))) (aN))) (oN) (oS (callM [0] [] m_law_take [] (lI 0 (lC (e2 vAdd (eV 4) (eC (.int 1))) (lN))))))) (sSeq (sSet 7 (eLst (aN))) (sSeq (sFor (iEn (aC (eV 5) (aN))) (gT [gN 8, gN 9]) (sSeq (sParX false 10 11 (callM [0] [] m_law_ways [] (lI 0 (lC (eSl (eV 5) (oS (e2 vAdd (eV 8) (eC (.int 1)))) (oN)) (lN)))) (e2 vEq (callM [0] [] m_law_take [] (lI 0 (lC (eC (.int 2)) (lN)))) (eC (.int 0)))) (sEx (eApp 7 (eTup (aC (eV 9) (aC (eV 10) (aC (eV 11) (aC (callM [0] [] m_law_due [] (lI 0 (lC (eV 6) (lN)))) (aN)))))))))) (sSeq (sSet 12 (eLst (aN))) (sSeq (sFor (iIt (eSl (eLst (aC (eC (.str [110, 117, 116])) (aC (eC (.str [98, 111, 108, 116])) (aN)))) (oN) (oS (callM [0] [] m_law_take [] (lI 0 (lC (e2 vAdd (eV 2) (eC (.int 1))) (lN))))))) (gN 9) (sSeq (sSet 13 (eN vTuple (aC (eSl (callM [0] [] m_law_turned [] (lI 0 (lC (eV 5) (lN)))) (oN) (oS (e2 vAdd (eC (.int 1)) (callM [0] [] m_law_take [] (lI 0 (lC (eC (.int 2)) (lN))))))) (aN)))) (sEx (eApp 12 (eTup (aC (eV 9) (aC (eV 13) (aC (e2 vAdd (eC (.int 1)) (callM [0] [] m_law_take [] (lI 0 (lC (eC (.int 2)) (lN))))) (aC (callM [0] [] m_law_ways [] (lI 0 (lC (eV 5) (lN)))) (aN)))))))))) (sSeq (sSet 14 (eLc [9] (iIt (eSl (eLst (aC (eC (.str [106, 105, 103])) (aN))) (oN) (oS (callM [0] [] m_law_take [] (lI 0 (lC (e2 vAdd (eV 3) (eC (.int 1))) (lN))))))) (gN 9) (tTrue) (eTup (aC (eV 9) (aC (callM [0] [] m_law_ways [] (lI 0 (lC (eV 5) (lN)))) (aN)))))) (sSeq (sSet 15 (eDisp (dC (eC (.str [112, 97, 114, 116, 115])) (eMv 7) (dC (eC (.str [102, 97, 115, 116, 101, 110, 105, 110, 103, 115])) (eMv 12) (dC (eC (.str [116, 111, 111, 108, 115])) (eV 14) (dC (eC (.str [108, 111, 111, 115, 101, 110, 105, 110, 103, 115])) (eLst (aN)) (dN))))))) (sSeq (sPutD 15 (eV 6) (eC (.str [118, 97, 114, 105, 97, 110, 116, 115]))) (sSeq (sSet 16 (eLc [18] (iIt (callM [] [0] m_law_deeds [] (lB 15 (lN)))) (gN 18) (tBl (e2 vIn (e2 vIx (eV 18) (eC (.int 0))) (eLst (aC (eC (.str [112, 117, 116])) (aC (eC (.str [116, 97, 107, 101])) (aC (eC (.str [116, 117, 114, 110])) (aC (eC (.str [111, 110])) (aC (eC (.str [111, 102, 102])) (aN))))))))) (eV 18))) (sSeq (sFor (iIt (eMv 12)) (gN 17) (sIf (tBl (e2 vEq (callM [0] [] m_law_take [] (lI 0 (lC (eC (.int 2)) (lN)))) (eC (.int 0)))) (sPutD 15 (e2 vAdd (eIxD 15 (eC (.str [108, 111, 111, 115, 101, 110, 105, 110, 103, 115]))) (eLst (aC (eTup (aC (callM [0] [] m_law_one [] (lI 0 (lC (eV 16) (lN)))) (aC (e2 vIx (eV 17) (eC (.int 0))) (aN)))) (aN)))) (eC (.str [108, 111, 111, 115, 101, 110, 105, 110, 103, 115]))) (sNil))) (sRet (eMv 15)))))))))))))
def m_law_box : FnM := runF 19 [0] false b_law_box
theorem s_law_box (F : FK ck dfs K mg) : FnOk PR w K mg base CX0 4 (He.fAd K ("_law_box", none)) (fdA K ("_law_box", none)) ["_law_pool_here", "_law_many_parts", "_law_many_fastenings", "_law_many_tools", "_law_many_variants"] (spG K (TT K) [0] [] false 5 m_law_box) := by
  obtain ⟨dvs, kws, FD, _, _, _⟩ := F.c.def_ 7 (d := d_law_box)
  exact fn_ok (N := N_law_box) (ps := ["_law_pool_here", "_law_many_parts", "_law_many_fastenings", "_law_many_tools", "_law_many_variants"]) (k := 3) (mu := mu_law_box) (m := b_law_box) FD sc_law_box (by decide) (by decide) (by decide) (by decide) rfl (fun cdv A outer s H vs E hr =>
    (ss_cons (ss_set (i := 5) (hN := sc_law_box.nd) (he := (se_x (sx_call (ro := false) (r := 0) (s_law_one F) (hr.mono (by decide : 2 ≤ 3)) (hm := (F.glo 7)) (hk := (kp_law_one F)) (hb := (bd_law_one F)) (hd := .nil) (hdv := (fun O H => VRs.nil)) (ha := (sl_lend (i := 0) (hr := (sl_cons (se_lst (sa_cons (se_lst (sa_cons (se_str (by decide +kernel)) (sa_cons (se_str (by decide +kernel)) (sa_cons (se_str (by decide +kernel)) (sa_cons (se_str (by decide +kernel)) sa_nil))))) (sa_cons (se_lst (sa_cons (se_str (by decide +kernel)) (sa_cons (se_str (by decide +kernel)) (sa_cons (se_str (by decide +kernel)) (sa_cons (se_str (by decide +kernel)) sa_nil))))) sa_nil))) sl_nil)))) (hl := hlo (lnI (lnC lnN)) rfl)))))
    (ss_cons (ss_set (i := 5) (hN := sc_law_box.nd) (he := (se_sl (se_v (i := 5)) som_n (som_s (se_op o_add se_int (se_x (sx_call (ro := false) (r := 0) (s_law_take F) (hr.mono (by decide : 1 ≤ 3)) (hm := (F.glo 6)) (hk := (kp_law_take F)) (hb := (bd_law_take F)) (hd := .nil) (hdv := (fun O H => VRs.nil)) (ha := (sl_lend (i := 0) (hr := (sl_cons (se_op o_sub (se_v (i := 1)) se_int) sl_nil)))) (hl := hlo (lnI (lnC lnN)) rfl))))))))
    (ss_cons (ss_set (i := 6) (hN := sc_law_box.nd) (he := (se_sl (se_lst (sa_cons (se_tup (sa_cons (se_str (by decide +kernel)) (sa_cons (se_tup (sa_cons (se_str (by decide +kernel)) (sa_cons (se_str (by decide +kernel)) sa_nil))) sa_nil))) sa_nil)) som_n (som_s (se_x (sx_call (ro := false) (r := 0) (s_law_take F) (hr.mono (by decide : 1 ≤ 3)) (hm := (F.glo 6)) (hk := (kp_law_take F)) (hb := (bd_law_take F)) (hd := .nil) (hdv := (fun O H => VRs.nil)) (ha := (sl_lend (i := 0) (hr := (sl_cons (se_op o_add (se_v (i := 4)) se_int) sl_nil)))) (hl := hlo (lnI (lnC lnN)) rfl)))))))
    (ss_cons (ss_setO (i := 7) (r := 1000) (hN := sc_law_box.nd) (he := (so_lst sa_nil)) (hl := fun σ h => h ▸ (by decide : N_law_box.length ≤ 1000)))
    (ss_cons (ss_for (ts := [8, 9]) (hi := (si_en (hm := (F.free 8)) (ha := (sa_cons (se_v (i := 5)) sa_nil)))) (hg := (sg_t (h := (sgs_cons (sg_n (i := 8) (hN := sc_law_box.nd)) (sgs_cons (sg_n (i := 9) (hN := sc_law_box.nd)) sgs_nil))))) (hb := (ss_cons (ss_par (ro1 := false) (ro2 := false) (r1 := 1000) (r2 := 1001) (i := 10) (j := 11) (hN := sc_law_box.nd) (ha := (sx_e (r := 1000) (se_x (sx_call (ro := false) (r := 0) (s_law_ways F) (hr.mono (by decide : 3 ≤ 3)) (hm := (F.glo 13)) (hk := (kp_law_ways F)) (hb := (bd_law_ways F)) (hd := .nil) (hdv := (fun O H => VRs.nil)) (ha := (sl_lend (i := 0) (hr := (sl_cons (se_sl (se_v (i := 5)) (som_s (se_op o_add (se_v (i := 8)) se_int)) som_n) sl_nil)))) (hl := hlo (lnI (lnC lnN)) rfl))))) (hb := (sx_e (r := 1001) (se_cmp (o_eq (hu20 hr)) (se_x (sx_call (ro := false) (r := 0) (s_law_take F) (hr.mono (by decide : 1 ≤ 3)) (hm := (F.glo 6)) (hk := (kp_law_take F)) (hb := (bd_law_take F)) (hd := .nil) (hdv := (fun O H => VRs.nil)) (ha := (sl_lend (i := 0) (hr := (sl_cons se_int sl_nil)))) (hl := hlo (lnI (lnC lnN)) rfl))) se_int))) (m1 := rfl) (m2 := rfl) (hl := (by decide : N_law_box.length ≤ 1000 ∧ N_law_box.length ≤ 1001)))
    (ss_one (ss_expr (he := (se_app (s := slm 7) (he := (se_tup (sa_cons (se_v (i := 9)) (sa_cons (se_v (i := 10)) (sa_cons (se_v (i := 11)) (sa_cons (se_x (sx_call (ro := false) (r := 0) (s_law_due F) (hr.mono (by decide : 3 ≤ 3)) (hm := (F.glo 14)) (hk := (kp_law_due F)) (hb := (bd_law_due F)) (hd := .nil) (hdv := (fun O H => VRs.nil)) (ha := (sl_lend (i := 0) (hr := (sl_cons (se_v (i := 6)) sl_nil)))) (hl := hlo (lnI (lnC lnN)) rfl))) sa_nil)))))))))))))
    (ss_cons (ss_setO (i := 12) (r := 1000) (hN := sc_law_box.nd) (he := (so_lst sa_nil)) (hl := fun σ h => h ▸ (by decide : N_law_box.length ≤ 1000)))
    (ss_cons (ss_for (ts := [9]) (hi := (si_it (se_sl (se_lst (sa_cons (se_str (by decide +kernel)) (sa_cons (se_str (by decide +kernel)) sa_nil))) som_n (som_s (se_x (sx_call (ro := false) (r := 0) (s_law_take F) (hr.mono (by decide : 1 ≤ 3)) (hm := (F.glo 6)) (hk := (kp_law_take F)) (hb := (bd_law_take F)) (hd := .nil) (hdv := (fun O H => VRs.nil)) (ha := (sl_lend (i := 0) (hr := (sl_cons (se_op o_add (se_v (i := 2)) se_int) sl_nil)))) (hl := hlo (lnI (lnC lnN)) rfl))))))) (hg := (sg_n (i := 9) (hN := sc_law_box.nd))) (hb := (ss_cons (ss_set (i := 13) (hN := sc_law_box.nd) (he := (se_callTy (hc := c_tuple) (hm := (F.free 12)) (ha := (sa_cons (se_sl (se_x (sx_call (ro := false) (r := 0) (s_law_turned F) (hr.mono (by decide : 2 ≤ 3)) (hm := (F.glo 10)) (hk := (kp_law_turned F)) (hb := (bd_law_turned F)) (hd := .nil) (hdv := (fun O H => VRs.nil)) (ha := (sl_lend (i := 0) (hr := (sl_cons (se_v (i := 5)) sl_nil)))) (hl := hlo (lnI (lnC lnN)) rfl))) som_n (som_s (se_op o_add se_int (se_x (sx_call (ro := false) (r := 0) (s_law_take F) (hr.mono (by decide : 1 ≤ 3)) (hm := (F.glo 6)) (hk := (kp_law_take F)) (hb := (bd_law_take F)) (hd := .nil) (hdv := (fun O H => VRs.nil)) (ha := (sl_lend (i := 0) (hr := (sl_cons se_int sl_nil)))) (hl := hlo (lnI (lnC lnN)) rfl)))))) sa_nil)))))
    (ss_one (ss_expr (he := (se_app (s := slm 12) (he := (se_tup (sa_cons (se_v (i := 9)) (sa_cons (se_v (i := 13)) (sa_cons (se_op o_add se_int (se_x (sx_call (ro := false) (r := 0) (s_law_take F) (hr.mono (by decide : 1 ≤ 3)) (hm := (F.glo 6)) (hk := (kp_law_take F)) (hb := (bd_law_take F)) (hd := .nil) (hdv := (fun O H => VRs.nil)) (ha := (sl_lend (i := 0) (hr := (sl_cons se_int sl_nil)))) (hl := hlo (lnI (lnC lnN)) rfl)))) (sa_cons (se_x (sx_call (ro := false) (r := 0) (s_law_ways F) (hr.mono (by decide : 3 ≤ 3)) (hm := (F.glo 13)) (hk := (kp_law_ways F)) (hb := (bd_law_ways F)) (hd := .nil) (hdv := (fun O H => VRs.nil)) (ha := (sl_lend (i := 0) (hr := (sl_cons (se_v (i := 5)) sl_nil)))) (hl := hlo (lnI (lnC lnN)) rfl))) sa_nil)))))))))))))
    (ss_cons (ss_setLc (i0 := 14) (own := [("_law_name", 9)]) (ts := [9]) (hN := sc_law_box.nd) (hi := (si_it (se_sl (se_lst (sa_cons (se_str (by decide +kernel)) sa_nil)) som_n (som_s (se_x (sx_call (ro := false) (r := 0) (s_law_take F) (hr.mono (by decide : 1 ≤ 3)) (hm := (F.glo 6)) (hk := (kp_law_take F)) (hb := (bd_law_take F)) (hd := .nil) (hdv := (fun O H => VRs.nil)) (ha := (sl_lend (i := 0) (hr := (sl_cons (se_op o_add (se_v (i := 3)) se_int) sl_nil)))) (hl := hlo (lnI (lnC lnN)) rfl))))))) (ok := blkOk_by (by rfl)) (hg := fun s H C cl fp => (sg_n (i := 9) (hN := sc_law_box.nd))) (ht := fun s H C cl fp => sts_nil) (he := fun s H C cl fp => (se_tup (sa_cons (se_v (i := 9)) (sa_cons (se_x (sx_call (ro := false) (r := 0) (s_law_ways F) (hr.mono (by decide : 3 ≤ 3)) (hm := (F.glo 13)) (hk := (kp_law_ways F)) (hb := (bd_law_ways F)) (hd := .nil) (hdv := (fun O H => VRs.nil)) (ha := (sl_lend (i := 0) (hr := (sl_cons (se_v (i := 5)) sl_nil)))) (hl := hlo (lnI (lnC lnN)) rfl))) sa_nil)))))
    (ss_cons (ss_setO (i := 15) (r := 1000) (hN := sc_law_box.nd) (he := (so_x (sx_disp (ro := true) (r := 1000) (SPs.cons (se_str (by decide +kernel)) (se_mv (i := 7)) (SPs.cons (se_str (by decide +kernel)) (se_mv (i := 12)) (SPs.cons (se_str (by decide +kernel)) (se_v (i := 14)) (SPs.cons (se_str (by decide +kernel)) (se_lst sa_nil) SPs.nil)))) rfl rfl (List.cons_ne_nil _ _) (by decide)))) (hl := fun σ h => h ▸ (by decide : N_law_box.length ≤ 1000)))
    (ss_cons (ss_putD (hu1 hr) (s := slm 15) (hv := (se_v (i := 6))) (hb := (se_str (by decide +kernel))))
    (ss_cons (ss_setLc (i0 := 16) (own := [("_law_deed", 18)]) (ts := [18]) (hN := sc_law_box.nd) (hi := (si_it (se_x (sx_call (ro := false) (r := 0) (s_law_deeds F) (hr.mono (by decide : 1 ≤ 3)) (hm := (F.glo 15)) (hk := (kp_law_deeds F)) (hb := (bd_law_deeds F)) (hd := .nil) (hdv := (fun O H => VRs.nil)) (ha := (sl_bor (i := 15) (hr := sl_nil))) (hl := hlo (lnB lnN) rfl))))) (ok := blkOk_by (by rfl)) (hg := fun s H C cl fp => (sg_n (i := 18) (hN := sc_law_box.nd))) (ht := fun s H C cl fp => (sts_one (st_cmp (o_in (hu21 hr)) (se_ix (se_v (i := 18)) se_int) (se_lst (sa_cons (se_str (by decide +kernel)) (sa_cons (se_str (by decide +kernel)) (sa_cons (se_str (by decide +kernel)) (sa_cons (se_str (by decide +kernel)) (sa_cons (se_str (by decide +kernel)) sa_nil))))))))) (he := fun s H C cl fp => (se_v (i := 18))))
    (ss_cons (ss_for (ts := [17]) (hi := (si_it (se_mv (i := 12)))) (hg := (sg_n (i := 17) (hN := sc_law_box.nd))) (hb := (ss_one (ss_if (st_cmp (o_eq (hu20 hr)) (se_x (sx_call (ro := false) (r := 0) (s_law_take F) (hr.mono (by decide : 1 ≤ 3)) (hm := (F.glo 6)) (hk := (kp_law_take F)) (hb := (bd_law_take F)) (hd := .nil) (hdv := (fun O H => VRs.nil)) (ha := (sl_lend (i := 0) (hr := (sl_cons se_int sl_nil)))) (hl := hlo (lnI (lnC lnN)) rfl))) se_int) (ss_one (ss_putD (hu1 hr) (s := slm 15) (hv := (se_op o_add (se_ixD (fun _ _ z => z) (hu1 hr) (slm 15) (se_str (by decide +kernel))) (se_lst (sa_cons (se_tup (sa_cons (se_x (sx_call (ro := false) (r := 0) (s_law_one F) (hr.mono (by decide : 2 ≤ 3)) (hm := (F.glo 7)) (hk := (kp_law_one F)) (hb := (bd_law_one F)) (hd := .nil) (hdv := (fun O H => VRs.nil)) (ha := (sl_lend (i := 0) (hr := (sl_cons (se_v (i := 16)) sl_nil)))) (hl := hlo (lnI (lnC lnN)) rfl))) (sa_cons (se_ix (se_v (i := 17)) se_int) sa_nil))) sa_nil)))) (hb := (se_str (by decide +kernel))))) ss_nil))))
    (ss_one (ss_ret (he := (se_mv (i := 15))))))))))))))))))
abbrev N_law_lists : List PySem.Str := ["_law_ways_here", "_law_way"]
theorem sc_law_lists : FnScope N_law_lists ["_law_ways_here"] (defScope (top 35)) := ⟨rfl, rfl, rfl, by decide +kernel, rfl, by decide +kernel, by decide +kernel⟩
def mu_law_lists_o (i : Nat) : Bool := [1000000].contains i
def b_law_lists_o : SM := sRet (eLc [1] (iIt (eV 0)) (gN 1) (tTrue) (eN vList (aC (eV 1) (aN))))
def m_law_lists_o : FnM := runF 2 [] true b_law_lists_o
theorem s_law_lists_o (F : FK ck dfs K mg) : FnOk PR w K mg base CX0 1 (He.fAd K ("_law_lists", none)) (fdA K ("_law_lists", none)) ["_law_ways_here"] (spG K (TT K) [] [] true 1 m_law_lists_o) := by
  obtain ⟨dvs, kws, FD, _, _, _⟩ := F.c.def_ 8 (d := d_law_lists)
  exact fn_ok (N := N_law_lists) (ps := ["_law_ways_here"]) (k := 0) (mu := mu_law_lists_o) (m := b_law_lists_o) FD sc_law_lists (by decide) (by decide) (by decide) (by decide) rfl (fun cdv A outer s H vs E hr =>
    (ss_one (ss_retO (he := (so_lc (own := [("_law_way", 1)]) (ts := [1]) (hN := sc_law_lists.nd) (hi := (si_it (se_v (i := 0)))) (ok := blkOk_by (by rfl)) (hg := fun s H C cl fp => (sg_n (i := 1) (hN := sc_law_lists.nd))) (ht := fun s H C cl fp => sts_nil) (he := fun s H C cl fp => (se_callTy (hc := c_list) (hm := (F.free 9)) (ha := (sa_cons (se_v (i := 1)) sa_nil)))))))))
abbrev N_is_row : List PySem.Str := ["value"]
theorem sc_is_row : FnScope N_is_row ["value"] (defScope (top 10)) := ⟨rfl, rfl, rfl, by decide +kernel, rfl, by decide +kernel, by decide +kernel⟩
def mu_is_row (i : Nat) : Bool := [2000000].contains i
def b_is_row : SM := sRet (eIsS (isA ["list", "tuple"] [] 5) 0)
def m_is_row : FnM := runF 1 [] false b_is_row
theorem s_is_row (F : FK ck dfs K mg) : FnOk PR w K mg base CX0 1 (He.fAd K ("is_row", none)) (fdA K ("is_row", none)) ["value"] (spG K (TT K) [] [0] false 1 m_is_row) := by
  obtain ⟨dvs, kws, FD, _, _, _⟩ := F.c.def_ 9 (d := d_is_row)
  exact fn_ok (N := N_is_row) (ps := ["value"]) (k := 0) (mu := mu_is_row) (m := b_is_row) FD sc_is_row (by decide) (by decide) (by decide) (by decide) rfl (fun cdv A outer s H vs E hr =>
    (ss_one (ss_ret (he := (se_isTS (insI F) (isAB_ok (F.c.fact 22)) (hm := (F.free 20)) (s := (slm 0)) (hc := (pcs_cons (pe_bltn (v := .ty "list") rfl (F.free 9) (by first | rfl | decide +kernel) rfl) (pcs_cons (pe_bltn (v := .ty "tuple") rfl (F.free 12) (by first | rfl | decide +kernel) rfl) pcs_nil))) (hl := by decide) (hk := (.cons (ClsV.ty _) (.cons (ClsV.ty _) .nil))))))))
abbrev N_is_word : List PySem.Str := ["value", "sign"]
theorem sc_is_word : FnScope N_is_word ["value"] (defScope (top 9)) := ⟨rfl, rfl, rfl, by decide +kernel, rfl, by decide +kernel, by decide +kernel⟩
def mu_is_word (i : Nat) : Bool := [].contains i
def b_is_word : SM := sSeq (sIf (tOr (tNo (tV (eIs (isA ["str"] [] 5) (eV 0)))) (tNo (tBl (eCh vLe vLe (eC (.int 1)) (eN vLen (aC (eV 0) (aN))) (eC (.int 8)))))) (sRet (eC (.bl false))) (sNil)) (sRet (eN vAll (aC (eLc [1] (iIt (eV 0)) (gN 1) (tTrue) (e2 vIn (eV 1) (eC (.str [97, 98, 99, 100, 101, 102, 103, 104, 105, 106, 107, 108, 109, 110, 111, 112, 113, 114, 115, 116, 117, 118, 119, 120, 121, 122])))) (aN))))
def m_is_word : FnM := runF 2 [] false b_is_word
theorem s_is_word (F : FK ck dfs K mg) : FnOk PR w K mg base CX0 1 (He.fAd K ("is_word", none)) (fdA K ("is_word", none)) ["value"] (spG K (TT K) [] [] false 1 m_is_word) := by
  obtain ⟨dvs, kws, FD, _, _, _⟩ := F.c.def_ 10 (d := d_is_word)
  exact fn_ok (N := N_is_word) (ps := ["value"]) (k := 0) (mu := mu_is_word) (m := b_is_word) FD sc_is_word (by decide) (by decide) (by decide) (by decide) rfl (fun cdv A outer s H vs E hr =>
    (ss_cons (ss_if (st_w (sw_or (st_not (st_v (se_is (insI F) (isAB_one (F.c.fact 25)) (hm := (F.free 20)) (ha := (se_v (i := 0))) (hc := (pe_bltn (v := .ty "str") rfl (F.free 26) (by first | rfl | decide +kernel) rfl)) (hk := (ClsV.ty _))))) (sw_or1 (st_not (st_chain o_le o_le se_int (se_callB (hc := c_len) (hm := (F.free 0)) (ha := (sa_cons (se_v (i := 0)) sa_nil))) (se_con (v := (.int 8)) (hm := F.con 27))))))) (ss_one (ss_ret (he := se_bl))) ss_nil)
    (ss_one (ss_ret (he := (se_callB (hc := (c_all rfl)) (hm := (F.free 29)) (ha := (sa_cons (se_lc (own := [("sign", 1)]) (ts := [1]) (hN := sc_is_word.nd) (hi := (si_it (se_v (i := 0)))) (ok := blkOk_by (by rfl)) (hg := fun s H C cl fp => (sg_n (i := 1) (hN := sc_is_word.nd))) (ht := fun s H C cl fp => sts_nil) (he := fun s H C cl fp => (se_cmp (o_in (hu21 hr)) (se_v (i := 1)) (se_con (v := (.str [97, 98, 99, 100, 101, 102, 103, 104, 105, 106, 107, 108, 109, 110, 111, 112, 113, 114, 115, 116, 117, 118, 119, 120, 121, 122])) (hm := F.con 28))))) sa_nil))))))))
abbrev N_are_words : List PySem.Str := ["value", "low", "high", "word"]
theorem sc_are_words : FnScope N_are_words ["value", "low", "high"] (defScope (top 11)) := ⟨rfl, rfl, rfl, by decide +kernel, rfl, by decide +kernel, by decide +kernel⟩
def mu_are_words (i : Nat) : Bool := [2000000].contains i
def b_are_words : SM := sSeq (sIf (tOr (tNo (tV (callM [] [0] m_is_row [] (lB 0 (lN))))) (tOr (tNo (tBl (eCh vLe vLe (eV 1) (eNS vLen 0) (eV 2)))) (tNo (tV (eN vAll (aC (eLc [3] (iItB 0) (gN 3) (tTrue) (callM [] [] m_is_word [] (lC (eV 3) (lN)))) (aN))))))) (sRet (eC (.bl false))) (sNil)) (sRet (e2 vEq (eN vLenD (aC (eDc [3] (iItB 0) (gN 3) (tTrue) (eV 3) (eC (.bl true))) (aN))) (eNS vLen 0)))
def m_are_words : FnM := runF 4 [] false b_are_words
theorem s_are_words (F : FK ck dfs K mg) : FnOk PR w K mg base CX0 2 (He.fAd K ("are_words", none)) (fdA K ("are_words", none)) ["value", "low", "high"] (spG K (TT K) [] [0] false 3 m_are_words) := by
  obtain ⟨dvs, kws, FD, _, _, _⟩ := F.c.def_ 11 (d := d_are_words)
  exact fn_ok (N := N_are_words) (ps := ["value", "low", "high"]) (k := 1) (mu := mu_are_words) (m := b_are_words) FD sc_are_words (by decide) (by decide) (by decide) (by decide) rfl (fun cdv A outer s H vs E hr =>
    (ss_cons (ss_if (st_w (sw_or (st_not (st_v (se_x (sx_call (ro := false) (r := 0) (s_is_row F) (hr.mono (by decide : 1 ≤ 1)) (hm := (F.glo 23)) (hk := (kp_is_row F)) (hb := (bd_is_row F)) (hd := .nil) (hdv := (fun O H => VRs.nil)) (ha := (sl_bor (i := 0) (hr := sl_nil))) (hl := hlo (lnB lnN) rfl))))) (sw_or (st_not (st_chain o_le o_le (se_v (i := 1)) (se_callBS (hc := c_len) (hm := (F.free 0)) (s := slm 0)) (se_v (i := 2)))) (sw_or1 (st_not (st_v (se_callB (hc := (c_all rfl)) (hm := (F.free 29)) (ha := (sa_cons (se_lc (own := [("word", 3)]) (ts := [3]) (hN := sc_are_words.nd) (hi := (si_bo (s := slm 0))) (ok := blkOk_by (by rfl)) (hg := fun s H C cl fp => (sg_n (i := 3) (hN := sc_are_words.nd))) (ht := fun s H C cl fp => sts_nil) (he := fun s H C cl fp => (se_x (sx_call (ro := false) (r := 0) (s_is_word F) (hr.mono (by decide : 1 ≤ 1)) (hm := (F.glo 30)) (hk := (kp_is_word F)) (hb := (bd_is_word F)) (hd := .nil) (hdv := (fun O H => VRs.nil)) (ha := (sl_cons (se_v (i := 3)) sl_nil)) (hl := hlo (lnC lnN) rfl))))) sa_nil))))))))) (ss_one (ss_ret (he := se_bl))) ss_nil)
    (ss_one (ss_ret (he := (se_cmp (o_eq (hu20 hr)) (se_callB (hc := (c_lenD (fun _ _ z => z))) (hm := (F.free 0)) (ha := (sa_cons (se_x (sx_dc (ro := false) (r := 0) (own := [("word", 3)]) (ts := [3]) (hN := sc_are_words.nd) (hi := (si_bo (s := slm 0))) (ok := blkOk_by (by rfl)) (hg := fun s H C cl fp => (sg_n (i := 3) (hN := sc_are_words.nd))) (ht := fun s H C cl fp => sts_nil) (hk := fun s H C cl fp => (se_v (i := 3))) (he := fun s H C cl fp => se_bl))) sa_nil))) (se_callBS (hc := c_len) (hm := (F.free 0)) (s := slm 0))))))))
abbrev N_are_ways : List PySem.Str := ["value", "way"]
theorem sc_are_ways : FnScope N_are_ways ["value"] (defScope (top 16)) := ⟨rfl, rfl, rfl, by decide +kernel, rfl, by decide +kernel, by decide +kernel⟩
def mu_are_ways (i : Nat) : Bool := [2000000].contains i
def b_are_ways : SM := sSeq (sIf (tOr (tNo (tV (callM [] [0] m_is_row [] (lB 0 (lN))))) (tNo (tBl (eCh vLe vLe (eC (.int 1)) (eNS vLen 0) (eC (.int 3)))))) (sRet (eC (.bl false))) (sNil)) (sRet (eN vAll (aC (eLc [1] (iItB 0) (gN 1) (tTrue) (callM [] [0] m_are_words [] (lC (eV 1) (lC (eC (.int 0)) (lC (eC (.int 3)) (lN)))))) (aN))))
def m_are_ways : FnM := runF 2 [] false b_are_ways
theorem s_are_ways (F : FK ck dfs K mg) : FnOk PR w K mg base CX0 3 (He.fAd K ("are_ways", none)) (fdA K ("are_ways", none)) ["value"] (spG K (TT K) [] [0] false 1 m_are_ways) := by
  obtain ⟨dvs, kws, FD, _, _, _⟩ := F.c.def_ 12 (d := d_are_ways)
  exact fn_ok (N := N_are_ways) (ps := ["value"]) (k := 2) (mu := mu_are_ways) (m := b_are_ways) FD sc_are_ways (by decide) (by decide) (by decide) (by decide) rfl (fun cdv A outer s H vs E hr =>
    (ss_cons (ss_if (st_w (sw_or (st_not (st_v (se_x (sx_call (ro := false) (r := 0) (s_is_row F) (hr.mono (by decide : 1 ≤ 2)) (hm := (F.glo 23)) (hk := (kp_is_row F)) (hb := (bd_is_row F)) (hd := .nil) (hdv := (fun O H => VRs.nil)) (ha := (sl_bor (i := 0) (hr := sl_nil))) (hl := hlo (lnB lnN) rfl))))) (sw_or1 (st_not (st_chain o_le o_le se_int (se_callBS (hc := c_len) (hm := (F.free 0)) (s := slm 0)) (se_con (v := (.int 3)) (hm := F.con 24))))))) (ss_one (ss_ret (he := se_bl))) ss_nil)
    (ss_one (ss_ret (he := (se_callB (hc := (c_all rfl)) (hm := (F.free 29)) (ha := (sa_cons (se_lc (own := [("way", 1)]) (ts := [1]) (hN := sc_are_ways.nd) (hi := (si_bo (s := slm 0))) (ok := blkOk_by (by rfl)) (hg := fun s H C cl fp => (sg_n (i := 1) (hN := sc_are_ways.nd))) (ht := fun s H C cl fp => sts_nil) (he := fun s H C cl fp => (se_x (sx_call (ro := false) (r := 0) (s_are_words F) (hr.mono (by decide : 2 ≤ 2)) (hm := (F.glo 32)) (hk := (kp_are_words F)) (hb := (bd_are_words F)) (hd := .nil) (hdv := (fun O H => VRs.nil)) (ha := (sl_cons (se_v (i := 1)) (sl_cons se_int (sl_cons (se_con (v := (.int 3)) (hm := F.con 31)) sl_nil)))) (hl := hlo (lnC (lnC (lnC lnN))) rfl))))) sa_nil))))))))
abbrev N_look_at : List PySem.Str := ["rows", "name", "is_right"]
theorem sc_look_at : FnScope N_look_at ["rows"] (defScope (top 18)) := ⟨rfl, rfl, rfl, by decide +kernel, rfl, by decide +kernel, by decide +kernel⟩
def mu_look_at (i : Nat) : Bool := [].contains i
def b_look_at : SM := sFor (iIt (eV 0)) (gT [gN 1, gN 2]) (sIf (tNo (tV (eV 2))) (sBad) (sNil))
def m_look_at : FnM := runF 3 [] false b_look_at
theorem s_look_at (F : FK ck dfs K mg) : FnOk PR w K mg base CX0 1 (He.fAd K ("look_at", none)) (fdA K ("look_at", none)) ["rows"] (spG K (TT K) [] [] false 1 m_look_at) := by
  obtain ⟨dvs, kws, FD, _, _, _⟩ := F.c.def_ 13 (d := d_look_at)
  exact fn_ok (N := N_look_at) (ps := ["rows"]) (k := 0) (mu := mu_look_at) (m := b_look_at) FD sc_look_at (by decide) (by decide) (by decide) (by decide) rfl (fun cdv A outer s H vs E hr =>
    (ss_one (ss_for (ts := [1, 2]) (hi := (si_it (se_v (i := 0)))) (hg := (sg_t (h := (sgs_cons (sg_n (i := 1) (hN := sc_look_at.nd)) (sgs_cons (sg_n (i := 2) (hN := sc_look_at.nd)) sgs_nil))))) (hb := (ss_one (ss_if (st_not (st_v (se_v (i := 2)))) (ss_one ss_bad) ss_nil))))))
abbrev N_is_due : List PySem.Str := ["value"]
theorem sc_is_due : FnScope N_is_due ["value"] (defScope (top 17)) := ⟨rfl, rfl, rfl, by decide +kernel, rfl, by decide +kernel, by decide +kernel⟩
def mu_is_due (i : Nat) : Bool := [].contains i
def b_is_due : SM := sSeq (sIf (tV (eIs (isA ["str"] [] 5) (eV 0))) (sRet (e2 vIn (eV 0) (eTup (aC (eC (.str [97, 108, 119, 97, 121, 115])) (aC (eC (.str [110, 101, 118, 101, 114])) (aN)))))) (sNil)) (sSeq (sIf (tOr (tNo (tV (eIs (isA ["tuple"] [] 5) (eV 0)))) (tBl (e2 vNe (eN vLen (aC (eV 0) (aN))) (eC (.int 2))))) (sRet (eC (.bl false))) (sNil)) (sRet (eAn (callM [] [] m_is_word [] (lC (e2 vIx (eV 0) (eC (.int 0))) (lN))) (callM [] [0] m_are_words [] (lC (e2 vIx (eV 0) (eC (.int 1))) (lC (eC (.int 1)) (lC (eC (.int 3)) (lN))))))))
def m_is_due : FnM := runF 1 [] false b_is_due
theorem s_is_due (F : FK ck dfs K mg) : FnOk PR w K mg base CX0 3 (He.fAd K ("is_due", none)) (fdA K ("is_due", none)) ["value"] (spG K (TT K) [] [] false 1 m_is_due) := by
  obtain ⟨dvs, kws, FD, _, _, _⟩ := F.c.def_ 14 (d := d_is_due)
  exact fn_ok (N := N_is_due) (ps := ["value"]) (k := 2) (mu := mu_is_due) (m := b_is_due) FD sc_is_due (by decide) (by decide) (by decide) (by decide) rfl (fun cdv A outer s H vs E hr =>
    (ss_cons (ss_if (st_v (se_is (insI F) (isAB_one (F.c.fact 25)) (hm := (F.free 20)) (ha := (se_v (i := 0))) (hc := (pe_bltn (v := .ty "str") rfl (F.free 26) (by first | rfl | decide +kernel) rfl)) (hk := (ClsV.ty _)))) (ss_one (ss_ret (he := (se_cmp (o_in (hu21 hr)) (se_v (i := 0)) (se_tup (sa_cons (se_str (by decide +kernel)) (sa_cons (se_str (by decide +kernel)) sa_nil))))))) ss_nil)
    (ss_cons (ss_if (st_w (sw_or (st_not (st_v (se_is (insI F) (isAB_one (F.c.fact 34)) (hm := (F.free 20)) (ha := (se_v (i := 0))) (hc := (pe_bltn (v := .ty "tuple") rfl (F.free 12) (by first | rfl | decide +kernel) rfl)) (hk := (ClsV.ty _))))) (sw_or1 (st_cmp (o_ne (hu20 hr)) (se_callB (hc := c_len) (hm := (F.free 0)) (ha := (sa_cons (se_v (i := 0)) sa_nil))) se_int)))) (ss_one (ss_ret (he := se_bl))) ss_nil)
    (ss_one (ss_ret (he := (se_and (se_x (sx_call (ro := false) (r := 0) (s_is_word F) (hr.mono (by decide : 1 ≤ 2)) (hm := (F.glo 30)) (hk := (kp_is_word F)) (hb := (bd_is_word F)) (hd := .nil) (hdv := (fun O H => VRs.nil)) (ha := (sl_cons (se_ix (se_v (i := 0)) se_int) sl_nil)) (hl := hlo (lnC lnN) rfl))) (se_one (se_x (sx_call (ro := false) (r := 0) (s_are_words F) (hr.mono (by decide : 2 ≤ 2)) (hm := (F.glo 32)) (hk := (kp_are_words F)) (hb := (bd_are_words F)) (hd := .nil) (hdv := (fun O H => VRs.nil)) (ha := (sl_cons (se_ix (se_v (i := 0)) se_int) (sl_cons se_int (sl_cons se_int sl_nil)))) (hl := hlo (lnC (lnC (lnC lnN))) rfl)))))))))))
abbrev N_Thing_init : List PySem.Str := ["self", "sort", "title", "ways", "rest", "way"]
theorem sc_Thing_init : FnScope N_Thing_init ["self", "sort", "title", "ways", "rest"] (defScope (inClass (top 19) 0)) := ⟨rfl, rfl, rfl, by decide +kernel, rfl, by decide +kernel, by decide +kernel⟩
def mu_Thing_init (i : Nat) : Bool := [0, 2000003].contains i
def b_Thing_init : SM := sSeq (sAt [0, 1, 2, 3, 4] 0 0 (eV 2)) (sSeq (sAt [0, 1, 2, 3] 1 0 (eN vTuple (aC (eLc [5] (iItB 3) (gN 5) (tTrue) (eN vTuple (aC (eV 5) (aN)))) (aN)))) (sAt [0, 1, 2, 3] 2 0 (eTup (aC (eV 1) (aC (eV 2) (aC (eAtS [0, 1, 2, 3] 1 0) (aS (eV 4) (aN))))))))
def m_Thing_init : FnM := runF 6 [0] false b_Thing_init
theorem s_Thing_init (F : FK ck dfs K mg) : FnOk PR w K mg base CX0 1 (He.fAd K ("Thing", some "__init__")) (fdA K ("Thing", some "__init__")) ["self", "sort", "title", "ways", "rest"] (spG K (TT K) [0] [3] false 5 m_Thing_init) := by
  obtain ⟨dvs, kws, FD, _, _, _⟩ := F.c.def_ 15 (d := d_Thing_init)
  exact fn_ok (N := N_Thing_init) (ps := ["self", "sort", "title", "ways", "rest"]) (k := 0) (mu := mu_Thing_init) (m := b_Thing_init) FD sc_Thing_init (by decide) (by decide) (by decide) (by decide) rfl (fun cdv A outer s H vs E hr =>
    (ss_cons (ss_at (fld_title F) rfl (s := slm 0) (hv := (se_v (i := 2))))
    (ss_cons (ss_at (fld_ways F) rfl (s := slm 0) (hv := (se_callTy (hc := c_tuple) (hm := (F.free 12)) (ha := (sa_cons (se_lc (own := [("way", 5)]) (ts := [5]) (hN := sc_Thing_init.nd) (hi := (si_bo (s := slm 3))) (ok := blkOk_by (by rfl)) (hg := fun s H C cl fp => (sg_n (i := 5) (hN := sc_Thing_init.nd))) (ht := fun s H C cl fp => sts_nil) (he := fun s H C cl fp => (se_callTy (hc := c_tuple) (hm := (F.free 12)) (ha := (sa_cons (se_v (i := 5)) sa_nil))))) sa_nil)))))
    (ss_one (ss_at (fld_record F) rfl (s := slm 0) (hv := (se_tup (sa_cons (se_v (i := 1)) (sa_cons (se_v (i := 2)) (sa_cons (se_atS (fld_ways F) rfl (slm 0)) (sa_star (se_v (i := 4)) sa_nil)))))))))))
abbrev N_Part_init : List PySem.Str := ["self", "title", "ways", "must", "due", "rows"]
theorem sc_Part_init : FnScopeS N_Part_init ["self", "title", "ways", "must", "due"] (defScope (inClass (top 20) 0)) := ⟨rfl, rfl, rfl, by decide +kernel, rfl, by decide +kernel, by decide +kernel, free_of (by decide +kernel)⟩
def mu_Part_init (i : Nat) : Bool := [0, 2000002].contains i
def b_Part_init : SM := sSeq (sSet 5 (eLst (aC (eTup (aC (eC (.str [116, 105, 116, 108, 101])) (aC (callM [] [] m_is_word [] (lC (eV 1) (lN))) (aN)))) (aC (eTup (aC (eC (.str [119, 97, 121, 115])) (aC (callM [] [0] m_are_ways [] (lB 2 (lN))) (aN)))) (aC (eTup (aC (eC (.str [109, 117, 115, 116])) (aC (eIs (isA ["bool"] [] 5) (eV 3)) (aN)))) (aN)))))) (sSeq (sEx (callM [] [] m_look_at [] (lC (eLst (aS (eV 5) (aC (eTup (aC (eC (.str [100, 117, 101])) (aC (callM [] [] m_is_due [] (lC (eV 4) (lN))) (aN)))) (aN)))) (lN)))) (sSeq (sAt [1] 3 0 (eV 3)) (sSeq (sAt [1] 4 0 (eIf (tV (eIs (isA ["str"] [] 5) (eV 4))) (eV 4) (eTup (aC (e2 vIx (eV 4) (eC (.int 0))) (aC (eN vTuple (aC (e2 vIx (eV 4) (eC (.int 1))) (aN))) (aN)))))) (sSup 1 [0] [3] m_Thing_init [] (lC (eC (.str [112, 97, 114, 116])) (lC (eV 1) (lB 2 (lC (eLst (aC (eAtS [1] 3 0) (aC (eAtS [1] 4 0) (aN)))) (lN)))))))))
def m_Part_init : FnM := runF 6 [0] false b_Part_init
theorem s_Part_init (F : FK ck dfs K mg) : FnOk PR w K mg base CX0 4 (He.fAd K ("Part", some "__init__")) (fdA K ("Part", some "__init__")) ["self", "title", "ways", "must", "due"] (spG K (TT K) [0] [2] false 5 m_Part_init) := by
  obtain ⟨dvs, kws, FD, _, _, _⟩ := F.c.defS 16 (d := d_Part_init)
  refine fn_okS (N := N_Part_init) (ps := ["self", "title", "ways", "must", "due"]) (k := 3) (mu := mu_Part_init) (m := b_Part_init) FD sc_Part_init (by decide) (by decide) (by decide) (by decide) rfl (fun cdv A outer s H vs E ⟨oc, od, dV, kV, doc, pm, an, ct, osl, lk⟩ hcd hr => ?_)
  obtain ⟨cda, S⟩ := sup_ok (CX := CX0) (P := PR) (w := w) (base := base) (N := N_Part_init) (A := A) (outer := outer) (s := s) (H := H) (E := E) F.ns (F.c.fact 42) lk rfl rfl rfl rfl rfl rfl (by kernel_rfl)
  exact (ssa_cons (ss_set (i := 5) (hN := sc_Part_init.nd) (he := (se_lst (sa_cons (se_tup (sa_cons (se_str (by decide +kernel)) (sa_cons (se_x (sx_call (ro := false) (r := 0) (s_is_word F) (hr.mono (by decide : 1 ≤ 3)) (hm := (F.glo 30)) (hk := (kp_is_word F)) (hb := (bd_is_word F)) (hd := .nil) (hdv := (fun O H => VRs.nil)) (ha := (sl_cons (se_v (i := 1)) sl_nil)) (hl := hlo (lnC lnN) rfl))) sa_nil))) (sa_cons (se_tup (sa_cons (se_str (by decide +kernel)) (sa_cons (se_x (sx_call (ro := false) (r := 0) (s_are_ways F) (hr.mono (by decide : 3 ≤ 3)) (hm := (F.glo 33)) (hk := (kp_are_ways F)) (hb := (bd_are_ways F)) (hd := .nil) (hdv := (fun O H => VRs.nil)) (ha := (sl_bor (i := 2) (hr := sl_nil))) (hl := hlo (lnB lnN) rfl))) sa_nil))) (sa_cons (se_tup (sa_cons (se_str (by decide +kernel)) (sa_cons (se_is (insI F) (isAB_one (F.c.fact 18)) (hm := (F.free 20)) (ha := (se_v (i := 3))) (hc := (pe_bltn (v := .ty "bool") rfl (F.free 21) (by first | rfl | decide +kernel) rfl)) (hk := (ClsV.ty _))) sa_nil))) sa_nil))))))
    (ssa_cons (ss_expr (he := (se_x (sx_call (ro := false) (r := 0) (s_look_at F) (hr.mono (by decide : 1 ≤ 3)) (hm := (F.glo 36)) (hk := (kp_look_at F)) (hb := (bd_look_at F)) (hd := .nil) (hdv := (fun O H => VRs.nil)) (ha := (sl_cons (se_lst (sa_star (se_v (i := 5)) (sa_cons (se_tup (sa_cons (se_str (by decide +kernel)) (sa_cons (se_x (sx_call (ro := false) (r := 0) (s_is_due F) (hr.mono (by decide : 3 ≤ 3)) (hm := (F.glo 35)) (hk := (kp_is_due F)) (hb := (bd_is_due F)) (hd := .nil) (hdv := (fun O H => VRs.nil)) (ha := (sl_cons (se_v (i := 4)) sl_nil)) (hl := hlo (lnC lnN) rfl))) sa_nil))) sa_nil))) sl_nil)) (hl := hlo (lnC lnN) rfl)))))
    (ssa_cons (ss_at (fld_must F) rfl (s := slm 0) (hv := (se_v (i := 3))))
    (ssa_cons (ss_at (fld_due F) rfl (s := slm 0) (hv := (se_if (st_v (se_is (insI F) (isAB_one (F.c.fact 25)) (hm := (F.free 20)) (ha := (se_v (i := 4))) (hc := (pe_bltn (v := .ty "str") rfl (F.free 26) (by first | rfl | decide +kernel) rfl)) (hk := (ClsV.ty _)))) (se_v (i := 4)) (se_tup (sa_cons (se_ix (se_v (i := 4)) se_int) (sa_cons (se_callTy (hc := c_tuple) (hm := (F.free 12)) (ha := (sa_cons (se_ix (se_v (i := 4)) se_int) sa_nil))) sa_nil))))))
    (ssa_super (c := 1) S (F := s_Thing_init F) (hr := (hr.mono (by decide : 1 ≤ 3))) (hb := bd_Thing_init F) (hd := .nil) (hdv := fun O H => VRs.nil) (ha := (sl_cons (se_str (by decide +kernel)) (sl_cons (se_v (i := 1)) (sl_bor (i := 2) (hr := (sl_cons (se_lst (sa_cons (se_atS (fld_must F) rfl (slm 0)) (sa_cons (se_atS (fld_due F) rfl (slm 0)) sa_nil))) sl_nil)))))) (hl := hlo (lnK (lnI (lnC (lnC (lnB (lnC lnN)))))) rfl))))))
abbrev N_law_told_part : List PySem.Str := ["_law_part"]
theorem sc_law_told_part : FnScope N_law_told_part ["_law_part"] (defScope (top 33)) := ⟨rfl, rfl, rfl, by decide +kernel, rfl, by decide +kernel, by decide +kernel⟩
def mu_law_told_part (i : Nat) : Bool := [].contains i
def b_law_told_part : SM := sRet (eLst (aC (e1 (vAt [0, 1, 2, 3, 4] 0) (eV 0)) (aC (e1 (vAt [0, 1, 2, 3] 1) (eV 0)) (aC (e1 (vAt [1] 3) (eV 0)) (aC (e1 (vAt [1] 4) (eV 0)) (aN))))))
def m_law_told_part : FnM := runF 1 [] false b_law_told_part
theorem s_law_told_part (F : FK ck dfs K mg) : FnOk PR w K mg base CX0 1 (He.fAd K ("_law_told_part", none)) (fdA K ("_law_told_part", none)) ["_law_part"] (spG K (TT K) [] [] false 1 m_law_told_part) := by
  obtain ⟨dvs, kws, FD, _, _, _⟩ := F.c.def_ 17 (d := d_law_told_part)
  exact fn_ok (N := N_law_told_part) (ps := ["_law_part"]) (k := 0) (mu := mu_law_told_part) (m := b_law_told_part) FD sc_law_told_part (by decide) (by decide) (by decide) (by decide) rfl (fun cdv A outer s H vs E hr =>
    (ss_one (ss_ret (he := (se_lst (sa_cons (se_at (fld_title F) rfl (se_v (i := 0))) (sa_cons (se_at (fld_ways F) rfl (se_v (i := 0))) (sa_cons (se_at (fld_must F) rfl (se_v (i := 0))) (sa_cons (se_at (fld_due F) rfl (se_v (i := 0))) sa_nil)))))))))
abbrev N_Thing_eq : List PySem.Str := ["self", "other"]
theorem sc_Thing_eq : FnScope N_Thing_eq ["self", "other"] (defScope (inClass (top 19) 1)) := ⟨rfl, rfl, rfl, by decide +kernel, rfl, by decide +kernel, by decide +kernel⟩
def mu_Thing_eq (i : Nat) : Bool := [].contains i
def b_Thing_eq : SM := sRet (eAn (eIs (isA [] [0, 1, 2, 3] 5) (eV 1)) (e2 vEq (e1 (vAt [0, 1, 2, 3] 2) (eV 0)) (e1 (vAt [0, 1, 2, 3] 2) (eV 1))))
def m_Thing_eq : FnM := runF 2 [] false b_Thing_eq
theorem s_Thing_eq (F : FK ck dfs K mg) : FnOk PR w K mg base CX0 1 (He.fAd K ("Part", some "__eq__")) (fdA K ("Part", some "__eq__")) ["self", "other"] (spG K (TT K) [] [] false 2 m_Thing_eq) := by
  obtain ⟨dvs, kws, FD, _, _, _⟩ := F.c.def_ 18 (d := d_Thing_eq)
  exact fn_ok (N := N_Thing_eq) (ps := ["self", "other"]) (k := 0) (mu := mu_Thing_eq) (m := b_Thing_eq) FD sc_Thing_eq (by decide) (by decide) (by decide) (by decide) rfl (fun cdv A outer s H vs E hr =>
    (ss_one (ss_ret (he := (se_and (se_is (insI F) (isAB_one (F.c.fact 46)) (hm := (F.free 20)) (ha := (se_v (i := 1))) (hc := (pe_glob (v := .ref (He.ga K "Thing")) rfl (F.glo 47) rfl)) (hk := (ClsV.own _))) (se_one (se_cmp (o_eq (hu20 hr)) (se_at (fld_record F) rfl (se_v (i := 0))) (se_at (fld_record F) rfl (se_v (i := 1))))))))))
abbrev N_is_whole : List PySem.Str := ["value"]
theorem sc_is_whole : FnScope N_is_whole ["value"] (defScope (top 7)) := ⟨rfl, rfl, rfl, by decide +kernel, rfl, by decide +kernel, by decide +kernel⟩
def mu_is_whole (i : Nat) : Bool := [].contains i
def b_is_whole : SM := sRet (eAn (eIs (isA ["bool", "int"] [] 5) (eV 0)) (eNo (eIs (isA ["bool"] [] 5) (eV 0))))
def m_is_whole : FnM := runF 1 [] false b_is_whole
theorem s_is_whole (F : FK ck dfs K mg) : FnOk PR w K mg base CX0 1 (He.fAd K ("is_whole", none)) (fdA K ("is_whole", none)) ["value"] (spG K (TT K) [] [] false 1 m_is_whole) := by
  obtain ⟨dvs, kws, FD, _, _, _⟩ := F.c.def_ 19 (d := d_is_whole)
  exact fn_ok (N := N_is_whole) (ps := ["value"]) (k := 0) (mu := mu_is_whole) (m := b_is_whole) FD sc_is_whole (by decide) (by decide) (by decide) (by decide) rfl (fun cdv A outer s H vs E hr =>
    (ss_one (ss_ret (he := (se_and (se_is (insI F) (isAB_one (F.c.fact 50)) (hm := (F.free 20)) (ha := (se_v (i := 0))) (hc := (pe_bltn (v := .ty "int") rfl (F.free 4) (by first | rfl | decide +kernel) rfl)) (hk := (ClsV.ty _))) (se_one (se_not (se_is (insI F) (isAB_one (F.c.fact 18)) (hm := (F.free 20)) (ha := (se_v (i := 0))) (hc := (pe_bltn (v := .ty "bool") rfl (F.free 21) (by first | rfl | decide +kernel) rfl)) (hk := (ClsV.ty _))))))))))
abbrev N_is_number : List PySem.Str := ["value", "low", "high"]
theorem sc_is_number : FnScope N_is_number ["value", "low", "high"] (defScope (top 8)) := ⟨rfl, rfl, rfl, by decide +kernel, rfl, by decide +kernel, by decide +kernel⟩
def mu_is_number (i : Nat) : Bool := [].contains i
def b_is_number : SM := sRet (eAn (callM [] [] m_is_whole [] (lC (eV 0) (lN))) (eCh vLe vLe (eV 1) (eV 0) (eV 2)))
def m_is_number : FnM := runF 3 [] false b_is_number
theorem s_is_number (F : FK ck dfs K mg) : FnOk PR w K mg base CX0 2 (He.fAd K ("is_number", none)) (fdA K ("is_number", none)) ["value", "low", "high"] (spG K (TT K) [] [] false 3 m_is_number) := by
  obtain ⟨dvs, kws, FD, _, _, _⟩ := F.c.def_ 20 (d := d_is_number)
  exact fn_ok (N := N_is_number) (ps := ["value", "low", "high"]) (k := 1) (mu := mu_is_number) (m := b_is_number) FD sc_is_number (by decide) (by decide) (by decide) (by decide) rfl (fun cdv A outer s H vs E hr =>
    (ss_one (ss_ret (he := (se_and (se_x (sx_call (ro := false) (r := 0) (s_is_whole F) (hr.mono (by decide : 1 ≤ 1)) (hm := (F.glo 51)) (hk := (kp_is_whole F)) (hb := (bd_is_whole F)) (hd := .nil) (hdv := (fun O H => VRs.nil)) (ha := (sl_cons (se_v (i := 0)) sl_nil)) (hl := hlo (lnC lnN) rfl))) (se_one (se_chain o_le o_le (se_v (i := 1)) (se_v (i := 0)) (se_v (i := 2)))))))))
abbrev N_Fastening_init : List PySem.Str := ["self", "title", "holds", "rounds", "ways", "rows"]
theorem sc_Fastening_init : FnScopeS N_Fastening_init ["self", "title", "holds", "rounds", "ways"] (defScope (inClass (top 21) 0)) := ⟨rfl, rfl, rfl, by decide +kernel, rfl, by decide +kernel, by decide +kernel, free_of (by decide +kernel)⟩
def mu_Fastening_init (i : Nat) : Bool := [0, 2000002, 2000004].contains i
def b_Fastening_init : SM := sSeq (sSet 5 (eLst (aC (eTup (aC (eC (.str [116, 105, 116, 108, 101])) (aC (callM [] [] m_is_word [] (lC (eV 1) (lN))) (aN)))) (aC (eTup (aC (eC (.str [104, 111, 108, 100, 115])) (aC (callM [] [0] m_are_words [] (lB 2 (lC (eC (.int 1)) (lC (eC (.int 3)) (lN))))) (aN)))) (aN))))) (sSeq (sEx (callM [] [] m_look_at [] (lC (eLst (aS (eV 5) (aC (eTup (aC (eC (.str [114, 111, 117, 110, 100, 115])) (aC (callM [] [] m_is_number [] (lC (eV 3) (lC (eC (.int 1)) (lC (eC (.int 3)) (lN))))) (aN)))) (aC (eTup (aC (eC (.str [119, 97, 121, 115])) (aC (callM [] [0] m_are_ways [] (lB 4 (lN))) (aN)))) (aN))))) (lN)))) (sSeq (sAt [2] 5 0 (eTpS 2)) (sSeq (sAt [2] 6 0 (eV 3)) (sSup 2 [0] [3] m_Thing_init [] (lC (eC (.str [102, 97, 115, 116, 101, 110, 105, 110, 103])) (lC (eV 1) (lB 4 (lC (eLst (aC (eAtS [2] 5 0) (aC (eAtS [2] 6 0) (aN)))) (lN)))))))))
def m_Fastening_init : FnM := runF 6 [0] false b_Fastening_init
theorem s_Fastening_init (F : FK ck dfs K mg) : FnOk PR w K mg base CX0 4 (He.fAd K ("Fastening", some "__init__")) (fdA K ("Fastening", some "__init__")) ["self", "title", "holds", "rounds", "ways"] (spG K (TT K) [0] [2, 4] false 5 m_Fastening_init) := by
  obtain ⟨dvs, kws, FD, _, _, _⟩ := F.c.defS 21 (d := d_Fastening_init)
  refine fn_okS (N := N_Fastening_init) (ps := ["self", "title", "holds", "rounds", "ways"]) (k := 3) (mu := mu_Fastening_init) (m := b_Fastening_init) FD sc_Fastening_init (by decide) (by decide) (by decide) (by decide) rfl (fun cdv A outer s H vs E ⟨oc, od, dV, kV, doc, pm, an, ct, osl, lk⟩ hcd hr => ?_)
  obtain ⟨cda, S⟩ := sup_ok (CX := CX0) (P := PR) (w := w) (base := base) (N := N_Fastening_init) (A := A) (outer := outer) (s := s) (H := H) (E := E) F.ns (F.c.fact 56) lk rfl rfl rfl rfl rfl rfl (by kernel_rfl)
  exact (ssa_cons (ss_set (i := 5) (hN := sc_Fastening_init.nd) (he := (se_lst (sa_cons (se_tup (sa_cons (se_str (by decide +kernel)) (sa_cons (se_x (sx_call (ro := false) (r := 0) (s_is_word F) (hr.mono (by decide : 1 ≤ 3)) (hm := (F.glo 30)) (hk := (kp_is_word F)) (hb := (bd_is_word F)) (hd := .nil) (hdv := (fun O H => VRs.nil)) (ha := (sl_cons (se_v (i := 1)) sl_nil)) (hl := hlo (lnC lnN) rfl))) sa_nil))) (sa_cons (se_tup (sa_cons (se_str (by decide +kernel)) (sa_cons (se_x (sx_call (ro := false) (r := 0) (s_are_words F) (hr.mono (by decide : 2 ≤ 3)) (hm := (F.glo 32)) (hk := (kp_are_words F)) (hb := (bd_are_words F)) (hd := .nil) (hdv := (fun O H => VRs.nil)) (ha := (sl_bor (i := 2) (hr := (sl_cons se_int (sl_cons se_int sl_nil))))) (hl := hlo (lnB (lnC (lnC lnN))) rfl))) sa_nil))) sa_nil)))))
    (ssa_cons (ss_expr (he := (se_x (sx_call (ro := false) (r := 0) (s_look_at F) (hr.mono (by decide : 1 ≤ 3)) (hm := (F.glo 36)) (hk := (kp_look_at F)) (hb := (bd_look_at F)) (hd := .nil) (hdv := (fun O H => VRs.nil)) (ha := (sl_cons (se_lst (sa_star (se_v (i := 5)) (sa_cons (se_tup (sa_cons (se_str (by decide +kernel)) (sa_cons (se_x (sx_call (ro := false) (r := 0) (s_is_number F) (hr.mono (by decide : 2 ≤ 3)) (hm := (F.glo 53)) (hk := (kp_is_number F)) (hb := (bd_is_number F)) (hd := .nil) (hdv := (fun O H => VRs.nil)) (ha := (sl_cons (se_v (i := 3)) (sl_cons se_int (sl_cons (se_con (v := (.int 3)) (hm := F.con 52)) sl_nil)))) (hl := hlo (lnC (lnC (lnC lnN))) rfl))) sa_nil))) (sa_cons (se_tup (sa_cons (se_str (by decide +kernel)) (sa_cons (se_x (sx_call (ro := false) (r := 0) (s_are_ways F) (hr.mono (by decide : 3 ≤ 3)) (hm := (F.glo 33)) (hk := (kp_are_ways F)) (hb := (bd_are_ways F)) (hd := .nil) (hdv := (fun O H => VRs.nil)) (ha := (sl_bor (i := 4) (hr := sl_nil))) (hl := hlo (lnB lnN) rfl))) sa_nil))) sa_nil)))) sl_nil)) (hl := hlo (lnC lnN) rfl)))))
    (ssa_cons (ss_at (fld_holds F) rfl (s := slm 0) (hv := (se_tpS (hm := (F.free 12)) (s := slm 2))))
    (ssa_cons (ss_at (fld_rounds F) rfl (s := slm 0) (hv := (se_v (i := 3))))
    (ssa_super (c := 2) S (F := s_Thing_init F) (hr := (hr.mono (by decide : 1 ≤ 3))) (hb := bd_Thing_init F) (hd := .nil) (hdv := fun O H => VRs.nil) (ha := (sl_cons (se_str (by decide +kernel)) (sl_cons (se_v (i := 1)) (sl_bor (i := 4) (hr := (sl_cons (se_lst (sa_cons (se_atS (fld_holds F) rfl (slm 0)) (sa_cons (se_atS (fld_rounds F) rfl (slm 0)) sa_nil))) sl_nil)))))) (hl := hlo (lnK (lnI (lnC (lnC (lnB (lnC lnN)))))) rfl))))))
abbrev N_Tool_init : List PySem.Str := ["self", "title", "ways"]
theorem sc_Tool_init : FnScopeS N_Tool_init ["self", "title", "ways"] (defScope (inClass (top 22) 0)) := ⟨rfl, rfl, rfl, by decide +kernel, rfl, by decide +kernel, by decide +kernel, free_of (by decide +kernel)⟩
def mu_Tool_init (i : Nat) : Bool := [0].contains i
def b_Tool_init : SM := sSeq (sEx (callM [] [] m_look_at [] (lC (eLst (aC (eTup (aC (eC (.str [116, 105, 116, 108, 101])) (aC (callM [] [] m_is_word [] (lC (eV 1) (lN))) (aN)))) (aC (eTup (aC (eC (.str [119, 97, 121, 115])) (aC (callM [] [0] m_are_ways [] (lC (eV 2) (lN))) (aN)))) (aN)))) (lN)))) (sSup 3 [0] [3] m_Thing_init [] (lC (eC (.str [116, 111, 111, 108])) (lC (eV 1) (lC (eV 2) (lC (eLst (aN)) (lN))))))
def m_Tool_init : FnM := runF 3 [0] false b_Tool_init
theorem s_Tool_init (F : FK ck dfs K mg) : FnOk PR w K mg base CX0 4 (He.fAd K ("Tool", some "__init__")) (fdA K ("Tool", some "__init__")) ["self", "title", "ways"] (spG K (TT K) [0] [] false 3 m_Tool_init) := by
  obtain ⟨dvs, kws, FD, _, _, _⟩ := F.c.defS 22 (d := d_Tool_init)
  refine fn_okS (N := N_Tool_init) (ps := ["self", "title", "ways"]) (k := 3) (mu := mu_Tool_init) (m := b_Tool_init) FD sc_Tool_init (by decide) (by decide) (by decide) (by decide) rfl (fun cdv A outer s H vs E ⟨oc, od, dV, kV, doc, pm, an, ct, osl, lk⟩ hcd hr => ?_)
  obtain ⟨cda, S⟩ := sup_ok (CX := CX0) (P := PR) (w := w) (base := base) (N := N_Tool_init) (A := A) (outer := outer) (s := s) (H := H) (E := E) F.ns (F.c.fact 59) lk rfl rfl rfl rfl rfl rfl (by kernel_rfl)
  exact (ssa_cons (ss_expr (he := (se_x (sx_call (ro := false) (r := 0) (s_look_at F) (hr.mono (by decide : 1 ≤ 3)) (hm := (F.glo 36)) (hk := (kp_look_at F)) (hb := (bd_look_at F)) (hd := .nil) (hdv := (fun O H => VRs.nil)) (ha := (sl_cons (se_lst (sa_cons (se_tup (sa_cons (se_str (by decide +kernel)) (sa_cons (se_x (sx_call (ro := false) (r := 0) (s_is_word F) (hr.mono (by decide : 1 ≤ 3)) (hm := (F.glo 30)) (hk := (kp_is_word F)) (hb := (bd_is_word F)) (hd := .nil) (hdv := (fun O H => VRs.nil)) (ha := (sl_cons (se_v (i := 1)) sl_nil)) (hl := hlo (lnC lnN) rfl))) sa_nil))) (sa_cons (se_tup (sa_cons (se_str (by decide +kernel)) (sa_cons (se_x (sx_call (ro := false) (r := 0) (s_are_ways F) (hr.mono (by decide : 3 ≤ 3)) (hm := (F.glo 33)) (hk := (kp_are_ways F)) (hb := (bd_are_ways F)) (hd := .nil) (hdv := (fun O H => VRs.nil)) (ha := (sl_cons (se_v (i := 2)) sl_nil)) (hl := hlo (lnC lnN) rfl))) sa_nil))) sa_nil))) sl_nil)) (hl := hlo (lnC lnN) rfl)))))
    (ssa_super (c := 3) S (F := s_Thing_init F) (hr := (hr.mono (by decide : 1 ≤ 3))) (hb := bd_Thing_init F) (hd := .nil) (hdv := fun O H => VRs.nil) (ha := (sl_cons (se_str (by decide +kernel)) (sl_cons (se_v (i := 1)) (sl_cons (se_v (i := 2)) (sl_cons (se_lst sa_nil) sl_nil))))) (hl := hlo (lnK (lnI (lnC (lnC (lnC (lnC lnN)))))) rfl)))
abbrev N_law_parts_right : List PySem.Str := ["_law_part", "_law_name", "_law_ways_here", "_law_needs", "_law_wanted", "_law_rows", "_law_one_here", "_law_others", "_law_other"]
theorem sc_law_parts_right : FnScope N_law_parts_right ["_law_part"] (defScope (top 36)) := ⟨rfl, rfl, rfl, by decide +kernel, rfl, by decide +kernel, by decide +kernel⟩
def mu_law_parts_right (i : Nat) : Bool := [5, 7].contains i
def b_law_parts_right : SM := sSeq (sAsg (eV 0) (gT [gN 1, gN 2, gN 3, gN 4])) (sSeq (sSet 5 (callM [] [] m_law_lists_o [] (lC (eV 2) (lN)))) (sSeq (sSet 6 (eMk 1 [2] m_Part_init (fun zs => [] ++ zs) (lC (eV 1) (lB 5 (lN))) (aC (eV 3) (aC (eIf (tV (eIs (isA ["str"] [] 5) (eV 4))) (eV 4) (eTup (aC (e2 vIx (eV 4) (eC (.int 0))) (aC (eN vList (aC (e2 vIx (eV 4) (eC (.int 1))) (aN))) (aN))))) (aN))))) (sSeq (sEx (eApp 5 (eLst (aC (eC (.str [122, 122, 122])) (aN))))) (sSeq (sIf (tBl (e2 vNe (callM [] [] m_law_told_part [] (lC (eV 6) (lN))) (eLst (aC (eV 1) (aC (eV 2) (aC (eV 3) (aC (eV 4) (aN)))))))) (sRet (eC (.bl false))) (sNil)) (sSeq (sIf (tBl (eEqI [1, 2, 3] (nfA 5 []) true m_Thing_eq (eV 6) (eMk 1 [2] m_Part_init (fun zs => [] ++ zs) (lC (eV 1) (lC (eV 2) (lN))) (aC (eV 3) (aC (eV 4) (aN)))))) (sRet (eC (.bl false))) (sNil)) (sSeq (sSet 7 (eLst (aC (eMk 1 [2] m_Part_init (fun zs => [] ++ zs) (lC (e2 vAdd (eV 1) (eC (.str [122]))) (lC (eV 2) (lN))) (aC (eV 3) (aC (eV 4) (aN)))) (aC (eMk 1 [2] m_Part_init (fun zs => [] ++ zs) (lC (eV 1) (lC (e2 vAdd (eV 2) (eTup (aC (eTup (aC (eC (.str [122, 122])) (aN))) (aN)))) (lN))) (aC (eV 3) (aC (eV 4) (aN)))) (aN))))) (sSeq (sSet 7 (e2 vCat (eMv 7) (eLst (aC (eMk 1 [2] m_Part_init (fun zs => [] ++ zs) (lC (eV 1) (lC (eV 2) (lN))) (aC (eNo (eV 3)) (aC (eV 4) (aN)))) (aC (eMk 3 [] m_Tool_init (fun _ => []) (lC (eV 1) (lC (eV 2) (lN))) aN) (aC (eMk 2 [2, 4] m_Fastening_init (fun _ => []) (lC (eV 1) (lC (eLst (aC (eC (.str [113])) (aN))) (lC (eC (.int 1)) (lC (eV 2) (lN))))) aN) (aN))))))) (sSeq (sEx (eApp 7 (eMk 1 [2] m_Part_init (fun zs => [] ++ zs) (lC (eV 1) (lC (eV 2) (lN))) (aC (eV 3) (aC (eIf (tBl (e2 vNe (eV 4) (eC (.str [110, 101, 118, 101, 114])))) (eC (.str [110, 101, 118, 101, 114])) (eC (.str [97, 108, 119, 97, 121, 115]))) (aN)))))) (sSeq (sIf (tBl (e2 vNe (eLc [8] (iIt (eMv 7)) (gN 8) (tOr (tBl (eEqI [1, 2, 3] (nfA 5 []) false m_Thing_eq (eV 6) (eV 8))) (tBl (eEqI [1, 2, 3] (nfA 5 []) false m_Thing_eq (eV 8) (eV 6)))) (eV 8)) (eLst (aN)))) (sRet (eC (.bl false))) (sNil)) (sSeq (sIf (tOr (tBl (eEqI [1, 2, 3] (nfA 5 []) false m_Thing_eq (eV 6) (eV 1))) (tBl (eEqI [1, 2, 3] (nfA 5 []) false m_Thing_eq (eV 6) (eLst (aC (eV 1) (aC (eV 2) (aC (eV 3) (aC (eV 4) (aN))))))))) (sRet (eC (.bl false))) (sNil)) (sRet (e2 vEq (callM [] [] m_law_told_part [] (lC (eMk 1 [2] m_Part_init (fun _ => [(.tup [(.tup [])]), (.bl false), (.str [97, 108, 119, 97, 121, 115])]) (lC (eV 1) (lN)) aN) (lN))) (eLst (aC (eV 1) (aC (eTup (aC (eTup (aN)) (aN))) (aC (eC (.bl false)) (aC (eC (.str [97, 108, 119, 97, 121, 115])) (aN))))))))))))))))))
def m_law_parts_right : FnM := runF 9 [] false b_law_parts_right
theorem s_law_parts_right (F : FK ck dfs K mg) : FnOk PR w K mg base CX0 6 (He.fAd K ("_law_parts_right", none)) (fdA K ("_law_parts_right", none)) ["_law_part"] (spG K (TT K) [] [] false 1 m_law_parts_right) := by
  obtain ⟨D_bd_Fastening_init_5, X_bd_Fastening_init_5, B_bd_Fastening_init_5, V_bd_Fastening_init_5, R_bd_Fastening_init_5⟩ := bd_Fastening_init_5 F
  obtain ⟨D_bd_Tool_init_3, X_bd_Tool_init_3, B_bd_Tool_init_3, V_bd_Tool_init_3, R_bd_Tool_init_3⟩ := bd_Tool_init_3 F
  obtain ⟨D_bd_Part_init_2, X_bd_Part_init_2, B_bd_Part_init_2, V_bd_Part_init_2, R_bd_Part_init_2⟩ := bd_Part_init_2 F
  obtain ⟨X_bd_Part_init_3_must_due, I_bd_Part_init_3_must_due, B_bd_Part_init_3_must_due, R_bd_Part_init_3_must_due⟩ := bd_Part_init_3_must_due F
  obtain ⟨dvs, kws, FD, _, _, _⟩ := F.c.def_ 23 (d := d_law_parts_right)
  exact fn_ok (N := N_law_parts_right) (ps := ["_law_part"]) (k := 5) (mu := mu_law_parts_right) (m := b_law_parts_right) FD sc_law_parts_right (by decide) (by decide) (by decide) (by decide) rfl (fun cdv A outer s H vs E hr =>
    (ss_cons (ss_asg (ts := [1, 2, 3, 4]) (he := (se_v (i := 0))) (hg := (sg_t (h := (sgs_cons (sg_n (i := 1) (hN := sc_law_parts_right.nd)) (sgs_cons (sg_n (i := 2) (hN := sc_law_parts_right.nd)) (sgs_cons (sg_n (i := 3) (hN := sc_law_parts_right.nd)) (sgs_cons (sg_n (i := 4) (hN := sc_law_parts_right.nd)) sgs_nil))))))))
    (ss_cons (ss_setO (i := 5) (r := 1000) (hN := sc_law_parts_right.nd) (he := (so_x (sx_call (ro := true) (r := 1000) (s_law_lists_o F) (hr.mono (by decide : 1 ≤ 5)) (hm := (F.glo 17)) (hk := (kp_law_lists F)) (hb := (bd_law_lists F)) (hd := .nil) (hdv := (fun O H => VRs.nil)) (ha := (sl_cons (se_v (i := 2)) sl_nil)) (hl := hlo (lnC lnN) rfl)))) (hl := fun σ h => h ▸ (by decide : N_law_parts_right.length ≤ 1000)))
    (ss_cons (ss_set (i := 6) (hN := sc_law_parts_right.nd) (he := (se_mkK (hN := (by decide : N_law_parts_right.length ≤ MK)) (np := 2) (c := 1) (mk_Part F) (s_Part_init F) (hr.mono (by decide : 5 ≤ 5)) (hm := (F.glo 44)) (hb := B_bd_Part_init_3_must_due) (har := (fun O H zs zs' r l => ⟨VRs.app (R_bd_Part_init_3_must_due _ O H) r, by rw [List.length_append, l]; rfl⟩)) (ha := (sl_cons (se_v (i := 1)) (sl_bor (i := 5) (hr := sl_nil)))) (hk := (skw_cons (se_v (i := 3)) (skw_cons (se_if (st_v (se_is (insI F) (isAB_one (F.c.fact 25)) (hm := (F.free 20)) (ha := (se_v (i := 4))) (hc := (pe_bltn (v := .ty "str") rfl (F.free 26) (by first | rfl | decide +kernel) rfl)) (hk := (ClsV.ty _)))) (se_v (i := 4)) (se_tup (sa_cons (se_ix (se_v (i := 4)) se_int) (sa_cons (se_callTy (hc := c_list) (hm := (F.free 9)) (ha := (sa_cons (se_ix (se_v (i := 4)) se_int) sa_nil))) sa_nil)))) pk_nil0))) (hl := (lnC (lnB lnN))) (hlk := (laC (laC laN))))))
    (ss_cons (ss_expr (he := (se_app (s := slm 5) (he := (se_lst (sa_cons (se_str (by decide +kernel)) sa_nil))))))
    (ss_cons (ss_if (st_cmp (o_ne (hu20 hr)) (se_x (sx_call (ro := false) (r := 0) (s_law_told_part F) (hr.mono (by decide : 1 ≤ 5)) (hm := (F.glo 45)) (hk := (kp_law_told_part F)) (hb := (bd_law_told_part F)) (hd := .nil) (hdv := (fun O H => VRs.nil)) (ha := (sl_cons (se_v (i := 6)) sl_nil)) (hl := hlo (lnC lnN) rfl))) (se_lst (sa_cons (se_v (i := 1)) (sa_cons (se_v (i := 2)) (sa_cons (se_v (i := 3)) (sa_cons (se_v (i := 4)) sa_nil)))))) (ss_one (ss_ret (he := se_bl))) ss_nil)
    (ss_cons (ss_if (st_neI (insI F) (nfB_ok (F.c.fact 48)) (eqF_Thing F) (s_Thing_eq F) (hr.mono (by decide : 2 ≤ 5)) (bd_Thing_eq F) (ha := (se_v (i := 6))) (hb' := (se_mkK (hN := (by decide : N_law_parts_right.length ≤ MK)) (np := 2) (c := 1) (mk_Part F) (s_Part_init F) (hr.mono (by decide : 5 ≤ 5)) (hm := (F.glo 44)) (hb := B_bd_Part_init_3_must_due) (har := (fun O H zs zs' r l => ⟨VRs.app (R_bd_Part_init_3_must_due _ O H) r, by rw [List.length_append, l]; rfl⟩)) (ha := (sl_cons (se_v (i := 1)) (sl_cons (se_v (i := 2)) sl_nil))) (hk := (skw_cons (se_v (i := 3)) (skw_cons (se_v (i := 4)) pk_nil0))) (hl := (lnC (lnC lnN))) (hlk := (laC (laC laN)))))) (ss_one (ss_ret (he := se_bl))) ss_nil)
    (ss_cons (ss_setO (i := 7) (r := 1000) (hN := sc_law_parts_right.nd) (he := (so_lst (sa_cons (se_mkK (hN := (by decide : N_law_parts_right.length ≤ MK)) (np := 2) (c := 1) (mk_Part F) (s_Part_init F) (hr.mono (by decide : 5 ≤ 5)) (hm := (F.glo 44)) (hb := B_bd_Part_init_3_must_due) (har := (fun O H zs zs' r l => ⟨VRs.app (R_bd_Part_init_3_must_due _ O H) r, by rw [List.length_append, l]; rfl⟩)) (ha := (sl_cons (se_op o_add (se_v (i := 1)) (se_str (by decide +kernel))) (sl_cons (se_v (i := 2)) sl_nil))) (hk := (skw_cons (se_v (i := 3)) (skw_cons (se_v (i := 4)) pk_nil0))) (hl := (lnC (lnC lnN))) (hlk := (laC (laC laN)))) (sa_cons (se_mkK (hN := (by decide : N_law_parts_right.length ≤ MK)) (np := 2) (c := 1) (mk_Part F) (s_Part_init F) (hr.mono (by decide : 5 ≤ 5)) (hm := (F.glo 44)) (hb := B_bd_Part_init_3_must_due) (har := (fun O H zs zs' r l => ⟨VRs.app (R_bd_Part_init_3_must_due _ O H) r, by rw [List.length_append, l]; rfl⟩)) (ha := (sl_cons (se_v (i := 1)) (sl_cons (se_op o_add (se_v (i := 2)) (se_tup (sa_cons (se_tup (sa_cons (se_str (by decide +kernel)) sa_nil)) sa_nil))) sl_nil))) (hk := (skw_cons (se_v (i := 3)) (skw_cons (se_v (i := 4)) pk_nil0))) (hl := (lnC (lnC lnN))) (hlk := (laC (laC laN)))) sa_nil)))) (hl := fun σ h => h ▸ (by decide : N_law_parts_right.length ≤ 1000)))
    (ss_cons (ss_setO (i := 7) (r := 1000) (hN := sc_law_parts_right.nd) (he := (so_add (se_mv (i := 7)) (se_lst (sa_cons (se_mkK (hN := (by decide : N_law_parts_right.length ≤ MK)) (np := 2) (c := 1) (mk_Part F) (s_Part_init F) (hr.mono (by decide : 5 ≤ 5)) (hm := (F.glo 44)) (hb := B_bd_Part_init_3_must_due) (har := (fun O H zs zs' r l => ⟨VRs.app (R_bd_Part_init_3_must_due _ O H) r, by rw [List.length_append, l]; rfl⟩)) (ha := (sl_cons (se_v (i := 1)) (sl_cons (se_v (i := 2)) sl_nil))) (hk := (skw_cons (se_not (se_v (i := 3))) (skw_cons (se_v (i := 4)) pk_nil0))) (hl := (lnC (lnC lnN))) (hlk := (laC (laC laN)))) (sa_cons (se_mk (hN := (by decide : N_law_parts_right.length ≤ MK)) (c := 3) (mk_Tool F) (s_Tool_init F) (hr.mono (by decide : 5 ≤ 5)) (hm := (F.glo 61)) (hb := B_bd_Tool_init_3) (hd := V_bd_Tool_init_3) (hdv := (fun O H => R_bd_Tool_init_3 _ O H)) (ha := (sl_cons (se_v (i := 1)) (sl_cons (se_v (i := 2)) sl_nil))) (hl := hlo1 (lnC (lnC lnN)) rfl)) (sa_cons (se_mk (hN := (by decide : N_law_parts_right.length ≤ MK)) (c := 2) (mk_Fastening F) (s_Fastening_init F) (hr.mono (by decide : 5 ≤ 5)) (hm := (F.glo 58)) (hb := B_bd_Fastening_init_5) (hd := V_bd_Fastening_init_5) (hdv := (fun O H => R_bd_Fastening_init_5 _ O H)) (ha := (sl_cons (se_v (i := 1)) (sl_cons (se_lst (sa_cons (se_str (by decide +kernel)) sa_nil)) (sl_cons se_int (sl_cons (se_v (i := 2)) sl_nil))))) (hl := hlo1 (lnC (lnC (lnC (lnC lnN)))) rfl)) sa_nil)))))) (hl := fun σ h => h ▸ (by decide : N_law_parts_right.length ≤ 1000)))
    (ss_cons (ss_expr (he := (se_app (s := slm 7) (he := (se_mkK (hN := (by decide : N_law_parts_right.length ≤ MK)) (np := 2) (c := 1) (mk_Part F) (s_Part_init F) (hr.mono (by decide : 5 ≤ 5)) (hm := (F.glo 44)) (hb := B_bd_Part_init_3_must_due) (har := (fun O H zs zs' r l => ⟨VRs.app (R_bd_Part_init_3_must_due _ O H) r, by rw [List.length_append, l]; rfl⟩)) (ha := (sl_cons (se_v (i := 1)) (sl_cons (se_v (i := 2)) sl_nil))) (hk := (skw_cons (se_v (i := 3)) (skw_cons (se_if (st_cmp (o_ne (hu20 hr)) (se_v (i := 4)) (se_str (by decide +kernel))) (se_str (by decide +kernel)) (se_str (by decide +kernel))) pk_nil0))) (hl := (lnC (lnC lnN))) (hlk := (laC (laC laN))))))))
    (ss_cons (ss_if (st_cmp (o_ne (hu20 hr)) (se_lc (own := [("_law_other", 8)]) (ts := [8]) (hN := sc_law_parts_right.nd) (hi := (si_it (se_mv (i := 7)))) (ok := blkOk_by (by rfl)) (hg := fun s H C cl fp => (sg_n (i := 8) (hN := sc_law_parts_right.nd))) (ht := fun s H C cl fp => (sts_one (st_w (sw_or (st_eqI (insI F) (nfB_ok (F.c.fact 48)) (eqF_Thing F) (s_Thing_eq F) (hr.mono (by decide : 1 ≤ 5)) (bd_Thing_eq F) (ha := (se_v (i := 6))) (hb' := (se_v (i := 8)))) (sw_or1 (st_eqI (insI F) (nfB_ok (F.c.fact 48)) (eqF_Thing F) (s_Thing_eq F) (hr.mono (by decide : 1 ≤ 5)) (bd_Thing_eq F) (ha := (se_v (i := 8))) (hb' := (se_v (i := 6))))))))) (he := fun s H C cl fp => (se_v (i := 8)))) (se_lst sa_nil)) (ss_one (ss_ret (he := se_bl))) ss_nil)
    (ss_cons (ss_if (st_w (sw_or (st_eqI (insI F) (nfB_ok (F.c.fact 48)) (eqF_Thing F) (s_Thing_eq F) (hr.mono (by decide : 1 ≤ 5)) (bd_Thing_eq F) (ha := (se_v (i := 6))) (hb' := (se_v (i := 1)))) (sw_or1 (st_eqI (insI F) (nfB_ok (F.c.fact 48)) (eqF_Thing F) (s_Thing_eq F) (hr.mono (by decide : 1 ≤ 5)) (bd_Thing_eq F) (ha := (se_v (i := 6))) (hb' := (se_lst (sa_cons (se_v (i := 1)) (sa_cons (se_v (i := 2)) (sa_cons (se_v (i := 3)) (sa_cons (se_v (i := 4)) sa_nil)))))))))) (ss_one (ss_ret (he := se_bl))) ss_nil)
    (ss_one (ss_ret (he := (se_cmp (o_eq (hu20 hr)) (se_x (sx_call (ro := false) (r := 0) (s_law_told_part F) (hr.mono (by decide : 1 ≤ 5)) (hm := (F.glo 45)) (hk := (kp_law_told_part F)) (hb := (bd_law_told_part F)) (hd := .nil) (hdv := (fun O H => VRs.nil)) (ha := (sl_cons (se_mk (hN := (by decide : N_law_parts_right.length ≤ MK)) (c := 1) (mk_Part F) (s_Part_init F) (hr.mono (by decide : 5 ≤ 5)) (hm := (F.glo 44)) (hb := B_bd_Part_init_2) (hd := V_bd_Part_init_2) (hdv := (fun O H => R_bd_Part_init_2 _ O H)) (ha := (sl_cons (se_v (i := 1)) sl_nil)) (hl := hlo1 (lnC lnN) rfl)) sl_nil)) (hl := hlo (lnC lnN) rfl))) (se_lst (sa_cons (se_v (i := 1)) (sa_cons (se_tup (sa_cons (se_tup sa_nil) sa_nil)) (sa_cons se_bl (sa_cons (se_str (by decide +kernel)) sa_nil)))))))))))))))))))))
abbrev N_law_told_fastening : List PySem.Str := ["_law_one_here"]
theorem sc_law_told_fastening : FnScope N_law_told_fastening ["_law_one_here"] (defScope (top 34)) := ⟨rfl, rfl, rfl, by decide +kernel, rfl, by decide +kernel, by decide +kernel⟩
def mu_law_told_fastening (i : Nat) : Bool := [].contains i
def b_law_told_fastening : SM := sRet (eLst (aC (e1 (vAt [0, 1, 2, 3, 4] 0) (eV 0)) (aC (e1 (vAt [2] 5) (eV 0)) (aC (e1 (vAt [2] 6) (eV 0)) (aC (e1 (vAt [0, 1, 2, 3] 1) (eV 0)) (aN))))))
def m_law_told_fastening : FnM := runF 1 [] false b_law_told_fastening
theorem s_law_told_fastening (F : FK ck dfs K mg) : FnOk PR w K mg base CX0 1 (He.fAd K ("_law_told_fastening", none)) (fdA K ("_law_told_fastening", none)) ["_law_one_here"] (spG K (TT K) [] [] false 1 m_law_told_fastening) := by
  obtain ⟨dvs, kws, FD, _, _, _⟩ := F.c.def_ 24 (d := d_law_told_fastening)
  exact fn_ok (N := N_law_told_fastening) (ps := ["_law_one_here"]) (k := 0) (mu := mu_law_told_fastening) (m := b_law_told_fastening) FD sc_law_told_fastening (by decide) (by decide) (by decide) (by decide) rfl (fun cdv A outer s H vs E hr =>
    (ss_one (ss_ret (he := (se_lst (sa_cons (se_at (fld_title F) rfl (se_v (i := 0))) (sa_cons (se_at (fld_holds F) rfl (se_v (i := 0))) (sa_cons (se_at (fld_rounds F) rfl (se_v (i := 0))) (sa_cons (se_at (fld_ways F) rfl (se_v (i := 0))) sa_nil)))))))))
abbrev N_law_fastenings_right : List PySem.Str := ["_law_entry", "_law_name", "_law_holds", "_law_rounds", "_law_ways_here", "_law_held", "_law_rows", "_law_one_here", "_law_others", "_law_other"]
theorem sc_law_fastenings_right : FnScope N_law_fastenings_right ["_law_entry"] (defScope (top 37)) := ⟨rfl, rfl, rfl, by decide +kernel, rfl, by decide +kernel, by decide +kernel⟩
def mu_law_fastenings_right (i : Nat) : Bool := [5, 6].contains i
def b_law_fastenings_right : SM := sSeq (sAsg (eV 0) (gT [gN 1, gN 2, gN 3, gN 4])) (sSeq (sParX true 5 6 (eN vList (aC (eV 2) (aN))) (callM [] [] m_law_lists_o [] (lC (eV 4) (lN)))) (sSeq (sSet 7 (eMk 2 [2, 4] m_Fastening_init (fun _ => []) (lC (eV 1) (lB 5 (lC (eV 3) (lB 6 (lN))))) aN)) (sSeq (sEx (eClr 5)) (sSeq (sEx (eClr 6)) (sSeq (sIf (tBl (e2 vNe (callM [] [] m_law_told_fastening [] (lC (eV 7) (lN))) (eLst (aC (eV 1) (aC (eV 2) (aC (eV 3) (aC (eV 4) (aN)))))))) (sRet (eC (.bl false))) (sNil)) (sSeq (sIf (tBl (eEqI [1, 2, 3] (nfA 5 []) true m_Thing_eq (eV 7) (eMk 2 [2, 4] m_Fastening_init (fun _ => []) (lC (eV 1) (lC (eV 2) (lC (eV 3) (lC (eV 4) (lN))))) aN))) (sRet (eC (.bl false))) (sNil)) (sSeq (sSet 8 (eLst (aC (eMk 2 [2, 4] m_Fastening_init (fun _ => []) (lC (e2 vAdd (eV 1) (eC (.str [122]))) (lC (eV 2) (lC (eV 3) (lC (eV 4) (lN))))) aN) (aC (eMk 2 [2, 4] m_Fastening_init (fun _ => []) (lC (eV 1) (lC (e2 vAdd (eV 2) (eTup (aC (eC (.str [122, 122])) (aN)))) (lC (eV 3) (lC (eV 4) (lN))))) aN) (aN))))) (sSeq (sSet 8 (e2 vAdd (eV 8) (eLst (aC (eMk 2 [2, 4] m_Fastening_init (fun _ => []) (lC (eV 1) (lC (eV 2) (lC (eC (.int 3)) (lC (eV 4) (lN))))) aN) (aC (eMk 2 [2, 4] m_Fastening_init (fun _ => []) (lC (eV 1) (lC (eV 2) (lC (eV 3) (lC (eTup (aC (eTup (aC (eC (.str [122, 122])) (aN))) (aN))) (lN))))) aN) (aC (eMk 3 [] m_Tool_init (fun _ => []) (lC (eV 1) (lC (eV 4) (lN))) aN) (aN))))))) (sSeq (sIf (tBl (e2 vNe (eLc [9] (iIt (eV 8)) (gN 9) (tBl (eEqI [1, 2, 3] (nfA 5 []) false m_Thing_eq (eV 7) (eV 9))) (eV 9)) (eLst (aN)))) (sRet (eC (.bl false))) (sNil)) (sRet (e2 vEq (callM [] [] m_law_told_fastening [] (lC (eMk 2 [2, 4] m_Fastening_init (fun _ => [(.int 1), (.tup [(.tup [])])]) (lC (eV 1) (lC (eV 2) (lN))) aN) (lN))) (eLst (aC (eV 1) (aC (eV 2) (aC (eC (.int 1)) (aC (eTup (aC (eTup (aN)) (aN))) (aN)))))))))))))))))
def m_law_fastenings_right : FnM := runF 10 [] false b_law_fastenings_right
theorem s_law_fastenings_right (F : FK ck dfs K mg) : FnOk PR w K mg base CX0 6 (He.fAd K ("_law_fastenings_right", none)) (fdA K ("_law_fastenings_right", none)) ["_law_entry"] (spG K (TT K) [] [] false 1 m_law_fastenings_right) := by
  obtain ⟨D_bd_Fastening_init_5, X_bd_Fastening_init_5, B_bd_Fastening_init_5, V_bd_Fastening_init_5, R_bd_Fastening_init_5⟩ := bd_Fastening_init_5 F
  obtain ⟨D_bd_Tool_init_3, X_bd_Tool_init_3, B_bd_Tool_init_3, V_bd_Tool_init_3, R_bd_Tool_init_3⟩ := bd_Tool_init_3 F
  obtain ⟨D_bd_Fastening_init_3, X_bd_Fastening_init_3, B_bd_Fastening_init_3, V_bd_Fastening_init_3, R_bd_Fastening_init_3⟩ := bd_Fastening_init_3 F
  obtain ⟨dvs, kws, FD, _, _, _⟩ := F.c.def_ 25 (d := d_law_fastenings_right)
  exact fn_ok (N := N_law_fastenings_right) (ps := ["_law_entry"]) (k := 5) (mu := mu_law_fastenings_right) (m := b_law_fastenings_right) FD sc_law_fastenings_right (by decide) (by decide) (by decide) (by decide) rfl (fun cdv A outer s H vs E hr =>
    (ss_cons (ss_asg (ts := [1, 2, 3, 4]) (he := (se_v (i := 0))) (hg := (sg_t (h := (sgs_cons (sg_n (i := 1) (hN := sc_law_fastenings_right.nd)) (sgs_cons (sg_n (i := 2) (hN := sc_law_fastenings_right.nd)) (sgs_cons (sg_n (i := 3) (hN := sc_law_fastenings_right.nd)) (sgs_cons (sg_n (i := 4) (hN := sc_law_fastenings_right.nd)) sgs_nil))))))))
    (ss_cons (ss_par (ro1 := true) (ro2 := true) (r1 := 1000) (r2 := 1001) (i := 5) (j := 6) (hN := sc_law_fastenings_right.nd) (ha := (sx_o (r := 1000) (so_list (hm := (F.free 9)) (ha := (sa_cons (se_v (i := 2)) sa_nil))))) (hb := (sx_o (r := 1001) (so_x (sx_call (ro := true) (r := 1001) (s_law_lists_o F) (hr.mono (by decide : 1 ≤ 5)) (hm := (F.glo 17)) (hk := (kp_law_lists F)) (hb := (bd_law_lists F)) (hd := .nil) (hdv := (fun O H => VRs.nil)) (ha := (sl_cons (se_v (i := 4)) sl_nil)) (hl := hlo (lnC lnN) rfl))))) (m1 := rfl) (m2 := rfl) (hl := (by decide : N_law_fastenings_right.length ≤ 1000 ∧ N_law_fastenings_right.length ≤ 1001)))
    (ss_cons (ss_set (i := 7) (hN := sc_law_fastenings_right.nd) (he := (se_mk (hN := (by decide : N_law_fastenings_right.length ≤ MK)) (c := 2) (mk_Fastening F) (s_Fastening_init F) (hr.mono (by decide : 5 ≤ 5)) (hm := (F.glo 58)) (hb := B_bd_Fastening_init_5) (hd := V_bd_Fastening_init_5) (hdv := (fun O H => R_bd_Fastening_init_5 _ O H)) (ha := (sl_cons (se_v (i := 1)) (sl_bor (i := 5) (hr := (sl_cons (se_v (i := 3)) (sl_bor (i := 6) (hr := sl_nil))))))) (hl := hlo1 (lnC (lnB (lnC (lnB lnN)))) rfl))))
    (ss_cons (ss_expr (he := (se_clr (s := slm 5))))
    (ss_cons (ss_expr (he := (se_clr (s := slm 6))))
    (ss_cons (ss_if (st_cmp (o_ne (hu20 hr)) (se_x (sx_call (ro := false) (r := 0) (s_law_told_fastening F) (hr.mono (by decide : 1 ≤ 5)) (hm := (F.glo 63)) (hk := (kp_law_told_fastening F)) (hb := (bd_law_told_fastening F)) (hd := .nil) (hdv := (fun O H => VRs.nil)) (ha := (sl_cons (se_v (i := 7)) sl_nil)) (hl := hlo (lnC lnN) rfl))) (se_lst (sa_cons (se_v (i := 1)) (sa_cons (se_v (i := 2)) (sa_cons (se_v (i := 3)) (sa_cons (se_v (i := 4)) sa_nil)))))) (ss_one (ss_ret (he := se_bl))) ss_nil)
    (ss_cons (ss_if (st_neI (insI F) (nfB_ok (F.c.fact 48)) (eqF_Thing F) (s_Thing_eq F) (hr.mono (by decide : 2 ≤ 5)) (bd_Thing_eq F) (ha := (se_v (i := 7))) (hb' := (se_mk (hN := (by decide : N_law_fastenings_right.length ≤ MK)) (c := 2) (mk_Fastening F) (s_Fastening_init F) (hr.mono (by decide : 5 ≤ 5)) (hm := (F.glo 58)) (hb := B_bd_Fastening_init_5) (hd := V_bd_Fastening_init_5) (hdv := (fun O H => R_bd_Fastening_init_5 _ O H)) (ha := (sl_cons (se_v (i := 1)) (sl_cons (se_v (i := 2)) (sl_cons (se_v (i := 3)) (sl_cons (se_v (i := 4)) sl_nil))))) (hl := hlo1 (lnC (lnC (lnC (lnC lnN)))) rfl)))) (ss_one (ss_ret (he := se_bl))) ss_nil)
    (ss_cons (ss_set (i := 8) (hN := sc_law_fastenings_right.nd) (he := (se_lst (sa_cons (se_mk (hN := (by decide : N_law_fastenings_right.length ≤ MK)) (c := 2) (mk_Fastening F) (s_Fastening_init F) (hr.mono (by decide : 5 ≤ 5)) (hm := (F.glo 58)) (hb := B_bd_Fastening_init_5) (hd := V_bd_Fastening_init_5) (hdv := (fun O H => R_bd_Fastening_init_5 _ O H)) (ha := (sl_cons (se_op o_add (se_v (i := 1)) (se_str (by decide +kernel))) (sl_cons (se_v (i := 2)) (sl_cons (se_v (i := 3)) (sl_cons (se_v (i := 4)) sl_nil))))) (hl := hlo1 (lnC (lnC (lnC (lnC lnN)))) rfl)) (sa_cons (se_mk (hN := (by decide : N_law_fastenings_right.length ≤ MK)) (c := 2) (mk_Fastening F) (s_Fastening_init F) (hr.mono (by decide : 5 ≤ 5)) (hm := (F.glo 58)) (hb := B_bd_Fastening_init_5) (hd := V_bd_Fastening_init_5) (hdv := (fun O H => R_bd_Fastening_init_5 _ O H)) (ha := (sl_cons (se_v (i := 1)) (sl_cons (se_op o_add (se_v (i := 2)) (se_tup (sa_cons (se_str (by decide +kernel)) sa_nil))) (sl_cons (se_v (i := 3)) (sl_cons (se_v (i := 4)) sl_nil))))) (hl := hlo1 (lnC (lnC (lnC (lnC lnN)))) rfl)) sa_nil)))))
    (ss_cons (ss_set (i := 8) (hN := sc_law_fastenings_right.nd) (he := (se_op o_add (se_v (i := 8)) (se_lst (sa_cons (se_mk (hN := (by decide : N_law_fastenings_right.length ≤ MK)) (c := 2) (mk_Fastening F) (s_Fastening_init F) (hr.mono (by decide : 5 ≤ 5)) (hm := (F.glo 58)) (hb := B_bd_Fastening_init_5) (hd := V_bd_Fastening_init_5) (hdv := (fun O H => R_bd_Fastening_init_5 _ O H)) (ha := (sl_cons (se_v (i := 1)) (sl_cons (se_v (i := 2)) (sl_cons se_int (sl_cons (se_v (i := 4)) sl_nil))))) (hl := hlo1 (lnC (lnC (lnC (lnC lnN)))) rfl)) (sa_cons (se_mk (hN := (by decide : N_law_fastenings_right.length ≤ MK)) (c := 2) (mk_Fastening F) (s_Fastening_init F) (hr.mono (by decide : 5 ≤ 5)) (hm := (F.glo 58)) (hb := B_bd_Fastening_init_5) (hd := V_bd_Fastening_init_5) (hdv := (fun O H => R_bd_Fastening_init_5 _ O H)) (ha := (sl_cons (se_v (i := 1)) (sl_cons (se_v (i := 2)) (sl_cons (se_v (i := 3)) (sl_cons (se_tup (sa_cons (se_tup (sa_cons (se_str (by decide +kernel)) sa_nil)) sa_nil)) sl_nil))))) (hl := hlo1 (lnC (lnC (lnC (lnC lnN)))) rfl)) (sa_cons (se_mk (hN := (by decide : N_law_fastenings_right.length ≤ MK)) (c := 3) (mk_Tool F) (s_Tool_init F) (hr.mono (by decide : 5 ≤ 5)) (hm := (F.glo 61)) (hb := B_bd_Tool_init_3) (hd := V_bd_Tool_init_3) (hdv := (fun O H => R_bd_Tool_init_3 _ O H)) (ha := (sl_cons (se_v (i := 1)) (sl_cons (se_v (i := 4)) sl_nil))) (hl := hlo1 (lnC (lnC lnN)) rfl)) sa_nil)))))))
    (ss_cons (ss_if (st_cmp (o_ne (hu20 hr)) (se_lc (own := [("_law_other", 9)]) (ts := [9]) (hN := sc_law_fastenings_right.nd) (hi := (si_it (se_v (i := 8)))) (ok := blkOk_by (by rfl)) (hg := fun s H C cl fp => (sg_n (i := 9) (hN := sc_law_fastenings_right.nd))) (ht := fun s H C cl fp => (sts_one (st_eqI (insI F) (nfB_ok (F.c.fact 48)) (eqF_Thing F) (s_Thing_eq F) (hr.mono (by decide : 1 ≤ 5)) (bd_Thing_eq F) (ha := (se_v (i := 7))) (hb' := (se_v (i := 9)))))) (he := fun s H C cl fp => (se_v (i := 9)))) (se_lst sa_nil)) (ss_one (ss_ret (he := se_bl))) ss_nil)
    (ss_one (ss_ret (he := (se_cmp (o_eq (hu20 hr)) (se_x (sx_call (ro := false) (r := 0) (s_law_told_fastening F) (hr.mono (by decide : 1 ≤ 5)) (hm := (F.glo 63)) (hk := (kp_law_told_fastening F)) (hb := (bd_law_told_fastening F)) (hd := .nil) (hdv := (fun O H => VRs.nil)) (ha := (sl_cons (se_mk (hN := (by decide : N_law_fastenings_right.length ≤ MK)) (c := 2) (mk_Fastening F) (s_Fastening_init F) (hr.mono (by decide : 5 ≤ 5)) (hm := (F.glo 58)) (hb := B_bd_Fastening_init_3) (hd := V_bd_Fastening_init_3) (hdv := (fun O H => R_bd_Fastening_init_3 _ O H)) (ha := (sl_cons (se_v (i := 1)) (sl_cons (se_v (i := 2)) sl_nil))) (hl := hlo1 (lnC (lnC lnN)) rfl)) sl_nil)) (hl := hlo (lnC lnN) rfl))) (se_lst (sa_cons (se_v (i := 1)) (sa_cons (se_v (i := 2)) (sa_cons se_int (sa_cons (se_tup (sa_cons (se_tup sa_nil) sa_nil)) sa_nil))))))))))))))))))))
def mu_law_lists (i : Nat) : Bool := [].contains i
def b_law_lists : SM := sRet (eLc [1] (iIt (eV 0)) (gN 1) (tTrue) (eN vList (aC (eV 1) (aN))))
def m_law_lists : FnM := runF 2 [] false b_law_lists
theorem s_law_lists (F : FK ck dfs K mg) : FnOk PR w K mg base CX0 1 (He.fAd K ("_law_lists", none)) (fdA K ("_law_lists", none)) ["_law_ways_here"] (spG K (TT K) [] [] false 1 m_law_lists) := by
  obtain ⟨dvs, kws, FD, _, _, _⟩ := F.c.def_ 8 (d := d_law_lists)
  exact fn_ok (N := N_law_lists) (ps := ["_law_ways_here"]) (k := 0) (mu := mu_law_lists) (m := b_law_lists) FD sc_law_lists (by decide) (by decide) (by decide) (by decide) rfl (fun cdv A outer s H vs E hr =>
    (ss_one (ss_ret (he := (se_lc (own := [("_law_way", 1)]) (ts := [1]) (hN := sc_law_lists.nd) (hi := (si_it (se_v (i := 0)))) (ok := blkOk_by (by rfl)) (hg := fun s H C cl fp => (sg_n (i := 1) (hN := sc_law_lists.nd))) (ht := fun s H C cl fp => sts_nil) (he := fun s H C cl fp => (se_callTy (hc := c_list) (hm := (F.free 9)) (ha := (sa_cons (se_v (i := 1)) sa_nil)))))))))
abbrev N_Variant_init : List PySem.Str := ["self", "title", "options"]
theorem sc_Variant_init : FnScope N_Variant_init ["self", "title", "options"] (defScope (inClass (top 23) 0)) := ⟨rfl, rfl, rfl, by decide +kernel, rfl, by decide +kernel, by decide +kernel⟩
def mu_Variant_init (i : Nat) : Bool := [0, 2000002].contains i
def b_Variant_init : SM := sSeq (sEx (callM [] [] m_look_at [] (lC (eLst (aC (eTup (aC (eC (.str [116, 105, 116, 108, 101])) (aC (callM [] [] m_is_word [] (lC (eV 1) (lN))) (aN)))) (aC (eTup (aC (eC (.str [111, 112, 116, 105, 111, 110, 115])) (aC (callM [] [0] m_are_words [] (lB 2 (lC (eC (.int 2)) (lC (eC (.int 3)) (lN))))) (aN)))) (aN)))) (lN)))) (sSeq (sAt [0, 1, 2, 3, 4] 0 0 (eV 1)) (sAt [4] 7 0 (eTpS 2)))
def m_Variant_init : FnM := runF 3 [0] false b_Variant_init
theorem s_Variant_init (F : FK ck dfs K mg) : FnOk PR w K mg base CX0 3 (He.fAd K ("Variant", some "__init__")) (fdA K ("Variant", some "__init__")) ["self", "title", "options"] (spG K (TT K) [0] [2] false 3 m_Variant_init) := by
  obtain ⟨dvs, kws, FD, _, _, _⟩ := F.c.def_ 26 (d := d_Variant_init)
  exact fn_ok (N := N_Variant_init) (ps := ["self", "title", "options"]) (k := 2) (mu := mu_Variant_init) (m := b_Variant_init) FD sc_Variant_init (by decide) (by decide) (by decide) (by decide) rfl (fun cdv A outer s H vs E hr =>
    (ss_cons (ss_expr (he := (se_x (sx_call (ro := false) (r := 0) (s_look_at F) (hr.mono (by decide : 1 ≤ 2)) (hm := (F.glo 36)) (hk := (kp_look_at F)) (hb := (bd_look_at F)) (hd := .nil) (hdv := (fun O H => VRs.nil)) (ha := (sl_cons (se_lst (sa_cons (se_tup (sa_cons (se_str (by decide +kernel)) (sa_cons (se_x (sx_call (ro := false) (r := 0) (s_is_word F) (hr.mono (by decide : 1 ≤ 2)) (hm := (F.glo 30)) (hk := (kp_is_word F)) (hb := (bd_is_word F)) (hd := .nil) (hdv := (fun O H => VRs.nil)) (ha := (sl_cons (se_v (i := 1)) sl_nil)) (hl := hlo (lnC lnN) rfl))) sa_nil))) (sa_cons (se_tup (sa_cons (se_str (by decide +kernel)) (sa_cons (se_x (sx_call (ro := false) (r := 0) (s_are_words F) (hr.mono (by decide : 2 ≤ 2)) (hm := (F.glo 32)) (hk := (kp_are_words F)) (hb := (bd_are_words F)) (hd := .nil) (hdv := (fun O H => VRs.nil)) (ha := (sl_bor (i := 2) (hr := (sl_cons se_int (sl_cons se_int sl_nil))))) (hl := hlo (lnB (lnC (lnC lnN))) rfl))) sa_nil))) sa_nil))) sl_nil)) (hl := hlo (lnC lnN) rfl)))))
    (ss_cons (ss_at (fld_title F) rfl (s := slm 0) (hv := (se_v (i := 1))))
    (ss_one (ss_at (fld_options F) rfl (s := slm 0) (hv := (se_tpS (hm := (F.free 12)) (s := slm 2))))))))
abbrev N_Variant_eq : List PySem.Str := ["self", "other"]
theorem sc_Variant_eq : FnScope N_Variant_eq ["self", "other"] (defScope (inClass (top 23) 1)) := ⟨rfl, rfl, rfl, by decide +kernel, rfl, by decide +kernel, by decide +kernel⟩
def mu_Variant_eq (i : Nat) : Bool := [].contains i
def b_Variant_eq : SM := sRet (eAn (eIs (isA [] [4] 5) (eV 1)) (e2 vEq (eTup (aC (e1 (vAt [0, 1, 2, 3, 4] 0) (eV 0)) (aC (e1 (vAt [4] 7) (eV 0)) (aN)))) (eTup (aC (e1 (vAt [0, 1, 2, 3, 4] 0) (eV 1)) (aC (e1 (vAt [4] 7) (eV 1)) (aN))))))
def m_Variant_eq : FnM := runF 2 [] false b_Variant_eq
theorem s_Variant_eq (F : FK ck dfs K mg) : FnOk PR w K mg base CX0 1 (He.fAd K ("Variant", some "__eq__")) (fdA K ("Variant", some "__eq__")) ["self", "other"] (spG K (TT K) [] [] false 2 m_Variant_eq) := by
  obtain ⟨dvs, kws, FD, _, _, _⟩ := F.c.def_ 27 (d := d_Variant_eq)
  exact fn_ok (N := N_Variant_eq) (ps := ["self", "other"]) (k := 0) (mu := mu_Variant_eq) (m := b_Variant_eq) FD sc_Variant_eq (by decide) (by decide) (by decide) (by decide) rfl (fun cdv A outer s H vs E hr =>
    (ss_one (ss_ret (he := (se_and (se_is (insI F) (isAB_one (F.c.fact 68)) (hm := (F.free 20)) (ha := (se_v (i := 1))) (hc := (pe_glob (v := .ref (He.ga K "Variant")) rfl (F.glo 67) rfl)) (hk := (ClsV.own _))) (se_one (se_cmp (o_eq (hu20 hr)) (se_tup (sa_cons (se_at (fld_title F) rfl (se_v (i := 0))) (sa_cons (se_at (fld_options F) rfl (se_v (i := 0))) sa_nil))) (se_tup (sa_cons (se_at (fld_title F) rfl (se_v (i := 1))) (sa_cons (se_at (fld_options F) rfl (se_v (i := 1))) sa_nil))))))))))
abbrev N_law : List PySem.Str := ["_law_script", "_law_k", "_law_pool_here", "_law_box_here", "_law_part", "_law_entry", "_law_ways_here", "_law_tool", "_law_rows", "_law_variant", "_law_others", "_law_other"]
theorem sc_law : FnScope N_law ["_law_script"] (defScope (top 38)) := ⟨rfl, rfl, rfl, by decide +kernel, rfl, by decide +kernel, by decide +kernel⟩
def mu_law (i : Nat) : Bool := [2, 8].contains i
def b_law : SM := sSeq (sFor (iRg (aC (eN vMax (aC (eC (.int 1)) (aC (eN vMin (aC (eC (.int 10)) (aC (eN vLen (aC (eV 0) (aN))) (aN)))) (aN)))) (aN))) (gN 1) (sSeq (sSet 2 (callM [] [] m_law_pool_o [] (lC (eV 0) (lC (eV 1) (lN))))) (sSeq (sSet 3 (callM [0] [] m_law_box [] (lI 2 (lC (eC (.int 4)) (lC (eC (.int 2)) (lC (eC (.int 1)) (lC (eC (.int 1)) (lN)))))))) (sSeq (sFor (iIt (eIxD 3 (eC (.str [112, 97, 114, 116, 115])))) (gN 4) (sIf (tNo (tV (callM [] [] m_law_parts_right [] (lC (eV 4) (lN))))) (sRet (eC (.bl false))) (sNil))) (sSeq (sFor (iIt (eIxD 3 (eC (.str [102, 97, 115, 116, 101, 110, 105, 110, 103, 115])))) (gN 5) (sIf (tNo (tV (callM [] [] m_law_fastenings_right [] (lC (eV 5) (lN))))) (sRet (eC (.bl false))) (sNil))) (sSeq (sSet 6 (e2 vIx (e2 vIx (eIxD 3 (eC (.str [112, 97, 114, 116, 115]))) (eC (.int 0))) (eC (.int 1)))) (sSeq (sParX false 7 8 (eMk 3 [] m_Tool_init (fun _ => []) (lC (eC (.str [106, 105, 103])) (lC (callM [] [] m_law_lists [] (lC (eV 6) (lN))) (lN))) aN) (eLst (aC (eC (.str [120])) (aC (eC (.str [121])) (aN))))) (sSeq (sIf (tBl (e2 vNe (eLst (aC (e1 (vAt [0, 1, 2, 3, 4] 0) (eV 7)) (aC (e1 (vAt [0, 1, 2, 3] 1) (eV 7)) (aN)))) (eLst (aC (eC (.str [106, 105, 103])) (aC (eV 6) (aN)))))) (sRet (eC (.bl false))) (sNil)) (sSeq (sIf (tOr (tBl (eEqI [1, 2, 3] (nfA 5 []) true m_Thing_eq (eV 7) (eMk 3 [] m_Tool_init (fun _ => []) (lC (eC (.str [106, 105, 103])) (lC (eV 6) (lN))) aN))) (tBl (e2 vNe (e1 (vAt [0, 1, 2, 3] 1) (eMk 3 [] m_Tool_init (fun _ => [(.tup [(.tup [])])]) (lC (eC (.str [106, 105, 103])) (lN)) aN)) (eTup (aC (eTup (aN)) (aN)))))) (sRet (eC (.bl false))) (sNil)) (sSeq (sSet 9 (eMk 4 [2] m_Variant_init (fun _ => []) (lC (eC (.str [107, 105, 110, 100])) (lB 8 (lN))) aN)) (sSeq (sEx (eApp 8 (eC (.str [122])))) (sSeq (sIf (tBl (e2 vNe (eLst (aC (e1 (vAt [0, 1, 2, 3, 4] 0) (eV 9)) (aC (e1 (vAt [4] 7) (eV 9)) (aN)))) (eLst (aC (eC (.str [107, 105, 110, 100])) (aC (eTup (aC (eC (.str [120])) (aC (eC (.str [121])) (aN)))) (aN)))))) (sRet (eC (.bl false))) (sNil)) (sSeq (sIf (tBl (eEqI [4] (nfA 5 []) true m_Variant_eq (eV 9) (eMk 4 [2] m_Variant_init (fun _ => []) (lC (eC (.str [107, 105, 110, 100])) (lC (eTup (aC (eC (.str [120])) (aC (eC (.str [121])) (aN)))) (lN))) aN))) (sRet (eC (.bl false))) (sNil)) (sSeq (sSet 10 (eLst (aC (eMk 4 [2] m_Variant_init (fun _ => []) (lC (eC (.str [107, 105, 110, 100])) (lC (eLst (aC (eC (.str [121])) (aC (eC (.str [120])) (aN)))) (lN))) aN) (aC (eMk 4 [2] m_Variant_init (fun _ => []) (lC (eC (.str [107, 105, 110, 100, 115])) (lC (eLst (aC (eC (.str [120])) (aC (eC (.str [121])) (aN)))) (lN))) aN) (aC (eMk 3 [] m_Tool_init (fun _ => [(.tup [(.tup [])])]) (lC (eC (.str [107, 105, 110, 100])) (lN)) aN) (aC (eC (.str [107, 105, 110, 100])) (aN))))))) (sSeq (sFor (iIt (e2 vAdd (eV 10) (eLst (aC (eMk 4 [2] m_Variant_init (fun _ => []) (lC (eC (.str [107, 105, 110, 100])) (lC (eLst (aC (eC (.str [120])) (aC (eC (.str [121])) (aC (eC (.str [122])) (aN))))) (lN))) aN) (aN))))) (gN 11) (sIf (tBl (eEqI [4] (nfA 5 []) false m_Variant_eq (eV 9) (eV 11))) (sRet (eC (.bl false))) (sNil))) (sIf (tOr (tBl (eEqI [1, 2, 3] (nfA 5 []) false m_Thing_eq (eV 7) (eMk 3 [] m_Tool_init (fun _ => []) (lC (eC (.str [106, 105, 103, 115])) (lC (eV 6) (lN))) aN))) (tOr (tBl (eEqI [1, 2, 3] (nfA 5 []) false m_Thing_eq (eV 7) (eMk 1 [2] m_Part_init (fun _ => [(.bl false), (.str [97, 108, 119, 97, 121, 115])]) (lC (eC (.str [106, 105, 103])) (lC (eV 6) (lN))) aN))) (tBl (eEqI [1, 2, 3] (nfA 5 []) false m_Thing_eq (eV 7) (eC (.str [106, 105, 103])))))) (sRet (eC (.bl false))) (sNil))))))))))))))))) (sRet (eC (.bl true)))
def m_law : FnM := runF 12 [] false b_law
theorem s_law (F : FK ck dfs K mg) : FnOk PR w K mg base CX0 7 (He.fAd K ("law", none)) (fdA K ("law", none)) ["_law_script"] (spG K (TT K) [] [] false 1 m_law) := by
  obtain ⟨D_bd_Tool_init_3, X_bd_Tool_init_3, B_bd_Tool_init_3, V_bd_Tool_init_3, R_bd_Tool_init_3⟩ := bd_Tool_init_3 F
  obtain ⟨D_bd_Tool_init_2, X_bd_Tool_init_2, B_bd_Tool_init_2, V_bd_Tool_init_2, R_bd_Tool_init_2⟩ := bd_Tool_init_2 F
  obtain ⟨D_bd_Part_init_3, X_bd_Part_init_3, B_bd_Part_init_3, V_bd_Part_init_3, R_bd_Part_init_3⟩ := bd_Part_init_3 F
  obtain ⟨dvs, kws, FD, _, _, _⟩ := F.c.def_ 28 (d := d_law)
  exact fn_ok (N := N_law) (ps := ["_law_script"]) (k := 6) (mu := mu_law) (m := b_law) FD sc_law (by decide) (by decide) (by decide) (by decide) rfl (fun cdv A outer s H vs E hr =>
    (ss_cons (ss_for (ts := [1]) (hi := (si_rg1 (hm := (F.free 3)) (ha := (sa_cons (se_callB (hc := (c_max rfl)) (hm := (F.free 2)) (ha := (sa_cons se_int (sa_cons (se_callB (hc := (c_min rfl)) (hm := (F.free 1)) (ha := (sa_cons se_int (sa_cons (se_callB (hc := c_len) (hm := (F.free 0)) (ha := (sa_cons (se_v (i := 0)) sa_nil))) sa_nil)))) sa_nil)))) sa_nil)))) (hg := (sg_n (i := 1) (hN := sc_law.nd))) (hb := (ss_cons (ss_setO (i := 2) (r := 1000) (hN := sc_law.nd) (he := (so_x (sx_call (ro := true) (r := 1000) (s_law_pool_o F) (hr.mono (by decide : 1 ≤ 6)) (hm := (F.glo 5)) (hk := (kp_law_pool F)) (hb := (bd_law_pool F)) (hd := .nil) (hdv := (fun O H => VRs.nil)) (ha := (sl_cons (se_v (i := 0)) (sl_cons (se_v (i := 1)) sl_nil))) (hl := hlo (lnC (lnC lnN)) rfl)))) (hl := fun σ h => h ▸ (by decide : N_law.length ≤ 1000)))
    (ss_cons (ss_set (i := 3) (hN := sc_law.nd) (he := (se_x (sx_call (ro := false) (r := 0) (s_law_box F) (hr.mono (by decide : 4 ≤ 6)) (hm := (F.glo 16)) (hk := (kp_law_box F)) (hb := (bd_law_box F)) (hd := .nil) (hdv := (fun O H => VRs.nil)) (ha := (sl_lend (i := 2) (hr := (sl_cons se_int (sl_cons se_int (sl_cons se_int (sl_cons se_int sl_nil))))))) (hl := hlo (lnI (lnC (lnC (lnC (lnC lnN))))) rfl)))))
    (ss_cons (ss_for (ts := [4]) (hi := (si_it (se_ixD (fun _ _ z => z) (hu1 hr) (slm 3) (se_str (by decide +kernel))))) (hg := (sg_n (i := 4) (hN := sc_law.nd))) (hb := (ss_one (ss_if (st_not (st_v (se_x (sx_call (ro := false) (r := 0) (s_law_parts_right F) (hr.mono (by decide : 6 ≤ 6)) (hm := (F.glo 62)) (hk := (kp_law_parts_right F)) (hb := (bd_law_parts_right F)) (hd := .nil) (hdv := (fun O H => VRs.nil)) (ha := (sl_cons (se_v (i := 4)) sl_nil)) (hl := hlo (lnC lnN) rfl))))) (ss_one (ss_ret (he := se_bl))) ss_nil))))
    (ss_cons (ss_for (ts := [5]) (hi := (si_it (se_ixD (fun _ _ z => z) (hu1 hr) (slm 3) (se_str (by decide +kernel))))) (hg := (sg_n (i := 5) (hN := sc_law.nd))) (hb := (ss_one (ss_if (st_not (st_v (se_x (sx_call (ro := false) (r := 0) (s_law_fastenings_right F) (hr.mono (by decide : 6 ≤ 6)) (hm := (F.glo 64)) (hk := (kp_law_fastenings_right F)) (hb := (bd_law_fastenings_right F)) (hd := .nil) (hdv := (fun O H => VRs.nil)) (ha := (sl_cons (se_v (i := 5)) sl_nil)) (hl := hlo (lnC lnN) rfl))))) (ss_one (ss_ret (he := se_bl))) ss_nil))))
    (ss_cons (ss_set (i := 6) (hN := sc_law.nd) (he := (se_ix (se_ix (se_ixD (fun _ _ z => z) (hu1 hr) (slm 3) (se_str (by decide +kernel))) se_int) se_int)))
    (ss_cons (ss_par (ro1 := false) (ro2 := true) (r1 := 1000) (r2 := 1001) (i := 7) (j := 8) (hN := sc_law.nd) (ha := (sx_e (r := 1000) (se_mk (hN := (by decide : N_law.length ≤ MK)) (c := 3) (mk_Tool F) (s_Tool_init F) (hr.mono (by decide : 5 ≤ 6)) (hm := (F.glo 61)) (hb := B_bd_Tool_init_3) (hd := V_bd_Tool_init_3) (hdv := (fun O H => R_bd_Tool_init_3 _ O H)) (ha := (sl_cons (se_str (by decide +kernel)) (sl_cons (se_x (sx_call (ro := false) (r := 0) (s_law_lists F) (hr.mono (by decide : 1 ≤ 6)) (hm := (F.glo 17)) (hk := (kp_law_lists F)) (hb := (bd_law_lists F)) (hd := .nil) (hdv := (fun O H => VRs.nil)) (ha := (sl_cons (se_v (i := 6)) sl_nil)) (hl := hlo (lnC lnN) rfl))) sl_nil))) (hl := hlo1 (lnC (lnC lnN)) rfl)))) (hb := (sx_o (r := 1001) (so_lst (sa_cons (se_str (by decide +kernel)) (sa_cons (se_str (by decide +kernel)) sa_nil))))) (m1 := rfl) (m2 := rfl) (hl := (by decide : N_law.length ≤ 1000 ∧ N_law.length ≤ 1001)))
    (ss_cons (ss_if (st_cmp (o_ne (hu20 hr)) (se_lst (sa_cons (se_at (fld_title F) rfl (se_v (i := 7))) (sa_cons (se_at (fld_ways F) rfl (se_v (i := 7))) sa_nil))) (se_lst (sa_cons (se_str (by decide +kernel)) (sa_cons (se_v (i := 6)) sa_nil)))) (ss_one (ss_ret (he := se_bl))) ss_nil)
    (ss_cons (ss_if (st_w (sw_or (st_neI (insI F) (nfB_ok (F.c.fact 48)) (eqF_Thing F) (s_Thing_eq F) (hr.mono (by decide : 2 ≤ 6)) (bd_Thing_eq F) (ha := (se_v (i := 7))) (hb' := (se_mk (hN := (by decide : N_law.length ≤ MK)) (c := 3) (mk_Tool F) (s_Tool_init F) (hr.mono (by decide : 5 ≤ 6)) (hm := (F.glo 61)) (hb := B_bd_Tool_init_3) (hd := V_bd_Tool_init_3) (hdv := (fun O H => R_bd_Tool_init_3 _ O H)) (ha := (sl_cons (se_str (by decide +kernel)) (sl_cons (se_v (i := 6)) sl_nil))) (hl := hlo1 (lnC (lnC lnN)) rfl)))) (sw_or1 (st_cmp (o_ne (hu20 hr)) (se_at (fld_ways F) rfl (se_mk (hN := (by decide : N_law.length ≤ MK)) (c := 3) (mk_Tool F) (s_Tool_init F) (hr.mono (by decide : 5 ≤ 6)) (hm := (F.glo 61)) (hb := B_bd_Tool_init_2) (hd := V_bd_Tool_init_2) (hdv := (fun O H => R_bd_Tool_init_2 _ O H)) (ha := (sl_cons (se_str (by decide +kernel)) sl_nil)) (hl := hlo1 (lnC lnN) rfl))) (se_tup (sa_cons (se_tup sa_nil) sa_nil)))))) (ss_one (ss_ret (he := se_bl))) ss_nil)
    (ss_cons (ss_set (i := 9) (hN := sc_law.nd) (he := (se_mk (hN := (by decide : N_law.length ≤ MK)) (c := 4) (mk_Variant F) (s_Variant_init F) (hr.mono (by decide : 4 ≤ 6)) (hm := (F.glo 67)) (hb := (bd_Variant_init F)) (hd := .nil) (hdv := (fun O H => VRs.nil)) (ha := (sl_cons (se_str (by decide +kernel)) (sl_bor (i := 8) (hr := sl_nil)))) (hl := hlo1 (lnC (lnB lnN)) rfl))))
    (ss_cons (ss_expr (he := (se_app (s := slm 8) (he := (se_str (by decide +kernel))))))
    (ss_cons (ss_if (st_cmp (o_ne (hu20 hr)) (se_lst (sa_cons (se_at (fld_title F) rfl (se_v (i := 9))) (sa_cons (se_at (fld_options F) rfl (se_v (i := 9))) sa_nil))) (se_lst (sa_cons (se_str (by decide +kernel)) (sa_cons (se_tup (sa_cons (se_str (by decide +kernel)) (sa_cons (se_str (by decide +kernel)) sa_nil))) sa_nil)))) (ss_one (ss_ret (he := se_bl))) ss_nil)
    (ss_cons (ss_if (st_neI (insI F) (nfB_ok (F.c.fact 69)) (eqF_Variant F) (s_Variant_eq F) (hr.mono (by decide : 2 ≤ 6)) (bd_Variant_eq F) (ha := (se_v (i := 9))) (hb' := (se_mk (hN := (by decide : N_law.length ≤ MK)) (c := 4) (mk_Variant F) (s_Variant_init F) (hr.mono (by decide : 4 ≤ 6)) (hm := (F.glo 67)) (hb := (bd_Variant_init F)) (hd := .nil) (hdv := (fun O H => VRs.nil)) (ha := (sl_cons (se_str (by decide +kernel)) (sl_cons (se_tup (sa_cons (se_str (by decide +kernel)) (sa_cons (se_str (by decide +kernel)) sa_nil))) sl_nil))) (hl := hlo1 (lnC (lnC lnN)) rfl)))) (ss_one (ss_ret (he := se_bl))) ss_nil)
    (ss_cons (ss_set (i := 10) (hN := sc_law.nd) (he := (se_lst (sa_cons (se_mk (hN := (by decide : N_law.length ≤ MK)) (c := 4) (mk_Variant F) (s_Variant_init F) (hr.mono (by decide : 4 ≤ 6)) (hm := (F.glo 67)) (hb := (bd_Variant_init F)) (hd := .nil) (hdv := (fun O H => VRs.nil)) (ha := (sl_cons (se_str (by decide +kernel)) (sl_cons (se_lst (sa_cons (se_str (by decide +kernel)) (sa_cons (se_str (by decide +kernel)) sa_nil))) sl_nil))) (hl := hlo1 (lnC (lnC lnN)) rfl)) (sa_cons (se_mk (hN := (by decide : N_law.length ≤ MK)) (c := 4) (mk_Variant F) (s_Variant_init F) (hr.mono (by decide : 4 ≤ 6)) (hm := (F.glo 67)) (hb := (bd_Variant_init F)) (hd := .nil) (hdv := (fun O H => VRs.nil)) (ha := (sl_cons (se_str (by decide +kernel)) (sl_cons (se_lst (sa_cons (se_str (by decide +kernel)) (sa_cons (se_str (by decide +kernel)) sa_nil))) sl_nil))) (hl := hlo1 (lnC (lnC lnN)) rfl)) (sa_cons (se_mk (hN := (by decide : N_law.length ≤ MK)) (c := 3) (mk_Tool F) (s_Tool_init F) (hr.mono (by decide : 5 ≤ 6)) (hm := (F.glo 61)) (hb := B_bd_Tool_init_2) (hd := V_bd_Tool_init_2) (hdv := (fun O H => R_bd_Tool_init_2 _ O H)) (ha := (sl_cons (se_str (by decide +kernel)) sl_nil)) (hl := hlo1 (lnC lnN) rfl)) (sa_cons (se_str (by decide +kernel)) sa_nil)))))))
    (ss_cons (ss_for (ts := [11]) (hi := (si_it (se_op o_add (se_v (i := 10)) (se_lst (sa_cons (se_mk (hN := (by decide : N_law.length ≤ MK)) (c := 4) (mk_Variant F) (s_Variant_init F) (hr.mono (by decide : 4 ≤ 6)) (hm := (F.glo 67)) (hb := (bd_Variant_init F)) (hd := .nil) (hdv := (fun O H => VRs.nil)) (ha := (sl_cons (se_str (by decide +kernel)) (sl_cons (se_lst (sa_cons (se_str (by decide +kernel)) (sa_cons (se_str (by decide +kernel)) (sa_cons (se_str (by decide +kernel)) sa_nil)))) sl_nil))) (hl := hlo1 (lnC (lnC lnN)) rfl)) sa_nil))))) (hg := (sg_n (i := 11) (hN := sc_law.nd))) (hb := (ss_one (ss_if (st_eqI (insI F) (nfB_ok (F.c.fact 69)) (eqF_Variant F) (s_Variant_eq F) (hr.mono (by decide : 1 ≤ 6)) (bd_Variant_eq F) (ha := (se_v (i := 9))) (hb' := (se_v (i := 11)))) (ss_one (ss_ret (he := se_bl))) ss_nil))))
    (ss_one (ss_if (st_w (sw_or (st_eqI (insI F) (nfB_ok (F.c.fact 48)) (eqF_Thing F) (s_Thing_eq F) (hr.mono (by decide : 1 ≤ 6)) (bd_Thing_eq F) (ha := (se_v (i := 7))) (hb' := (se_mk (hN := (by decide : N_law.length ≤ MK)) (c := 3) (mk_Tool F) (s_Tool_init F) (hr.mono (by decide : 5 ≤ 6)) (hm := (F.glo 61)) (hb := B_bd_Tool_init_3) (hd := V_bd_Tool_init_3) (hdv := (fun O H => R_bd_Tool_init_3 _ O H)) (ha := (sl_cons (se_str (by decide +kernel)) (sl_cons (se_v (i := 6)) sl_nil))) (hl := hlo1 (lnC (lnC lnN)) rfl)))) (sw_or (st_eqI (insI F) (nfB_ok (F.c.fact 48)) (eqF_Thing F) (s_Thing_eq F) (hr.mono (by decide : 1 ≤ 6)) (bd_Thing_eq F) (ha := (se_v (i := 7))) (hb' := (se_mk (hN := (by decide : N_law.length ≤ MK)) (c := 1) (mk_Part F) (s_Part_init F) (hr.mono (by decide : 5 ≤ 6)) (hm := (F.glo 44)) (hb := B_bd_Part_init_3) (hd := V_bd_Part_init_3) (hdv := (fun O H => R_bd_Part_init_3 _ O H)) (ha := (sl_cons (se_str (by decide +kernel)) (sl_cons (se_v (i := 6)) sl_nil))) (hl := hlo1 (lnC (lnC lnN)) rfl)))) (sw_or1 (st_eqI (insI F) (nfB_ok (F.c.fact 48)) (eqF_Thing F) (s_Thing_eq F) (hr.mono (by decide : 1 ≤ 6)) (bd_Thing_eq F) (ha := (se_v (i := 7))) (hb' := (se_str (by decide +kernel)))))))) (ss_one (ss_ret (he := se_bl))) ss_nil))))))))))))))))))
    (ss_one (ss_ret (he := se_bl)))))
end
end K01

namespace K01
open SK
open PySem (seqIndex?)
open PySem.Spec (ltCps)
open L2 (atI ixN)
theorem take_c {p : Val} {n : Int} {Q : Val × List Val → Prop} (hp : PoolV p) (h0 : 0 < n) (h1 : n < 1073741824) (h : ∀ (r : Int) (p' : Val), PoolV p' → 0 ≤ r → r < n → Q (.int r, [p'])) : Sat (m_law_take [p, .int n]) Q := by
  obtain ⟨b, m, rfl, hb, hm0, hm1⟩ := hp
  by_cases hB : 0 < b
  · simp [gAll, outsOf, fillA, lentP, lentS, setAll, nodupB, borOk, setF, isC, byT, enL, rngL, sat_ok, sat_bind, sat_noX, sat_sSeq, sat_sIf, sat_runF, sat_sFor, sat_sSet, sat_sEx, sat_sRet, thn_nx, thn_rt, thn_bk, thn_ct, br_mk, ret_nx, ret_rt, forK_mk, setK_mk, exK_mk, rtK_mk, m_law_take, b_law_take, atI, ixN, hB, h0, h1]
    exact h _ _ ⟨b / n, m, rfl, Int.ediv_nonneg hb (by omega), hm0, hm1⟩ (Int.emod_nonneg _ (by omega)) (Int.emod_lt_of_pos _ h0)
  · have e1 : 0 ≤ (m * 39373 + 7) % 2147483647 := Int.emod_nonneg _ (by decide)
    have e2' : (m * 39373 + 7) % 2147483647 < 2147483647 := Int.emod_lt_of_pos _ (by decide)
    generalize hq : (m * 39373 + 7) % 2147483647 = q at e1 e2'
    have e3 : -18446744073709551616 < q ∧ q < 18446744073709551616 := by omega
    simp [gAll, outsOf, fillA, lentP, lentS, setAll, nodupB, borOk, setF, isC, byT, enL, rngL, sat_ok, sat_bind, sat_noX, sat_sSeq, sat_sIf, sat_runF, sat_sFor, sat_sSet, sat_sEx, sat_sRet, thn_nx, thn_rt, thn_bk, thn_ct, br_mk, ret_nx, ret_rt, forK_mk, setK_mk, exK_mk, rtK_mk, m_law_take, b_law_take, atI, ixN, hB, h0, h1, hq, e3]
    exact h _ _ ⟨b, q, rfl, hb, e1, e2'⟩ (Int.emod_nonneg _ (by omega)) (Int.emod_lt_of_pos _ h0)
theorem one_c {p : Val} {xs : List Val} {Q : Val × List Val → Prop} (hp : PoolV p) (h0 : xs ≠ []) (h1 : xs.length < 1073741824) (h : ∀ x p', PoolV p' → x ∈ xs → Q (x, [p'])) : Sat (m_law_one [p, .lst xs]) Q := by
  have hl : 0 < xs.length := List.length_pos_iff.mpr h0
  simp [gAll, outsOf, fillA, lentP, lentS, setAll, nodupB, borOk, setF, isC, byT, enL, rngL, sat_ok, sat_bind, sat_noX, sat_sSeq, sat_sIf, sat_runF, sat_sFor, sat_sSet, sat_sEx, sat_sRet, thn_nx, thn_rt, thn_bk, thn_ct, br_mk, ret_nx, ret_rt, forK_mk, setK_mk, exK_mk, rtK_mk, sat_bind, sat_ok, m_law_one, b_law_one, hp.nfz]
  refine take_c (n := xs.length) hp (by omega) (by omega) fun r p' hp' r0 r1 => ?_
  obtain ⟨x, hx, he2, he3⟩ := atI_nat (xs := xs) r0 r1
  simp [gAll, outsOf, fillA, lentP, lentS, setAll, nodupB, borOk, setF, isC, byT, enL, rngL, sat_ok, sat_bind, sat_noX, sat_sSeq, sat_sIf, sat_runF, sat_sFor, sat_sSet, sat_sEx, sat_sRet, thn_nx, thn_rt, thn_bk, thn_ct, br_mk, ret_nx, ret_rt, forK_mk, setK_mk, exK_mk, rtK_mk, sat_bind, sat_ok, hp'.nfz, he3]
  exact h x p' hp' hx
theorem oneT_c {p : Val} {xs : List Val} {Q : Val × List Val → Prop} (hp : PoolV p) (h0 : xs ≠ []) (h1 : xs.length < 1073741824) (h : ∀ x p', PoolV p' → x ∈ xs → Q (x, [p'])) : Sat (m_law_one [p, .tup xs]) Q := by
  have hl : 0 < xs.length := List.length_pos_iff.mpr h0
  simp [gAll, outsOf, fillA, lentP, lentS, setAll, nodupB, borOk, setF, isC, byT, enL, rngL, sat_ok, sat_bind, sat_noX, sat_sSeq, sat_sIf, sat_runF, sat_sFor, sat_sSet, sat_sEx, sat_sRet, thn_nx, thn_rt, thn_bk, thn_ct, br_mk, ret_nx, ret_rt, forK_mk, setK_mk, exK_mk, rtK_mk, sat_bind, sat_ok, m_law_one, b_law_one, hp.nfz]
  refine take_c (n := xs.length) hp (by omega) (by omega) fun r p' hp' r0 r1 => ?_
  obtain ⟨x, hx, he2, he3⟩ := atI_nat (xs := xs) r0 r1
  simp [gAll, outsOf, fillA, lentP, lentS, setAll, nodupB, borOk, setF, isC, byT, enL, rngL, sat_ok, sat_bind, sat_noX, sat_sSeq, sat_sIf, sat_runF, sat_sFor, sat_sSet, sat_sEx, sat_sRet, thn_nx, thn_rt, thn_bk, thn_ct, br_mk, ret_nx, ret_rt, forK_mk, setK_mk, exK_mk, rtK_mk, sat_bind, sat_ok, hp'.nfz, he3]
  exact h x p' hp' hx
theorem turned_c {p : Val} {xs : List Val} {Q : Val × List Val → Prop} (hp : PoolV p) (h1 : xs.length < 500) (h : ∀ ys p', PoolV p' → ys.Perm xs → Q (.lst ys, [p'])) : Sat (m_law_turned [p, .lst xs]) Q := by
  simp [gAll, outsOf, fillA, lentP, lentS, setAll, nodupB, borOk, setF, isC, byT, enL, rngL, sat_ok, sat_bind, sat_noX, sat_sSeq, sat_sIf, sat_runF, sat_sFor, sat_sSet, sat_sEx, sat_sRet, thn_nx, thn_rt, thn_bk, thn_ct, br_mk, ret_nx, ret_rt, forK_mk, setK_mk, exK_mk, rtK_mk, sat_bind, sat_ok, m_law_turned, b_law_turned]
  refine whL_sat (I := fun n fr => ∃ p' ls ys, fr = [some p', some (.lst xs), some (.lst ls), some (.lst ys)] ∧ PoolV p' ∧ (ls ++ ys).Perm xs ∧ ls.length = n) ?_ xs.length 1000 _ ⟨p, xs, [], rfl, hp, by simp, rfl⟩ (by omega)
  rintro n fr ⟨p', ls, ys, rfl, hp', hP, rfl⟩
  have hlen : ls.length + ys.length = xs.length := by have := hP.length_eq; rwa [List.length_append] at this
  cases ls with
  | nil =>
    simp [gAll, outsOf, fillA, lentP, lentS, setAll, nodupB, borOk, setF, isC, byT, enL, rngL, sat_ok, sat_bind, sat_noX, sat_sSeq, sat_sIf, sat_runF, sat_sFor, sat_sSet, sat_sEx, sat_sRet, thn_nx, thn_rt, thn_bk, thn_ct, br_mk, ret_nx, ret_rt, forK_mk, setK_mk, exK_mk, rtK_mk, sat_bind, sat_ok, eqv, eqZ, hp'.nfz]
    exact h ys p' hp' (by simpa using hP)
  | cons l ls =>
    simp [gAll, outsOf, fillA, lentP, lentS, setAll, nodupB, borOk, setF, isC, byT, enL, rngL, sat_ok, sat_bind, sat_noX, sat_sSeq, sat_sIf, sat_runF, sat_sFor, sat_sSet, sat_sEx, sat_sRet, thn_nx, thn_rt, thn_bk, thn_ct, br_mk, ret_nx, ret_rt, forK_mk, setK_mk, exK_mk, rtK_mk, sat_bind, sat_ok, eqv, eqZ, hp'.nfz]
    refine take_c (n := (ls.length : Int) + 1) hp' (by omega) (by simp at hlen; omega) fun r p2 hp2 r0 r1 => ?_
    obtain ⟨x, hx, he2, he3⟩ := atI_nat (xs := l :: ls) r0 (by simpa using r1)
    have hr : r.toNat < (l :: ls).length := by rw [List.length_cons]; omega
    have es : seqIndex? r (l :: ls).length = some r.toNat := by
      unfold seqIndex?
      have := r1
      simp [Int.not_lt.mpr r0, r0]; omega
    have b1 : (-9223372036854775808 : Int) ≤ r ∧ r < 9223372036854775808 := by simp at hlen; omega
    have b2 : ys.length < 16777216 := by simp at hlen; omega
    simp only [List.length_cons] at es
    simp [gAll, outsOf, fillA, lentP, lentS, setAll, nodupB, borOk, setF, isC, byT, enL, rngL, sat_ok, sat_bind, sat_noX, sat_sSeq, sat_sIf, sat_runF, sat_sFor, sat_sSet, sat_sEx, sat_sRet, thn_nx, thn_rt, thn_bk, thn_ct, br_mk, ret_nx, ret_rt, forK_mk, setK_mk, exK_mk, rtK_mk, sat_bind, sat_ok, hp2.nfz, es, he2, b1, b2]
    refine ⟨_, _, _, ⟨rfl, rfl, rfl⟩, hp2, ?_, ?_⟩
    · refine List.Perm.trans ?_ hP
      refine List.Perm.trans ?_ ((erase_perm (l :: ls) r.toNat x he2).append_right ys)
      rw [← List.append_assoc]
      refine List.perm_append_comm.trans ?_
      simp
    · rw [List.length_eraseIdx, if_pos hr]; rfl
theorem ways_c {p : Val} {ls : List Sg} {Q : Val × List Val → Prop} (hp : PoolV p) (h1 : ls.length < 50) (hn : ls.Nodup)
    (h : ∀ (ws : List (List Sg)) (p' : Val), PoolV p' → (ws.length = 1 ∨ ws.length = 2) → (∀ w ∈ ws, w.length ≤ 2 ∧ w.Nodup ∧ ∀ x ∈ w, x ∈ ls) → Q (.tup (ws.map fun w => .tup (w.map .str)), [p'])) : Sat (m_law_ways [p, .lst (ls.map .str)]) Q := by
  simp [gAll, outsOf, fillA, lentP, lentS, setAll, nodupB, borOk, setF, isC, byT, enL, rngL, sat_ok, sat_bind, sat_noX, sat_sSeq, sat_sIf, sat_runF, sat_sFor, sat_sSet, sat_sEx, sat_sRet, thn_nx, thn_rt, thn_bk, thn_ct, br_mk, ret_nx, ret_rt, forK_mk, setK_mk, exK_mk, rtK_mk, sat_bind, sat_ok, m_law_ways, b_law_ways, hp.nfz]
  refine take_c (n := 3) hp (by decide) (by decide) fun r p2 hp2 r0 r1 => ?_
  simp [gAll, outsOf, fillA, lentP, lentS, setAll, nodupB, borOk, setF, isC, byT, enL, rngL, sat_ok, sat_bind, sat_noX, sat_sSeq, sat_sIf, sat_runF, sat_sFor, sat_sSet, sat_sEx, sat_sRet, thn_nx, thn_rt, thn_bk, thn_ct, br_mk, ret_nx, ret_rt, forK_mk, setK_mk, exK_mk, rtK_mk, sat_bind, sat_ok, eqv]
  obtain ⟨n, hn1, hn2⟩ : ∃ n : Nat, (n = 1 ∨ n = 2) ∧ ((1 + if r = 0 then 1 else 0) : Int) = n := by
    by_cases h : r = 0
    · exact ⟨2, .inr rfl, by simp [h]⟩
    · exact ⟨1, .inl rfl, by simp [h]⟩
  rw [hn2, if_pos (by omega), sat_ok]
  refine forL_sat (I := fun l fr => ∃ (p' : Val) (ws : List (List Sg)) (o : Option Val), fr = [some p', some (.lst (ls.map .str)), some (.lst (ws.map fun w => .tup (w.map .str))), o] ∧ PoolV p' ∧ (∀ w ∈ ws, w.length ≤ 2 ∧ w.Nodup ∧ ∀ x ∈ w, x ∈ ls) ∧ ws.length + l.length = n) ?_ ?_ _ _ ⟨p2, [], none, rfl, hp2, by simp, by simp [rngL]⟩
  · rintro x l _ ⟨p3, ws, o, rfl, hp3, hw, hl⟩
    simp [gAll, outsOf, fillA, lentP, lentS, setAll, nodupB, borOk, setF, isC, byT, enL, rngL, sat_ok, sat_bind, sat_noX, sat_sSeq, sat_sIf, sat_runF, sat_sFor, sat_sSet, sat_sEx, sat_sRet, thn_nx, thn_rt, thn_bk, thn_ct, br_mk, ret_nx, ret_rt, forK_mk, setK_mk, exK_mk, rtK_mk, sat_bind, sat_ok, hp3.nfz]
    refine turned_c (xs := ls.map .str) hp3 (by simp; omega) fun ys p4 hp4 hy => ?_
    simp [gAll, outsOf, fillA, lentP, lentS, setAll, nodupB, borOk, setF, isC, byT, enL, rngL, sat_ok, sat_bind, sat_noX, sat_sSeq, sat_sIf, sat_runF, sat_sFor, sat_sSet, sat_sEx, sat_sRet, thn_nx, thn_rt, thn_bk, thn_ct, br_mk, ret_nx, ret_rt, forK_mk, setK_mk, exK_mk, rtK_mk, sat_bind, sat_ok, hp4.nfz]
    refine take_c (n := 3) hp4 (by decide) (by decide) fun k p5 hp5 k0 k1 => ?_
    simp [gAll, outsOf, fillA, lentP, lentS, setAll, nodupB, borOk, setF, isC, byT, enL, rngL, sat_ok, sat_bind, sat_noX, sat_sSeq, sat_sIf, sat_runF, sat_sFor, sat_sSet, sat_sEx, sat_sRet, thn_nx, thn_rt, thn_bk, thn_ct, br_mk, ret_nx, ret_rt, forK_mk, setK_mk, exK_mk, rtK_mk, sat_bind, sat_ok, hp5.nfz]
    obtain ⟨zs, rfl, hz⟩ := perm_strs hy
    have hzl : zs.length < 50 := by rw [hz.length_eq]; exact h1
    have hzt : (zs.take k.toNat).length < 64 := by rw [List.length_take]; omega
    have hsp := sortP (zs.take k.toNat)
    have hwl : ws.length < 16777216 := by simp at hl; omega
    rw [cutL_take _ _ k0, ← List.map_take]
    simp only [vSorted, txts_str, Option.bind_some, if_pos hzt, x_ofO_s, x_vTuple_1, sat_ok, if_pos hwl]
    refine ⟨p5, ws ++ [sortS (zs.take k.toNat)], ⟨some x, by simp⟩, hp5, ?_, by simp at hl ⊢; omega⟩
    intro w hw'
    rcases List.mem_append.mp hw' with q | q
    · exact hw w q
    · have : w = sortS (zs.take k.toNat) := by simpa using q
      subst this
      refine ⟨by rw [hsp.length_eq, List.length_take]; omega, ?_, fun x hx => ?_⟩
      · exact hsp.symm.nodup ((List.take_sublist _ _).nodup (hz.symm.nodup hn))
      · exact hz.subset (List.mem_of_mem_take (hsp.subset hx))
  · rintro _ ⟨p3, ws, o, rfl, hp3, hw, hl⟩
    simp [gAll, outsOf, fillA, lentP, lentS, setAll, nodupB, borOk, setF, isC, byT, enL, rngL, sat_ok, sat_bind, sat_noX, sat_sSeq, sat_sIf, sat_runF, sat_sFor, sat_sSet, sat_sEx, sat_sRet, thn_nx, thn_rt, thn_bk, thn_ct, br_mk, ret_nx, ret_rt, forK_mk, setK_mk, exK_mk, rtK_mk, sat_bind, sat_ok, hp3.nfz]
    exact h ws p3 hp3 (by simp at hl; omega) hw
end K01

namespace K01
open SK
open PySem (seqIndex?)
open PySem.Spec (ltCps)
open L2 (atI ixN)
theorem poolV_mk {a b : Int} (h0 : 0 ≤ a) : PoolV (.lst [.int a, .int (b % 2147483647)]) := ⟨a, _, rfl, h0, Int.emod_nonneg _ (by decide), Int.emod_lt_of_pos _ (by decide)⟩
theorem pool_c {ns : List Int} {k : Int} {Q : Val × List Val → Prop} (k0 : 0 ≤ k) (k1 : k < 1000) (h : ∀ p, PoolV p → Q (p, [])) : Sat (m_law_pool_o [.scr ns, .int k]) Q := by
  have hk : -18446744073709551616 < k ∧ k < 18446744073709551616 := by omega
  have hk7 : -18446744073709551616 < 7919 * k ∧ 7919 * k < 18446744073709551616 := by omega
  by_cases hl : k < ns.length
  · obtain ⟨c, _, _, hc⟩ := atI_nat (xs := ns) k0 hl
    have hb : 0 ≤ (if c < -1 - c then -1 - c else c) := by split <;> omega
    generalize hB : (if c < -1 - c then -1 - c else c) = B at hb
    by_cases hg : 1000000000000000000 ≤ B
    · simp [gAll, outsOf, fillA, lentP, lentS, setAll, nodupB, borOk, setF, isC, byT, enL, rngL, sat_ok, sat_bind, sat_noX, sat_sSeq, sat_sIf, sat_runF, sat_sFor, sat_sSet, sat_sEx, sat_sRet, thn_nx, thn_rt, thn_bk, thn_ct, br_mk, ret_nx, ret_rt, forK_mk, setK_mk, exK_mk, rtK_mk, m_law_pool_o, b_law_pool_o, hl, hc, hk, hk7, hB, hg]
      exact h _ (poolV_mk hb)
    · simp [gAll, outsOf, fillA, lentP, lentS, setAll, nodupB, borOk, setF, isC, byT, enL, rngL, sat_ok, sat_bind, sat_noX, sat_sSeq, sat_sIf, sat_runF, sat_sFor, sat_sSet, sat_sEx, sat_sRet, thn_nx, thn_rt, thn_bk, thn_ct, br_mk, ret_nx, ret_rt, forK_mk, setK_mk, exK_mk, rtK_mk, m_law_pool_o, b_law_pool_o, hl, hc, hk, hk7, hB, hg]
      exact h _ (poolV_mk (Int.le_refl _))
  · simp [gAll, outsOf, fillA, lentP, lentS, setAll, nodupB, borOk, setF, isC, byT, enL, rngL, sat_ok, sat_bind, sat_noX, sat_sSeq, sat_sIf, sat_runF, sat_sFor, sat_sSet, sat_sEx, sat_sRet, thn_nx, thn_rt, thn_bk, thn_ct, br_mk, ret_nx, ret_rt, forK_mk, setK_mk, exK_mk, rtK_mk, m_law_pool_o, b_law_pool_o, hl, hk, hk7]
    exact h _ (poolV_mk (Int.le_refl _))
theorem due_c {p : Val} {ks : List Val} {Q : Val × List Val → Prop} (hp : PoolV p) (hk : ks = [] ∨ ks = [.tup [.str [107, 105, 110, 100], .tup [.str [120], .str [121]]]])
    (h : ∀ v p', PoolV p' → v = .str [110, 101, 118, 101, 114] ∨ v = .str [97, 108, 119, 97, 121, 115] ∨ v = .tup [.str [107, 105, 110, 100], .tup [.str [120]]] ∨ v = .tup [.str [107, 105, 110, 100], .tup [.str [121]]] → Q (v, [p'])) : Sat (m_law_due [p, .lst ks]) Q := by
  have tail : ∀ p, PoolV p → Sat (m_law_take [p, .int 6]) fun a => True := fun p hp => take_c hp (by decide) (by decide) fun _ _ _ _ _ => trivial
  rcases hk with rfl | rfl
  · simp [gAll, outsOf, fillA, lentP, lentS, setAll, nodupB, borOk, setF, isC, byT, enL, rngL, sat_ok, sat_bind, sat_noX, sat_sSeq, sat_sIf, sat_runF, sat_sFor, sat_sSet, sat_sEx, sat_sRet, thn_nx, thn_rt, thn_bk, thn_ct, br_mk, ret_nx, ret_rt, forK_mk, setK_mk, exK_mk, rtK_mk, m_law_due, b_law_due, eqv, eqZ, hp.nfz]
    refine take_c hp (by decide) (by decide) fun r p2 hp2 r0 r1 => ?_
    simp [gAll, outsOf, fillA, lentP, lentS, setAll, nodupB, borOk, setF, isC, byT, enL, rngL, sat_ok, sat_bind, sat_noX, sat_sSeq, sat_sIf, sat_runF, sat_sFor, sat_sSet, sat_sEx, sat_sRet, thn_nx, thn_rt, thn_bk, thn_ct, br_mk, ret_nx, ret_rt, forK_mk, setK_mk, exK_mk, rtK_mk, eqv, hp2.nfz]
    by_cases h6 : r = 0
    · simp [gAll, outsOf, fillA, lentP, lentS, setAll, nodupB, borOk, setF, isC, byT, enL, rngL, sat_ok, sat_bind, sat_noX, sat_sSeq, sat_sIf, sat_runF, sat_sFor, sat_sSet, sat_sEx, sat_sRet, thn_nx, thn_rt, thn_bk, thn_ct, br_mk, ret_nx, ret_rt, forK_mk, setK_mk, exK_mk, rtK_mk, h6, hp2.nfz]
      exact h _ _ hp2 (.inl rfl)
    · simp [gAll, outsOf, fillA, lentP, lentS, setAll, nodupB, borOk, setF, isC, byT, enL, rngL, sat_ok, sat_bind, sat_noX, sat_sSeq, sat_sIf, sat_runF, sat_sFor, sat_sSet, sat_sEx, sat_sRet, thn_nx, thn_rt, thn_bk, thn_ct, br_mk, ret_nx, ret_rt, forK_mk, setK_mk, exK_mk, rtK_mk, h6, hp2.nfz]
      exact h _ _ hp2 (.inr (.inl rfl))
  · simp [gAll, outsOf, fillA, lentP, lentS, setAll, nodupB, borOk, setF, isC, byT, enL, rngL, sat_ok, sat_bind, sat_noX, sat_sSeq, sat_sIf, sat_runF, sat_sFor, sat_sSet, sat_sEx, sat_sRet, thn_nx, thn_rt, thn_bk, thn_ct, br_mk, ret_nx, ret_rt, forK_mk, setK_mk, exK_mk, rtK_mk, m_law_due, b_law_due, eqv, eqZ, hp.nfz]
    refine take_c hp (by decide) (by decide) fun r p2 hp2 r0 r1 => ?_
    simp [gAll, outsOf, fillA, lentP, lentS, setAll, nodupB, borOk, setF, isC, byT, enL, rngL, sat_ok, sat_bind, sat_noX, sat_sSeq, sat_sIf, sat_runF, sat_sFor, sat_sSet, sat_sEx, sat_sRet, thn_nx, thn_rt, thn_bk, thn_ct, br_mk, ret_nx, ret_rt, forK_mk, setK_mk, exK_mk, rtK_mk, eqv, hp2.nfz]
    by_cases h3 : r = 0
    · simp [gAll, outsOf, fillA, lentP, lentS, setAll, nodupB, borOk, setF, isC, byT, enL, rngL, sat_ok, sat_bind, sat_noX, sat_sSeq, sat_sIf, sat_runF, sat_sFor, sat_sSet, sat_sEx, sat_sRet, thn_nx, thn_rt, thn_bk, thn_ct, br_mk, ret_nx, ret_rt, forK_mk, setK_mk, exK_mk, rtK_mk, h3, atI, ixN]
      refine oneT_c hp2 (List.cons_ne_nil _ _) (by decide) fun x p3 hp3 hx => ?_
      simp [gAll, outsOf, fillA, lentP, lentS, setAll, nodupB, borOk, setF, isC, byT, enL, rngL, sat_ok, sat_bind, sat_noX, sat_sSeq, sat_sIf, sat_runF, sat_sFor, sat_sSet, sat_sEx, sat_sRet, thn_nx, thn_rt, thn_bk, thn_ct, br_mk, ret_nx, ret_rt, forK_mk, setK_mk, exK_mk, rtK_mk, hp2.nfz, hp3.nfz]
      refine h _ _ hp3 (.inr (.inr ?_))
      simp at hx
      rcases hx with rfl | rfl
      · exact .inl rfl
      · exact .inr rfl
    · simp [gAll, outsOf, fillA, lentP, lentS, setAll, nodupB, borOk, setF, isC, byT, enL, rngL, sat_ok, sat_bind, sat_noX, sat_sSeq, sat_sIf, sat_runF, sat_sFor, sat_sSet, sat_sEx, sat_sRet, thn_nx, thn_rt, thn_bk, thn_ct, br_mk, ret_nx, ret_rt, forK_mk, setK_mk, exK_mk, rtK_mk, h3, hp2.nfz]
      refine take_c hp2 (by decide) (by decide) fun r p3 hp3 r0 r1 => ?_
      simp [gAll, outsOf, fillA, lentP, lentS, setAll, nodupB, borOk, setF, isC, byT, enL, rngL, sat_ok, sat_bind, sat_noX, sat_sSeq, sat_sIf, sat_runF, sat_sFor, sat_sSet, sat_sEx, sat_sRet, thn_nx, thn_rt, thn_bk, thn_ct, br_mk, ret_nx, ret_rt, forK_mk, setK_mk, exK_mk, rtK_mk, eqv, hp3.nfz]
      by_cases h6 : r = 0
      · simp [gAll, outsOf, fillA, lentP, lentS, setAll, nodupB, borOk, setF, isC, byT, enL, rngL, sat_ok, sat_bind, sat_noX, sat_sSeq, sat_sIf, sat_runF, sat_sFor, sat_sSet, sat_sEx, sat_sRet, thn_nx, thn_rt, thn_bk, thn_ct, br_mk, ret_nx, ret_rt, forK_mk, setK_mk, exK_mk, rtK_mk, h6, hp3.nfz]
        exact h _ _ hp3 (.inl rfl)
      · simp [gAll, outsOf, fillA, lentP, lentS, setAll, nodupB, borOk, setF, isC, byT, enL, rngL, sat_ok, sat_bind, sat_noX, sat_sSeq, sat_sIf, sat_runF, sat_sFor, sat_sSet, sat_sEx, sat_sRet, thn_nx, thn_rt, thn_bk, thn_ct, br_mk, ret_nx, ret_rt, forK_mk, setK_mk, exK_mk, rtK_mk, h6, hp3.nfz]
        exact h _ _ hp3 (.inr (.inl rfl))
end K01

namespace K01
open SK
open PySem (seqIndex?)
open PySem.Spec (ltCps)
open L2 (atI ixN)
theorem is_word_c {s : Sg} {Q : Val × List Val → Prop} (hs : isWd s = true) (h : Q (.bl true, [])) : Sat (m_is_word [.str s]) Q := by
  obtain ⟨h1, h8, hc⟩ := isWd_ok hs
  have h2 : List.length s ≤ 16777216 := by omega
  have h1' : (1 : Int) ≤ (List.length s : Int) := by omega
  have h8' : (List.length s : Int) ≤ 8 := by omega
  simp [gAll, outsOf, fillA, lentP, lentS, setAll, nodupB, borOk, setF, isC, byT, enL, rngL, sat_ok, sat_bind, sat_noX, sat_sSeq, sat_sIf, sat_runF, sat_sFor, sat_sSet, sat_sEx, sat_sRet, thn_nx, thn_rt, thn_bk, thn_ct, br_mk, ret_nx, ret_rt, forK_mk, setK_mk, exK_mk, rtK_mk, m_is_word, b_is_word, h1', h8', h2]
  refine sat_lcT (s.map fun c => .str [c]) (by rfl) (by simpa using h2) ?_ ?_
  · intro x hx
    obtain ⟨c, hm, rfl⟩ := List.mem_map.mp hx
    have := hc c hm
    unfold LTS at this
    simp [gAll, outsOf, fillA, lentP, lentS, setAll, nodupB, borOk, setF, isC, byT, enL, rngL, sat_ok, sat_bind, sat_noX, sat_sSeq, sat_sIf, sat_runF, sat_sFor, sat_sSet, sat_sEx, sat_sRet, thn_nx, thn_rt, thn_bk, thn_ct, br_mk, ret_nx, ret_rt, forK_mk, setK_mk, exK_mk, rtK_mk, inV, this]
  · simpa [gAll, outsOf, fillA, lentP, lentS, setAll, nodupB, borOk, setF, isC, byT, enL, rngL, sat_ok, sat_bind, sat_noX, sat_sSeq, sat_sIf, sat_runF, sat_sFor, sat_sSet, sat_sEx, sat_sRet, thn_nx, thn_rt, thn_bk, thn_ct, br_mk, ret_nx, ret_rt, forK_mk, setK_mk, exK_mk, rtK_mk] using h
theorem is_row_t {xs : List Val} {Q : Val × List Val → Prop} (h : Q (.bl true, [])) : Sat (m_is_row [.tup xs]) Q := by
  simpa [gAll, outsOf, fillA, lentP, lentS, setAll, nodupB, borOk, setF, isC, byT, enL, rngL, sat_ok, sat_bind, sat_noX, sat_sSeq, sat_sIf, sat_runF, sat_sFor, sat_sSet, sat_sEx, sat_sRet, thn_nx, thn_rt, thn_bk, thn_ct, br_mk, ret_nx, ret_rt, forK_mk, setK_mk, exK_mk, rtK_mk, m_is_row, b_is_row] using h
theorem is_row_l {xs : List Val} {Q : Val × List Val → Prop} (h : Q (.bl true, [])) : Sat (m_is_row [.lst xs]) Q := by
  simpa [gAll, outsOf, fillA, lentP, lentS, setAll, nodupB, borOk, setF, isC, byT, enL, rngL, sat_ok, sat_bind, sat_noX, sat_sSeq, sat_sIf, sat_runF, sat_sFor, sat_sSet, sat_sEx, sat_sRet, thn_nx, thn_rt, thn_bk, thn_ct, br_mk, ret_nx, ret_rt, forK_mk, setK_mk, exK_mk, rtK_mk, m_is_row, b_is_row] using h
theorem words_lc {ws : List Sg} {im : IM} {fr : Fr} {n : Nat} {Q : Val × Fr → Prop} (hn : n < fr.length) (hi : im fr = .ok (ws.map .str, fr)) (hl : ws.length ≤ 3) (hw : ∀ w ∈ ws, isWd w = true) (h : Q (.lst (List.replicate ws.length (.bl true)), fr)) :
    Sat (eLc [n] im (gN n) tTrue (callM [] [] m_is_word [] (lC (eV n) lN)) fr) Q := by
  refine sat_lcT _ hi (by simp; omega) ?_ (by rw [List.length_map]; exact h)
  intro x hx
  obtain ⟨s, hm, rfl⟩ := List.mem_map.mp hx
  obtain ⟨_, e, rfl⟩ := is_word_c (Q := fun z => z = (.bl true, [])) (hw s hm) rfl
  simp [gAll, outsOf, fillA, lentP, lentS, setAll, nodupB, borOk, setF, isC, byT, enL, rngL, sat_ok, sat_bind, sat_noX, sat_sSeq, sat_sIf, sat_runF, sat_sFor, sat_sSet, sat_sEx, sat_sRet, thn_nx, thn_rt, thn_bk, thn_ct, br_mk, ret_nx, ret_rt, forK_mk, setK_mk, exK_mk, rtK_mk, hn, e]
theorem are_words_c {v : Val} {ws : List Sg} {lo hi : Int} {Q : Val × List Val → Prop} (hv : v = .tup (ws.map .str) ∨ v = .lst (ws.map .str)) (h0 : lo ≤ ws.length) (h1 : (ws.length : Int) ≤ hi) (h3 : ws.length ≤ 3) (hw : ∀ w ∈ ws, isWd w = true) (hn : ws.Nodup) (h : Q (.bl true, [])) :
    Sat (m_are_words [v, .int lo, .int hi]) Q := by
  rcases hv with rfl | rfl
  · obtain ⟨_, k1, rfl⟩ := is_row_t (xs := ws.map .str) (Q := fun z => z = (.bl true, [])) rfl
    simp [gAll, outsOf, fillA, lentP, lentS, setAll, nodupB, borOk, setF, isC, byT, enL, rngL, sat_ok, sat_bind, sat_noX, sat_sSeq, sat_sIf, sat_runF, sat_sFor, sat_sSet, sat_sEx, sat_sRet, thn_nx, thn_rt, thn_bk, thn_ct, br_mk, ret_nx, ret_rt, forK_mk, setK_mk, exK_mk, rtK_mk, m_are_words, b_are_words, k1, h0, h1]
    refine words_lc (n := 3) (by simp) (by rfl) h3 hw ?_
    simp [gAll, outsOf, fillA, lentP, lentS, setAll, nodupB, borOk, setF, isC, byT, enL, rngL, sat_ok, sat_bind, sat_noX, sat_sSeq, sat_sIf, sat_runF, sat_sFor, sat_sSet, sat_sEx, sat_sRet, thn_nx, thn_rt, thn_bk, thn_ct, br_mk, ret_nx, ret_rt, forK_mk, setK_mk, exK_mk, rtK_mk]
    refine sat_dc ws (by rfl) (by omega) hn (fun x hx => rfl) (fun x hx => ⟨_, rfl⟩) fun vs => ?_
    simp [gAll, outsOf, fillA, lentP, lentS, setAll, nodupB, borOk, setF, isC, byT, enL, rngL, sat_ok, sat_bind, sat_noX, sat_sSeq, sat_sIf, sat_runF, sat_sFor, sat_sSet, sat_sEx, sat_sRet, thn_nx, thn_rt, thn_bk, thn_ct, br_mk, ret_nx, ret_rt, forK_mk, setK_mk, exK_mk, rtK_mk, eqv]
    exact h
  · obtain ⟨_, k1, rfl⟩ := is_row_l (xs := ws.map .str) (Q := fun z => z = (.bl true, [])) rfl
    simp [gAll, outsOf, fillA, lentP, lentS, setAll, nodupB, borOk, setF, isC, byT, enL, rngL, sat_ok, sat_bind, sat_noX, sat_sSeq, sat_sIf, sat_runF, sat_sFor, sat_sSet, sat_sEx, sat_sRet, thn_nx, thn_rt, thn_bk, thn_ct, br_mk, ret_nx, ret_rt, forK_mk, setK_mk, exK_mk, rtK_mk, m_are_words, b_are_words, k1, h0, h1]
    refine words_lc (n := 3) (by simp) (by rfl) h3 hw ?_
    simp [gAll, outsOf, fillA, lentP, lentS, setAll, nodupB, borOk, setF, isC, byT, enL, rngL, sat_ok, sat_bind, sat_noX, sat_sSeq, sat_sIf, sat_runF, sat_sFor, sat_sSet, sat_sEx, sat_sRet, thn_nx, thn_rt, thn_bk, thn_ct, br_mk, ret_nx, ret_rt, forK_mk, setK_mk, exK_mk, rtK_mk]
    refine sat_dc ws (by rfl) (by omega) hn (fun x hx => rfl) (fun x hx => ⟨_, rfl⟩) fun vs => ?_
    simp [gAll, outsOf, fillA, lentP, lentS, setAll, nodupB, borOk, setF, isC, byT, enL, rngL, sat_ok, sat_bind, sat_noX, sat_sSeq, sat_sIf, sat_runF, sat_sFor, sat_sSet, sat_sEx, sat_sRet, thn_nx, thn_rt, thn_bk, thn_ct, br_mk, ret_nx, ret_rt, forK_mk, setK_mk, exK_mk, rtK_mk, eqv]
    exact h
end K01

namespace K01
open SK
open PySem (seqIndex?)
open PySem.Spec (ltCps)
open L2 (atI ixN)
def Row (v : Val) (xs : List Val) : Prop := v = .tup xs ∨ v = .lst xs
def RWs : List Val → List (List Sg) → Prop
  | r :: rs, w :: ws => Row r (w.map .str) ∧ RWs rs ws
  | [], [] => True
  | _, _ => False
def OkWay (w : List Sg) : Prop := w.length ≤ 3 ∧ w.Nodup ∧ ∀ x ∈ w, isWd x = true
def OkWays (ws : List (List Sg)) : Prop := 1 ≤ ws.length ∧ ws.length ≤ 3 ∧ ∀ w ∈ ws, OkWay w
theorem RWs.len : ∀ {rs ws}, RWs rs ws → rs.length = ws.length
  | [], [], _ => rfl
  | _ :: _, _ :: _, h => by rw [List.length_cons, List.length_cons, h.2.len]
  | [], _ :: _, h => h.elim
  | _ :: _, [], h => h.elim
theorem RWs.mem : ∀ {rs ws}, RWs rs ws → ∀ r ∈ rs, ∃ w ∈ ws, Row r (w.map .str)
  | _ :: _, w :: _, h, r, hr => by
    rcases List.mem_cons.mp hr with rfl | hr
    · exact ⟨w, List.mem_cons_self .., h.1⟩
    · obtain ⟨w', a, b⟩ := h.2.mem r hr
      exact ⟨w', List.mem_cons_of_mem _ a, b⟩
  | [], [], _, r, hr => by cases hr
  | [], _ :: _, h, _, _ => h.elim
  | _ :: _, [], h, _, _ => h.elim
theorem are_ways_c {v : Val} {rs : List Val} {ws : List (List Sg)} {Q : Val × List Val → Prop} (hv : Row v rs) (hr : RWs rs ws) (hw : OkWays ws) (h : Q (.bl true, [])) : Sat (m_are_ways [v]) Q := by
  obtain ⟨h1, h3, hw⟩ := hw
  have hl := hr.len
  have h1' : (1 : Int) ≤ (rs.length : Int) := by omega
  have h3' : (rs.length : Int) ≤ 3 := by omega
  have el : ∀ fr : Fr, 1 < fr.length → ∀ x ∈ rs, callM [] [0] m_are_words [] (lC (eV 1) (lC (eC (.int 0)) (lC (eC (.int 3)) lN))) (fr.set 1 (some x)) = .ok (.bl true, fr.set 1 (some x)) := fun fr hf x hx => by
    obtain ⟨w, hm, hrow⟩ := hr.mem x hx
    obtain ⟨a, b, c⟩ := hw w hm
    obtain ⟨_, e, rfl⟩ := are_words_c (v := x) (lo := 0) (hi := 3) (Q := fun z => z = (.bl true, [])) hrow (by omega) (by omega) a c b rfl
    simp [gAll, outsOf, fillA, lentP, lentS, setAll, nodupB, borOk, setF, isC, byT, enL, rngL, sat_ok, sat_bind, sat_noX, sat_sSeq, sat_sIf, sat_runF, sat_sFor, sat_sSet, sat_sEx, sat_sRet, thn_nx, thn_rt, thn_bk, thn_ct, br_mk, ret_nx, ret_rt, forK_mk, setK_mk, exK_mk, rtK_mk, hf, e]
  rcases hv with rfl | rfl
  · obtain ⟨_, k1, rfl⟩ := is_row_t (xs := rs) (Q := fun z => z = (.bl true, [])) rfl
    simp [gAll, outsOf, fillA, lentP, lentS, setAll, nodupB, borOk, setF, isC, byT, enL, rngL, sat_ok, sat_bind, sat_noX, sat_sSeq, sat_sIf, sat_runF, sat_sFor, sat_sSet, sat_sEx, sat_sRet, thn_nx, thn_rt, thn_bk, thn_ct, br_mk, ret_nx, ret_rt, forK_mk, setK_mk, exK_mk, rtK_mk, m_are_ways, b_are_ways, k1, h1', h3']
    refine sat_lcT rs (by rfl) (by omega) (el _ (by simp)) ?_
    simpa [gAll, outsOf, fillA, lentP, lentS, setAll, nodupB, borOk, setF, isC, byT, enL, rngL, sat_ok, sat_bind, sat_noX, sat_sSeq, sat_sIf, sat_runF, sat_sFor, sat_sSet, sat_sEx, sat_sRet, thn_nx, thn_rt, thn_bk, thn_ct, br_mk, ret_nx, ret_rt, forK_mk, setK_mk, exK_mk, rtK_mk] using h
  · obtain ⟨_, k1, rfl⟩ := is_row_l (xs := rs) (Q := fun z => z = (.bl true, [])) rfl
    simp [gAll, outsOf, fillA, lentP, lentS, setAll, nodupB, borOk, setF, isC, byT, enL, rngL, sat_ok, sat_bind, sat_noX, sat_sSeq, sat_sIf, sat_runF, sat_sFor, sat_sSet, sat_sEx, sat_sRet, thn_nx, thn_rt, thn_bk, thn_ct, br_mk, ret_nx, ret_rt, forK_mk, setK_mk, exK_mk, rtK_mk, m_are_ways, b_are_ways, k1, h1', h3']
    refine sat_lcT rs (by rfl) (by omega) (el _ (by simp)) ?_
    simpa [gAll, outsOf, fillA, lentP, lentS, setAll, nodupB, borOk, setF, isC, byT, enL, rngL, sat_ok, sat_bind, sat_noX, sat_sSeq, sat_sIf, sat_runF, sat_sFor, sat_sSet, sat_sEx, sat_sRet, thn_nx, thn_rt, thn_bk, thn_ct, br_mk, ret_nx, ret_rt, forK_mk, setK_mk, exK_mk, rtK_mk] using h
def wT (ws : List (List Sg)) : Val := .tup (ws.map fun w => .tup (w.map .str))
def dueOk (d d' : Val) : Prop := (d = .str [110, 101, 118, 101, 114] ∧ d' = d) ∨ (d = .str [97, 108, 119, 97, 121, 115] ∧ d' = d) ∨ ∃ k os, isWd k = true ∧ 1 ≤ os.length ∧ OkWay os ∧ (d = .tup [.str k, .tup (os.map .str)] ∨ d = .tup [.str k, .lst (os.map .str)]) ∧ d' = .tup [.str k, .tup (os.map .str)]
theorem is_due_c {d d' : Val} {Q : Val × List Val → Prop} (hd : dueOk d d') (h : Q (.bl true, [])) : Sat (m_is_due [d]) Q := by
  rcases hd with ⟨rfl, rfl⟩ | ⟨rfl, rfl⟩ | ⟨k, os, hk, ho, ⟨h3, hn, hw⟩, hd, rfl⟩
  · simpa [gAll, outsOf, fillA, lentP, lentS, setAll, nodupB, borOk, setF, isC, byT, enL, rngL, sat_ok, sat_bind, sat_noX, sat_sSeq, sat_sIf, sat_runF, sat_sFor, sat_sSet, sat_sEx, sat_sRet, thn_nx, thn_rt, thn_bk, thn_ct, br_mk, ret_nx, ret_rt, forK_mk, setK_mk, exK_mk, rtK_mk, m_is_due, b_is_due, inV, inSeq, anyO, eqv] using h
  · simpa [gAll, outsOf, fillA, lentP, lentS, setAll, nodupB, borOk, setF, isC, byT, enL, rngL, sat_ok, sat_bind, sat_noX, sat_sSeq, sat_sIf, sat_runF, sat_sFor, sat_sSet, sat_sEx, sat_sRet, thn_nx, thn_rt, thn_bk, thn_ct, br_mk, ret_nx, ret_rt, forK_mk, setK_mk, exK_mk, rtK_mk, m_is_due, b_is_due, inV, inSeq, anyO, eqv] using h
  · rcases hd with rfl | rfl <;>
    · simp [gAll, outsOf, fillA, lentP, lentS, setAll, nodupB, borOk, setF, isC, byT, enL, rngL, sat_ok, sat_bind, sat_noX, sat_sSeq, sat_sIf, sat_runF, sat_sFor, sat_sSet, sat_sEx, sat_sRet, thn_nx, thn_rt, thn_bk, thn_ct, br_mk, ret_nx, ret_rt, forK_mk, setK_mk, exK_mk, rtK_mk, m_is_due, b_is_due, eqv, atI, ixN]
      refine is_word_c hk ?_
      simp [gAll, outsOf, fillA, lentP, lentS, setAll, nodupB, borOk, setF, isC, byT, enL, rngL, sat_ok, sat_bind, sat_noX, sat_sSeq, sat_sIf, sat_runF, sat_sFor, sat_sSet, sat_sEx, sat_sRet, thn_nx, thn_rt, thn_bk, thn_ct, br_mk, ret_nx, ret_rt, forK_mk, setK_mk, exK_mk, rtK_mk, atI, ixN]
      refine are_words_c (ws := os) (by first | exact .inl rfl | exact .inr rfl) (by omega) (by omega) h3 hw hn ?_
      simpa [gAll, outsOf, fillA, lentP, lentS, setAll, nodupB, borOk, setF, isC, byT, enL, rngL, sat_ok, sat_bind, sat_noX, sat_sSeq, sat_sIf, sat_runF, sat_sFor, sat_sSet, sat_sEx, sat_sRet, thn_nx, thn_rt, thn_bk, thn_ct, br_mk, ret_nx, ret_rt, forK_mk, setK_mk, exK_mk, rtK_mk] using h
theorem look_at_c {xs : List Val} {Q : Val × List Val → Prop} (hx : ∀ x ∈ xs, ∃ a, x = .tup [a, .bl true]) (h : Q (.non, [])) : Sat (m_look_at [.lst xs]) Q := by
  simp [gAll, outsOf, fillA, lentP, lentS, setAll, nodupB, borOk, setF, isC, byT, enL, rngL, sat_ok, sat_bind, sat_noX, sat_sSeq, sat_sIf, sat_runF, sat_sFor, sat_sSet, sat_sEx, sat_sRet, thn_nx, thn_rt, thn_bk, thn_ct, br_mk, ret_nx, ret_rt, forK_mk, setK_mk, exK_mk, rtK_mk, m_look_at, b_look_at]
  refine forL_sat (I := fun l fr => (∀ x ∈ l, ∃ a, x = .tup [a, .bl true]) ∧ ∃ a b, fr = [some (.lst xs), a, b]) ?_ ?_ _ _ ⟨hx, _, _, rfl⟩
  · rintro x l _ ⟨hl, a, b, rfl⟩
    obtain ⟨z, rfl⟩ := hl x (List.mem_cons_self ..)
    simp [gAll, outsOf, fillA, lentP, lentS, setAll, nodupB, borOk, setF, isC, byT, enL, rngL, sat_ok, sat_bind, sat_noX, sat_sSeq, sat_sIf, sat_runF, sat_sFor, sat_sSet, sat_sEx, sat_sRet, thn_nx, thn_rt, thn_bk, thn_ct, br_mk, ret_nx, ret_rt, forK_mk, setK_mk, exK_mk, rtK_mk]
    exact fun y hy => hl y (List.mem_cons_of_mem _ hy)
  · rintro _ ⟨_, a, b, rfl⟩
    simpa [gAll, outsOf, fillA, lentP, lentS, setAll, nodupB, borOk, setF, isC, byT, enL, rngL, sat_ok, sat_bind, sat_noX, sat_sSeq, sat_sIf, sat_runF, sat_sFor, sat_sSet, sat_sEx, sat_sRet, thn_nx, thn_rt, thn_bk, thn_ct, br_mk, ret_nx, ret_rt, forK_mk, setK_mk, exK_mk, rtK_mk] using h
def prt (t : Sg) (ws : List (List Sg)) (m : Bool) (d : Val) : Val := .ins 1 [3, 4, 0, 1, 2] [.bl m, d, .str t, wT ws, .tup [.str [112, 97, 114, 116], .str t, wT ws, .bl m, d]]
def fst (t : Sg) (hs : List Sg) (r : Int) (ws : List (List Sg)) : Val := .ins 2 [5, 6, 0, 1, 2] [.tup (hs.map .str), .int r, .str t, wT ws, .tup [.str [102, 97, 115, 116, 101, 110, 105, 110, 103], .str t, wT ws, .tup (hs.map .str), .int r]]
def tol (t : Sg) (ws : List (List Sg)) : Val := .ins 3 [0, 1, 2] [.str t, wT ws, .tup [.str [116, 111, 111, 108], .str t, wT ws]]
def vrn (t : Sg) (os : List Sg) : Val := .ins 4 [0, 7] [.str t, .tup (os.map .str)]
theorem thing_lc {rs : List Val} {ws : List (List Sg)} {i : Nat} {im : IM} {fr : Fr} {Q : Val × Fr → Prop} (hf : i < fr.length) (hi : im fr = .ok (rs, fr)) (hl : rs.length ≤ 16777216) (hr : RWs rs ws) (h : Q (.lst (ws.map fun w => .tup (w.map .str)), fr)) :
    Sat (eLc [i] im (gN i) tTrue (eN vTuple (aC (eV i) aN)) fr) Q := by
  have e : rs.map (fun v => .tup ((itOf v).getD [])) = ws.map fun w => Val.tup (w.map .str) := by
    clear hi hl h
    induction rs generalizing ws with
    | nil => cases ws with
      | nil => rfl
      | cons _ _ => exact hr.elim
    | cons r rs ih => cases ws with
      | nil => exact hr.elim
      | cons w ws =>
        rw [List.map_cons, List.map_cons, ih hr.2]
        rcases hr.1 with rfl | rfl <;> rfl
  refine sat_lc (fun v => .tup ((itOf v).getD [])) rs hi hl ?_ (e ▸ h)
  intro x hx
  obtain ⟨w, _, hrow⟩ := hr.mem x hx
  rcases hrow with rfl | rfl <;> simp [gAll, outsOf, fillA, lentP, lentS, setAll, nodupB, borOk, setF, isC, byT, enL, rngL, sat_ok, sat_bind, sat_noX, sat_sSeq, sat_sIf, sat_runF, sat_sFor, sat_sSet, sat_sEx, sat_sRet, thn_nx, thn_rt, thn_bk, thn_ct, br_mk, ret_nx, ret_rt, forK_mk, setK_mk, exK_mk, rtK_mk, hf]
theorem thing_p {sort t wv a b : Val} {rest : List Val} {rs : List Val} {ws : List (List Sg)} {Q : Val × List Val → Prop} (hw : Row wv rs) (hr : RWs rs ws) (hl : rs.length ≤ 3) (hl2 : rest.length ≤ 3)
    (h : Q (.non, [.ins 1 [3, 4, 0, 1, 2] [a, b, t, wT ws, .tup (sort :: t :: wT ws :: rest)]])) : Sat (m_Thing_init [.ins 1 [3, 4] [a, b], sort, t, wv, .lst rest]) Q := by
  have h2 : rest.length + 1 + 1 + 1 ≤ 16777216 := by omega
  rcases hw with rfl | rfl <;>
  · simp [gAll, outsOf, fillA, lentP, lentS, setAll, nodupB, borOk, setF, isC, byT, enL, rngL, sat_ok, sat_bind, sat_noX, sat_sSeq, sat_sIf, sat_runF, sat_sFor, sat_sSet, sat_sEx, sat_sRet, thn_nx, thn_rt, thn_bk, thn_ct, br_mk, ret_nx, ret_rt, forK_mk, setK_mk, exK_mk, rtK_mk, m_Thing_init, b_Thing_init]
    refine thing_lc (by simp) (by rfl) (by omega) hr ?_
    simpa [gAll, outsOf, fillA, lentP, lentS, setAll, nodupB, borOk, setF, isC, byT, enL, rngL, sat_ok, sat_bind, sat_noX, sat_sSeq, sat_sIf, sat_runF, sat_sFor, sat_sSet, sat_sEx, sat_sRet, thn_nx, thn_rt, thn_bk, thn_ct, br_mk, ret_nx, ret_rt, forK_mk, setK_mk, exK_mk, rtK_mk, h2, wT] using h
theorem thing_f {sort t wv a b : Val} {rest : List Val} {rs : List Val} {ws : List (List Sg)} {Q : Val × List Val → Prop} (hw : Row wv rs) (hr : RWs rs ws) (hl : rs.length ≤ 3) (hl2 : rest.length ≤ 3)
    (h : Q (.non, [.ins 2 [5, 6, 0, 1, 2] [a, b, t, wT ws, .tup (sort :: t :: wT ws :: rest)]])) : Sat (m_Thing_init [.ins 2 [5, 6] [a, b], sort, t, wv, .lst rest]) Q := by
  have h2 : rest.length + 1 + 1 + 1 ≤ 16777216 := by omega
  rcases hw with rfl | rfl <;>
  · simp [gAll, outsOf, fillA, lentP, lentS, setAll, nodupB, borOk, setF, isC, byT, enL, rngL, sat_ok, sat_bind, sat_noX, sat_sSeq, sat_sIf, sat_runF, sat_sFor, sat_sSet, sat_sEx, sat_sRet, thn_nx, thn_rt, thn_bk, thn_ct, br_mk, ret_nx, ret_rt, forK_mk, setK_mk, exK_mk, rtK_mk, m_Thing_init, b_Thing_init]
    refine thing_lc (by simp) (by rfl) (by omega) hr ?_
    simpa [gAll, outsOf, fillA, lentP, lentS, setAll, nodupB, borOk, setF, isC, byT, enL, rngL, sat_ok, sat_bind, sat_noX, sat_sSeq, sat_sIf, sat_runF, sat_sFor, sat_sSet, sat_sEx, sat_sRet, thn_nx, thn_rt, thn_bk, thn_ct, br_mk, ret_nx, ret_rt, forK_mk, setK_mk, exK_mk, rtK_mk, h2, wT] using h
theorem thing_t {sort t wv : Val} {rest : List Val} {rs : List Val} {ws : List (List Sg)} {Q : Val × List Val → Prop} (hw : Row wv rs) (hr : RWs rs ws) (hl : rs.length ≤ 3) (hl2 : rest.length ≤ 3)
    (h : Q (.non, [.ins 3 [0, 1, 2] [t, wT ws, .tup (sort :: t :: wT ws :: rest)]])) : Sat (m_Thing_init [.ins 3 [] [], sort, t, wv, .lst rest]) Q := by
  have h2 : rest.length + 1 + 1 + 1 ≤ 16777216 := by omega
  rcases hw with rfl | rfl <;>
  · simp [gAll, outsOf, fillA, lentP, lentS, setAll, nodupB, borOk, setF, isC, byT, enL, rngL, sat_ok, sat_bind, sat_noX, sat_sSeq, sat_sIf, sat_runF, sat_sFor, sat_sSet, sat_sEx, sat_sRet, thn_nx, thn_rt, thn_bk, thn_ct, br_mk, ret_nx, ret_rt, forK_mk, setK_mk, exK_mk, rtK_mk, m_Thing_init, b_Thing_init]
    refine thing_lc (by simp) (by rfl) (by omega) hr ?_
    simpa [gAll, outsOf, fillA, lentP, lentS, setAll, nodupB, borOk, setF, isC, byT, enL, rngL, sat_ok, sat_bind, sat_noX, sat_sSeq, sat_sIf, sat_runF, sat_sFor, sat_sSet, sat_sEx, sat_sRet, thn_nx, thn_rt, thn_bk, thn_ct, br_mk, ret_nx, ret_rt, forK_mk, setK_mk, exK_mk, rtK_mk, h2, wT] using h
theorem part_c {t : Sg} {wv d d' : Val} {m : Bool} {rs : List Val} {ws : List (List Sg)} {Q : Val × List Val → Prop} (ht : isWd t = true) (hw : Row wv rs) (hr : RWs rs ws) (ho : OkWays ws) (hd : dueOk d d')
    (h : Q (.non, [prt t ws m d'])) : Sat (m_Part_init [.ins 1 [] [], .str t, wv, .bl m, d]) Q := by
  have hl := hr.len
  have h3 : rs.length ≤ 3 := by obtain ⟨_, b, _⟩ := ho; omega
  have hz : isFz wv = false ∧ unfz wv = wv := by rcases hw with rfl | rfl <;> exact ⟨rfl, rfl⟩
  simp [gAll, outsOf, fillA, lentP, lentS, setAll, nodupB, borOk, setF, isC, byT, enL, rngL, sat_ok, sat_bind, sat_noX, sat_sSeq, sat_sIf, sat_runF, sat_sFor, sat_sSet, sat_sEx, sat_sRet, thn_nx, thn_rt, thn_bk, thn_ct, br_mk, ret_nx, ret_rt, forK_mk, setK_mk, exK_mk, rtK_mk, m_Part_init, b_Part_init]
  refine is_word_c ht ?_
  simp [gAll, outsOf, fillA, lentP, lentS, setAll, nodupB, borOk, setF, isC, byT, enL, rngL, sat_ok, sat_bind, sat_noX, sat_sSeq, sat_sIf, sat_runF, sat_sFor, sat_sSet, sat_sEx, sat_sRet, thn_nx, thn_rt, thn_bk, thn_ct, br_mk, ret_nx, ret_rt, forK_mk, setK_mk, exK_mk, rtK_mk, hz.2]
  refine are_ways_c hw hr ho ?_
  refine is_due_c hd ?_
  refine look_at_c (by simp) ?_
  rcases hd with ⟨rfl, rfl⟩ | ⟨rfl, rfl⟩ | ⟨k, os, hk, ho1, ⟨ho3, hn, hw'⟩, hd, rfl⟩
  · simp [gAll, outsOf, fillA, lentP, lentS, setAll, nodupB, borOk, setF, isC, byT, enL, rngL, sat_ok, sat_bind, sat_noX, sat_sSeq, sat_sIf, sat_runF, sat_sFor, sat_sSet, sat_sEx, sat_sRet, thn_nx, thn_rt, thn_bk, thn_ct, br_mk, ret_nx, ret_rt, forK_mk, setK_mk, exK_mk, rtK_mk, hz.1, hz.2]
    refine thing_p hw hr h3 (by simp) ?_
    (simp [gAll, outsOf, fillA, lentP, lentS, setAll, nodupB, borOk, setF, isC, byT, enL, rngL, sat_ok, sat_bind, sat_noX, sat_sSeq, sat_sIf, sat_runF, sat_sFor, sat_sSet, sat_sEx, sat_sRet, thn_nx, thn_rt, thn_bk, thn_ct, br_mk, ret_nx, ret_rt, forK_mk, setK_mk, exK_mk, rtK_mk]; exact h)
  · simp [gAll, outsOf, fillA, lentP, lentS, setAll, nodupB, borOk, setF, isC, byT, enL, rngL, sat_ok, sat_bind, sat_noX, sat_sSeq, sat_sIf, sat_runF, sat_sFor, sat_sSet, sat_sEx, sat_sRet, thn_nx, thn_rt, thn_bk, thn_ct, br_mk, ret_nx, ret_rt, forK_mk, setK_mk, exK_mk, rtK_mk, hz.1, hz.2]
    refine thing_p hw hr h3 (by simp) ?_
    (simp [gAll, outsOf, fillA, lentP, lentS, setAll, nodupB, borOk, setF, isC, byT, enL, rngL, sat_ok, sat_bind, sat_noX, sat_sSeq, sat_sIf, sat_runF, sat_sFor, sat_sSet, sat_sEx, sat_sRet, thn_nx, thn_rt, thn_bk, thn_ct, br_mk, ret_nx, ret_rt, forK_mk, setK_mk, exK_mk, rtK_mk]; exact h)
  · rcases hd with rfl | rfl <;>
    · simp [gAll, outsOf, fillA, lentP, lentS, setAll, nodupB, borOk, setF, isC, byT, enL, rngL, sat_ok, sat_bind, sat_noX, sat_sSeq, sat_sIf, sat_runF, sat_sFor, sat_sSet, sat_sEx, sat_sRet, thn_nx, thn_rt, thn_bk, thn_ct, br_mk, ret_nx, ret_rt, forK_mk, setK_mk, exK_mk, rtK_mk, hz.1, hz.2, atI, ixN]
      refine thing_p hw hr h3 (by simp) ?_
      (simp [gAll, outsOf, fillA, lentP, lentS, setAll, nodupB, borOk, setF, isC, byT, enL, rngL, sat_ok, sat_bind, sat_noX, sat_sSeq, sat_sIf, sat_runF, sat_sFor, sat_sSet, sat_sEx, sat_sRet, thn_nx, thn_rt, thn_bk, thn_ct, br_mk, ret_nx, ret_rt, forK_mk, setK_mk, exK_mk, rtK_mk]; exact h)
theorem is_number_c {i lo hi : Int} {Q : Val × List Val → Prop} (h0 : lo ≤ i) (h1 : i ≤ hi) (h : Q (.bl true, [])) : Sat (m_is_number [.int i, .int lo, .int hi]) Q := by
  simpa [gAll, outsOf, fillA, lentP, lentS, setAll, nodupB, borOk, setF, isC, byT, enL, rngL, sat_ok, sat_bind, sat_noX, sat_sSeq, sat_sIf, sat_runF, sat_sFor, sat_sSet, sat_sEx, sat_sRet, thn_nx, thn_rt, thn_bk, thn_ct, br_mk, ret_nx, ret_rt, forK_mk, setK_mk, exK_mk, rtK_mk, m_is_number, b_is_number, m_is_whole, b_is_whole, h0, h1] using h
theorem fast_c {t : Sg} {hv wv : Val} {hs : List Sg} {r : Int} {rs : List Val} {ws : List (List Sg)} {Q : Val × List Val → Prop} (ht : isWd t = true) (hh : Row hv (hs.map .str)) (h1 : 1 ≤ hs.length) (hok : OkWay hs) (r1 : 1 ≤ r) (r3 : r ≤ 3) (hw : Row wv rs) (hr : RWs rs ws) (ho : OkWays ws)
    (h : Q (.non, [fst t hs r ws])) : Sat (m_Fastening_init [.ins 2 [] [], .str t, hv, .int r, wv]) Q := by
  have hl := hr.len
  have h3 : rs.length ≤ 3 := by obtain ⟨_, b, _⟩ := ho; omega
  have hz : isFz wv = false ∧ unfz wv = wv := by rcases hw with rfl | rfl <;> exact ⟨rfl, rfl⟩
  obtain ⟨k3, kn, kw⟩ := hok
  rcases hh with rfl | rfl <;>
  · simp [gAll, outsOf, fillA, lentP, lentS, setAll, nodupB, borOk, setF, isC, byT, enL, rngL, sat_ok, sat_bind, sat_noX, sat_sSeq, sat_sIf, sat_runF, sat_sFor, sat_sSet, sat_sEx, sat_sRet, thn_nx, thn_rt, thn_bk, thn_ct, br_mk, ret_nx, ret_rt, forK_mk, setK_mk, exK_mk, rtK_mk, m_Fastening_init, b_Fastening_init]
    refine is_word_c ht ?_
    simp [gAll, outsOf, fillA, lentP, lentS, setAll, nodupB, borOk, setF, isC, byT, enL, rngL, sat_ok, sat_bind, sat_noX, sat_sSeq, sat_sIf, sat_runF, sat_sFor, sat_sSet, sat_sEx, sat_sRet, thn_nx, thn_rt, thn_bk, thn_ct, br_mk, ret_nx, ret_rt, forK_mk, setK_mk, exK_mk, rtK_mk]
    refine are_words_c (ws := hs) (by first | exact .inl rfl | exact .inr rfl) (by omega) (by omega) k3 kw kn ?_
    simp [gAll, outsOf, fillA, lentP, lentS, setAll, nodupB, borOk, setF, isC, byT, enL, rngL, sat_ok, sat_bind, sat_noX, sat_sSeq, sat_sIf, sat_runF, sat_sFor, sat_sSet, sat_sEx, sat_sRet, thn_nx, thn_rt, thn_bk, thn_ct, br_mk, ret_nx, ret_rt, forK_mk, setK_mk, exK_mk, rtK_mk]
    refine is_number_c r1 r3 ?_
    simp [gAll, outsOf, fillA, lentP, lentS, setAll, nodupB, borOk, setF, isC, byT, enL, rngL, sat_ok, sat_bind, sat_noX, sat_sSeq, sat_sIf, sat_runF, sat_sFor, sat_sSet, sat_sEx, sat_sRet, thn_nx, thn_rt, thn_bk, thn_ct, br_mk, ret_nx, ret_rt, forK_mk, setK_mk, exK_mk, rtK_mk, hz.2]
    refine are_ways_c hw hr ho ?_
    refine look_at_c (by simp) ?_
    try simp [gAll, outsOf, fillA, lentP, lentS, setAll, nodupB, borOk, setF, isC, byT, enL, rngL, sat_ok, sat_bind, sat_noX, sat_sSeq, sat_sIf, sat_runF, sat_sFor, sat_sSet, sat_sEx, sat_sRet, thn_nx, thn_rt, thn_bk, thn_ct, br_mk, ret_nx, ret_rt, forK_mk, setK_mk, exK_mk, rtK_mk, hz.1, hz.2]
    refine thing_f hw hr h3 (by simp) ?_
    (simp [gAll, outsOf, fillA, lentP, lentS, setAll, nodupB, borOk, setF, isC, byT, enL, rngL, sat_ok, sat_bind, sat_noX, sat_sSeq, sat_sIf, sat_runF, sat_sFor, sat_sSet, sat_sEx, sat_sRet, thn_nx, thn_rt, thn_bk, thn_ct, br_mk, ret_nx, ret_rt, forK_mk, setK_mk, exK_mk, rtK_mk]; exact h)
theorem tool_c {t : Sg} {wv : Val} {rs : List Val} {ws : List (List Sg)} {Q : Val × List Val → Prop} (ht : isWd t = true) (hw : Row wv rs) (hr : RWs rs ws) (ho : OkWays ws)
    (h : Q (.non, [tol t ws])) : Sat (m_Tool_init [.ins 3 [] [], .str t, wv]) Q := by
  have hl := hr.len
  have h3 : rs.length ≤ 3 := by obtain ⟨_, b, _⟩ := ho; omega
  have hz : isFz wv = false ∧ unfz wv = wv := by rcases hw with rfl | rfl <;> exact ⟨rfl, rfl⟩
  simp [gAll, outsOf, fillA, lentP, lentS, setAll, nodupB, borOk, setF, isC, byT, enL, rngL, sat_ok, sat_bind, sat_noX, sat_sSeq, sat_sIf, sat_runF, sat_sFor, sat_sSet, sat_sEx, sat_sRet, thn_nx, thn_rt, thn_bk, thn_ct, br_mk, ret_nx, ret_rt, forK_mk, setK_mk, exK_mk, rtK_mk, m_Tool_init, b_Tool_init]
  refine is_word_c ht ?_
  simp [gAll, outsOf, fillA, lentP, lentS, setAll, nodupB, borOk, setF, isC, byT, enL, rngL, sat_ok, sat_bind, sat_noX, sat_sSeq, sat_sIf, sat_runF, sat_sFor, sat_sSet, sat_sEx, sat_sRet, thn_nx, thn_rt, thn_bk, thn_ct, br_mk, ret_nx, ret_rt, forK_mk, setK_mk, exK_mk, rtK_mk, hz.2]
  refine are_ways_c hw hr ho ?_
  refine look_at_c (by simp) ?_
  try simp [gAll, outsOf, fillA, lentP, lentS, setAll, nodupB, borOk, setF, isC, byT, enL, rngL, sat_ok, sat_bind, sat_noX, sat_sSeq, sat_sIf, sat_runF, sat_sFor, sat_sSet, sat_sEx, sat_sRet, thn_nx, thn_rt, thn_bk, thn_ct, br_mk, ret_nx, ret_rt, forK_mk, setK_mk, exK_mk, rtK_mk, hz.1, hz.2]
  refine thing_t hw hr h3 (by simp) ?_
  (simp [gAll, outsOf, fillA, lentP, lentS, setAll, nodupB, borOk, setF, isC, byT, enL, rngL, sat_ok, sat_bind, sat_noX, sat_sSeq, sat_sIf, sat_runF, sat_sFor, sat_sSet, sat_sEx, sat_sRet, thn_nx, thn_rt, thn_bk, thn_ct, br_mk, ret_nx, ret_rt, forK_mk, setK_mk, exK_mk, rtK_mk]; exact h)
theorem vari_c {t : Sg} {ov : Val} {os : List Sg} {Q : Val × List Val → Prop} (ht : isWd t = true) (hh : Row ov (os.map .str)) (h2 : 2 ≤ os.length) (hok : OkWay os)
    (h : Q (.non, [vrn t os])) : Sat (m_Variant_init [.ins 4 [] [], .str t, ov]) Q := by
  obtain ⟨k3, kn, kw⟩ := hok
  rcases hh with rfl | rfl <;>
  · simp [gAll, outsOf, fillA, lentP, lentS, setAll, nodupB, borOk, setF, isC, byT, enL, rngL, sat_ok, sat_bind, sat_noX, sat_sSeq, sat_sIf, sat_runF, sat_sFor, sat_sSet, sat_sEx, sat_sRet, thn_nx, thn_rt, thn_bk, thn_ct, br_mk, ret_nx, ret_rt, forK_mk, setK_mk, exK_mk, rtK_mk, m_Variant_init, b_Variant_init]
    refine is_word_c ht ?_
    simp [gAll, outsOf, fillA, lentP, lentS, setAll, nodupB, borOk, setF, isC, byT, enL, rngL, sat_ok, sat_bind, sat_noX, sat_sSeq, sat_sIf, sat_runF, sat_sFor, sat_sSet, sat_sEx, sat_sRet, thn_nx, thn_rt, thn_bk, thn_ct, br_mk, ret_nx, ret_rt, forK_mk, setK_mk, exK_mk, rtK_mk]
    refine are_words_c (ws := os) (by first | exact .inl rfl | exact .inr rfl) (by omega) (by omega) k3 kw kn ?_
    refine look_at_c (by simp) ?_
    (try simp [gAll, outsOf, fillA, lentP, lentS, setAll, nodupB, borOk, setF, isC, byT, enL, rngL, sat_ok, sat_bind, sat_noX, sat_sSeq, sat_sIf, sat_runF, sat_sFor, sat_sSet, sat_sEx, sat_sRet, thn_nx, thn_rt, thn_bk, thn_ct, br_mk, ret_nx, ret_rt, forK_mk, setK_mk, exK_mk, rtK_mk]); exact h
end K01

namespace K01
open SK
open PySem (seqIndex?)
open PySem.Spec (ltCps)
open L2 (atI ixN)
theorem eqZ_map {α : Type} {f : Val → Val → Option Bool} {g : α → Val} [DecidableEq α] (h : ∀ x y, f (g x) (g y) = some (decide (x = y))) : ∀ a b : List α, ∃ k, eqZ f (a.map g) (b.map g) = some k ∧ (k && (a.map g).length == (b.map g).length) = decide (a = b)
  | [], [] => ⟨true, rfl, rfl⟩
  | [], y :: b => ⟨true, rfl, rfl⟩
  | x :: a, [] => ⟨true, rfl, rfl⟩
  | x :: a, y :: b => by
    obtain ⟨k, e1, e2⟩ := eqZ_map h a b
    refine ⟨decide (x = y) && k, ?_, ?_⟩
    · rw [List.map_cons, List.map_cons]
      unfold eqZ
      rw [h x y, e1]
    · rw [List.map_cons, List.map_cons, List.length_cons, List.length_cons]
      rw [show ((a.map g).length + 1 == (b.map g).length + 1) = ((a.map g).length == (b.map g).length) by simp]
      rw [Bool.and_assoc, e2]
      by_cases hx : x = y <;> by_cases hy : a = b <;> simp [hx, hy]
theorem eqv_tupM {α : Type} {n : Nat} {g : α → Val} [DecidableEq α] (h : ∀ x y, eqv n (g x) (g y) = some (decide (x = y))) (a b : List α) : eqv (n + 1) (.tup (a.map g)) (.tup (b.map g)) = some (decide (a = b)) := by
  obtain ⟨k, e1, e2⟩ := eqZ_map h a b
  unfold eqv
  rw [e1]
  exact congrArg some e2
theorem eqv_str (n : Nat) (x y : Sg) : eqv (n + 1) (.str x) (.str y) = some (decide (x = y)) := by
  unfold eqv
  by_cases h : x = y <;> simp [h]
theorem eqv_strs {n : Nat} (hn : 2 ≤ n) (a b : List Sg) : eqv n (.tup (a.map .str)) (.tup (b.map .str)) = some (decide (a = b)) := by
  obtain ⟨m, rfl⟩ : ∃ m, n = m + 2 := ⟨n - 2, by omega⟩
  exact eqv_tupM (eqv_str m) a b
theorem eqv_wT {n : Nat} (hn : 3 ≤ n) (a b : List (List Sg)) : eqv n (wT a) (wT b) = some (decide (a = b)) := by
  obtain ⟨m, rfl⟩ : ∃ m, n = m + 3 := ⟨n - 3, by omega⟩
  exact eqv_tupM (eqv_strs (n := m + 2) (by omega)) a b
inductive DueV : Val → Val → Prop
  | n : DueV (.str [110, 101, 118, 101, 114]) (.str [110, 101, 118, 101, 114])
  | a : DueV (.str [97, 108, 119, 97, 121, 115]) (.str [97, 108, 119, 97, 121, 115])
  | x : DueV (.tup [.str [107, 105, 110, 100], .tup [.str [120]]]) (.tup [.str [107, 105, 110, 100], .lst [.str [120]]])
  | y : DueV (.tup [.str [107, 105, 110, 100], .tup [.str [121]]]) (.tup [.str [107, 105, 110, 100], .lst [.str [121]]])
theorem DueV.l {d e} (h : DueV d e) : dueOk e d := by
  cases h
  · exact .inl ⟨rfl, rfl⟩
  · exact .inr (.inl ⟨rfl, rfl⟩)
  · exact .inr (.inr ⟨[107, 105, 110, 100], [[120]], by decide, by decide, ⟨by decide, by decide, by decide⟩, .inr rfl, rfl⟩)
  · exact .inr (.inr ⟨[107, 105, 110, 100], [[121]], by decide, by decide, ⟨by decide, by decide, by decide⟩, .inr rfl, rfl⟩)
theorem DueV.t {d e} (h : DueV d e) : dueOk d d := by
  cases h
  · exact .inl ⟨rfl, rfl⟩
  · exact .inr (.inl ⟨rfl, rfl⟩)
  · exact .inr (.inr ⟨[107, 105, 110, 100], [[120]], by decide, by decide, ⟨by decide, by decide, by decide⟩, .inl rfl, rfl⟩)
  · exact .inr (.inr ⟨[107, 105, 110, 100], [[121]], by decide, by decide, ⟨by decide, by decide, by decide⟩, .inl rfl, rfl⟩)
theorem lists_o {ws : List (List Sg)} {Q : Val × List Val → Prop} (hl : ws.length ≤ 3) (h : Q (.lst (ws.map fun w => .lst (w.map .str)), [])) : Sat (m_law_lists_o [wT ws]) Q := by
  simp [gAll, outsOf, fillA, lentP, lentS, setAll, nodupB, borOk, setF, isC, byT, enL, rngL, sat_ok, sat_bind, sat_noX, sat_sSeq, sat_sIf, sat_runF, sat_sFor, sat_sSet, sat_sEx, sat_sRet, thn_nx, thn_rt, thn_bk, thn_ct, br_mk, ret_nx, ret_rt, forK_mk, setK_mk, exK_mk, rtK_mk, m_law_lists_o, b_law_lists_o, wT]
  refine sat_lc (fun v => match v with
    | .tup xs => .lst xs
    | v => v) _ (by rfl) (by simp; omega) ?_ ?_
  · intro x hx
    obtain ⟨w, _, rfl⟩ := List.mem_map.mp hx
    simp [gAll, outsOf, fillA, lentP, lentS, setAll, nodupB, borOk, setF, isC, byT, enL, rngL, sat_ok, sat_bind, sat_noX, sat_sSeq, sat_sIf, sat_runF, sat_sFor, sat_sSet, sat_sEx, sat_sRet, thn_nx, thn_rt, thn_bk, thn_ct, br_mk, ret_nx, ret_rt, forK_mk, setK_mk, exK_mk, rtK_mk]
  · simp [gAll, outsOf, fillA, lentP, lentS, setAll, nodupB, borOk, setF, isC, byT, enL, rngL, sat_ok, sat_bind, sat_noX, sat_sSeq, sat_sIf, sat_runF, sat_sFor, sat_sSet, sat_sEx, sat_sRet, thn_nx, thn_rt, thn_bk, thn_ct, br_mk, ret_nx, ret_rt, forK_mk, setK_mk, exK_mk, rtK_mk]
    have e : ((fun v => match v with
      | .tup xs => .lst xs
      | v => v) ∘ fun w => Val.tup (List.map Val.str w)) = fun (w : List Sg) => Val.lst (w.map .str) := rfl
    exact h
theorem rows_t : ∀ ws : List (List Sg), RWs (ws.map fun w => .tup (w.map .str)) ws
  | [] => trivial
  | w :: ws => ⟨.inl rfl, rows_t ws⟩
theorem rows_l : ∀ ws : List (List Sg), RWs (ws.map fun w => .lst (w.map .str)) ws
  | [] => trivial
  | w :: ws => ⟨.inr rfl, rows_l ws⟩
theorem told_part_c {t : Sg} {ws : List (List Sg)} {m : Bool} {d : Val} {Q : Val × List Val → Prop} (h : Q (.lst [.str t, wT ws, .bl m, d], [])) : Sat (m_law_told_part [prt t ws m d]) Q := by
  simpa [gAll, outsOf, fillA, lentP, lentS, setAll, nodupB, borOk, setF, isC, byT, enL, rngL, sat_ok, sat_bind, sat_noX, sat_sSeq, sat_sIf, sat_runF, sat_sFor, sat_sSet, sat_sEx, sat_sRet, thn_nx, thn_rt, thn_bk, thn_ct, br_mk, ret_nx, ret_rt, forK_mk, setK_mk, exK_mk, rtK_mk, m_law_told_part, b_law_told_part, prt] using h
theorem eqv_lst4 {a b c d a' b' c' d' : Val} {k1 k2 k3 k4 : Bool} {n : Nat} (h1 : eqv n a a' = some k1) (h2 : eqv n b b' = some k2) (h3 : eqv n c c' = some k3) (h4 : eqv n d d' = some k4) : eqv (n + 1) (.lst [a, b, c, d]) (.lst [a', b', c', d']) = some (k1 && (k2 && (k3 && (k4 && true)))) := by
  unfold eqv
  simp [eqZ, h1, h2, h3, h4]
theorem thing_eq_c {c c' : Nat} {fs fs' : List Nat} {vs vs' : List Val} {r r' : Val} {k : Bool} {Q : Val × List Val → Prop} (h0 : c = 0 ∨ c = 1 ∨ c = 2 ∨ c = 3) (h0' : c' < 4) (h1 : getF 2 fs vs = some r) (h2 : getF 2 fs' vs' = some r') (he : eqv 20 r r' = some k) (h : Q (.bl k, [])) : Sat (m_Thing_eq [.ins c fs vs, .ins c' fs' vs']) Q := by
  rcases c' with _ | _ | _ | _ | c'
  all_goals first
    | omega
    | (simp [gAll, outsOf, fillA, lentP, lentS, setAll, nodupB, borOk, setF, isC, byT, enL, rngL, sat_ok, sat_bind, sat_noX, sat_sSeq, sat_sIf, sat_runF, sat_sFor, sat_sSet, sat_sEx, sat_sRet, thn_nx, thn_rt, thn_bk, thn_ct, br_mk, ret_nx, ret_rt, forK_mk, setK_mk, exK_mk, rtK_mk, m_Thing_eq, b_Thing_eq, h0, h1, h2, he]; exact h)
theorem thing_ne_c {fs : List Nat} {vs : List Val} {v : Val} {c : Nat} {Q : Val × List Val → Prop} (hv : (∃ s, v = .str s) ∨ ∃ xs, v = .lst xs) (h : Q (.bl false, [])) : Sat (m_Thing_eq [.ins c fs vs, v]) Q := by
  rcases hv with ⟨s, rfl⟩ | ⟨xs, rfl⟩ <;>
  · simp [gAll, outsOf, fillA, lentP, lentS, setAll, nodupB, borOk, setF, isC, byT, enL, rngL, sat_ok, sat_bind, sat_noX, sat_sSeq, sat_sIf, sat_runF, sat_sFor, sat_sSet, sat_sEx, sat_sRet, thn_nx, thn_rt, thn_bk, thn_ct, br_mk, ret_nx, ret_rt, forK_mk, setK_mk, exK_mk, rtK_mk, m_Thing_eq, b_Thing_eq]
    exact h
/-- a thing, and its record -/
def IsT (x r : Val) : Prop := ∃ c fs vs, x = .ins c fs vs ∧ (c = 1 ∨ c = 2 ∨ c = 3) ∧ getF 2 fs vs = some r
theorem isT_prt {t ws m d} : IsT (prt t ws m d) (.tup [.str [112, 97, 114, 116], .str t, wT ws, .bl m, d]) := ⟨1, _, _, rfl, .inl rfl, rfl⟩
theorem isT_fst {t hs r ws} : IsT (fst t hs r ws) (.tup [.str [102, 97, 115, 116, 101, 110, 105, 110, 103], .str t, wT ws, .tup (hs.map .str), .int r]) := ⟨2, _, _, rfl, .inr (.inl rfl), rfl⟩
theorem isT_tol {t ws} : IsT (tol t ws) (.tup [.str [116, 111, 111, 108], .str t, wT ws]) := ⟨3, _, _, rfl, .inr (.inr rfl), rfl⟩
theorem eqT {x y r r' : Val} {k : Bool} (hx : IsT x r) (hy : IsT y r') (he : eqv 20 r r' = some k) : m_Thing_eq [x, y] = .ok (.bl k, []) := by
  obtain ⟨c, fs, vs, rfl, hc, h1⟩ := hx
  obtain ⟨c', fs', vs', rfl, hc', h1'⟩ := hy
  obtain ⟨_, e, rfl⟩ := thing_eq_c (c := c) (c' := c') (Q := fun z => z = (.bl k, [])) (.inr hc) (by rcases hc' with rfl | rfl | rfl <;> decide) h1 h1' he rfl
  exact e
theorem eqT0 {x r v : Val} (hx : IsT x r) (hv : (∃ s, v = .str s) ∨ ∃ xs, v = .lst xs) : m_Thing_eq [x, v] = .ok (.bl false, []) := by
  obtain ⟨c, fs, vs, rfl, hc, h1⟩ := hx
  obtain ⟨_, e, rfl⟩ := thing_ne_c (c := c) (fs := fs) (vs := vs) (Q := fun z => z = (.bl false, [])) hv rfl
  exact e
theorem okE_prt {t ws m d y} : okE [1, 2, 3] (nfA 5 []) (prt t ws m d) y = nfA 5 [] 1 y := rfl
theorem okE_fst {t hs r ws y} : okE [1, 2, 3] (nfA 5 []) (fst t hs r ws) y = nfA 5 [] 2 y := rfl
theorem okE_tol {t ws y} : okE [1, 2, 3] (nfA 5 []) (tol t ws) y = nfA 5 [] 3 y := rfl
theorem nfA_prt {t ws m d c} : nfA 5 [] c (prt t ws m d) = true := rfl
theorem nfA_fst {t hs r ws c} : nfA 5 [] c (fst t hs r ws) = true := rfl
theorem nfA_tol {t ws c} : nfA 5 [] c (tol t ws) = true := rfl
theorem nfA_str {s c} : nfA 5 [] c (.str s) = true := rfl
theorem nfA_lst {s c} : nfA 5 [] c (.lst s) = true := rfl
theorem eqI_ok {a b : EM} {fr fr1 fr2 : Fr} {x y r : Val} {neg k : Bool} (ha : a fr = .ok (x, fr1)) (hb : b fr1 = .ok (y, fr2)) (hx : IsT x r) (hy : (∃ r, IsT y r) ∨ (∃ s, y = .str s) ∨ ∃ xs, y = .lst xs) (he : m_Thing_eq [x, y] = .ok (.bl k, [])) :
    eEqI [1, 2, 3] (nfA 5 []) neg m_Thing_eq a b fr = .ok (.bl (if neg = true then !k else k), fr2) := by
  have h1 : okE [1, 2, 3] (nfA 5 []) x y = true := by
    obtain ⟨c, fs, vs, rfl, hc, _⟩ := hx
    rcases hy with ⟨_, c', fs', vs', rfl, hc', _⟩ | ⟨s, rfl⟩ | ⟨xs, rfl⟩
    · rcases hc with rfl | rfl | rfl <;> rcases hc' with rfl | rfl | rfl <;> rfl
    · rcases hc with rfl | rfl | rfl <;> rfl
    · rcases hc with rfl | rfl | rfl <;> rfl
  simp [ha, hb, h1, he]
theorem eq_pp {t t' ws ws' m m' d d'} (h : (eqv 19 d d').isSome = true) : m_Thing_eq [prt t ws m d, prt t' ws' m' d'] = .ok (.bl (decide (t = t') && (decide (ws = ws') && (decide (m = m') && (eqv 19 d d').getD false))), []) := by
  obtain ⟨k, hk⟩ := Option.isSome_iff_exists.mp h
  refine eqT isT_prt isT_prt ?_
  rw [hk]
  by_cases h1 : t = t' <;> by_cases h2 : ws = ws' <;> by_cases h3 : m = m' <;> simp [eqv, eqZ, eqv_wT, hk, h1, h2, h3]
theorem eq_pp_ts {t t' ws ws' m m' d d'} : m_Thing_eq [prt t ws m (.tup d), prt t' ws' m' (.str d')] = .ok (.bl false, []) := by
  rw [eq_pp (by simp [eqv])]
  simp [eqv]
theorem eq_pp_st {t t' ws ws' m m' d d'} : m_Thing_eq [prt t ws m (.str d), prt t' ws' m' (.tup d')] = .ok (.bl false, []) := by
  rw [eq_pp (by simp [eqv])]
  simp [eqv]
theorem eq_pt {t t' ws ws' m d} : m_Thing_eq [prt t ws m d, tol t' ws'] = .ok (.bl false, []) := by
  refine eqT isT_prt isT_tol ?_
  by_cases h1 : t = t' <;> by_cases h2 : ws = ws' <;> simp [eqv, eqZ, eqv_wT, h1, h2]
theorem eq_tp {t t' ws ws' m d} : m_Thing_eq [tol t ws, prt t' ws' m d] = .ok (.bl false, []) := by
  refine eqT isT_tol isT_prt ?_
  by_cases h1 : t = t' <;> by_cases h2 : ws = ws' <;> simp [eqv, eqZ, eqv_wT, h1, h2]
theorem eq_tt {t t' ws ws'} : m_Thing_eq [tol t ws, tol t' ws'] = .ok (.bl (decide (t = t') && decide (ws = ws')), []) := by
  refine eqT isT_tol isT_tol ?_
  by_cases h1 : t = t' <;> by_cases h2 : ws = ws' <;> simp [eqv, eqZ, eqv_wT, h1, h2]
theorem eqv_some (n : Nat) (hs : List Sg) (m : Bool) : ∃ k, eqv (n + 1) (.bl m) (.tup (hs.map .str)) = some k ∧ eqv (n + 1) (.tup (hs.map .str)) (.bl m) = some k := ⟨false, rfl, rfl⟩
theorem eq_pf_s {t t' ws ws' m s hs r} : m_Thing_eq [prt t ws m (.str s), fst t' hs r ws'] = .ok (.bl false, []) := by
  refine eqT isT_prt isT_fst ?_
  simp [eqv, eqZ, eqv_wT]
theorem eq_pf_t {t t' ws ws' m s hs r} : m_Thing_eq [prt t ws m (.tup s), fst t' hs r ws'] = .ok (.bl false, []) := by
  refine eqT isT_prt isT_fst ?_
  simp [eqv, eqZ, eqv_wT]
theorem eq_fp_s {t t' ws ws' m s hs r} : m_Thing_eq [fst t hs r ws, prt t' ws' m (.str s)] = .ok (.bl false, []) := by
  refine eqT isT_fst isT_prt ?_
  simp [eqv, eqZ, eqv_wT]
theorem eq_fp_t {t t' ws ws' m s hs r} : m_Thing_eq [fst t hs r ws, prt t' ws' m (.tup s)] = .ok (.bl false, []) := by
  refine eqT isT_fst isT_prt ?_
  simp [eqv, eqZ, eqv_wT]
theorem eqv_tup5 {n : Nat} {a b c d e a' b' c' d' e' : Val} {k1 k2 k3 k4 k5 : Bool} (h1 : eqv n a a' = some k1) (h2 : eqv n b b' = some k2) (h3 : eqv n c c' = some k3) (h4 : eqv n d d' = some k4) (h5 : eqv n e e' = some k5) :
    eqv (n + 1) (.tup [a, b, c, d, e]) (.tup [a', b', c', d', e']) = some (k1 && (k2 && (k3 && (k4 && k5)))) := by
  unfold eqv
  simp [eqZ, h1, h2, h3, h4, h5]
theorem eq_ff {t t' ws ws' hs hs' r r'} : m_Thing_eq [fst t hs r ws, fst t' hs' r' ws'] = .ok (.bl (decide (t = t') && (decide (ws = ws') && (decide (hs = hs') && decide (r = r')))), []) := by
  have hi : eqv 19 (.int r) (.int r') = some (decide (r = r')) := by
    by_cases h : r = r' <;> simp [eqv, h]
  have := eqT (isT_fst (t := t) (hs := hs) (r := r) (ws := ws)) (isT_fst (t := t') (hs := hs') (r := r') (ws := ws')) (eqv_tup5 (n := 19) (eqv_str 18 _ _) (eqv_str 18 _ _) (eqv_wT (by decide) _ _) (eqv_strs (by decide) _ _) hi)
  rw [this]
  simp
theorem eq_ft {t t' ws ws' hs r} : m_Thing_eq [fst t hs r ws, tol t' ws'] = .ok (.bl false, []) := by
  refine eqT isT_fst isT_tol ?_
  by_cases h1 : t = t' <;> by_cases h2 : ws = ws' <;> simp [eqv, eqZ, eqv_wT, h1, h2]
theorem eq_ps {t ws m d s} : m_Thing_eq [prt t ws m d, .str s] = .ok (.bl false, []) := eqT0 isT_prt (.inl ⟨_, rfl⟩)
theorem eq_pl {t ws m d s} : m_Thing_eq [prt t ws m d, .lst s] = .ok (.bl false, []) := eqT0 isT_prt (.inr ⟨_, rfl⟩)
theorem eq_ts {t ws s} : m_Thing_eq [tol t ws, .str s] = .ok (.bl false, []) := eqT0 isT_tol (.inl ⟨_, rfl⟩)
theorem vAdd_wT {ws : List (List Sg)} {s : Sg} (h : ws.length ≤ 2) : vAdd (wT ws) (.tup [.tup [.str s]]) = some (wT (ws ++ [[s]])) := by
  have : (ws.map fun w => Val.tup (w.map .str)).length + 1 ≤ 16777216 := by rw [List.length_map]; omega
  unfold wT
  rw [x_vAdd_4]
  simp only [List.length_cons, List.length_nil, if_pos this]
  simp
theorem okWays_app {ws : List (List Sg)} (ho : OkWays ws) (h2 : ws.length ≤ 2) : OkWays (ws ++ [[[122, 122]]]) := by
  obtain ⟨a, b, c⟩ := ho
  refine ⟨by simp, by simp; omega, fun w hw => ?_⟩
  rcases List.mem_append.mp hw with q | q
  · exact c w q
  · have : w = [[122, 122]] := by simpa using q
    subst this
    exact ⟨by decide, by decide, by decide⟩
set_option maxHeartbeats 0 in
theorem parts_right_c {t : Sg} {ws : List (List Sg)} {m : Bool} {d d' : Val} {Q : Val × List Val → Prop} (ht : isWd t = true) (ht2 : isWd (t ++ [122]) = true) (ho : OkWays ws) (h2 : ws.length ≤ 2) (hd : DueV d d') (h : Q (.bl true, [])) : Sat (m_law_parts_right [.tup [.str t, wT ws, .bl m, d]]) Q := by
  have h3 : ws.length ≤ 3 := by omega
  have hw7 : ws.length < 16777216 := by omega
  have hd1 := hd.l
  have hd2 := hd.t
  have t8 := (isWd_ok ht).2.1
  have t9 : List.length t ≤ 16777215 := by omega
  have ho1 := okWays_app ho h2
  have hne : ws ++ [[[122, 122]]] ≠ ws := fun e => by
    have := congrArg List.length e
    simp at this
  have hne' : ws ≠ ws ++ [[[122, 122]]] := fun e => hne e.symm
  have tne : t ++ [122] ≠ t := fun e => by
    have := congrArg List.length e
    simp at this
  have tne' : t ≠ t ++ [122] := fun e => tne e.symm
  have o1 : OkWays [[]] := ⟨by decide, by decide, fun w hw => by
    have : w = [] := by simpa using hw
    subst this
    exact ⟨by decide, by decide, by decide⟩⟩
  simp [gAll, outsOf, fillA, lentP, lentS, setAll, nodupB, borOk, setF, isC, byT, enL, rngL, sat_ok, sat_bind, sat_noX, sat_sSeq, sat_sIf, sat_runF, sat_sFor, sat_sSet, sat_sEx, sat_sRet, thn_nx, thn_rt, thn_bk, thn_ct, br_mk, ret_nx, ret_rt, forK_mk, setK_mk, exK_mk, rtK_mk, m_law_parts_right, b_law_parts_right]
  refine lists_o h3 ?_
  cases hd
  all_goals
    simp [gAll, outsOf, fillA, lentP, lentS, setAll, nodupB, borOk, setF, isC, byT, enL, rngL, sat_ok, sat_bind, sat_noX, sat_sSeq, sat_sIf, sat_runF, sat_sFor, sat_sSet, sat_sEx, sat_sRet, thn_nx, thn_rt, thn_bk, thn_ct, br_mk, ret_nx, ret_rt, forK_mk, setK_mk, exK_mk, rtK_mk, atI, ixN]
    refine part_c ht (.inr rfl) (rows_l ws) ho hd1 ?_
    simp [gAll, outsOf, fillA, lentP, lentS, setAll, nodupB, borOk, setF, isC, byT, enL, rngL, sat_ok, sat_bind, sat_noX, sat_sSeq, sat_sIf, sat_runF, sat_sFor, sat_sSet, sat_sEx, sat_sRet, thn_nx, thn_rt, thn_bk, thn_ct, br_mk, ret_nx, ret_rt, forK_mk, setK_mk, exK_mk, rtK_mk, hw7]
    refine told_part_c ?_
    simp [gAll, outsOf, fillA, lentP, lentS, setAll, nodupB, borOk, setF, isC, byT, enL, rngL, sat_ok, sat_bind, sat_noX, sat_sSeq, sat_sIf, sat_runF, sat_sFor, sat_sSet, sat_sEx, sat_sRet, thn_nx, thn_rt, thn_bk, thn_ct, br_mk, ret_nx, ret_rt, forK_mk, setK_mk, exK_mk, rtK_mk, eqv, eqZ, eqv_wT]
    refine part_c ht (.inl rfl) (rows_t ws) ho hd2 ?_
    simp [gAll, outsOf, fillA, lentP, lentS, setAll, nodupB, borOk, setF, isC, byT, enL, rngL, sat_ok, sat_bind, sat_noX, sat_sSeq, sat_sIf, sat_runF, sat_sFor, sat_sSet, sat_sEx, sat_sRet, thn_nx, thn_rt, thn_bk, thn_ct, br_mk, ret_nx, ret_rt, forK_mk, setK_mk, exK_mk, rtK_mk, okE_prt, okE_fst, okE_tol, nfA_prt, nfA_fst, nfA_tol, nfA_str, nfA_lst, eq_pp, eqv, eqZ, t9]
    refine part_c ht2 (.inl rfl) (rows_t ws) ho hd2 ?_
    simp [gAll, outsOf, fillA, lentP, lentS, setAll, nodupB, borOk, setF, isC, byT, enL, rngL, sat_ok, sat_bind, sat_noX, sat_sSeq, sat_sIf, sat_runF, sat_sFor, sat_sSet, sat_sEx, sat_sRet, thn_nx, thn_rt, thn_bk, thn_ct, br_mk, ret_nx, ret_rt, forK_mk, setK_mk, exK_mk, rtK_mk, vAdd_wT h2]
    refine part_c ht (.inl rfl) (rows_t _) ho1 hd2 ?_
    simp [gAll, outsOf, fillA, lentP, lentS, setAll, nodupB, borOk, setF, isC, byT, enL, rngL, sat_ok, sat_bind, sat_noX, sat_sSeq, sat_sIf, sat_runF, sat_sFor, sat_sSet, sat_sEx, sat_sRet, thn_nx, thn_rt, thn_bk, thn_ct, br_mk, ret_nx, ret_rt, forK_mk, setK_mk, exK_mk, rtK_mk]
    refine part_c ht (.inl rfl) (rows_t _) ho hd2 ?_
    simp [gAll, outsOf, fillA, lentP, lentS, setAll, nodupB, borOk, setF, isC, byT, enL, rngL, sat_ok, sat_bind, sat_noX, sat_sSeq, sat_sIf, sat_runF, sat_sFor, sat_sSet, sat_sEx, sat_sRet, thn_nx, thn_rt, thn_bk, thn_ct, br_mk, ret_nx, ret_rt, forK_mk, setK_mk, exK_mk, rtK_mk]
    refine tool_c ht (.inl rfl) (rows_t _) ho ?_
    simp [gAll, outsOf, fillA, lentP, lentS, setAll, nodupB, borOk, setF, isC, byT, enL, rngL, sat_ok, sat_bind, sat_noX, sat_sSeq, sat_sIf, sat_runF, sat_sFor, sat_sSet, sat_sEx, sat_sRet, thn_nx, thn_rt, thn_bk, thn_ct, br_mk, ret_nx, ret_rt, forK_mk, setK_mk, exK_mk, rtK_mk]
    refine fast_c (hs := [[113]]) ht (.inr rfl) (by decide) ⟨by decide, by decide, by decide⟩ (by decide) (by decide) (.inl rfl) (rows_t _) ho ?_
    simp [gAll, outsOf, fillA, lentP, lentS, setAll, nodupB, borOk, setF, isC, byT, enL, rngL, sat_ok, sat_bind, sat_noX, sat_sSeq, sat_sIf, sat_runF, sat_sFor, sat_sSet, sat_sEx, sat_sRet, thn_nx, thn_rt, thn_bk, thn_ct, br_mk, ret_nx, ret_rt, forK_mk, setK_mk, exK_mk, rtK_mk, eqv]
    refine part_c ht (.inl rfl) (rows_t _) ho (by first | exact .inl ⟨rfl, rfl⟩ | exact .inr (.inl ⟨rfl, rfl⟩)) ?_
    simp [gAll, outsOf, fillA, lentP, lentS, setAll, nodupB, borOk, setF, isC, byT, enL, rngL, sat_ok, sat_bind, sat_noX, sat_sSeq, sat_sIf, sat_runF, sat_sFor, sat_sSet, sat_sEx, sat_sRet, thn_nx, thn_rt, thn_bk, thn_ct, br_mk, ret_nx, ret_rt, forK_mk, setK_mk, exK_mk, rtK_mk]
    refine sat_lcN _ (by rfl) ?_ ?_
    · intro x hx
      simp only [List.mem_cons, List.not_mem_nil, or_false] at hx
      rcases hx with rfl | rfl | rfl | rfl | rfl | rfl
      all_goals simp [gAll, outsOf, fillA, lentP, lentS, setAll, nodupB, borOk, setF, isC, byT, enL, rngL, sat_ok, sat_bind, sat_noX, sat_sSeq, sat_sIf, sat_runF, sat_sFor, sat_sSet, sat_sEx, sat_sRet, thn_nx, thn_rt, thn_bk, thn_ct, br_mk, ret_nx, ret_rt, forK_mk, setK_mk, exK_mk, rtK_mk, okE_prt, okE_fst, okE_tol, nfA_prt, nfA_fst, nfA_tol, nfA_str, nfA_lst, eq_pp, eq_pp_ts, eq_pp_st, eq_pt, eq_tp, eq_pf_s, eq_pf_t, eq_fp_s, eq_fp_t, eqv, eqZ, hne, hne', tne, tne']
    · simp [gAll, outsOf, fillA, lentP, lentS, setAll, nodupB, borOk, setF, isC, byT, enL, rngL, sat_ok, sat_bind, sat_noX, sat_sSeq, sat_sIf, sat_runF, sat_sFor, sat_sSet, sat_sEx, sat_sRet, thn_nx, thn_rt, thn_bk, thn_ct, br_mk, ret_nx, ret_rt, forK_mk, setK_mk, exK_mk, rtK_mk, okE_prt, okE_fst, okE_tol, nfA_prt, nfA_fst, nfA_tol, nfA_str, nfA_lst, eqv, eqZ, eq_ps, eq_pl]
      refine part_c (ws := [[]]) (m := false) (d := .str [97, 108, 119, 97, 121, 115]) (d' := .str [97, 108, 119, 97, 121, 115]) ht (.inl rfl) (rows_t [[]]) o1 (.inr (.inl ⟨rfl, rfl⟩)) ?_
      simp [gAll, outsOf, fillA, lentP, lentS, setAll, nodupB, borOk, setF, isC, byT, enL, rngL, sat_ok, sat_bind, sat_noX, sat_sSeq, sat_sIf, sat_runF, sat_sFor, sat_sSet, sat_sEx, sat_sRet, thn_nx, thn_rt, thn_bk, thn_ct, br_mk, ret_nx, ret_rt, forK_mk, setK_mk, exK_mk, rtK_mk]
      refine told_part_c ?_
      simp [gAll, outsOf, fillA, lentP, lentS, setAll, nodupB, borOk, setF, isC, byT, enL, rngL, sat_ok, sat_bind, sat_noX, sat_sSeq, sat_sIf, sat_runF, sat_sFor, sat_sSet, sat_sEx, sat_sRet, thn_nx, thn_rt, thn_bk, thn_ct, br_mk, ret_nx, ret_rt, forK_mk, setK_mk, exK_mk, rtK_mk, eqv, eqZ, wT]
      exact h
end K01

namespace K01
open SK
open PySem (seqIndex?)
open PySem.Spec (ltCps)
open L2 (atI ixN)
theorem told_fast_c {t : Sg} {hs : List Sg} {r : Int} {ws : List (List Sg)} {Q : Val × List Val → Prop} (h : Q (.lst [.str t, .tup (hs.map .str), .int r, wT ws], [])) : Sat (m_law_told_fastening [fst t hs r ws]) Q := by
  simpa [gAll, outsOf, fillA, lentP, lentS, setAll, nodupB, borOk, setF, isC, byT, enL, rngL, sat_ok, sat_bind, sat_noX, sat_sSeq, sat_sIf, sat_runF, sat_sFor, sat_sSet, sat_sEx, sat_sRet, thn_nx, thn_rt, thn_bk, thn_ct, br_mk, ret_nx, ret_rt, forK_mk, setK_mk, exK_mk, rtK_mk, m_law_told_fastening, b_law_told_fastening, fst] using h
theorem eqv_fast {t : Sg} {hs : List Sg} {r : Int} {ws : List (List Sg)} : eqv 20 (.lst [.str t, .tup (hs.map .str), .int r, wT ws]) (.lst [.str t, .tup (hs.map .str), .int r, wT ws]) = some true := by
  have hi : eqv 19 (.int r) (.int r) = some true := by simp [eqv]
  have hs' := eqv_str 18 t t
  have hh := eqv_strs (n := 19) (by decide) hs hs
  have hw := eqv_wT (n := 19) (by decide) ws ws
  rw [eqv_lst4 hs' hh hi hw]
  simp
set_option maxHeartbeats 4000000 in
theorem fast_right_c {t : Sg} {hs : List Sg} {r : Int} {ws : List (List Sg)} {Q : Val × List Val → Prop} (ht : isWd t = true) (ht2 : isWd (t ++ [122]) = true) (h1 : 1 ≤ hs.length) (h2 : hs.length ≤ 2) (hok : OkWay (hs ++ [[122, 122]])) (r1 : 1 ≤ r) (r2 : r ≤ 2) (ho : OkWays ws) (hz : ws ≠ [[[122, 122]]]) (h : Q (.bl true, [])) :
    Sat (m_law_fastenings_right [.tup [.str t, .tup (hs.map .str), .int r, wT ws]]) Q := by
  have l3 : ws.length ≤ 3 := ho.2.1
  have hok0 : OkWay hs := by
    obtain ⟨a, b, c⟩ := hok
    exact ⟨by omega, (List.nodup_append.mp b).1, fun x hx => c x (List.mem_append_left _ hx)⟩
  have hl7 : hs.length + 1 ≤ 16777216 := by omega
  have t8 := (isWd_ok ht).2.1
  have t9 : List.length t ≤ 16777215 := by omega
  have tne' : t ≠ t ++ [122] := fun e => by
    have := congrArg List.length e
    simp at this
  have hne' : hs ≠ hs ++ [[122, 122]] := fun e => by
    have := congrArg List.length e
    simp at this
  have ozz : OkWays [[[122, 122]]] := ⟨by decide, by decide, fun w hw => by
    have : w = [[122, 122]] := by simpa using hw
    subst this
    exact ⟨by decide, by decide, by decide⟩⟩
  have o1 : OkWays [[]] := ⟨by decide, by decide, fun w hw => by
    have : w = [] := by simpa using hw
    subst this
    exact ⟨by decide, by decide, by decide⟩⟩
  have r3 : r ≠ 3 := by omega
  simp [gAll, outsOf, fillA, lentP, lentS, setAll, nodupB, borOk, setF, isC, byT, enL, rngL, sat_ok, sat_bind, sat_noX, sat_sSeq, sat_sIf, sat_runF, sat_sFor, sat_sSet, sat_sEx, sat_sRet, thn_nx, thn_rt, thn_bk, thn_ct, br_mk, ret_nx, ret_rt, forK_mk, setK_mk, exK_mk, rtK_mk, m_law_fastenings_right, b_law_fastenings_right]
  refine lists_o l3 ?_
  simp [gAll, outsOf, fillA, lentP, lentS, setAll, nodupB, borOk, setF, isC, byT, enL, rngL, sat_ok, sat_bind, sat_noX, sat_sSeq, sat_sIf, sat_runF, sat_sFor, sat_sSet, sat_sEx, sat_sRet, thn_nx, thn_rt, thn_bk, thn_ct, br_mk, ret_nx, ret_rt, forK_mk, setK_mk, exK_mk, rtK_mk]
  refine fast_c ht (.inr rfl) h1 hok0 r1 (by omega) (.inr rfl) (rows_l ws) ho ?_
  simp [gAll, outsOf, fillA, lentP, lentS, setAll, nodupB, borOk, setF, isC, byT, enL, rngL, sat_ok, sat_bind, sat_noX, sat_sSeq, sat_sIf, sat_runF, sat_sFor, sat_sSet, sat_sEx, sat_sRet, thn_nx, thn_rt, thn_bk, thn_ct, br_mk, ret_nx, ret_rt, forK_mk, setK_mk, exK_mk, rtK_mk]
  refine told_fast_c ?_
  simp [gAll, outsOf, fillA, lentP, lentS, setAll, nodupB, borOk, setF, isC, byT, enL, rngL, sat_ok, sat_bind, sat_noX, sat_sSeq, sat_sIf, sat_runF, sat_sFor, sat_sSet, sat_sEx, sat_sRet, thn_nx, thn_rt, thn_bk, thn_ct, br_mk, ret_nx, ret_rt, forK_mk, setK_mk, exK_mk, rtK_mk, eqv_fast]
  refine fast_c ht (.inl rfl) h1 hok0 r1 (by omega) (.inl rfl) (rows_t ws) ho ?_
  simp [gAll, outsOf, fillA, lentP, lentS, setAll, nodupB, borOk, setF, isC, byT, enL, rngL, sat_ok, sat_bind, sat_noX, sat_sSeq, sat_sIf, sat_runF, sat_sFor, sat_sSet, sat_sEx, sat_sRet, thn_nx, thn_rt, thn_bk, thn_ct, br_mk, ret_nx, ret_rt, forK_mk, setK_mk, exK_mk, rtK_mk, okE_prt, okE_fst, okE_tol, nfA_prt, nfA_fst, nfA_tol, nfA_str, nfA_lst, eq_ff, t9]
  refine fast_c ht2 (.inl rfl) h1 hok0 r1 (by omega) (.inl rfl) (rows_t ws) ho ?_
  simp [gAll, outsOf, fillA, lentP, lentS, setAll, nodupB, borOk, setF, isC, byT, enL, rngL, sat_ok, sat_bind, sat_noX, sat_sSeq, sat_sIf, sat_runF, sat_sFor, sat_sSet, sat_sEx, sat_sRet, thn_nx, thn_rt, thn_bk, thn_ct, br_mk, ret_nx, ret_rt, forK_mk, setK_mk, exK_mk, rtK_mk, hl7]
  have e1 : Val.tup (List.map Val.str hs ++ [Val.str [122, 122]]) = .tup ((hs ++ [[122, 122]]).map .str) := by simp
  rw [e1]
  refine fast_c (hs := hs ++ [[122, 122]]) ht (.inl rfl) (by simp) hok r1 (by omega) (.inl rfl) (rows_t ws) ho ?_
  simp [gAll, outsOf, fillA, lentP, lentS, setAll, nodupB, borOk, setF, isC, byT, enL, rngL, sat_ok, sat_bind, sat_noX, sat_sSeq, sat_sIf, sat_runF, sat_sFor, sat_sSet, sat_sEx, sat_sRet, thn_nx, thn_rt, thn_bk, thn_ct, br_mk, ret_nx, ret_rt, forK_mk, setK_mk, exK_mk, rtK_mk]
  refine fast_c ht (.inl rfl) h1 hok0 (by decide) (by decide) (.inl rfl) (rows_t ws) ho ?_
  simp [gAll, outsOf, fillA, lentP, lentS, setAll, nodupB, borOk, setF, isC, byT, enL, rngL, sat_ok, sat_bind, sat_noX, sat_sSeq, sat_sIf, sat_runF, sat_sFor, sat_sSet, sat_sEx, sat_sRet, thn_nx, thn_rt, thn_bk, thn_ct, br_mk, ret_nx, ret_rt, forK_mk, setK_mk, exK_mk, rtK_mk]
  refine fast_c (ws := [[[122, 122]]]) ht (.inl rfl) h1 hok0 r1 (by omega) (.inl rfl) (rows_t [[[122, 122]]]) ozz ?_
  simp [gAll, outsOf, fillA, lentP, lentS, setAll, nodupB, borOk, setF, isC, byT, enL, rngL, sat_ok, sat_bind, sat_noX, sat_sSeq, sat_sIf, sat_runF, sat_sFor, sat_sSet, sat_sEx, sat_sRet, thn_nx, thn_rt, thn_bk, thn_ct, br_mk, ret_nx, ret_rt, forK_mk, setK_mk, exK_mk, rtK_mk]
  refine tool_c ht (.inl rfl) (rows_t _) ho ?_
  simp [gAll, outsOf, fillA, lentP, lentS, setAll, nodupB, borOk, setF, isC, byT, enL, rngL, sat_ok, sat_bind, sat_noX, sat_sSeq, sat_sIf, sat_runF, sat_sFor, sat_sSet, sat_sEx, sat_sRet, thn_nx, thn_rt, thn_bk, thn_ct, br_mk, ret_nx, ret_rt, forK_mk, setK_mk, exK_mk, rtK_mk]
  refine sat_lcN _ (by rfl) ?_ ?_
  · intro x hx
    simp only [List.mem_cons, List.not_mem_nil, or_false] at hx
    rcases hx with rfl | rfl | rfl | rfl | rfl
    all_goals simp [gAll, outsOf, fillA, lentP, lentS, setAll, nodupB, borOk, setF, isC, byT, enL, rngL, sat_ok, sat_bind, sat_noX, sat_sSeq, sat_sIf, sat_runF, sat_sFor, sat_sSet, sat_sEx, sat_sRet, thn_nx, thn_rt, thn_bk, thn_ct, br_mk, ret_nx, ret_rt, forK_mk, setK_mk, exK_mk, rtK_mk, okE_prt, okE_fst, okE_tol, nfA_prt, nfA_fst, nfA_tol, nfA_str, nfA_lst, eq_ff, eq_ft, hne', tne', hz, r3]
  · simp [gAll, outsOf, fillA, lentP, lentS, setAll, nodupB, borOk, setF, isC, byT, enL, rngL, sat_ok, sat_bind, sat_noX, sat_sSeq, sat_sIf, sat_runF, sat_sFor, sat_sSet, sat_sEx, sat_sRet, thn_nx, thn_rt, thn_bk, thn_ct, br_mk, ret_nx, ret_rt, forK_mk, setK_mk, exK_mk, rtK_mk, okE_prt, okE_fst, okE_tol, nfA_prt, nfA_fst, nfA_tol, nfA_str, nfA_lst, eqv, eqZ]
    refine fast_c (ws := [[]]) ht (.inl rfl) h1 hok0 (by decide) (by decide) (.inl rfl) (rows_t [[]]) o1 ?_
    simp [gAll, outsOf, fillA, lentP, lentS, setAll, nodupB, borOk, setF, isC, byT, enL, rngL, sat_ok, sat_bind, sat_noX, sat_sSeq, sat_sIf, sat_runF, sat_sFor, sat_sSet, sat_sEx, sat_sRet, thn_nx, thn_rt, thn_bk, thn_ct, br_mk, ret_nx, ret_rt, forK_mk, setK_mk, exK_mk, rtK_mk]
    refine told_fast_c ?_
    have e2 : Val.tup [Val.tup []] = wT [[]] := rfl
    rw [e2]
    simp [gAll, outsOf, fillA, lentP, lentS, setAll, nodupB, borOk, setF, isC, byT, enL, rngL, sat_ok, sat_bind, sat_noX, sat_sSeq, sat_sIf, sat_runF, sat_sFor, sat_sSet, sat_sEx, sat_sRet, thn_nx, thn_rt, thn_bk, thn_ct, br_mk, ret_nx, ret_rt, forK_mk, setK_mk, exK_mk, rtK_mk, eqv_fast]
    exact h
end K01

namespace K01
open SK
open PySem (seqIndex?)
open PySem.Spec (ltCps)
open L2 (atI ixN)
def DeedV (x : Val) : Prop := ∃ w n, x = .tup [.str w, .str n]
/-- the first item a name -/
def NmV (x : Val) : Prop := ∃ n r, x = .tup (.str n :: r)
theorem nmV_ix {x : Val} (h : NmV x) : ∃ n, vIx x (.int 0) = some (.str n) := by
  obtain ⟨n, r, rfl⟩ := h
  refine ⟨n, ?_⟩
  have : (0 : Int) < (r.length : Int) + 1 := by omega
  simp [atI, ixN, this]
set_option maxHeartbeats 2000000 in
theorem deeds_c {ps fs ts : List Val} {Q : Val × List Val → Prop} (hp : ∀ x ∈ ps, NmV x) (hf : ∀ x ∈ fs, NmV x) (ht : ∀ x ∈ ts, NmV x) (p0 : ps ≠ []) (l1 : ps.length ≤ 100) (l2 : fs.length ≤ 100) (l3 : ts.length ≤ 100)
    (h : ∀ ds : List Val, (∀ x ∈ ds, DeedV x) → ds.length ≤ 1000 → (∃ n, .tup [.str [112, 117, 116], .str n] ∈ ds) → Q (.lst ds, [])) (ks vs : List Val)
    (g1 : dGet (.str [112, 97, 114, 116, 115]) ks vs = some (.lst ps)) (g2 : dGet (.str [102, 97, 115, 116, 101, 110, 105, 110, 103, 115]) ks vs = some (.lst fs)) (g3 : dGet (.str [116, 111, 111, 108, 115]) ks vs = some (.lst ts)) :
    Sat (m_law_deeds [.dic ks vs]) Q := by
  simp [gAll, outsOf, fillA, lentP, lentS, setAll, nodupB, borOk, setF, isC, byT, enL, rngL, sat_ok, sat_bind, sat_noX, sat_sSeq, sat_sIf, sat_runF, sat_sFor, sat_sSet, sat_sEx, sat_sRet, thn_nx, thn_rt, thn_bk, thn_ct, br_mk, ret_nx, ret_rt, forK_mk, setK_mk, exK_mk, rtK_mk, m_law_deeds, b_law_deeds, isK, g1]
  refine forL_sat (I := fun l fr => (∀ x ∈ l, NmV x) ∧ ∃ (ds : List Val) (a : Option Val), fr = [some (.dic ks vs), some (.lst ds), a, none, none] ∧ (∀ x ∈ ds, DeedV x) ∧ ds.length + 3 * l.length ≤ 300 ∧ (l ≠ [] ∨ ∃ n, .tup [.str [112, 117, 116], .str n] ∈ ds)) ?_ ?_ _ _ ⟨hp, [], none, rfl, by simp, by simp; omega, .inl p0⟩
  · rintro x l _ ⟨hl, ds, a, rfl, hd, hlen, _⟩
    obtain ⟨n, hn⟩ := nmV_ix (hl x (List.mem_cons_self ..))
    have hz : ds.length + 3 ≤ 16777216 := by simp at hlen; omega
    simp [gAll, outsOf, fillA, lentP, lentS, setAll, nodupB, borOk, setF, isC, byT, enL, rngL, sat_ok, sat_bind, sat_noX, sat_sSeq, sat_sIf, sat_runF, sat_sFor, sat_sSet, sat_sEx, sat_sRet, thn_nx, thn_rt, thn_bk, thn_ct, br_mk, ret_nx, ret_rt, forK_mk, setK_mk, exK_mk, rtK_mk, hn, hz]
    refine ⟨fun y hy => hl y (List.mem_cons_of_mem _ hy), ?_, by simp at hlen; omega⟩
    rintro y (hy | rfl | rfl | rfl)
    · exact hd y hy
    all_goals exact ⟨_, _, rfl⟩
  · rintro _ ⟨_, ds, a, rfl, hd, hlen, hput⟩
    have hput : ∃ n, .tup [.str [112, 117, 116], .str n] ∈ ds := by rcases hput with h | h; exact absurd rfl h; exact h
    simp [gAll, outsOf, fillA, lentP, lentS, setAll, nodupB, borOk, setF, isC, byT, enL, rngL, sat_ok, sat_bind, sat_noX, sat_sSeq, sat_sIf, sat_runF, sat_sFor, sat_sSet, sat_sEx, sat_sRet, thn_nx, thn_rt, thn_bk, thn_ct, br_mk, ret_nx, ret_rt, forK_mk, setK_mk, exK_mk, rtK_mk, isK, g2]
    refine forL_sat (I := fun l fr => (∀ x ∈ l, NmV x) ∧ ∃ (ds : List Val) (b : Option Val), fr = [some (.dic ks vs), some (.lst ds), a, b, none] ∧ (∀ x ∈ ds, DeedV x) ∧ ds.length + 3 * l.length ≤ 600 ∧ (∃ n, .tup [.str [112, 117, 116], .str n] ∈ ds)) ?_ ?_ _ _ ⟨hf, ds, none, rfl, hd, by simp at hlen; omega, hput⟩
    · rintro x l _ ⟨hl, ds, b, rfl, hd, hlen, n0, hput⟩
      obtain ⟨n, hn⟩ := nmV_ix (hl x (List.mem_cons_self ..))
      have hz : ds.length + 2 ≤ 16777216 := by simp at hlen; omega
      simp [gAll, outsOf, fillA, lentP, lentS, setAll, nodupB, borOk, setF, isC, byT, enL, rngL, sat_ok, sat_bind, sat_noX, sat_sSeq, sat_sIf, sat_runF, sat_sFor, sat_sSet, sat_sEx, sat_sRet, thn_nx, thn_rt, thn_bk, thn_ct, br_mk, ret_nx, ret_rt, forK_mk, setK_mk, exK_mk, rtK_mk, hn, hz]
      refine ⟨fun y hy => hl y (List.mem_cons_of_mem _ hy), ?_, by simp at hlen; omega, ⟨n0, hput⟩⟩
      rintro y (hy | rfl | rfl)
      · exact hd y hy
      all_goals exact ⟨_, _, rfl⟩
    · rintro _ ⟨_, ds, b, rfl, hd, hlen, hput⟩
      simp [gAll, outsOf, fillA, lentP, lentS, setAll, nodupB, borOk, setF, isC, byT, enL, rngL, sat_ok, sat_bind, sat_noX, sat_sSeq, sat_sIf, sat_runF, sat_sFor, sat_sSet, sat_sEx, sat_sRet, thn_nx, thn_rt, thn_bk, thn_ct, br_mk, ret_nx, ret_rt, forK_mk, setK_mk, exK_mk, rtK_mk, isK, g3]
      refine forL_sat (I := fun l fr => (∀ x ∈ l, NmV x) ∧ ∃ (ds : List Val) (c : Option Val), fr = [some (.dic ks vs), some (.lst ds), a, b, c] ∧ (∀ x ∈ ds, DeedV x) ∧ ds.length + 3 * l.length ≤ 900 ∧ (∃ n, .tup [.str [112, 117, 116], .str n] ∈ ds)) ?_ ?_ _ _ ⟨ht, ds, none, rfl, hd, by simp at hlen; omega, hput⟩
      · rintro x l _ ⟨hl, ds, c, rfl, hd, hlen, n0, hput⟩
        obtain ⟨n, hn⟩ := nmV_ix (hl x (List.mem_cons_self ..))
        have hz : ds.length + 2 ≤ 16777216 := by simp at hlen; omega
        simp [gAll, outsOf, fillA, lentP, lentS, setAll, nodupB, borOk, setF, isC, byT, enL, rngL, sat_ok, sat_bind, sat_noX, sat_sSeq, sat_sIf, sat_runF, sat_sFor, sat_sSet, sat_sEx, sat_sRet, thn_nx, thn_rt, thn_bk, thn_ct, br_mk, ret_nx, ret_rt, forK_mk, setK_mk, exK_mk, rtK_mk, hn, hz]
        refine ⟨fun y hy => hl y (List.mem_cons_of_mem _ hy), ?_, by simp at hlen; omega, ⟨n0, hput⟩⟩
        rintro y (hy | rfl | rfl)
        · exact hd y hy
        all_goals exact ⟨_, _, rfl⟩
      · rintro _ ⟨_, ds, c, rfl, hd, hlen, hput⟩
        simp [gAll, outsOf, fillA, lentP, lentS, setAll, nodupB, borOk, setF, isC, byT, enL, rngL, sat_ok, sat_bind, sat_noX, sat_sSeq, sat_sIf, sat_runF, sat_sFor, sat_sSet, sat_sEx, sat_sRet, thn_nx, thn_rt, thn_bk, thn_ct, br_mk, ret_nx, ret_rt, forK_mk, setK_mk, exK_mk, rtK_mk]
        exact h ds hd (by simp at hlen; omega) hput
end K01

namespace K01
open SK
open PySem (seqIndex?)
open PySem.Spec (ltCps)
open L2 (atI ixN)
def NamesOk (ns : List Sg) : Prop := 1 ≤ ns.length ∧ ns.length ≤ 4 ∧ ns.Nodup ∧ ∀ n ∈ ns, isWd n = true ∧ isWd (n ++ [122]) = true ∧ n ≠ [122, 122]
theorem namesA : NamesOk [[99, 97, 112], [108, 105, 100], [112, 105, 110], [114, 111, 100]] := ⟨by decide, by decide, by decide, by decide⟩
theorem namesB : NamesOk [[100], [99], [98], [97]] := ⟨by decide, by decide, by decide, by decide⟩
theorem NamesOk.take {ns : List Sg} (h : NamesOk ns) {k : Nat} (hk : 1 ≤ k) : NamesOk (ns.take k) := by
  obtain ⟨a, b, c, d⟩ := h
  exact ⟨by rw [List.length_take]; omega, by rw [List.length_take]; omega, (List.take_sublist _ _).nodup c, fun n hn => d n (List.mem_of_mem_take hn)⟩
def WaysV (ws : List (List Sg)) : Prop := OkWays ws ∧ ws.length ≤ 2 ∧ ws ≠ [[[122, 122]]]
def PartV (x : Val) : Prop := ∃ t ws m d d', x = .tup [.str t, wT ws, .bl m, d] ∧ isWd t = true ∧ isWd (t ++ [122]) = true ∧ WaysV ws ∧ DueV d d'
def FastV (x : Val) : Prop := ∃ t hs r ws, x = .tup [.str t, .tup (hs.map .str), .int r, wT ws] ∧ isWd t = true ∧ isWd (t ++ [122]) = true ∧ 1 ≤ hs.length ∧ hs.length ≤ 2 ∧ OkWay (hs ++ [[122, 122]]) ∧ 1 ≤ r ∧ r ≤ 2 ∧ WaysV ws
def ToolV (x : Val) : Prop := ∃ t ws, x = .tup [.str t, wT ws] ∧ isWd t = true ∧ WaysV ws
theorem waysV_of {ns ls : List Sg} {ws : List (List Sg)} (hs : ∀ x ∈ ls, x ∈ ns) (hn : NamesOk ns) (h1 : ws.length = 1 ∨ ws.length = 2) (h : ∀ w ∈ ws, w.length ≤ 2 ∧ w.Nodup ∧ ∀ x ∈ w, x ∈ ls) : WaysV ws := by
  refine ⟨⟨by omega, by omega, fun w hw => ?_⟩, by omega, ?_⟩
  · obtain ⟨a, b, c⟩ := h w hw
    exact ⟨by omega, b, fun x hx => (hn.2.2.2 x (hs x (c x hx))).1⟩
  · rintro rfl
    obtain ⟨_, _, c⟩ := h [[122, 122]] (List.mem_cons_self ..)
    exact (hn.2.2.2 _ (hs _ (c [122, 122] (List.mem_cons_self ..)))).2.2 rfl
theorem drop_mid {α : Type} : ∀ (a : List α) (x : α) (r : List α), (a ++ x :: r).drop (a.length + 1) = r
  | [], _, _ => rfl
  | _ :: a, x, r => drop_mid a x r
set_option maxHeartbeats 4000000 in
theorem box_c {p : Val} {Q : Val × List Val → Prop} (hp : PoolV p)
    (h : ∀ p' ps fs ts lo ks, PoolV p' → ps ≠ [] → (∀ x ∈ ps, PartV x) → (∀ x ∈ fs, FastV x) → (∀ x ∈ ts, ToolV x) →
      Q (.dic [.str [112, 97, 114, 116, 115], .str [102, 97, 115, 116, 101, 110, 105, 110, 103, 115], .str [116, 111, 111, 108, 115], .str [108, 111, 111, 115, 101, 110, 105, 110, 103, 115], .str [118, 97, 114, 105, 97, 110, 116, 115]] [.lst ps, .lst fs, .lst ts, lo, ks], [p'])) :
    Sat (m_law_box [p, .int 4, .int 2, .int 1, .int 1]) Q := by
  simp [gAll, outsOf, fillA, lentP, lentS, setAll, nodupB, borOk, setF, isC, byT, enL, rngL, sat_ok, sat_bind, sat_noX, sat_sSeq, sat_sIf, sat_runF, sat_sFor, sat_sSet, sat_sEx, sat_sRet, thn_nx, thn_rt, thn_bk, thn_ct, br_mk, ret_nx, ret_rt, forK_mk, setK_mk, exK_mk, rtK_mk, m_law_box, b_law_box, hp.nfz]
  refine one_c hp (by simp) (by simp) fun x p1 hp1 hx => ?_
  obtain ⟨na, rfl, hna⟩ : ∃ na : List Sg, x = .lst (na.map .str) ∧ NamesOk na := by
    simp at hx
    rcases hx with rfl | rfl
    · exact ⟨_, rfl, namesA⟩
    · exact ⟨_, rfl, namesB⟩
  simp [gAll, outsOf, fillA, lentP, lentS, setAll, nodupB, borOk, setF, isC, byT, enL, rngL, sat_ok, sat_bind, sat_noX, sat_sSeq, sat_sIf, sat_runF, sat_sFor, sat_sSet, sat_sEx, sat_sRet, thn_nx, thn_rt, thn_bk, thn_ct, br_mk, ret_nx, ret_rt, forK_mk, setK_mk, exK_mk, rtK_mk, hp1.nfz]
  refine take_c hp1 (by decide) (by decide) fun r p2 hp2 r0 r1 => ?_
  simp [gAll, outsOf, fillA, lentP, lentS, setAll, nodupB, borOk, setF, isC, byT, enL, rngL, sat_ok, sat_bind, sat_noX, sat_sSeq, sat_sIf, sat_runF, sat_sFor, sat_sSet, sat_sEx, sat_sRet, thn_nx, thn_rt, thn_bk, thn_ct, br_mk, ret_nx, ret_rt, forK_mk, setK_mk, exK_mk, rtK_mk, hp2.nfz]
  rw [cutL_take _ _ (by omega), ← List.map_take]
  have hns := hna.take (k := (2 + r).toNat) (by omega)
  generalize na.take (2 + r).toNat = ns at hns
  refine take_c hp2 (by decide) (by decide) fun r p3 hp3 r0 r1 => ?_
  simp [gAll, outsOf, fillA, lentP, lentS, setAll, nodupB, borOk, setF, isC, byT, enL, rngL, sat_ok, sat_bind, sat_noX, sat_sSeq, sat_sIf, sat_runF, sat_sFor, sat_sSet, sat_sEx, sat_sRet, thn_nx, thn_rt, thn_bk, thn_ct, br_mk, ret_nx, ret_rt, forK_mk, setK_mk, exK_mk, rtK_mk]
  rw [cutL_take _ _ (by omega)]
  obtain ⟨ks, hks, hk2⟩ : ∃ ks, List.take r.toNat [Val.tup [Val.str [107, 105, 110, 100], Val.tup [Val.str [120], Val.str [121]]]] = ks ∧ (ks = [] ∨ ks = [Val.tup [Val.str [107, 105, 110, 100], Val.tup [Val.str [120], Val.str [121]]]]) := by
    refine ⟨_, rfl, ?_⟩
    rcases hr : r.toNat with _ | n
    · exact .inl rfl
    · exact .inr (by simp)
  rw [hks]
  obtain ⟨n1, n4, nn, nw⟩ := hns
  have hns : NamesOk ns := ⟨n1, n4, nn, nw⟩
  refine forL_sat (I := fun l fr => ∃ (p' : Val) (ps : List Val) (k : Nat) (rest pre : List Sg) (a8 a9 a10 a11 : Option Val), l = enL k (rest.map .str) ∧ ns = pre ++ rest ∧ pre.length = k ∧
    fr = [some p', some (.int 4), some (.int 2), some (.int 1), some (.int 1), some (.lst (ns.map .str)), some (.lst ks), some (.lst ps), a8, a9, a10, a11, none, none, none, none, none, none, none] ∧ PoolV p' ∧ (∀ x ∈ ps, PartV x) ∧ ps.length = k) ?_ ?_ _ _
    ⟨p3, [], 0, ns, [], none, none, none, none, rfl, rfl, rfl, rfl, hp3, by simp, rfl⟩
  · rintro x l _ ⟨p', ps, k, rest, pre, a8, a9, a10, a11, hl, hpre, hk, rfl, hp', hps, hpl⟩
    cases rest with
    | nil => cases hl
    | cons n rest =>
      obtain ⟨rfl, rfl⟩ := List.cons.inj hl
      have hnm : n ∈ ns := by rw [hpre]; simp
      have hdrop : List.drop (k + 1) (ns.map Val.str) = rest.map .str := by
        rw [hpre, ← hk, List.map_append, List.map_cons, ← List.length_map (f := Val.str)]
        exact drop_mid _ _ _
      have hsub : ∀ x ∈ rest, x ∈ ns := fun x hx => by rw [hpre]; simp [hx]
      have hrl : rest.length ≤ 4 := by have := congrArg List.length hpre; simp at this; omega
      have hpsl : ps.length < 16777216 := by have := congrArg List.length hpre; simp at this; omega
      simp [gAll, outsOf, fillA, lentP, lentS, setAll, nodupB, borOk, setF, isC, byT, enL, rngL, sat_ok, sat_bind, sat_noX, sat_sSeq, sat_sIf, sat_runF, sat_sFor, sat_sSet, sat_sEx, sat_sRet, thn_nx, thn_rt, thn_bk, thn_ct, br_mk, ret_nx, ret_rt, forK_mk, setK_mk, exK_mk, rtK_mk, hp'.nfz]
      have ek : ((k : Int) + 1) = ((k + 1 : Nat) : Int) := by omega
      rw [ek, cutL_drop, hdrop]
      refine ways_c hp' (by omega) ?_ fun ws p4 hp4 hw1 hw2 => ?_
      · have := nn
        rw [hpre] at this
        exact (List.nodup_cons.mp (List.nodup_append.mp this).2.1).2
      have hwv := waysV_of hsub hns hw1 hw2
      simp [gAll, outsOf, fillA, lentP, lentS, setAll, nodupB, borOk, setF, isC, byT, enL, rngL, sat_ok, sat_bind, sat_noX, sat_sSeq, sat_sIf, sat_runF, sat_sFor, sat_sSet, sat_sEx, sat_sRet, thn_nx, thn_rt, thn_bk, thn_ct, br_mk, ret_nx, ret_rt, forK_mk, setK_mk, exK_mk, rtK_mk, hp4.nfz]
      refine take_c hp4 (by decide) (by decide) fun r p5 hp5 r0 r1 => ?_
      simp [gAll, outsOf, fillA, lentP, lentS, setAll, nodupB, borOk, setF, isC, byT, enL, rngL, sat_ok, sat_bind, sat_noX, sat_sSeq, sat_sIf, sat_runF, sat_sFor, sat_sSet, sat_sEx, sat_sRet, thn_nx, thn_rt, thn_bk, thn_ct, br_mk, ret_nx, ret_rt, forK_mk, setK_mk, exK_mk, rtK_mk, hp5.nfz, eqv]
      refine due_c hp5 hk2 fun d p6 hp6 hd => ?_
      simp [gAll, outsOf, fillA, lentP, lentS, setAll, nodupB, borOk, setF, isC, byT, enL, rngL, sat_ok, sat_bind, sat_noX, sat_sSeq, sat_sIf, sat_runF, sat_sFor, sat_sSet, sat_sEx, sat_sRet, thn_nx, thn_rt, thn_bk, thn_ct, br_mk, ret_nx, ret_rt, forK_mk, setK_mk, exK_mk, rtK_mk, hp6.nfz, hpsl]
      refine ⟨p6, _, k + 1, rest, rfl, pre ++ [n], by rw [hpre]; simp, by simp [hk], ⟨rfl, rfl⟩, hp6, ?_, by simp [hpl]⟩
      intro y hy
      rcases List.mem_append.mp hy with hy | hy
      · exact hps y hy
      · have : y = Val.tup [Val.str n, wT ws, Val.bl (r == 0), d] := by simpa [wT] using hy
        subst this
        obtain ⟨w1, w2, w3⟩ := nw n hnm
        rcases hd with rfl | rfl | rfl | rfl
        · exact ⟨n, ws, _, _, _, rfl, w1, w2, hwv, .n⟩
        · exact ⟨n, ws, _, _, _, rfl, w1, w2, hwv, .a⟩
        · exact ⟨n, ws, _, _, _, rfl, w1, w2, hwv, .x⟩
        · exact ⟨n, ws, _, _, _, rfl, w1, w2, hwv, .y⟩
  · rintro _ ⟨p4, ps, k, rest, pre, a8, a9, a10, a11, hl, hpre, hk, rfl, hp4, hps, hpl⟩
    cases rest with
    | cons n rest => cases hl
    | nil =>
    have hpsn : 1 ≤ ps.length ∧ ps.length ≤ 4 := by have := congrArg List.length hpre; simp at this; omega
    have hpne : ps ≠ [] := fun e => by rw [e] at hpsn; simp at hpsn
    clear hl hpre hk hpl
    simp [gAll, outsOf, fillA, lentP, lentS, setAll, nodupB, borOk, setF, isC, byT, enL, rngL, sat_ok, sat_bind, sat_noX, sat_sSeq, sat_sIf, sat_runF, sat_sFor, sat_sSet, sat_sEx, sat_sRet, thn_nx, thn_rt, thn_bk, thn_ct, br_mk, ret_nx, ret_rt, forK_mk, setK_mk, exK_mk, rtK_mk, hp4.nfz]
    refine take_c hp4 (by decide) (by decide) fun r p5 hp5 r0 r1 => ?_
    simp [gAll, outsOf, fillA, lentP, lentS, setAll, nodupB, borOk, setF, isC, byT, enL, rngL, sat_ok, sat_bind, sat_noX, sat_sSeq, sat_sIf, sat_runF, sat_sFor, sat_sSet, sat_sEx, sat_sRet, thn_nx, thn_rt, thn_bk, thn_ct, br_mk, ret_nx, ret_rt, forK_mk, setK_mk, exK_mk, rtK_mk, hp5.nfz]
    rw [cutL_take _ _ (by omega)]
    have hzz : ([122, 122] : Sg) ∉ ns := fun hm => (nw _ hm).2.2 rfl
    obtain ⟨I, hI⟩ : ∃ I : List Val → Fr → Prop, ∀ l fr, I l fr ↔ ∃ (p' : Val) (fs : List Val) (a9 a10 a11 a13 : Option Val), (∀ x ∈ l, x = .str [110, 117, 116] ∨ x = .str [98, 111, 108, 116]) ∧
      fr = [some p', some (.int 4), some (.int 2), some (.int 1), some (.int 1), some (.lst (ns.map .str)), some (.lst ks), some (.lst ps), a8, a9, a10, a11, some (.lst fs), a13, none, none, none, none, none] ∧ PoolV p' ∧ (∀ x ∈ fs, FastV x) ∧ fs.length + l.length ≤ 2 := ⟨_, fun _ _ => Iff.rfl⟩
    refine forL_sat I ?_ ?_ _ _ ((hI _ _).mpr ⟨p5, [], _, _, _, _, ?_, rfl, hp5, by simp, by rw [List.length_take]; simp; omega⟩)
    · rintro x l fr hfr
      obtain ⟨p', fs, a9, a10, a11, a13, hl, rfl, hp', hfs, hlen⟩ := (hI _ _).mp hfr
      have hx := hl x (List.mem_cons_self ..)
      obtain ⟨t, rfl, t1, t2⟩ : ∃ t, x = .str t ∧ isWd t = true ∧ isWd (t ++ [122]) = true := by
        rcases hx with rfl | rfl
        · exact ⟨_, rfl, by decide, by decide⟩
        · exact ⟨_, rfl, by decide, by decide⟩
      have hfl : fs.length < 16777216 := by simp at hlen; omega
      simp [gAll, outsOf, fillA, lentP, lentS, setAll, nodupB, borOk, setF, isC, byT, enL, rngL, sat_ok, sat_bind, sat_noX, sat_sSeq, sat_sIf, sat_runF, sat_sFor, sat_sSet, sat_sEx, sat_sRet, thn_nx, thn_rt, thn_bk, thn_ct, br_mk, ret_nx, ret_rt, forK_mk, setK_mk, exK_mk, rtK_mk, hp'.nfz]
      refine turned_c hp' (by rw [List.length_map]; omega) fun ys p6 hp6 hy => ?_
      simp [gAll, outsOf, fillA, lentP, lentS, setAll, nodupB, borOk, setF, isC, byT, enL, rngL, sat_ok, sat_bind, sat_noX, sat_sSeq, sat_sIf, sat_runF, sat_sFor, sat_sSet, sat_sEx, sat_sRet, thn_nx, thn_rt, thn_bk, thn_ct, br_mk, ret_nx, ret_rt, forK_mk, setK_mk, exK_mk, rtK_mk, hp6.nfz]
      refine take_c hp6 (by decide) (by decide) fun r p7 hp7 r0 r1 => ?_
      simp [gAll, outsOf, fillA, lentP, lentS, setAll, nodupB, borOk, setF, isC, byT, enL, rngL, sat_ok, sat_bind, sat_noX, sat_sSeq, sat_sIf, sat_runF, sat_sFor, sat_sSet, sat_sEx, sat_sRet, thn_nx, thn_rt, thn_bk, thn_ct, br_mk, ret_nx, ret_rt, forK_mk, setK_mk, exK_mk, rtK_mk, hp7.nfz]
      obtain ⟨zs, rfl, hz⟩ := perm_strs hy
      rw [cutL_take _ _ (by omega), ← List.map_take]
      refine take_c hp7 (by decide) (by decide) fun q p8 hp8 q0 q1 => ?_
      simp [gAll, outsOf, fillA, lentP, lentS, setAll, nodupB, borOk, setF, isC, byT, enL, rngL, sat_ok, sat_bind, sat_noX, sat_sSeq, sat_sIf, sat_runF, sat_sFor, sat_sSet, sat_sEx, sat_sRet, thn_nx, thn_rt, thn_bk, thn_ct, br_mk, ret_nx, ret_rt, forK_mk, setK_mk, exK_mk, rtK_mk, hp8.nfz]
      refine ways_c hp8 (by omega) nn fun ws p9 hp9 hw1 hw2 => ?_
      have hwv := waysV_of (fun x hx => hx) hns hw1 hw2
      simp [gAll, outsOf, fillA, lentP, lentS, setAll, nodupB, borOk, setF, isC, byT, enL, rngL, sat_ok, sat_bind, sat_noX, sat_sSeq, sat_sIf, sat_runF, sat_sFor, sat_sSet, sat_sEx, sat_sRet, thn_nx, thn_rt, thn_bk, thn_ct, br_mk, ret_nx, ret_rt, forK_mk, setK_mk, exK_mk, rtK_mk, hp9.nfz, hfl]
      have hzl : zs.length = ns.length := hz.length_eq
      refine (hI _ _).mpr ⟨p9, _, _, _, _, _, fun y hy => hl y (List.mem_cons_of_mem _ hy), rfl, hp9, ?_, by simp at hlen ⊢; omega⟩
      intro y hy
      rcases List.mem_append.mp hy with hy | hy
      · exact hfs y hy
      · have : y = Val.tup [Val.str t, .tup ((zs.take (1 + r).toNat).map .str), .int (1 + q), wT ws] := by simpa [wT] using hy
        subst this
        refine ⟨t, _, _, ws, rfl, t1, t2, by rw [List.length_take]; omega, by rw [List.length_take]; omega, ⟨?_, ?_, ?_⟩, by omega, by omega, hwv⟩
        · rw [List.length_append, List.length_take]; simp; omega
        · refine List.nodup_append.mpr ⟨(List.take_sublist _ _).nodup (hz.symm.nodup nn), by simp, ?_⟩
          intro a ha b hb
          have : b = [122, 122] := by simpa using hb
          subst this
          rintro rfl
          exact hzz (hz.subset (List.mem_of_mem_take ha))
        · intro y hy
          rcases List.mem_append.mp hy with hy | hy
          · exact (nw y (hz.subset (List.mem_of_mem_take hy))).1
          · have : y = [122, 122] := by simpa using hy
            subst this
            decide
    · rintro fr hfr
      obtain ⟨p', fs, a9, a10, a11, a13, hl, rfl, hp', hfs, hlen⟩ := (hI _ _).mp hfr
      have hfl : fs.length ≤ 2 := by simpa using hlen
      clear hI hfr hl hlen
      simp [gAll, outsOf, fillA, lentP, lentS, setAll, nodupB, borOk, setF, isC, byT, enL, rngL, sat_ok, sat_bind, sat_noX, sat_sSeq, sat_sIf, sat_runF, sat_sFor, sat_sSet, sat_sEx, sat_sRet, thn_nx, thn_rt, thn_bk, thn_ct, br_mk, ret_nx, ret_rt, forK_mk, setK_mk, exK_mk, rtK_mk]
      have tools : ∀ K : Val × Fr → Prop, (∀ (ts : List Val) (p7 : Val), PoolV p7 → (∀ x ∈ ts, ToolV x) → ts.length ≤ 1 → K (.lst ts, [some p7, some (Val.int 4), some (Val.int 2), some (Val.int 1), some (Val.int 1), some (Val.lst (List.map Val.str ns)), some (Val.lst ks), some (Val.lst ps), a8, a9, a10, a11, some (Val.lst fs), a13, none, none, none, none, none])) →
          Sat (eLc [9]
      (iIt
        (eSl (eLst (aC (eC (Val.str [106, 105, 103])) aN)) oN
          (oS (callM [0] [] m_law_take [] (lI 0 (lC (e2 vAdd (eV 3) (eC (Val.int 1))) lN))))))
      (gN 9) tTrue (eTup (aC (eV 9) (aC (callM [0] [] m_law_ways [] (lI 0 (lC (eV 5) lN))) aN)))
      [some p', some (Val.int 4), some (Val.int 2), some (Val.int 1), some (Val.int 1), some (Val.lst (List.map Val.str ns)), some (Val.lst ks), some (Val.lst ps), a8, a9, a10, a11, some (Val.lst fs), a13, none, none, none, none, none]) K := by
        intro K hK
        simp [gAll, outsOf, fillA, lentP, lentS, setAll, nodupB, borOk, setF, isC, byT, enL, rngL, sat_ok, sat_bind, sat_noX, sat_sSeq, sat_sIf, sat_runF, sat_sFor, sat_sSet, sat_sEx, sat_sRet, thn_nx, thn_rt, thn_bk, thn_ct, br_mk, ret_nx, ret_rt, forK_mk, setK_mk, exK_mk, rtK_mk, eLc, hp'.nfz]
        refine take_c hp' (by decide) (by decide) fun r p6 hp6 r0 r1 => ?_
        simp [gAll, outsOf, fillA, lentP, lentS, setAll, nodupB, borOk, setF, isC, byT, enL, rngL, sat_ok, sat_bind, sat_noX, sat_sSeq, sat_sIf, sat_runF, sat_sFor, sat_sSet, sat_sEx, sat_sRet, thn_nx, thn_rt, thn_bk, thn_ct, br_mk, ret_nx, ret_rt, forK_mk, setK_mk, exK_mk, rtK_mk, hp6.nfz]
        rw [cutL_take _ _ r0]
        rcases hr : r.toNat with _ | n
        · simp [gAll, outsOf, fillA, lentP, lentS, setAll, nodupB, borOk, setF, isC, byT, enL, rngL, sat_ok, sat_bind, sat_noX, sat_sSeq, sat_sIf, sat_runF, sat_sFor, sat_sSet, sat_sEx, sat_sRet, thn_nx, thn_rt, thn_bk, thn_ct, br_mk, ret_nx, ret_rt, forK_mk, setK_mk, exK_mk, rtK_mk, lcL, putF']
          exact hK [] p6 hp6 (by simp) (by simp)
        · simp [gAll, outsOf, fillA, lentP, lentS, setAll, nodupB, borOk, setF, isC, byT, enL, rngL, sat_ok, sat_bind, sat_noX, sat_sSeq, sat_sIf, sat_runF, sat_sFor, sat_sSet, sat_sEx, sat_sRet, thn_nx, thn_rt, thn_bk, thn_ct, br_mk, ret_nx, ret_rt, forK_mk, setK_mk, exK_mk, rtK_mk, lcL, wipF, hp6.nfz]
          refine ways_c hp6 (by omega) nn fun ws p9 hp9 hw1 hw2 => ?_
          have hwv := waysV_of (fun x hx => hx) hns hw1 hw2
          simp [gAll, outsOf, fillA, lentP, lentS, setAll, nodupB, borOk, setF, isC, byT, enL, rngL, sat_ok, sat_bind, sat_noX, sat_sSeq, sat_sIf, sat_runF, sat_sFor, sat_sSet, sat_sEx, sat_sRet, thn_nx, thn_rt, thn_bk, thn_ct, br_mk, ret_nx, ret_rt, forK_mk, setK_mk, exK_mk, rtK_mk, hp9.nfz, putF']
          refine hK [.tup [.str [106, 105, 103], wT ws]] p9 hp9 ?_ (by simp)
          intro x hx
          have : x = .tup [.str [106, 105, 103], wT ws] := by simpa using hx
          subst this
          exact ⟨_, ws, rfl, by decide, hwv⟩
      refine tools _ fun ts p7 hp7 hts htl => ?_
      simp [gAll, outsOf, fillA, lentP, lentS, setAll, nodupB, borOk, setF, isC, byT, enL, rngL, sat_ok, sat_bind, sat_noX, sat_sSeq, sat_sIf, sat_runF, sat_sFor, sat_sSet, sat_sEx, sat_sRet, thn_nx, thn_rt, thn_bk, thn_ct, br_mk, ret_nx, ret_rt, forK_mk, setK_mk, exK_mk, rtK_mk, hp7.nfz, allK, okM, mergeD, dPut, kEq, isK, nodupK]
      have nmP : ∀ x ∈ ps, NmV x := fun x hx => by
        obtain ⟨t, _, _, _, _, rfl, _⟩ := hps x hx
        exact ⟨t, _, rfl⟩
      have nmF : ∀ x ∈ fs, NmV x := fun x hx => by
        obtain ⟨t, _, _, _, rfl, _⟩ := hfs x hx
        exact ⟨t, _, rfl⟩
      have nmT : ∀ x ∈ ts, NmV x := fun x hx => by
        obtain ⟨t, _, rfl, _⟩ := hts x hx
        exact ⟨t, _, rfl⟩
      have some_c : ∀ (fr : Fr) (K : Val × Fr → Prop), fr[15]? = some (some (Val.dic
            [Val.str [112, 97, 114, 116, 115], Val.str [102, 97, 115, 116, 101, 110, 105, 110, 103, 115],
              Val.str [116, 111, 111, 108, 115], Val.str [108, 111, 111, 115, 101, 110, 105, 110, 103, 115],
              Val.str [118, 97, 114, 105, 97, 110, 116, 115]]
            [Val.lst ps, Val.lst fs, Val.lst ts, Val.lst [], Val.lst ks])) → 18 < fr.length → (∀ ds : List Val, ds ≠ [] → ds.length ≤ 1000 → K (.lst ds, fr)) → Sat (eLc [18] (iIt (callM [] [0] m_law_deeds [] (lB 15 lN))) (gN 18)
      (tBl
        (e2 vIn (e2 vIx (eV 18) (eC (Val.int 0)))
          (eLst
            (aC (eC (Val.str [112, 117, 116]))
              (aC (eC (Val.str [116, 97, 107, 101]))
                (aC (eC (Val.str [116, 117, 114, 110]))
                  (aC (eC (Val.str [111, 110])) (aC (eC (Val.str [111, 102, 102])) aN))))))))
      (eV 18) fr) K := by
        intro fr K h15 h18 hK
        have hcall : Sat (m_law_deeds [Val.dic
            [Val.str [112, 97, 114, 116, 115], Val.str [102, 97, 115, 116, 101, 110, 105, 110, 103, 115],
              Val.str [116, 111, 111, 108, 115], Val.str [108, 111, 111, 115, 101, 110, 105, 110, 103, 115],
              Val.str [118, 97, 114, 105, 97, 110, 116, 115]]
            [Val.lst ps, Val.lst fs, Val.lst ts, Val.lst [], Val.lst ks]]) (fun z => ∃ ds, z = (.lst ds, []) ∧ (∀ x ∈ ds, DeedV x) ∧ ds.length ≤ 1000 ∧ ∃ n, .tup [.str [112, 117, 116], .str n] ∈ ds) :=
          deeds_c nmP nmF nmT hpne (by omega) (by omega) (by omega) (fun ds a b c => ⟨ds, rfl, a, b, c⟩) _ _ rfl rfl rfl
        obtain ⟨_, e, ds, rfl, hdv, hdl, n, hput⟩ := hcall
        refine sat_lcF (fun x => ((inV ((vIx x (.int 0)).getD .non) (.lst [.str [112, 117, 116], .str [116, 97, 107, 101], .str [116, 117, 114, 110], .str [111, 110], .str [111, 102, 102]])).getD false)) ds (fr := fr) ?_ (by omega) ?_ ?_ ?_
        · simp [gAll, outsOf, fillA, lentP, lentS, setAll, nodupB, borOk, setF, isC, byT, enL, rngL, sat_ok, sat_bind, sat_noX, sat_sSeq, sat_sIf, sat_runF, sat_sFor, sat_sSet, sat_sEx, sat_sRet, thn_nx, thn_rt, thn_bk, thn_ct, br_mk, ret_nx, ret_rt, forK_mk, setK_mk, exK_mk, rtK_mk, h15, e]
        · intro x hx
          obtain ⟨w, n, rfl⟩ := hdv x hx
          simp [gAll, outsOf, fillA, lentP, lentS, setAll, nodupB, borOk, setF, isC, byT, enL, rngL, sat_ok, sat_bind, sat_noX, sat_sSeq, sat_sIf, sat_runF, sat_sFor, sat_sSet, sat_sEx, sat_sRet, thn_nx, thn_rt, thn_bk, thn_ct, br_mk, ret_nx, ret_rt, forK_mk, setK_mk, exK_mk, rtK_mk, h18, atI, ixN, inV, inSeq, anyO, eqv]
        · intro x hx
          simp [h18]
        · refine hK _ ?_ (Nat.le_trans (List.length_filter_le ..) hdl)
          intro hf
          have := List.filter_eq_nil_iff.mp hf _ hput
          simp [atI, ixN, inV, inSeq, anyO, eqv] at this
      refine some_c _ _ rfl (by simp) fun ds hds hdl => ?_
      simp [gAll, outsOf, fillA, lentP, lentS, setAll, nodupB, borOk, setF, isC, byT, enL, rngL, sat_ok, sat_bind, sat_noX, sat_sSeq, sat_sIf, sat_runF, sat_sFor, sat_sSet, sat_sEx, sat_sRet, thn_nx, thn_rt, thn_bk, thn_ct, br_mk, ret_nx, ret_rt, forK_mk, setK_mk, exK_mk, rtK_mk]
      obtain ⟨I, hI⟩ : ∃ I : List Val → Fr → Prop, ∀ l fr, I l fr ↔ ∃ (p' : Val) (lo : List Val) (a17 : Option Val), (∀ x ∈ l, NmV x) ∧
        fr = [some p', some (.int 4), some (.int 2), some (.int 1), some (.int 1), some (.lst (ns.map .str)), some (.lst ks), some (fz (.lst ps)), a8, a9, a10, a11, some (fz (.lst fs)), a13, some (.lst ts),
          some (Val.dic
            [Val.str [112, 97, 114, 116, 115], Val.str [102, 97, 115, 116, 101, 110, 105, 110, 103, 115],
              Val.str [116, 111, 111, 108, 115], Val.str [108, 111, 111, 115, 101, 110, 105, 110, 103, 115],
              Val.str [118, 97, 114, 105, 97, 110, 116, 115]]
            [Val.lst ps, Val.lst fs, Val.lst ts, Val.lst lo, Val.lst ks]), some (.lst ds), a17, none] ∧ PoolV p' ∧ lo.length + l.length ≤ 2 := ⟨_, fun _ _ => Iff.rfl⟩
      refine forL_sat I ?_ ?_ _ _ ((hI _ _).mpr ⟨p7, [], none, nmF, rfl, hp7, by simpa using hfl⟩)
      · rintro x l fr hfr
        obtain ⟨p', lo, a17, hl, rfl, hp', hlen⟩ := (hI _ _).mp hfr
        obtain ⟨n, hn⟩ := nmV_ix (hl x (List.mem_cons_self ..))
        simp [gAll, outsOf, fillA, lentP, lentS, setAll, nodupB, borOk, setF, isC, byT, enL, rngL, sat_ok, sat_bind, sat_noX, sat_sSeq, sat_sIf, sat_runF, sat_sFor, sat_sSet, sat_sEx, sat_sRet, thn_nx, thn_rt, thn_bk, thn_ct, br_mk, ret_nx, ret_rt, forK_mk, setK_mk, exK_mk, rtK_mk, hp'.nfz]
        refine take_c hp' (by decide) (by decide) fun r p8 hp8 r0 r1 => ?_
        simp [gAll, outsOf, fillA, lentP, lentS, setAll, nodupB, borOk, setF, isC, byT, enL, rngL, sat_ok, sat_bind, sat_noX, sat_sSeq, sat_sIf, sat_runF, sat_sFor, sat_sSet, sat_sEx, sat_sRet, thn_nx, thn_rt, thn_bk, thn_ct, br_mk, ret_nx, ret_rt, forK_mk, setK_mk, exK_mk, rtK_mk, hp8.nfz, eqv]
        by_cases hr : r = 0
        · have hll : lo.length ≤ 16777215 := by simp at hlen; omega
          simp [gAll, outsOf, fillA, lentP, lentS, setAll, nodupB, borOk, setF, isC, byT, enL, rngL, sat_ok, sat_bind, sat_noX, sat_sSeq, sat_sIf, sat_runF, sat_sFor, sat_sSet, sat_sEx, sat_sRet, thn_nx, thn_rt, thn_bk, thn_ct, br_mk, ret_nx, ret_rt, forK_mk, setK_mk, exK_mk, rtK_mk, hr, isK, dGet, kEq, hp8.nfz]
          refine one_c hp8 hds (by omega) fun y p9 hp9 hy => ?_
          simp [gAll, outsOf, fillA, lentP, lentS, setAll, nodupB, borOk, setF, isC, byT, enL, rngL, sat_ok, sat_bind, sat_noX, sat_sSeq, sat_sIf, sat_runF, sat_sFor, sat_sSet, sat_sEx, sat_sRet, thn_nx, thn_rt, thn_bk, thn_ct, br_mk, ret_nx, ret_rt, forK_mk, setK_mk, exK_mk, rtK_mk, hp9.nfz, hn, hll, isK, nodupK, kEq, dPut]
          refine (hI _ _).mpr ⟨p9, _, _, fun y hy => hl y (List.mem_cons_of_mem _ hy), rfl, hp9, ?_⟩
          rw [List.length_append]
          simp only [List.length_cons, List.length_nil] at hlen ⊢
          omega
        · simp [gAll, outsOf, fillA, lentP, lentS, setAll, nodupB, borOk, setF, isC, byT, enL, rngL, sat_ok, sat_bind, sat_noX, sat_sSeq, sat_sIf, sat_runF, sat_sFor, sat_sSet, sat_sEx, sat_sRet, thn_nx, thn_rt, thn_bk, thn_ct, br_mk, ret_nx, ret_rt, forK_mk, setK_mk, exK_mk, rtK_mk, hr]
          exact (hI _ _).mpr ⟨p8, lo, _, fun y hy => hl y (List.mem_cons_of_mem _ hy), rfl, hp8, by simp at hlen; omega⟩
      · rintro fr hfr
        obtain ⟨p', lo, a17, hl, rfl, hp', hlen⟩ := (hI _ _).mp hfr
        simp [gAll, outsOf, fillA, lentP, lentS, setAll, nodupB, borOk, setF, isC, byT, enL, rngL, sat_ok, sat_bind, sat_noX, sat_sSeq, sat_sIf, sat_runF, sat_sFor, sat_sSet, sat_sEx, sat_sRet, thn_nx, thn_rt, thn_bk, thn_ct, br_mk, ret_nx, ret_rt, forK_mk, setK_mk, exK_mk, rtK_mk, hp'.nfz]
        exact h _ ps fs ts _ _ hp' hpne hps hfs hts
    · intro x hx
      have := List.mem_of_mem_take hx
      simpa using this
end K01

namespace K01
open SK
open PySem (seqIndex?)
open PySem.Spec (ltCps)
open L2 (atI ixN)
theorem lists_c {ws : List (List Sg)} {Q : Val × List Val → Prop} (hl : ws.length ≤ 3) (h : Q (.lst (ws.map fun w => .lst (w.map .str)), [])) : Sat (m_law_lists [wT ws]) Q := by
  simp [gAll, outsOf, fillA, lentP, lentS, setAll, nodupB, borOk, setF, isC, byT, enL, rngL, sat_ok, sat_bind, sat_noX, sat_sSeq, sat_sIf, sat_runF, sat_sFor, sat_sSet, sat_sEx, sat_sRet, thn_nx, thn_rt, thn_bk, thn_ct, br_mk, ret_nx, ret_rt, forK_mk, setK_mk, exK_mk, rtK_mk, m_law_lists, b_law_lists, wT]
  refine sat_lc (fun v => match v with
    | .tup xs => .lst xs
    | v => v) _ (by rfl) (by simp; omega) ?_ ?_
  · intro x hx
    obtain ⟨w, _, rfl⟩ := List.mem_map.mp hx
    simp [gAll, outsOf, fillA, lentP, lentS, setAll, nodupB, borOk, setF, isC, byT, enL, rngL, sat_ok, sat_bind, sat_noX, sat_sSeq, sat_sIf, sat_runF, sat_sFor, sat_sSet, sat_sEx, sat_sRet, thn_nx, thn_rt, thn_bk, thn_ct, br_mk, ret_nx, ret_rt, forK_mk, setK_mk, exK_mk, rtK_mk]
  · simp [gAll, outsOf, fillA, lentP, lentS, setAll, nodupB, borOk, setF, isC, byT, enL, rngL, sat_ok, sat_bind, sat_noX, sat_sSeq, sat_sIf, sat_runF, sat_sFor, sat_sSet, sat_sEx, sat_sRet, thn_nx, thn_rt, thn_bk, thn_ct, br_mk, ret_nx, ret_rt, forK_mk, setK_mk, exK_mk, rtK_mk]
    exact h
theorem okE_vrn {t os y} : okE [4] (nfA 5 []) (vrn t os) y = nfA 5 [] 4 y := rfl
theorem nfA_vrn {t os c} : nfA 5 [] c (vrn t os) = true := rfl
theorem eq_vv {t t' : Sg} {os os' : List Sg} : m_Variant_eq [vrn t os, vrn t' os'] = .ok (.bl (decide (t = t') && decide (os = os')), []) := by
  have h1 := eqv_str 18 t t'
  have h2 := eqv_strs (n := 19) (by decide) os os'
  generalize hx : Val.tup (os.map .str) = x at h2
  generalize hy : Val.tup (os'.map .str) = y at h2
  have h3 : eqv 20 (.tup [.str t, x]) (.tup [.str t', y]) = some (decide (t = t') && decide (os = os')) := by
    unfold eqv
    simp [eqZ, h1, h2]
  obtain ⟨_, e, rfl⟩ : Sat (m_Variant_eq [vrn t os, vrn t' os']) fun z => z = (.bl (decide (t = t') && decide (os = os')), []) := by
    simp [gAll, outsOf, fillA, lentP, lentS, setAll, nodupB, borOk, setF, isC, byT, enL, rngL, sat_ok, sat_bind, sat_noX, sat_sSeq, sat_sIf, sat_runF, sat_sFor, sat_sSet, sat_sEx, sat_sRet, thn_nx, thn_rt, thn_bk, thn_ct, br_mk, ret_nx, ret_rt, forK_mk, setK_mk, exK_mk, rtK_mk, m_Variant_eq, b_Variant_eq, vrn, hx, hy, h3]
  exact e
theorem eq_vt {t t' : Sg} {os : List Sg} {ws} : m_Variant_eq [vrn t os, tol t' ws] = .ok (.bl false, []) := by
  obtain ⟨_, e, rfl⟩ : Sat (m_Variant_eq [vrn t os, tol t' ws]) fun z => z = (.bl false, []) := by
    simp [gAll, outsOf, fillA, lentP, lentS, setAll, nodupB, borOk, setF, isC, byT, enL, rngL, sat_ok, sat_bind, sat_noX, sat_sSeq, sat_sIf, sat_runF, sat_sFor, sat_sSet, sat_sEx, sat_sRet, thn_nx, thn_rt, thn_bk, thn_ct, br_mk, ret_nx, ret_rt, forK_mk, setK_mk, exK_mk, rtK_mk, m_Variant_eq, b_Variant_eq, vrn, tol]
  exact e
theorem eq_vs {t t' : Sg} {os : List Sg} : m_Variant_eq [vrn t os, .str t'] = .ok (.bl false, []) := by
  obtain ⟨_, e, rfl⟩ : Sat (m_Variant_eq [vrn t os, .str t']) fun z => z = (.bl false, []) := by
    simp [gAll, outsOf, fillA, lentP, lentS, setAll, nodupB, borOk, setF, isC, byT, enL, rngL, sat_ok, sat_bind, sat_noX, sat_sSeq, sat_sIf, sat_runF, sat_sFor, sat_sSet, sat_sEx, sat_sRet, thn_nx, thn_rt, thn_bk, thn_ct, br_mk, ret_nx, ret_rt, forK_mk, setK_mk, exK_mk, rtK_mk, m_Variant_eq, b_Variant_eq, vrn]
  exact e
theorem vAt_tol1 {t ws} : vAt [0, 1, 2, 3] 1 (tol t ws) = some (wT ws) := rfl
theorem vAt_tol0 {t ws} : vAt [0, 1, 2, 3, 4] 0 (tol t ws) = some (.str t) := rfl
theorem vAt_vrn0 {t os} : vAt [0, 1, 2, 3, 4] 0 (vrn t os) = some (.str t) := rfl
theorem vAt_vrn7 {t os} : vAt [4] 7 (vrn t os) = some (.tup (os.map .str)) := rfl
set_option maxHeartbeats 8000000 in
theorem law_ok (ns : List Int) : Sat (m_law [.scr ns]) fun z => z = (.bl true, []) := by
  generalize hQ : (fun z : Val × List Val => z = (.bl true, [])) = Q
  have hq : Q (.bl true, []) := by rw [← hQ]
  have o1 : OkWays [[]] := ⟨by decide, by decide, fun w hw => by
    have : w = [] := by simpa using hw
    subst this
    exact ⟨by decide, by decide, by decide⟩⟩
  simp [gAll, outsOf, fillA, lentP, lentS, setAll, nodupB, borOk, setF, isC, byT, enL, rngL, sat_ok, sat_bind, sat_noX, sat_sSeq, sat_sIf, sat_runF, sat_sFor, sat_sSet, sat_sEx, sat_sRet, thn_nx, thn_rt, thn_bk, thn_ct, br_mk, ret_nx, ret_rt, forK_mk, setK_mk, exK_mk, rtK_mk, m_law, b_law]
  obtain ⟨n, hn1, hn2⟩ : ∃ n : Nat, n ≤ 10 ∧ (if (1 : Int) < (if (ns.length : Int) < 10 then (ns.length : Int) else 10) then (if (ns.length : Int) < 10 then (ns.length : Int) else 10) else 1) = n := by
    by_cases h1 : (ns.length : Int) < 10
    · simp only [if_pos h1]
      by_cases h2 : (1 : Int) < ns.length
      · exact ⟨ns.length, by omega, by rw [if_pos h2]⟩
      · exact ⟨1, by decide, by rw [if_neg h2]; rfl⟩
    · simp only [if_neg h1]
      exact ⟨10, by decide, by simp⟩
  rw [hn2]
  rw [if_pos (by omega), sat_ok, forK_mk]
  obtain ⟨I, hI⟩ : ∃ I : List Val → Fr → Prop, ∀ l fr, I l fr ↔ ∃ (a1 a2 a3 a4 a5 a6 a7 a8 a9 a10 a11 : Option Val), (∀ x ∈ l, ∃ k : Int, x = .int k ∧ 0 ≤ k ∧ k < 1000) ∧ fr = [some (.scr ns), a1, a2, a3, a4, a5, a6, a7, a8, a9, a10, a11] := ⟨_, fun _ _ => Iff.rfl⟩
  refine forL_sat I ?_ ?_ _ _ ((hI _ _).mpr ⟨_, _, _, _, _, _, _, _, _, _, _, ?_, rfl⟩)
  · rintro x l fr hfr
    obtain ⟨a1, a2, a3, a4, a5, a6, a7, a8, a9, a10, a11, hl, rfl⟩ := (hI _ _).mp hfr
    obtain ⟨k, rfl, k0, k1⟩ := hl x (List.mem_cons_self ..)
    simp [gAll, outsOf, fillA, lentP, lentS, setAll, nodupB, borOk, setF, isC, byT, enL, rngL, sat_ok, sat_bind, sat_noX, sat_sSeq, sat_sIf, sat_runF, sat_sFor, sat_sSet, sat_sEx, sat_sRet, thn_nx, thn_rt, thn_bk, thn_ct, br_mk, ret_nx, ret_rt, forK_mk, setK_mk, exK_mk, rtK_mk]
    refine pool_c k0 k1 fun p hp => ?_
    simp [gAll, outsOf, fillA, lentP, lentS, setAll, nodupB, borOk, setF, isC, byT, enL, rngL, sat_ok, sat_bind, sat_noX, sat_sSeq, sat_sIf, sat_runF, sat_sFor, sat_sSet, sat_sEx, sat_sRet, thn_nx, thn_rt, thn_bk, thn_ct, br_mk, ret_nx, ret_rt, forK_mk, setK_mk, exK_mk, rtK_mk, hp.nfz]
    refine box_c hp fun p' ps fs ts lo ks hp' hpn hps hfs hts => ?_
    simp [gAll, outsOf, fillA, lentP, lentS, setAll, nodupB, borOk, setF, isC, byT, enL, rngL, sat_ok, sat_bind, sat_noX, sat_sSeq, sat_sIf, sat_runF, sat_sFor, sat_sSet, sat_sEx, sat_sRet, thn_nx, thn_rt, thn_bk, thn_ct, br_mk, ret_nx, ret_rt, forK_mk, setK_mk, exK_mk, rtK_mk, hp'.nfz, isK, dGet, kEq]
    obtain ⟨J, hJ⟩ : ∃ J : List Val → Fr → Prop, ∀ l fr, J l fr ↔ ∃ (a4 : Option Val), (∀ x ∈ l, PartV x) ∧ fr = [some (.scr ns), some (.int k), some p', some (Val.dic
            [Val.str [112, 97, 114, 116, 115], Val.str [102, 97, 115, 116, 101, 110, 105, 110, 103, 115],
              Val.str [116, 111, 111, 108, 115], Val.str [108, 111, 111, 115, 101, 110, 105, 110, 103, 115],
              Val.str [118, 97, 114, 105, 97, 110, 116, 115]]
            [Val.lst ps, Val.lst fs, Val.lst ts, lo, ks]), a4, a5, a6, a7, a8, a9, a10, a11] := ⟨_, fun _ _ => Iff.rfl⟩
    refine forL_sat J ?_ ?_ _ _ ((hJ _ _).mpr ⟨_, hps, rfl⟩)
    · rintro x l fr hfr
      obtain ⟨a4, hl, rfl⟩ := (hJ _ _).mp hfr
      obtain ⟨t, ws, m, d, d', rfl, t1, t2, ⟨w1, w2, _⟩, hd⟩ := hl x (List.mem_cons_self ..)
      simp [gAll, outsOf, fillA, lentP, lentS, setAll, nodupB, borOk, setF, isC, byT, enL, rngL, sat_ok, sat_bind, sat_noX, sat_sSeq, sat_sIf, sat_runF, sat_sFor, sat_sSet, sat_sEx, sat_sRet, thn_nx, thn_rt, thn_bk, thn_ct, br_mk, ret_nx, ret_rt, forK_mk, setK_mk, exK_mk, rtK_mk]
      refine parts_right_c t1 t2 w1 w2 hd ?_
      simp [gAll, outsOf, fillA, lentP, lentS, setAll, nodupB, borOk, setF, isC, byT, enL, rngL, sat_ok, sat_bind, sat_noX, sat_sSeq, sat_sIf, sat_runF, sat_sFor, sat_sSet, sat_sEx, sat_sRet, thn_nx, thn_rt, thn_bk, thn_ct, br_mk, ret_nx, ret_rt, forK_mk, setK_mk, exK_mk, rtK_mk]
      exact (hJ _ _).mpr ⟨_, fun y hy => hl y (List.mem_cons_of_mem _ hy), rfl⟩
    · rintro fr hfr
      obtain ⟨a4, _, rfl⟩ := (hJ _ _).mp hfr
      clear hfr hJ J
      simp [gAll, outsOf, fillA, lentP, lentS, setAll, nodupB, borOk, setF, isC, byT, enL, rngL, sat_ok, sat_bind, sat_noX, sat_sSeq, sat_sIf, sat_runF, sat_sFor, sat_sSet, sat_sEx, sat_sRet, thn_nx, thn_rt, thn_bk, thn_ct, br_mk, ret_nx, ret_rt, forK_mk, setK_mk, exK_mk, rtK_mk, isK, dGet, kEq]
      obtain ⟨J, hJ⟩ : ∃ J : List Val → Fr → Prop, ∀ l fr, J l fr ↔ ∃ (a5 : Option Val), (∀ x ∈ l, FastV x) ∧ fr = [some (.scr ns), some (.int k), some p', some (Val.dic
            [Val.str [112, 97, 114, 116, 115], Val.str [102, 97, 115, 116, 101, 110, 105, 110, 103, 115],
              Val.str [116, 111, 111, 108, 115], Val.str [108, 111, 111, 115, 101, 110, 105, 110, 103, 115],
              Val.str [118, 97, 114, 105, 97, 110, 116, 115]]
            [Val.lst ps, Val.lst fs, Val.lst ts, lo, ks]), a4, a5, a6, a7, a8, a9, a10, a11] := ⟨_, fun _ _ => Iff.rfl⟩
      refine forL_sat J ?_ ?_ _ _ ((hJ _ _).mpr ⟨_, hfs, rfl⟩)
      · rintro x l fr hfr
        obtain ⟨a5, hl, rfl⟩ := (hJ _ _).mp hfr
        obtain ⟨t, hs, r, ws, rfl, t1, t2, h1, h2, hok, r1, r2, ⟨w1, w2, w3⟩⟩ := hl x (List.mem_cons_self ..)
        simp [gAll, outsOf, fillA, lentP, lentS, setAll, nodupB, borOk, setF, isC, byT, enL, rngL, sat_ok, sat_bind, sat_noX, sat_sSeq, sat_sIf, sat_runF, sat_sFor, sat_sSet, sat_sEx, sat_sRet, thn_nx, thn_rt, thn_bk, thn_ct, br_mk, ret_nx, ret_rt, forK_mk, setK_mk, exK_mk, rtK_mk]
        refine fast_right_c t1 t2 h1 h2 hok r1 r2 w1 w3 ?_
        simp [gAll, outsOf, fillA, lentP, lentS, setAll, nodupB, borOk, setF, isC, byT, enL, rngL, sat_ok, sat_bind, sat_noX, sat_sSeq, sat_sIf, sat_runF, sat_sFor, sat_sSet, sat_sEx, sat_sRet, thn_nx, thn_rt, thn_bk, thn_ct, br_mk, ret_nx, ret_rt, forK_mk, setK_mk, exK_mk, rtK_mk]
        exact (hJ _ _).mpr ⟨_, fun y hy => hl y (List.mem_cons_of_mem _ hy), rfl⟩
      · rintro fr hfr
        obtain ⟨a5, _, rfl⟩ := (hJ _ _).mp hfr
        clear hfr hJ J
        obtain ⟨t, ws, m, d, d', hx, _, _, ⟨w1, w2, w3⟩, hd⟩ : PartV (ps.headD .non) := by
          cases ps with
          | nil => exact absurd rfl hpn
          | cons y r => exact hps y (List.mem_cons_self ..)
        have hix : vIx (.lst ps) (.int 0) = some (.tup [.str t, wT ws, .bl m, d]) := by
          cases ps with
          | nil => exact absurd rfl hpn
          | cons y r =>
            have hx : y = _ := hx
            subst hx
            have : (0 : Int) < (r.length : Int) + 1 := by omega
            simp [atI, ixN, this]
        have hix : atI ps 0 = some (.tup [.str t, wT ws, .bl m, d]) := hix
        simp [gAll, outsOf, fillA, lentP, lentS, setAll, nodupB, borOk, setF, isC, byT, enL, rngL, sat_ok, sat_bind, sat_noX, sat_sSeq, sat_sIf, sat_runF, sat_sFor, sat_sSet, sat_sEx, sat_sRet, thn_nx, thn_rt, thn_bk, thn_ct, br_mk, ret_nx, ret_rt, forK_mk, setK_mk, exK_mk, rtK_mk, isK, dGet, kEq, hix]
        have h41 : atI [Val.str t, wT ws, Val.bl m, d] 1 = some (wT ws) := rfl
        simp [gAll, outsOf, fillA, lentP, lentS, setAll, nodupB, borOk, setF, isC, byT, enL, rngL, sat_ok, sat_bind, sat_noX, sat_sSeq, sat_sIf, sat_runF, sat_sFor, sat_sSet, sat_sEx, sat_sRet, thn_nx, thn_rt, thn_bk, thn_ct, br_mk, ret_nx, ret_rt, forK_mk, setK_mk, exK_mk, rtK_mk, h41]
        refine lists_c (by omega) ?_
        simp [gAll, outsOf, fillA, lentP, lentS, setAll, nodupB, borOk, setF, isC, byT, enL, rngL, sat_ok, sat_bind, sat_noX, sat_sSeq, sat_sIf, sat_runF, sat_sFor, sat_sSet, sat_sEx, sat_sRet, thn_nx, thn_rt, thn_bk, thn_ct, br_mk, ret_nx, ret_rt, forK_mk, setK_mk, exK_mk, rtK_mk]
        refine tool_c (by decide) (.inr rfl) (rows_l ws) w1 ?_
        simp [gAll, outsOf, fillA, lentP, lentS, setAll, nodupB, borOk, setF, isC, byT, enL, rngL, sat_ok, sat_bind, sat_noX, sat_sSeq, sat_sIf, sat_runF, sat_sFor, sat_sSet, sat_sEx, sat_sRet, thn_nx, thn_rt, thn_bk, thn_ct, br_mk, ret_nx, ret_rt, forK_mk, setK_mk, exK_mk, rtK_mk, vAt_tol0, vAt_tol1, eqv, eqZ, eqv_wT]
        refine tool_c (by decide) (.inl rfl) (rows_t ws) w1 ?_
        simp [gAll, outsOf, fillA, lentP, lentS, setAll, nodupB, borOk, setF, isC, byT, enL, rngL, sat_ok, sat_bind, sat_noX, sat_sSeq, sat_sIf, sat_runF, sat_sFor, sat_sSet, sat_sEx, sat_sRet, thn_nx, thn_rt, thn_bk, thn_ct, br_mk, ret_nx, ret_rt, forK_mk, setK_mk, exK_mk, rtK_mk, okE_prt, okE_fst, okE_tol, nfA_prt, nfA_fst, nfA_tol, nfA_str, nfA_lst, okE_vrn, nfA_vrn, eq_tt]
        refine tool_c (ws := [[]]) (by decide) (.inl rfl) (rows_t [[]]) o1 ?_
        simp [gAll, outsOf, fillA, lentP, lentS, setAll, nodupB, borOk, setF, isC, byT, enL, rngL, sat_ok, sat_bind, sat_noX, sat_sSeq, sat_sIf, sat_runF, sat_sFor, sat_sSet, sat_sEx, sat_sRet, thn_nx, thn_rt, thn_bk, thn_ct, br_mk, ret_nx, ret_rt, forK_mk, setK_mk, exK_mk, rtK_mk, vAt_tol1]
        have e0 : eqv 20 (wT [[]]) (.tup [.tup []]) = some true := rfl
        have ok2 : OkWay [[120], [121]] := ⟨by decide, by decide, by decide⟩
        have ok2' : OkWay [[121], [120]] := ⟨by decide, by decide, by decide⟩
        have ok3 : OkWay [[120], [121], [122]] := ⟨by decide, by decide, by decide⟩
        simp [gAll, outsOf, fillA, lentP, lentS, setAll, nodupB, borOk, setF, isC, byT, enL, rngL, sat_ok, sat_bind, sat_noX, sat_sSeq, sat_sIf, sat_runF, sat_sFor, sat_sSet, sat_sEx, sat_sRet, thn_nx, thn_rt, thn_bk, thn_ct, br_mk, ret_nx, ret_rt, forK_mk, setK_mk, exK_mk, rtK_mk, e0]
        refine vari_c (os := [[120], [121]]) (by decide) (.inr rfl) (by decide) ok2 ?_
        simp [gAll, outsOf, fillA, lentP, lentS, setAll, nodupB, borOk, setF, isC, byT, enL, rngL, sat_ok, sat_bind, sat_noX, sat_sSeq, sat_sIf, sat_runF, sat_sFor, sat_sSet, sat_sEx, sat_sRet, thn_nx, thn_rt, thn_bk, thn_ct, br_mk, ret_nx, ret_rt, forK_mk, setK_mk, exK_mk, rtK_mk, vAt_vrn0, vAt_vrn7, eqv, eqZ]
        refine vari_c (os := [[120], [121]]) (by decide) (.inl rfl) (by decide) ok2 ?_
        simp [gAll, outsOf, fillA, lentP, lentS, setAll, nodupB, borOk, setF, isC, byT, enL, rngL, sat_ok, sat_bind, sat_noX, sat_sSeq, sat_sIf, sat_runF, sat_sFor, sat_sSet, sat_sEx, sat_sRet, thn_nx, thn_rt, thn_bk, thn_ct, br_mk, ret_nx, ret_rt, forK_mk, setK_mk, exK_mk, rtK_mk, okE_prt, okE_fst, okE_tol, nfA_prt, nfA_fst, nfA_tol, nfA_str, nfA_lst, okE_vrn, nfA_vrn, eq_vv]
        refine vari_c (os := [[121], [120]]) (by decide) (.inr rfl) (by decide) ok2' ?_
        simp [gAll, outsOf, fillA, lentP, lentS, setAll, nodupB, borOk, setF, isC, byT, enL, rngL, sat_ok, sat_bind, sat_noX, sat_sSeq, sat_sIf, sat_runF, sat_sFor, sat_sSet, sat_sEx, sat_sRet, thn_nx, thn_rt, thn_bk, thn_ct, br_mk, ret_nx, ret_rt, forK_mk, setK_mk, exK_mk, rtK_mk]
        refine vari_c (os := [[120], [121]]) (by decide) (.inr rfl) (by decide) ok2 ?_
        simp [gAll, outsOf, fillA, lentP, lentS, setAll, nodupB, borOk, setF, isC, byT, enL, rngL, sat_ok, sat_bind, sat_noX, sat_sSeq, sat_sIf, sat_runF, sat_sFor, sat_sSet, sat_sEx, sat_sRet, thn_nx, thn_rt, thn_bk, thn_ct, br_mk, ret_nx, ret_rt, forK_mk, setK_mk, exK_mk, rtK_mk]
        refine tool_c (ws := [[]]) (by decide) (.inl rfl) (rows_t [[]]) o1 ?_
        simp [gAll, outsOf, fillA, lentP, lentS, setAll, nodupB, borOk, setF, isC, byT, enL, rngL, sat_ok, sat_bind, sat_noX, sat_sSeq, sat_sIf, sat_runF, sat_sFor, sat_sSet, sat_sEx, sat_sRet, thn_nx, thn_rt, thn_bk, thn_ct, br_mk, ret_nx, ret_rt, forK_mk, setK_mk, exK_mk, rtK_mk]
        refine vari_c (os := [[120], [121], [122]]) (by decide) (.inr rfl) (by decide) ok3 ?_
        simp [gAll, outsOf, fillA, lentP, lentS, setAll, nodupB, borOk, setF, isC, byT, enL, rngL, sat_ok, sat_bind, sat_noX, sat_sSeq, sat_sIf, sat_runF, sat_sFor, sat_sSet, sat_sEx, sat_sRet, thn_nx, thn_rt, thn_bk, thn_ct, br_mk, ret_nx, ret_rt, forK_mk, setK_mk, exK_mk, rtK_mk, forL, okE_prt, okE_fst, okE_tol, nfA_prt, nfA_fst, nfA_tol, nfA_str, nfA_lst, okE_vrn, nfA_vrn, eq_vv, eq_vt, eq_vs]
        refine tool_c (by decide) (.inl rfl) (rows_t ws) w1 ?_
        simp [gAll, outsOf, fillA, lentP, lentS, setAll, nodupB, borOk, setF, isC, byT, enL, rngL, sat_ok, sat_bind, sat_noX, sat_sSeq, sat_sIf, sat_runF, sat_sFor, sat_sSet, sat_sEx, sat_sRet, thn_nx, thn_rt, thn_bk, thn_ct, br_mk, ret_nx, ret_rt, forK_mk, setK_mk, exK_mk, rtK_mk, okE_prt, okE_fst, okE_tol, nfA_prt, nfA_fst, nfA_tol, nfA_str, nfA_lst, okE_vrn, nfA_vrn, eq_tt]
        refine part_c (by decide) (.inl rfl) (rows_t ws) w1 (.inr (.inl ⟨rfl, rfl⟩)) ?_
        simp [gAll, outsOf, fillA, lentP, lentS, setAll, nodupB, borOk, setF, isC, byT, enL, rngL, sat_ok, sat_bind, sat_noX, sat_sSeq, sat_sIf, sat_runF, sat_sFor, sat_sSet, sat_sEx, sat_sRet, thn_nx, thn_rt, thn_bk, thn_ct, br_mk, ret_nx, ret_rt, forK_mk, setK_mk, exK_mk, rtK_mk, okE_prt, okE_fst, okE_tol, nfA_prt, nfA_fst, nfA_tol, nfA_str, nfA_lst, okE_vrn, nfA_vrn, eq_tp, eq_ts]
        exact (hI _ _).mpr ⟨_, _, _, _, _, _, _, _, _, _, _, fun y hy => hl y (List.mem_cons_of_mem _ hy), rfl⟩
  · rintro fr hfr
    obtain ⟨a1, a2, a3, a4, a5, a6, a7, a8, a9, a10, a11, hl, rfl⟩ := (hI _ _).mp hfr
    simp [gAll, outsOf, fillA, lentP, lentS, setAll, nodupB, borOk, setF, isC, byT, enL, rngL, sat_ok, sat_bind, sat_noX, sat_sSeq, sat_sIf, sat_runF, sat_sFor, sat_sSet, sat_sEx, sat_sRet, thn_nx, thn_rt, thn_bk, thn_ct, br_mk, ret_nx, ret_rt, forK_mk, setK_mk, exK_mk, rtK_mk]
    exact hq
  · intro x hx
    obtain ⟨i, hi, rfl⟩ := List.mem_map.mp hx
    have := List.mem_range.mp hi
    exact ⟨i, rfl, by omega, by omega⟩
end K01

set_option maxHeartbeats 0
namespace K01
open PySem PySem.Spec PyProof.Rows L2 SK
abbrev RWx : PySem.W.OpenRow := PySem.W.OpenLaw.row PySem.Challenge.rw_shutlids_k01_things_made
abbrev qv : Program := PySem.W.view RWx.prog [38]
abbrev hk : PySem.W.Hook := hookX 6 ck dfs
def ob (s : PySem.W.SharedT) : AlX := obsXG 6 ck dfs (HandSHeadRun.getT s)
theorem ob_eq (s : PySem.W.SharedT) : ob s = hk.obs s.abs := obsXG_eq (HandSHeadRun.getT_eq s)
def names0 : List PySem.Str := ["_wall", "LidError", "NoThing", "LETTERS", "MOST_LETTERS", "is_whole", "is_number", "is_word", "is_row", "are_words", "MOST_WAYS", "MOST_LIDS", "MOST_ROUNDS", "are_ways", "is_due", "look_at", "Thing", "Part", "Fastening", "Tool", "Variant", "_law_pool", "_law_take", "_law_one", "_law_turned", "_law_ways", "_law_due", "_law_box", "_law_deeds", "_law_told_part"]
def names1 : List PySem.Str := ["_law_told_fastening", "_law_lists", "_law_parts_right", "_law_fastenings_right"]
def names : List PySem.Str := names0 ++ (names1)
theorem run (w : World) : HandSHeadRun.RunEq RWx qv hk ob 30000 names w := by
  intro os
  kernel_rfl
end K01

set_option maxHeartbeats 0
namespace K01
open PySem PySem.Spec PyProof.Rows L2 SK
theorem pure_law (ns : List Int) (hl : ns.length ≤ 63) : ∃ o, m_law [.scr ns] = .ok (.bl true, o) := by
  obtain ⟨_, e, rfl⟩ := law_ok ns
  exact ⟨_, e⟩
theorem facts {w : World} {K : PySem.W.Frag} {h : Heap} {mg : Str → Option Value} {f : Addr} (X : K.In h) (G : h.Ns mainGlobals mg) (hfa : mg ("law" : Str) = some (.ref f)) (c : SaysX ck dfs K) :
    ∃ fd : FuncData, (∀ (s : Shared) (v : Value), BindsTo s fd ⟨[v], []⟩ [("_law_script", v)]) ∧ ∀ base : Heap, K.In base → base.Ns mainGlobals mg → FnOk PR w K mg base CX0 7 f fd ["_law_script"] (spG K (TT K) [] [] false 1 m_law) := by
  have F : FK ck dfs K mg := ⟨⟨h, X, G⟩, c⟩
  have e := hfa.symm.trans (F.glo 71 (x := "law"))
  cases e
  obtain ⟨dvs, kws, FD, h1, _, _⟩ := c.def_ 28 (d := d_law)
  have e : dvs = [] := (h1 (TT K) ON (fun _ => none)).inv0
  subst e
  have b := FunD.bindsA (ps := ["_law_script"]) FD fun _ _ _ _ _ _ us hl => match us, hl with | [_], _ => rfl
  exact ⟨_, fun s v => b s [v] rfl, fun base _ _ => s_law (base := base) F⟩
end K01
open PySem PySem.W PySem.Calls PyProof.Rows
theorem PySem.Challenge.cw_shutlids_k01_things_made_holds : PySem.Challenge.rw_shutlids_k01_things_made.Holds := by
  w_on; o_law
  refine HandSHeadRun.head_any (r := OpenLaw.row PySem.Challenge.rw_shutlids_k01_things_made) (q := view (OpenLaw.row PySem.Challenge.rw_shutlids_k01_things_made).prog [38]) (H := K01.hk) (ob := K01.ob) (M := 30000) (loose := K01.names) (d := HandSHeadRun.topDef (OpenLaw.row PySem.Challenge.rw_shutlids_k01_things_made).prog 38) (kwd := []) K01.ob_eq
    (by kernel_rfl) (fun s => by kernel_rfl) K01.run (by kernel_rfl) (by kernel_rfl) (by kernel_rfl) (by rfl) (by first | assumption | decide +kernel) (by decide +kernel) ⟨rfl, rfl, rfl, rfl, rfl, by decide +kernel⟩ ?hw ?hc
  case hw => w_witness2
  case hc =>
    refine L2.walk_ofE (l := PySem.Challenge.rw_shutlids_k01_things_made) (n := 63) (k := 7) (x := "_law_script") (CX := L2.CX0) rfl (by decide) (by kernel_rfl) ⟨rfl, by decide, by decide⟩ ?F (fun _ _ _ _ z => z)
    intro w mg fa h Y G hmg0
    obtain ⟨K, KX, c⟩ := Y
    have hmg : mg ("law" : PySem.Str) = some (.ref fa) := by
      have e : (HandSHeadRun.topDef (OpenLaw.row PySem.Challenge.rw_shutlids_k01_things_made).prog 38).name = ("law" : PySem.Str) := by kernel_rfl
      rw [← e]
      exact hmg0
    obtain ⟨fd, hb, hF⟩ := K01.facts (w := w) KX G hmg c
    refine ⟨K, fd, SK.spG K (K01.TT K) [] [] false 1 K01.m_law, KX, hb, fun H a ns hl hO hS => ?_, hF⟩
    obtain ⟨o, hp⟩ := K01.pure_law ns hl
    exact SK.spG_law hS hp

