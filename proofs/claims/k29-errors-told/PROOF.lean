import PyProof.Rows.All
import Wide.All
import OpenK.AllK
import Wide.FinOn
import HandS.ForMost
import HandS.ForExc
import HandS.Flow
import HandS.ExcInit
import HandS.Star
import HandS.TryOnly
import HandS.Style
import HandS.Defaults
import HandS.MakeKw
import HandS.MakeKwOnly
import PyProof.NeKinds
import HandS.TupAny
import HandS.TupMul
import HandS.Text
import HandS.IsInst
import HandS.Iter
import HandS.Zip
import HandS.AnyAll
import HandS.DictComp
import HandS.Small
import HandS.WordsDict
import HandS.More
import HandS.SlotsOwn
import PyProof.Rows.StrMeet
import KE.KSuper
import HandS.ClsMeth
import HandS.Head0
import HandS.Head1
import HandS.Head2
import HandS.HeadEnd
import HandS.HeadHook1
import HandS.HeadHook2
import HandS.Words
import HandS.Strs
import HandS.HeadHook3
import KE.KeyNested
import KE.KDictCopyH
import KE.KDictZip
import HandS.SortRule
import KE.KSortTup
import KE.GoesNew
import KE.GoesMore
import HandS.ExcField
import HandS.ExcIs
import KE.KExcSuper
import PyProof.CallFns
import HandS.Lambda
import HandS.HeadWalk
import PyProof.ReprRoads
import HandS.Conv
import PySem.Challenge.RW_shutlids_k29_errors_told
set_option Elab.async false
set_option linter.all false
set_option maxRecDepth 100000
set_option maxHeartbeats 1000000
/-! SK1: values as trees, owners, the relation to the layer's heap, readings that are functions. -/
noncomputable section
namespace SK
open PySem L2

abbrev Sg := List Nat

inductive Val where
  | non | bl (b : Bool) | int (i : Int) | str (x : Sg)
  | tup (xs : List Val) | lst (xs : List Val)
  | dic (ks : List Val) (vs : List Val)
  | ins (c : Nat) (fs : List Nat) (vs : List Val)
  | scr (ns : List Int)
instance : Inhabited Val := ⟨.non⟩

/-- who owns a mutable object: a slot of the frame at hand, a field of such a slot's instance, somebody further out -/
inductive Ow where
  | sl (i : Nat) | fl (i f : Nat) | out | tmp
  deriving DecidableEq
abbrev Own := Addr → Option Ow

/-- the program's tables: classes, field names, which fields own their lists, constant dicts -/
structure Tb where
  cl : Nat → Addr
  nf : Nat
  fld : Nat → Str
  own : Nat → Nat → Bool
  kd : Addr → List (Key × V) → Prop

/-- the classes of exceptions have the numbers from here on -/
def EXC : Nat := 500000
/-- what a slot owned and gave away by value: it stands there still, to be read -/
def FRZ : Nat := 999999
def fz (v : Val) : Val := .ins FRZ [] [v]
def unfz : Val → Val
  | .ins c [] [v] => if c = FRZ then v else .ins c [] [v]
  | v => v
def isFz : Val → Bool
  | .ins c [] [_] => decide (c = FRZ)
  | _ => false
theorem unfz_not : ∀ {v : Val}, isFz v = false → unfz v = v
  | .ins c [] [v], h => by
    have : ¬ c = FRZ := of_decide_eq_false h
    exact if_neg this
  | .ins c [] [], _ => rfl
  | .ins c [] (_ :: _ :: _), _ => rfl
  | .ins c (_ :: _) vs, _ => rfl
  | .non, _ => rfl
  | .bl _, _ => rfl
  | .int _, _ => rfl
  | .str _, _ => rfl
  | .tup _, _ => rfl
  | .lst _, _ => rfl
  | .dic _ _, _ => rfl
  | .scr _, _ => rfl
theorem isFz_fz (v : Val) : isFz (fz v) = true := by simp [isFz, fz]
theorem unfz_fz (v : Val) : unfz (fz v) = v := by simp [unfz, fz]
def kVal : Key → Val
  | .inl i => .int i
  | .inr x => .str x.cps.toList

/-- what is there is o, or o locked (dicts alone may come to be locked) -/
def Sm (o : HO) (r : Option HO) : Prop := r = some o ∨ ∃ kvs ob, o = .dK kvs ∧ r = some (.frz ob (.dK kvs))
instance {o : HO} {r : Option HO} : Coe (r = some o) (Sm o r) := ⟨Or.inl⟩
def isDk : HO → Bool
  | .dK _ => true
  | _ => false
theorem Sm.eq {o : HO} {r : Option HO} (h : Sm o r) (hn : isDk o = false) : r = some o := by
  rcases h with h | ⟨kvs, ob, rfl, _⟩
  · exact h
  · cases hn
theorem Sm.ne {o : HO} {r : Option HO} (h : Sm o r) : r ≠ none := by
  rcases h with h | ⟨_, _, _, h⟩ <;> (rw [h]; intro z; cases z)
theorem Sm.some {o : HO} {r : Option HO} (h : Sm o r) : ∃ u, r = some u := by
  rcases h with h | ⟨_, _, _, h⟩ <;> exact ⟨_, h⟩
class NN (p : Prop) (r : outParam (Option HO)) : Prop where
  ne : p → r ≠ none
instance {o : HO} {r : Option HO} : NN (Sm o r) r := ⟨Sm.ne⟩
instance {o : HO} {r : Option HO} : NN (r = Option.some o) r := ⟨fun h z => by rw [z] at h; cases h⟩
theorem ne_of_none {p : Prop} {H : Hp} {a b : Addr} [i : NN p (H a)] (h : p) (h' : H b = none) : a ≠ b := fun z => i.ne h (by rw [z]; exact h')
theorem Sm.rd {kvs : List (Key × V)} {H : Hp} {a : Addr} (h : Sm (.dK kvs) (H a)) : Rd H a (.dK kvs) := by
  rcases h with h | ⟨k, ob, e, h⟩
  · exact .inl h
  · cases e; exact .inr ⟨_, h⟩

section
variable (K : PySem.W.Frag) (T : Tb) (O : Own) (H : Hp)

def TupAt (a : Addr) (vs : List V) : Prop := (H a = some (.tup vs) ∧ O a = none) ∨ (∀ H', SqT K H' a vs)
def LstAt (a : Addr) (vs : List V) : Prop := H a = some (.lst vs) ∧ O a = none
def ScrAt (a : Addr) (vs : List V) : Prop := (H a = some (.lst vs) ∧ O a = none) ∨ ((∃ o, H a = some (.frz o (.lst vs))) ∧ O a = none) ∨ (∀ H', SqL K H' a vs)
def DicAt (a : Addr) (kvs : List (Key × V)) : Prop := (Sm (.dK kvs) (H a) ∧ O a = none) ∨ T.kd a kvs
/-- the fields of an instance, by name -/
def FsR (fs : List Nat) (ws : List V) (fs' : List (Str × V)) : Prop := fs.length = ws.length ∧ fs'.length = fs.length ∧ (∀ g ∈ fs, g < T.nf) ∧ ∀ nm : Str, fs'.lookup nm = ((fs.map T.fld).zip ws).lookup nm

/-- an instance, or an exception that is held as a value -/
def InsAt (c : Nat) (a dx : Addr) (fs' : List (Str × V)) : Prop := (H a = some (.ins (T.cl c) dx fs') ∧ O a = none) ∨ (EXC ≤ c ∧ (H a = some (exo a (T.cl c) (some dx)) ∧ O a = none) ∧ H dx = some (exd dx fs') ∧ O dx = none)
mutual
def VR : Val → V → Prop
  | .non, x => x = .non
  | .bl b, x => x = .bl b
  | .int i, x => x = .int i
  | .str s, x => ∃ z : Str, x = .str z ∧ z.cps.toList = s
  | .tup xs, x => ∃ a vs, x = .ref a ∧ TupAt K O H a vs ∧ VRs xs vs
  | .lst xs, x => ∃ a vs, x = .ref a ∧ LstAt O H a vs ∧ VRs xs vs
  | .dic ks vs, x => ∃ a kvs, x = .ref a ∧ DicAt T O H a kvs ∧ ks = kvs.map (fun p => kVal p.1) ∧ VRs vs (kvs.map (·.2))
  | .ins c fs vs, x => ∃ a dx fs' ws, x = .ref a ∧ InsAt T O H c a dx fs' ∧ FsR T fs ws fs' ∧ VRs vs ws
  | .scr ns, x => ∃ a, x = .ref a ∧ ScrAt K O H a (ns.map V.int)
def VRs : List Val → List V → Prop
  | [], ys => ys = []
  | x :: xs, ys => ∃ y r, ys = y :: r ∧ VR x y ∧ VRs xs r
end

/-- a list or dict that ow owns -/
def OwL (ow : Ow) : Val → V → Prop
  | .lst xs, x => ∃ a vs, x = .ref a ∧ O a = some ow ∧ H a = some (.lst vs) ∧ VRs K T O H xs vs
  | .dic ks vs, x => ∃ a kvs, x = .ref a ∧ O a = some ow ∧ H a = some (.dK kvs) ∧ ks = kvs.map (fun p => kVal p.1) ∧ VRs K T O H vs (kvs.map (·.2))
  | _, _ => False
def FRs (c i : Nat) : List Nat → List Val → List V → Prop
  | f :: fs, v :: vs, w :: ws => (if T.own c f = true then OwL K T O H (.fl i f) v w else VR K T O H v w) ∧ FRs c i fs vs ws
  | [], [], [] => True
  | _, _, _ => False
/-- what slot i owns -/
def OwR (i : Nat) : Val → V → Prop
  | .ins c fs vs, x => ∃ a dx fs' ws, x = .ref a ∧ O a = some (.sl i) ∧ H a = some (.ins (T.cl c) dx fs') ∧ FsR T fs ws fs' ∧ FRs K T O H c i fs vs ws
  | v, x => OwL K T O H (.sl i) v x
/-- a list or dict by value, or lent to be read -/
def BoL (v : Val) (x : V) : Prop := VR K T O H v x ∨ OwL K T O H .out v x
def BFs (c : Nat) : List Nat → List Val → List V → Prop
  | f :: fs, v :: vs, w :: ws => (if T.own c f = true then BoL K T O H v w else VR K T O H v w) ∧ BFs c fs vs ws
  | [], [], [] => True
  | _, _, _ => False
def LdI : Val → V → Prop
  | .ins c fs vs, x => ∃ a dx fs' ws, x = .ref a ∧ O a = some .out ∧ H a = some (.ins (T.cl c) dx fs') ∧ FsR T fs ws fs' ∧ BFs K T O H c fs vs ws
  | _, _ => False
/-- a value, or a thing that is lent to be read -/
def BoR (v : Val) (x : V) : Prop := BoL K T O H v x ∨ LdI K T O H v x
/-- mu (BOR + i): the slot i is lent to be read -/
def BOR : Nat := 2000000
/-- the slot of what a def gives back, where that is owned -/
def RES : Nat := 1000000
/-- what a def gives back -/
def RsR (mu : Nat → Bool) (v : Val) (x : V) : Prop := if mu RES = true then OwR K T O H RES v x else VR K T O H v x
def SlR (mu : Nat → Bool) (i : Nat) (v : Val) (x : V) : Prop := if mu i = true then (if isFz v = true then VR K T O H (unfz v) x else OwR K T O H i v x) else if mu (BOR + i) = true then BoR K T O H v x else VR K T O H v x
end

abbrev Fr := List (Option Val)
structure Rl (K : PySem.W.Frag) (T : Tb) (mu : Nat → Bool) (io : List (Nat × V)) (O : Own) (fr : Fr) (σ : St) (H : Hp) : Prop where
  len : fr.length = σ.length
  sl : ∀ i v, fr[i]? = some (some v) → ∃ x, σ[i]? = some (some x) ∧ SlR K T O H mu i v x
  trk : ∀ a, O a ≠ none → H a ≠ none
  io : ∀ p ∈ io, σ[p.1]? = some (some p.2)

/-- what is nobody's (by value) stays; what is owned further out stays -/
structure Fm (O : Own) (H : Hp) (O' : Own) (H' : Hp) : Prop where
  byv : ∀ a o, Sm o (H a) → O a = none → Sm o (H' a) ∧ O' a = none
  out : ∀ a o, H a = some o → O a = some .out → H' a = some o ∧ O' a = some .out
  tmp : ∀ a o, H a = some o → O a = some .tmp → H' a = some o ∧ O' a = some .tmp
  no : ∀ a, O' a = some .out → O a = some .out
/-- what is nobody's stays so -/
def Fb (O : Own) (H : Hp) (O' : Own) (H' : Hp) : Prop := ∀ a o, Sm o (H a) → O a = none → Sm o (H' a) ∧ O' a = none
theorem Fm.b {O H O' H'} (f : Fm O H O' H') : Fb O H O' H' := f.byv
theorem Fb.refl (O : Own) (H : Hp) : Fb O H O H := fun _ _ h n => ⟨h, n⟩
theorem Fb.trans {O H O1 H1 O2 H2} (a : Fb O H O1 H1) (b : Fb O1 H1 O2 H2) : Fb O H O2 H2 := fun x o h n => let ⟨h1, n1⟩ := a x o h n; b x o h1 n1
theorem Fm.refl (O : Own) (H : Hp) : Fm O H O H := ⟨fun _ _ h n => ⟨h, n⟩, fun _ _ h n => ⟨h, n⟩, fun _ _ h n => ⟨h, n⟩, fun _ h => h⟩
theorem Fm.trans {O H O1 H1 O2 H2} (a : Fm O H O1 H1) (b : Fm O1 H1 O2 H2) : Fm O H O2 H2 :=
  ⟨fun x o h n => let ⟨h1, n1⟩ := a.byv x o h n; b.byv x o h1 n1, fun x o h n => let ⟨h1, n1⟩ := a.out x o h n; b.out x o h1 n1, fun x o h n => let ⟨h1, n1⟩ := a.tmp x o h n; b.tmp x o h1 n1, fun x h => a.no x (b.no x h)⟩
/-- the heap has grown -/
def Hx (H H' : Hp) : Prop := ∀ a o, H a = some o → H' a = some o
theorem Hx.refl (H : Hp) : Hx H H := fun _ _ h => h
theorem Hx.trans {H H1 H2} (a : Hx H H1) (b : Hx H1 H2) : Hx H H2 := fun x o h => b x o (a x o h)
theorem Hx.upd {H : Hp} {p : Addr} {o : HO} (h : H p = none) : Hx H (upd H p o) := fun a u e => by
  rw [upd_ne (ne_of_none e h)]; exact e
theorem Hx.sm {H H' : Hp} (h : Hx H H') {a : Addr} {o : HO} (e : Sm o (H a)) : Sm o (H' a) := by
  rcases e with e | ⟨k, ob, e1, e⟩
  · exact .inl (h a _ e)
  · exact .inr ⟨k, ob, e1, h a _ e⟩
theorem Hx.fm {O : Own} {H H' : Hp} (h : Hx H H') : Fm O H O H' := ⟨fun a o e n => ⟨h.sm e, n⟩, fun a o e n => ⟨h a o e, n⟩, fun a o e n => ⟨h a o e, n⟩, fun _ e => e⟩
theorem Hx.free {H H' : Hp} (h : Hx H H') {a : Addr} (e : H' a = none) : H a = none := by
  cases q : H a with
  | none => rfl
  | some o => rw [h a o q] at e; cases e

section
variable {K : PySem.W.Frag} {T : Tb} {O O' : Own} {H H' : Hp}
theorem TupAt.monoB (f : Fb O H O' H') {a vs} : TupAt K O H a vs → TupAt K O' H' a vs
  | .inl ⟨h, n⟩ => .inl (let ⟨x, y⟩ := f _ _ h n; ⟨x.eq rfl, y⟩)
  | .inr h => .inr h
theorem LstAt.monoB (f : Fb O H O' H') {a vs} : LstAt O H a vs → LstAt O' H' a vs
  | ⟨h, n⟩ => let ⟨x, y⟩ := f _ _ h n; ⟨x.eq rfl, y⟩
theorem ScrAt.monoB (f : Fb O H O' H') {a vs} : ScrAt K O H a vs → ScrAt K O' H' a vs
  | .inl ⟨h, n⟩ => .inl (let ⟨x, y⟩ := f _ _ h n; ⟨x.eq rfl, y⟩)
  | .inr (.inl ⟨⟨o, h⟩, n⟩) => .inr (.inl (let ⟨x, y⟩ := f _ _ h n; ⟨⟨o, x.eq rfl⟩, y⟩))
  | .inr (.inr h) => .inr (.inr h)
theorem DicAt.monoB (f : Fb O H O' H') {a kvs} : DicAt T O H a kvs → DicAt T O' H' a kvs
  | .inl ⟨h, n⟩ => .inl (f _ _ h n)
  | .inr h => .inr h
theorem InsAt.monoB (f : Fb O H O' H') {c a dx fs'} : InsAt T O H c a dx fs' → InsAt T O' H' c a dx fs'
  | .inl ⟨h, n⟩ => .inl (let ⟨x, y⟩ := f _ _ h n; ⟨x.eq rfl, y⟩)
  | .inr ⟨e, ⟨h, n⟩, h', n'⟩ => .inr ⟨e, let ⟨x, y⟩ := f _ _ h n; ⟨x.eq rfl, y⟩, let ⟨x, y⟩ := f _ _ h' n'; ⟨x.eq rfl, y⟩⟩
mutual
theorem VR.monoB (f : Fb O H O' H') : ∀ (v : Val) (x : V), VR K T O H v x → VR K T O' H' v x
  | .non, _, h => by unfold VR at h ⊢; exact h
  | .bl _, _, h => by unfold VR at h ⊢; exact h
  | .int _, _, h => by unfold VR at h ⊢; exact h
  | .str _, _, h => by unfold VR at h ⊢; exact h
  | .tup xs, x, h => by
    unfold VR at h ⊢
    obtain ⟨a, vs, e, t, r⟩ := h
    exact ⟨a, vs, e, t.monoB f, VRs.monoB f xs vs r⟩
  | .lst xs, x, h => by
    unfold VR at h ⊢
    obtain ⟨a, vs, e, t, r⟩ := h
    exact ⟨a, vs, e, t.monoB f, VRs.monoB f xs vs r⟩
  | .dic ks vs, x, h => by
    unfold VR at h ⊢
    obtain ⟨a, kvs, e, t, q, r⟩ := h
    exact ⟨a, kvs, e, t.monoB f, q, VRs.monoB f vs _ r⟩
  | .ins c fs vs, x, h => by
    unfold VR at h ⊢
    obtain ⟨a, dx, fs', ws, e, t, q, r⟩ := h
    exact ⟨a, dx, fs', ws, e, t.monoB f, q, VRs.monoB f vs _ r⟩
  | .scr ns, x, h => by
    unfold VR at h ⊢
    obtain ⟨a, e, t⟩ := h
    exact ⟨a, e, t.monoB f⟩
theorem VRs.monoB (f : Fb O H O' H') : ∀ (vs : List Val) (xs : List V), VRs K T O H vs xs → VRs K T O' H' vs xs
  | [], _, h => by unfold VRs at h ⊢; exact h
  | v :: vs, _, h => by
    unfold VRs at h ⊢
    obtain ⟨y, r, e, a, b⟩ := h
    exact ⟨y, r, e, VR.monoB f v y a, VRs.monoB f vs r b⟩
end
theorem TupAt.mono (f : Fm O H O' H') {a vs} (h : TupAt K O H a vs) : TupAt K O' H' a vs := h.monoB f.b
theorem LstAt.mono (f : Fm O H O' H') {a vs} (h : LstAt O H a vs) : LstAt O' H' a vs := h.monoB f.b
theorem DicAt.mono (f : Fm O H O' H') {a kvs} (h : DicAt T O H a kvs) : DicAt T O' H' a kvs := h.monoB f.b
theorem VR.mono (f : Fm O H O' H') (v : Val) (x : V) (h : VR K T O H v x) : VR K T O' H' v x := VR.monoB f.b v x h
theorem VRs.mono (f : Fm O H O' H') (v : List Val) (x : List V) (h : VRs K T O H v x) : VRs K T O' H' v x := VRs.monoB f.b v x h
theorem VRs.nil : VRs K T O H [] [] := by unfold VRs; rfl
theorem VRs.cons {v vs x xs} (a : VR K T O H v x) (b : VRs K T O H vs xs) : VRs K T O H (v :: vs) (x :: xs) := by
  unfold VRs; exact ⟨x, xs, rfl, a, b⟩
theorem VRs.inv {v vs xs} (h : VRs K T O H (v :: vs) xs) : ∃ y r, xs = y :: r ∧ VR K T O H v y ∧ VRs K T O H vs r := by
  unfold VRs at h; exact h
theorem VRs.inv0 {xs} (h : VRs K T O H [] xs) : xs = [] := by unfold VRs at h; exact h
theorem VRs.len : ∀ {vs xs}, VRs K T O H vs xs → vs.length = xs.length
  | [], _, h => by rw [h.inv0]; rfl
  | _ :: _, _, h => by obtain ⟨y, r, rfl, _, b⟩ := h.inv; rw [List.length_cons, List.length_cons, b.len]
theorem VRs.app : ∀ {vs xs ws ys}, VRs K T O H vs xs → VRs K T O H ws ys → VRs K T O H (vs ++ ws) (xs ++ ys)
  | [], _, _, _, h, g => by rw [h.inv0]; exact g
  | _ :: _, _, _, _, h, g => by obtain ⟨y, r, rfl, a, b⟩ := h.inv; exact .cons a (b.app g)
theorem VRs.get : ∀ {vs xs} {i : Nat} {v}, VRs K T O H vs xs → vs[i]? = some v → ∃ x, xs[i]? = some x ∧ VR K T O H v x
  | [], _, _, _, _, e => by simp at e
  | w :: _, _, 0, v, h, e => by
    obtain ⟨y, r, rfl, a, b⟩ := h.inv
    simp at e; subst e; exact ⟨y, rfl, a⟩
  | _ :: _, _, i + 1, v, h, e => by
    obtain ⟨y, r, rfl, a, b⟩ := h.inv
    simp at e
    obtain ⟨x, h1, h2⟩ := b.get e
    exact ⟨x, by simpa using h1, h2⟩
theorem VRs.getR : ∀ {vs xs} {i : Nat} {x}, VRs K T O H vs xs → xs[i]? = some x → ∃ v, vs[i]? = some v ∧ VR K T O H v x
  | [], _, _, _, h, e => by rw [h.inv0] at e; simp at e
  | w :: _, _, 0, v, h, e => by
    obtain ⟨y, r, rfl, a, b⟩ := h.inv
    simp at e; subst e; exact ⟨w, rfl, a⟩
  | _ :: _, _, i + 1, v, h, e => by
    obtain ⟨y, r, rfl, a, b⟩ := h.inv
    simp at e
    obtain ⟨x, h1, h2⟩ := b.getR e
    exact ⟨x, by simpa using h1, h2⟩
theorem VRs.take : ∀ {vs xs} (n : Nat), VRs K T O H vs xs → VRs K T O H (vs.take n) (xs.take n)
  | _, _, 0, _ => by simpa using VRs.nil
  | [], _, n + 1, h => by rw [h.inv0]; exact VRs.nil
  | _ :: _, _, n + 1, h => by obtain ⟨y, r, rfl, a, b⟩ := h.inv; exact .cons a (b.take n)
theorem VRs.drop : ∀ {vs xs} (n : Nat), VRs K T O H vs xs → VRs K T O H (vs.drop n) (xs.drop n)
  | _, _, 0, h => by simpa using h
  | [], _, n + 1, h => by rw [h.inv0]; exact VRs.nil
  | _ :: _, _, n + 1, h => by obtain ⟨y, r, rfl, a, b⟩ := h.inv; exact b.drop n
theorem VRs.rev : ∀ {vs xs}, VRs K T O H vs xs → VRs K T O H vs.reverse xs.reverse
  | [], _, h => by rw [h.inv0]; exact VRs.nil
  | _ :: _, _, h => by
    obtain ⟨y, r, rfl, a, b⟩ := h.inv
    rw [List.reverse_cons, List.reverse_cons]
    exact b.rev.app (.cons a .nil)
theorem VRs.set {v x} (r : VR K T O H v x) : ∀ {vs xs} (i : Nat), VRs K T O H vs xs → VRs K T O H (vs.set i v) (xs.set i x)
  | [], _, _, h => by rw [h.inv0]; exact VRs.nil
  | _ :: _, _, 0, h => by obtain ⟨y, q, rfl, a, b⟩ := h.inv; exact .cons r b
  | _ :: _, _, i + 1, h => by obtain ⟨y, q, rfl, a, b⟩ := h.inv; exact .cons a (b.set r i)

theorem OwL.monoB (ow : Ow) (f : Fb O H O' H') (hk : ∀ a o, H a = some o → O a = some ow → H' a = some o ∧ O' a = some ow) : ∀ {v x}, OwL K T O H ow v x → OwL K T O' H' ow v x
  | .lst xs, x, ⟨a, vs, e, o, h, r⟩ => let ⟨h', o'⟩ := hk a _ h o; ⟨a, vs, e, o', h', r.monoB f⟩
  | .dic ks ws, x, ⟨a, kvs, e, o, h, q, r⟩ => let ⟨h', o'⟩ := hk a _ h o; ⟨a, kvs, e, o', h', q, r.monoB f⟩
  | .non, _, h => h.elim
  | .bl _, _, h => h.elim
  | .int _, _, h => h.elim
  | .str _, _, h => h.elim
  | .tup _, _, h => h.elim
  | .ins _ _ _, _, h => h.elim
  | .scr _, _, h => h.elim
theorem FRs.monoB {c i : Nat} (f : Fb O H O' H') (hk : ∀ a o g, H a = some o → O a = some (.fl i g) → H' a = some o ∧ O' a = some (.fl i g)) : ∀ {fs vs ws}, FRs K T O H c i fs vs ws → FRs K T O' H' c i fs vs ws
  | [], [], [], _ => trivial
  | g :: fs, v :: vs, w :: ws, ⟨a, b⟩ => by
    refine ⟨?_, b.monoB f hk⟩
    by_cases h : T.own c g = true
    · rw [if_pos h] at a ⊢; exact OwL.monoB _ f (fun a o => hk a o g) a
    · rw [if_neg h] at a ⊢; exact VR.monoB f _ _ a
  | [], _ :: _, _, h => h.elim
  | [], [], _ :: _, h => h.elim
  | _ :: _, [], _, h => h.elim
  | _ :: _, _ :: _, [], h => h.elim
def ofSlot (i : Nat) (w : Ow) : Prop := w = .sl i ∨ ∃ g, w = .fl i g
theorem OwR.monoB {i : Nat} (f : Fb O H O' H') (hk : ∀ a o w, H a = some o → O a = some w → ofSlot i w → H' a = some o ∧ O' a = some w) : ∀ {v x}, OwR K T O H i v x → OwR K T O' H' i v x
  | .ins c fs vs, x, ⟨a, dx, fs', ws, e, o, h, q, r⟩ => let ⟨h', o'⟩ := hk a _ _ h o (.inl rfl); ⟨a, dx, fs', ws, e, o', h', q, r.monoB f fun a o g h n => hk a o _ h n (.inr ⟨g, rfl⟩)⟩
  | .lst xs, x, h => show OwL K T O' H' (.sl i) (.lst xs) x from OwL.monoB _ f (fun a o h n => hk a o _ h n (.inl rfl)) (show OwL K T O H (.sl i) (.lst xs) x from h)
  | .dic ks ws, x, h => show OwL K T O' H' (.sl i) (.dic ks ws) x from OwL.monoB _ f (fun a o h n => hk a o _ h n (.inl rfl)) (show OwL K T O H (.sl i) (.dic ks ws) x from h)
  | .non, _, h => h.elim
  | .bl _, _, h => h.elim
  | .int _, _, h => h.elim
  | .str _, _, h => h.elim
  | .tup _, _, h => h.elim
  | .scr _, _, h => h.elim
/-- what is lent stays -/
def Fo (O : Own) (H : Hp) (O' : Own) (H' : Hp) : Prop := ∀ a o, H a = some o → O a = some .out → H' a = some o ∧ O' a = some .out
theorem BoL.monoB (f : Fb O H O' H') (g : Fo O H O' H') {v x} (h : BoL K T O H v x) : BoL K T O' H' v x := by
  rcases h with h | h
  · exact .inl (h.monoB f)
  · exact .inr (OwL.monoB _ f (fun a o => g a o) h)
theorem BFs.monoB {c : Nat} (f : Fb O H O' H') (g : Fo O H O' H') : ∀ {fs vs ws}, BFs K T O H c fs vs ws → BFs K T O' H' c fs vs ws
  | [], [], [], _ => trivial
  | k :: fs, v :: vs, w :: ws, ⟨a, b⟩ => by
    refine ⟨?_, b.monoB f g⟩
    by_cases h : T.own c k = true
    · rw [if_pos h] at a ⊢; exact BoL.monoB f g a
    · rw [if_neg h] at a ⊢; exact VR.monoB f _ _ a
  | [], _ :: _, _, h => h.elim
  | [], [], _ :: _, h => h.elim
  | _ :: _, [], _, h => h.elim
  | _ :: _, _ :: _, [], h => h.elim
theorem LdI.monoB (f : Fb O H O' H') (g : Fo O H O' H') : ∀ {v x}, LdI K T O H v x → LdI K T O' H' v x
  | .ins c fs vs, x, ⟨a, dx, fs', ws, e, o, h, q, r⟩ => let ⟨h', o'⟩ := g a _ h o; ⟨a, dx, fs', ws, e, o', h', q, r.monoB f g⟩
  | .non, _, h => h.elim
  | .bl _, _, h => h.elim
  | .int _, _, h => h.elim
  | .str _, _, h => h.elim
  | .tup _, _, h => h.elim
  | .lst _, _, h => h.elim
  | .dic _ _, _, h => h.elim
  | .scr _, _, h => h.elim
theorem BoR.monoB (f : Fb O H O' H') (g : Fo O H O' H') {v x} (h : BoR K T O H v x) : BoR K T O' H' v x := by
  rcases h with h | h
  · exact .inl (h.monoB f g)
  · exact .inr (h.monoB f g)
theorem VR.nf : ∀ {v : Val} {x : V}, VR K T O H v x → isFz v = false
  | .ins c [] [v], x, h => by
    unfold VR at h
    obtain ⟨a, dx, fs', ws, e, t, q, r⟩ := h
    have h1 := q.1
    have h2 := r.len
    rw [← h1] at h2
    simp at h2
  | .ins c [] [], _, _ => rfl
  | .ins c [] (_ :: _ :: _), _, _ => rfl
  | .ins c (_ :: _) vs, _, _ => rfl
  | .non, _, _ => rfl
  | .bl _, _, _ => rfl
  | .int _, _, _ => rfl
  | .str _, _, _ => rfl
  | .tup _, _, _ => rfl
  | .lst _, _, _ => rfl
  | .dic _ _, _, _ => rfl
  | .scr _, _, _ => rfl
theorem OwL.nf {w : Ow} : ∀ {v : Val} {x : V}, OwL K T O H w v x → isFz v = false
  | .ins _ _ _, _, h => h.elim
  | .non, _, _ => rfl
  | .bl _, _, _ => rfl
  | .int _, _, _ => rfl
  | .str _, _, _ => rfl
  | .tup _, _, _ => rfl
  | .lst _, _, _ => rfl
  | .dic _ _, _, _ => rfl
  | .scr _, _, _ => rfl
theorem LdI.nf : ∀ {v : Val} {x : V}, LdI K T O H v x → isFz v = false
  | .ins c [] [v], x, ⟨a, dx, fs', ws, e, o, h, q, r⟩ => by cases ws <;> exact r.elim
  | .ins c [] [], _, _ => rfl
  | .ins c [] (_ :: _ :: _), _, _ => rfl
  | .ins c (_ :: _) vs, _, _ => rfl
  | .non, _, _ => rfl
  | .bl _, _, _ => rfl
  | .int _, _, _ => rfl
  | .str _, _, _ => rfl
  | .tup _, _, _ => rfl
  | .lst _, _, _ => rfl
  | .dic _ _, _, _ => rfl
  | .scr _, _, _ => rfl
theorem BoR.nf {v : Val} {x : V} (h : BoR K T O H v x) : isFz v = false := by
  rcases h with (h | h) | h
  · exact h.nf
  · exact h.nf
  · exact h.nf
theorem Fm.o (f : Fm O H O' H') : Fo O H O' H' := f.out
theorem SlR.monoB {mu : Nat → Bool} {i : Nat} (f : Fb O H O' H') (g : Fo O H O' H') (hk : mu i = true → ∀ a o w, H a = some o → O a = some w → ofSlot i w → H' a = some o ∧ O' a = some w) {v x} (h : SlR K T O H mu i v x) : SlR K T O' H' mu i v x := by
  unfold SlR at h ⊢
  by_cases m : mu i = true
  · rw [if_pos m] at h ⊢
    split at h
    · rename_i z; rw [if_pos z]; exact VR.monoB f _ _ h
    · rename_i z; rw [if_neg z]; exact OwR.monoB f (hk m) h
  · rw [if_neg m] at h ⊢
    by_cases b : mu (BOR + i) = true
    · rw [if_pos b] at h ⊢; exact BoR.monoB f g h
    · rw [if_neg b] at h ⊢; exact VR.monoB f _ _ h
theorem OwR.mono {i : Nat} (f : Fm O H O' H') (hk : ∀ a o w, H a = some o → O a = some w → ofSlot i w → H' a = some o ∧ O' a = some w) {v x} (h : OwR K T O H i v x) : OwR K T O' H' i v x := OwR.monoB f.b hk h
theorem SlR.mono {mu : Nat → Bool} {i : Nat} (f : Fm O H O' H') (hk : mu i = true → ∀ a o w, H a = some o → O a = some w → ofSlot i w → H' a = some o ∧ O' a = some w) {v x} (h : SlR K T O H mu i v x) : SlR K T O' H' mu i v x := SlR.monoB f.b f.o hk h
/-- another heap, other owners: what the slots own stands -/
theorem Rl.monoB {mu io fr σ} (r : Rl K T mu io O fr σ H) (f : Fb O H O' H') (g : Fo O H O' H') (hk : ∀ i, mu i = true → ∀ a o w, H a = some o → O a = some w → ofSlot i w → H' a = some o ∧ O' a = some w) (tr : ∀ a, O' a ≠ none → H' a ≠ none) : Rl K T mu io O' fr σ H' :=
  ⟨r.len, fun i v e => let ⟨x, e1, s⟩ := r.sl i v e; ⟨x, e1, SlR.monoB f g (hk i) s⟩, tr, r.io⟩
/-- the heap grows, the owners stay -/
theorem Rl.hx {mu io fr σ} (r : Rl K T mu io O fr σ H) (h : Hx H H') : Rl K T mu io O fr σ H' :=
  ⟨r.len, fun i v e => let ⟨x, e1, s⟩ := r.sl i v e; ⟨x, e1, SlR.mono h.fm (fun _ a o w e n _ => ⟨h a o e, n⟩) s⟩,
    fun a n q => r.trk a n (h.free q), r.io⟩
theorem Rl.val {mu io fr σ} (r : Rl K T mu io O fr σ H) {i v} (e : fr[i]? = some (some v)) (m : mu i = false) (b : mu (BOR + i) = false) : ∃ x, σ[i]? = some (some x) ∧ VR K T O H v x := by
  obtain ⟨x, e1, s⟩ := r.sl i v e
  unfold SlR at s
  rw [if_neg (by rw [m]; exact Bool.false_ne_true), if_neg (by rw [b]; exact Bool.false_ne_true)] at s
  exact ⟨x, e1, s⟩
theorem Rl.bor {mu io fr σ} (r : Rl K T mu io O fr σ H) {i v} (e : fr[i]? = some (some v)) (m : mu i = false) (b : mu (BOR + i) = true) : ∃ x, σ[i]? = some (some x) ∧ BoR K T O H v x := by
  obtain ⟨x, e1, s⟩ := r.sl i v e
  unfold SlR at s
  rw [if_neg (by rw [m]; exact Bool.false_ne_true), if_pos b] at s
  exact ⟨x, e1, s⟩
theorem Rl.owned {mu io fr σ} (r : Rl K T mu io O fr σ H) {i v} (e : fr[i]? = some (some v)) (m : mu i = true) (z : isFz v = false) : ∃ x, σ[i]? = some (some x) ∧ OwR K T O H i v x := by
  obtain ⟨x, e1, s⟩ := r.sl i v e
  unfold SlR at s
  rw [if_pos m, if_neg (by rw [z]; exact Bool.false_ne_true)] at s
  exact ⟨x, e1, s⟩
end

/-! ### results -/
inductive R (α : Type) where
  | ok (a : α) | exc (e : Val) | bad
/-- (by the recursor itself: the kernel runs these texts) -/
def R.bind {α β : Type} (r : R α) (f : α → R β) : R β := @R.rec α (fun _ => R β) f (fun e => .exc e) .bad r
def gF {α : Type} (l : List α) (i : Nat) : Option α := @List.rec α (fun _ => Nat → Option α) (fun _ => none) (fun x _ ih n => @Nat.rec (fun _ => Option α) (some x) (fun m _ => ih m) n) l i
def sF {α : Type} (l : List α) (i : Nat) (v : α) : List α := @List.rec α (fun _ => Nat → List α) (fun _ => []) (fun x xs ih n => @Nat.rec (fun _ => List α) (v :: xs) (fun m _ => x :: ih m) n) l i
theorem gF_eq {α : Type} : ∀ (l : List α) (i : Nat), gF l i = l[i]?
  | [], _ => rfl
  | _ :: _, 0 => rfl
  | _ :: l, i + 1 => gF_eq l i
theorem sF_eq {α : Type} : ∀ (l : List α) (i : Nat) (v : α), sF l i v = l.set i v
  | [], _, _ => rfl
  | _ :: _, 0, _ => rfl
  | x :: l, i + 1, v => congrArg (x :: ·) (sF_eq l i v)
@[simp] theorem R.bind_ok {α β} (a : α) (f : α → R β) : (R.ok a).bind f = f a := rfl
@[simp] theorem R.bind_exc {α β} (e : Val) (f : α → R β) : (R.exc e).bind f = .exc e := rfl
@[simp] theorem R.bind_bad {α β} (f : α → R β) : (R.bad).bind f = .bad := rfl
theorem R.bind_eq {α β} {r : R α} {f : α → R β} {b : β} (h : r.bind f = .ok b) : ∃ a, r = .ok a ∧ f a = .ok b := by
  cases r with
  | ok a => exact ⟨a, rfl, h⟩
  | exc e => cases h
  | bad => cases h
def ofO {α : Type} (o : Option α) : R α := @Option.rec α (fun _ => R α) .bad (fun a => .ok a) o

abbrev EM := Fr → R (Val × Fr)
abbrev TM := Fr → R (Bool × Fr)
abbrev AM := Fr → R (List Val × Fr)
inductive Fl where
  | nx | rt (v : Val) | bk | ct
abbrev SM := Fr → R (Fl × Fr)

/-- the exception e as a class, its own dict, a heap: its fields by value -/
def ExR (K : PySem.W.Frag) (T : Tb) (O : Own) (H : Hp) (e : Val) (cv : Value) (d : Option Addr) : Prop :=
  ∃ c fs vs ws fs' da, e = .ins c fs vs ∧ cv = .ref (T.cl c) ∧ d = some da ∧ H da = some (.xd fs') ∧ FsR T fs ws fs' ∧ VRs K T O H vs ws

section
variable (K : PySem.W.Frag) (T : Tb) (E : XK) (mu : Nat → Bool) (io : List (Nat × V))
/-- what follows an exception -/
def pEx (O : Own) (H : Hp) (e : Val) : Prop := ∀ O' H' c d, Fm O H O' H' → ExR K T O' H' e c d → E c d H'
def pE (O : Own) (σ : St) (H : Hp) (Q : VK) : R (Val × Fr) → Prop
  | .ok (v, fr') => ∀ O' H' x, Fm O H O' H' → Rl K T mu io O' fr' σ H' → VR K T O' H' v x → Q x H'
  | .exc e => pEx K T E O H e
  | .bad => False
def rE (m : EM) : TE := fun σ H Q => ∃ O fr, Rl K T mu io O fr σ H ∧ pE K T E mu io O σ H Q (m fr)
def pT (O : Own) (σ : St) (H : Hp) (Q : Bool → Hp → Prop) : R (Bool × Fr) → Prop
  | .ok (b, fr') => ∀ O' H', Fm O H O' H' → Rl K T mu io O' fr' σ H' → Q b H'
  | .exc e => pEx K T E O H e
  | .bad => False
def rT (m : TM) : TT := fun σ H Q => ∃ O fr, Rl K T mu io O fr σ H ∧ pT K T E mu io O σ H Q (m fr)
def pA (O : Own) (σ : St) (H : Hp) (Q : List V → Hp → Prop) : R (List Val × Fr) → Prop
  | .ok (vs, fr') => ∀ O' H' xs, Fm O H O' H' → Rl K T mu io O' fr' σ H' → VRs K T O' H' vs xs → Q xs H'
  | .exc e => pEx K T E O H e
  | .bad => False
def rA (m : AM) : TA := fun σ H Q => ∃ O fr, Rl K T mu io O fr σ H ∧ pA K T E mu io O σ H Q (m fr)
def pS (O : Own) (D : Ends) (H : Hp) : R (Fl × Fr) → Prop
  | .ok (.nx, fr') => ∀ O' H' σ', Fm O H O' H' → Rl K T mu io O' fr' σ' H' → D.nx σ' H'
  | .ok (.bk, fr') => ∀ O' H' σ', Fm O H O' H' → Rl K T mu io O' fr' σ' H' → D.bk σ' H'
  | .ok (.ct, fr') => ∀ O' H' σ', Fm O H O' H' → Rl K T mu io O' fr' σ' H' → D.ct σ' H'
  | .ok (.rt v, fr') => ∀ O' H' σ' x, Fm O H O' H' → Rl K T mu io O' fr' σ' H' → RsR K T O' H' mu v x → D.rt x H'
  | .exc e => pEx K T E O H e
  | .bad => False
def rS (m : SM) : TS := fun D σ H => ∃ O fr, Rl K T mu io O fr σ H ∧ pS K T E mu io O D H (m fr)
end

section
variable {K : PySem.W.Frag} {T : Tb} {E : XK} {mu : Nat → Bool} {io : List (Nat × V)} {O O1 : Own} {σ : St} {H H1 : Hp}
theorem pEx.back (f : Fm O H O1 H1) {e} (h : pEx K T E O H e) : pEx K T E O1 H1 e := fun O' H' c d g x => h O' H' c d (f.trans g) x
theorem pE.back (f : Fm O H O1 H1) {Q r} (h : pE K T E mu io O σ H Q r) : pE K T E mu io O1 σ H1 Q r := by
  cases r with
  | ok a => obtain ⟨v, fr'⟩ := a; exact fun O' H' x g => h O' H' x (f.trans g)
  | exc e => exact pEx.back f h
  | bad => exact h
theorem pT.back (f : Fm O H O1 H1) {Q r} (h : pT K T E mu io O σ H Q r) : pT K T E mu io O1 σ H1 Q r := by
  cases r with
  | ok a => obtain ⟨v, fr'⟩ := a; exact fun O' H' g => h O' H' (f.trans g)
  | exc e => exact pEx.back f h
  | bad => exact h
theorem pA.back (f : Fm O H O1 H1) {Q r} (h : pA K T E mu io O σ H Q r) : pA K T E mu io O1 σ H1 Q r := by
  cases r with
  | ok a => obtain ⟨v, fr'⟩ := a; exact fun O' H' x g => h O' H' x (f.trans g)
  | exc e => exact pEx.back f h
  | bad => exact h
theorem pS.back (f : Fm O H O1 H1) {D r} (h : pS K T E mu io O D H r) : pS K T E mu io O1 D H1 r := by
  cases r with
  | ok a =>
    obtain ⟨v, fr'⟩ := a
    cases v with
    | nx => exact fun O' H' s g => h O' H' s (f.trans g)
    | bk => exact fun O' H' s g => h O' H' s (f.trans g)
    | ct => exact fun O' H' s g => h O' H' s (f.trans g)
    | rt v => exact fun O' H' s x g => h O' H' s x (f.trans g)
  | exc e => exact pEx.back f h
  | bad => exact h
end
theorem PE.imp {X : Cx} {e : Expr} {t t' : TE} (h : PE X e t) (w : ∀ σ H Q, t' σ H Q → t σ H Q) : PE X e t' := ⟨fun pins s σ H Q I q => h.run pins s σ H Q I (w σ H Q q)⟩
theorem PT.imp {X : Cx} {e : Expr} {t t' : TT} (h : PT X e t) (w : ∀ σ H Q, t' σ H Q → t σ H Q) : PT X e t' := ⟨fun pins s σ H Q I q => h.run pins s σ H Q I (w σ H Q q)⟩
theorem PW.imp {X : Cx} {e : Expr} {t t' : TT} (h : PW X e t) (w : ∀ σ H Q, t' σ H Q → t σ H Q) : PW X e t' := ⟨fun whole pins s σ H Q I q => h.run whole pins s σ H Q I (w σ H Q q)⟩
theorem PA.imp {X : Cx} {e : List Expr} {t t' : TA} (h : PA X e t) (w : ∀ σ H Q, t' σ H Q → t σ H Q) : PA X e t' := ⟨fun p pins s σ H Q I q => h.run p pins s σ H Q I (w σ H Q q)⟩
theorem PS.imp {X : Cx} {e : Stmt} {t t' : TS} (h : PS X e t) (w : ∀ D σ H, t' D σ H → t D σ H) : PS X e t' := ⟨fun pins s σ H D I q => h.run pins s σ H D I (w D σ H q)⟩
theorem PSs.imp {X : Cx} {e : List Stmt} {t t' : TS} (h : PSs X e t) (w : ∀ D σ H, t' D σ H → t D σ H) : PSs X e t' := ⟨fun pins s σ H D I q => h.run pins s σ H D I (w D σ H q)⟩
end SK

set_option maxHeartbeats 1000000
/-! SK2: expressions, tests, argument lists, statements: the functions and their simulation. -/
noncomputable section
namespace SK
open PySem L2

/-- the parameters that are lent, where they stand -/
theorem io_ne {iop : List Nat} {vs : List V} {i : Nat} (h : iop.contains i = false) : ∀ p ∈ iop.map (fun j => (j, vs.getD j .non)), p.1 ≠ i := fun p hp e => by
  obtain ⟨j, hj, rfl⟩ := List.mem_map.mp hp
  have : iop.contains i = true := by rw [← e]; simpa using hj
  rw [h] at this; cases this
theorem io_ne2 {iop : List Nat} {vs : List V} {i k : Nat} (h : iop.contains i = false) (h2 : iop.contains k = false) : ∀ p ∈ iop.map (fun j => (j, vs.getD j .non)), p.1 ≠ i ∧ p.1 ≠ k := fun p hp => ⟨io_ne h p hp, io_ne h2 p hp⟩
theorem io_own {iop own : List Nat} {vs : List V} (h : iop.all (fun j => !own.contains j) = true) : ∀ p ∈ iop.map (fun j => (j, vs.getD j .non)), p.1 ∉ own := fun p hp e => by
  obtain ⟨j, hj, rfl⟩ := List.mem_map.mp hp
  have := List.all_eq_true.mp h j hj
  simp at this
  exact this e
/-! ### the functions -/
def eC (v : Val) : EM := fun fr => .ok (v, fr)
def eV (i : Nat) : EM := fun fr => match gF fr i with
  | some (some v) => .ok (v, fr)
  | _ => .bad
/-- the slot's own object is handed on by value; it is only read from now on -/
def eMv (i : Nat) : EM := fun fr => match gF fr i with
  | some (some v) => .ok (unfz v, sF fr i (some (fz (unfz v))))
  | _ => .bad
def e1 (f : Val → Option Val) (a : EM) : EM := fun fr => (a fr).bind fun x => (ofO (f x.1)).bind fun v => .ok (v, x.2)
def e2 (f : Val → Val → Option Val) (a b : EM) : EM := fun fr => (a fr).bind fun x => (b x.2).bind fun y => (ofO (f x.1 y.1)).bind fun v => .ok (v, y.2)
def truth : Val → Option Bool
  | .non => some false
  | .bl b => some b
  | .int i => some (i != 0)
  | .str s => if s.length ≤ 16777216 then some (!s.isEmpty) else none
  | .tup xs => some (!xs.isEmpty)
  | .lst xs => some (!xs.isEmpty)
  | .dic _ _ => none
  | .ins _ _ _ => none
  | .scr _ => none
def tV (a : EM) : TM := fun fr => (a fr).bind fun x => (ofO (truth x.1)).bind fun b => .ok (b, x.2)
def isB : Val → Option Bool
  | .bl b => some b
  | _ => none
def tBl (a : EM) : TM := fun fr => (a fr).bind fun x => (ofO (isB x.1)).bind fun b => .ok (b, x.2)
def tAn (a b : TM) : TM := fun fr => (a fr).bind fun x => if x.1 = true then b x.2 else .ok (false, x.2)
def tOr (a b : TM) : TM := fun fr => (a fr).bind fun x => if x.1 = true then .ok (true, x.2) else b x.2
def tNo (a : TM) : TM := fun fr => (a fr).bind fun x => .ok (!x.1, x.2)
def eIf (t : TM) (a b : EM) : EM := fun fr => (t fr).bind fun x => if x.1 = true then a x.2 else b x.2
def eAn (a b : EM) : EM := fun fr => (a fr).bind fun x => (ofO (truth x.1)).bind fun k => if k = true then b x.2 else .ok x
def eOr (a b : EM) : EM := fun fr => (a fr).bind fun x => (ofO (truth x.1)).bind fun k => if k = true then .ok x else b x.2
def eNo (a : EM) : EM := fun fr => (a fr).bind fun x => (ofO (truth x.1)).bind fun k => .ok (.bl (!k), x.2)
/-- a op b op' c -/
def eCh (f g : Val → Val → Option Val) (a b c : EM) : EM := fun fr => (a fr).bind fun x => (b x.2).bind fun y => (ofO (f x.1 y.1)).bind fun z => (ofO (isB z)).bind fun k =>
  if k = true then (c y.2).bind fun u => (ofO (g y.1 u.1)).bind fun v => .ok (v, u.2) else .ok (.bl false, y.2)
def aN : AM := fun fr => .ok ([], fr)
def aC (a : EM) (b : AM) : AM := fun fr => (a fr).bind fun x => (b x.2).bind fun y => .ok (x.1 :: y.1, y.2)
def seqOf : Val → Option (List Val)
  | .tup xs => some xs
  | .lst xs => some xs
  | _ => none
def aS (a : EM) (b : AM) : AM := fun fr => (a fr).bind fun x => (ofO (seqOf x.1)).bind fun xs => (b x.2).bind fun y => .ok (xs ++ y.1, y.2)
def lim : Nat := 16777216
def fits (n : Nat) : Option Unit := if n ≤ 16777216 then some () else none
def eTup (a : AM) : EM := fun fr => (a fr).bind fun x => (ofO (fits x.1.length)).bind fun _ => .ok (.tup x.1, x.2)
def eLst (a : AM) : EM := fun fr => (a fr).bind fun x => (ofO (fits x.1.length)).bind fun _ => .ok (.lst x.1, x.2)

def sNil : SM := fun fr => .ok (.nx, fr)
def sSeq (a b : SM) : SM := fun fr => (a fr).bind fun x => match x.1 with
  | .nx => b x.2
  | f => .ok (f, x.2)
def sEx (a : EM) : SM := fun fr => (a fr).bind fun x => .ok (.nx, x.2)
def sRet (a : EM) : SM := fun fr => (a fr).bind fun x => .ok (.rt x.1, x.2)
def sRetN : SM := fun fr => .ok (.rt .non, fr)
def sSet (i : Nat) (a : EM) : SM := fun fr => (a fr).bind fun x => .ok (.nx, sF x.2 i (some x.1))
def sIf (t : TM) (a b : SM) : SM := fun fr => (t fr).bind fun x => if x.1 = true then a x.2 else b x.2
def sBk : SM := fun fr => .ok (.bk, fr)
def sCt : SM := fun fr => .ok (.ct, fr)

/-! ### their simulation -/
section
variable {X : Cx} {T : Tb} {E : XK} {mu : Nat → Bool} {io : List (Nat × V)}
abbrev SE (X : Cx) (T : Tb) (E : XK) (mu : Nat → Bool) (io : List (Nat × V)) (e : Expr) (m : EM) : Prop := PE X e (rE X.K T E mu io m)
abbrev ST (X : Cx) (T : Tb) (E : XK) (mu : Nat → Bool) (io : List (Nat × V)) (e : Expr) (m : TM) : Prop := PT X e (rT X.K T E mu io m)
abbrev SW (X : Cx) (T : Tb) (E : XK) (mu : Nat → Bool) (io : List (Nat × V)) (e : Expr) (m : TM) : Prop := PW X e (rT X.K T E mu io m)
abbrev SA (X : Cx) (T : Tb) (E : XK) (mu : Nat → Bool) (io : List (Nat × V)) (es : List Expr) (m : AM) : Prop := PA X es (rA X.K T E mu io m)
abbrev SS (X : Cx) (T : Tb) (E : XK) (mu : Nat → Bool) (io : List (Nat × V)) (s : Stmt) (m : SM) : Prop := PS X s (rS X.K T E mu io m)
abbrev SSs (X : Cx) (T : Tb) (E : XK) (mu : Nat → Bool) (io : List (Nat × V)) (s : List Stmt) (m : SM) : Prop := PSs X s (rS X.K T E mu io m)

theorem se_c {v : Val} {x : V} {e : Expr} (h : PE X e (tC x)) (r : ∀ K T O H, VR K T O H v x) : SE X T E mu io e (eC v) :=
  PE.imp h fun σ H Q ⟨O, fr, R, q⟩ => q O H x (Fm.refl _ _) R (r _ _ _ _)
theorem se_int {i : Int} {j pos} : SE X T E mu io (.Constant (.int i) j pos) (eC (.int i)) := se_c pe_int fun _ _ _ _ => by unfold VR; rfl
theorem se_bl {b : Bool} {j pos} : SE X T E mu io (.Constant (.bool b) j pos) (eC (.bl b)) := se_c pe_bl fun _ _ _ _ => by unfold VR; rfl
theorem se_non {j pos} : SE X T E mu io (.Constant .none j pos) (eC .non) := se_c pe_non fun _ _ _ _ => by unfold VR; rfl
theorem se_str {x : Str} {s : Sg} {j pos} (h : x.cps.toList = s) : SE X T E mu io (.Constant (.str x) j pos) (eC (.str s)) := se_c pe_str fun _ _ _ _ => by unfold VR; exact ⟨x, rfl, h⟩
theorem se_v {i : Nat} {x : Str} {pos : Pos} (hN : X.N[i]? = some x := by rfl) (hv : Vis X.env.scope x := by first | exact .inl rfl | exact .inr (.inl rfl) | exact .inr (.inr rfl)) (hm : mu i = false := by rfl) (hb : mu (BOR + i) = false := by rfl) (hd : (x == ("__debug__" : Str)) = false := by decide) (hcd : (x == ("__classdict__" : Str)) = false := by decide) :
    SE X T E mu io (.Name x pos) (eV i) :=
  PE.imp (pe_var hN hv hd hcd) fun σ H Q ⟨O, fr, R, q⟩ => by
    unfold eV at q
    rw [gF_eq] at q
    split at q
    · rename_i v e
      obtain ⟨y, h1, h2⟩ := R.val e hm hb
      exact ⟨y, h1, q O H y (Fm.refl _ _) R h2⟩
    · exact q.elim
/-- a slot is emptied of what it owns: that is nobody's from now on -/
def freeSlot (O : Own) (i : Nat) : Own := fun a => match O a with
  | some (.sl j) => if j = i then none else some (.sl j)
  | some (.fl j g) => if j = i then none else some (.fl j g)
  | o => o
theorem freeSlot_fm (O : Own) (H : Hp) (i : Nat) : Fm O H (freeSlot O i) H := by
  refine ⟨fun a o h n => ⟨h, ?_⟩, fun a o h n => ⟨h, ?_⟩, fun a o h n => ⟨h, ?_⟩, fun a h => ?_⟩
  · unfold freeSlot; rw [n]
  · unfold freeSlot; rw [n]
  · unfold freeSlot; rw [n]
  · unfold freeSlot at h
    split at h
    · split at h
      · cases h
      · cases h
    · split at h
      · cases h
      · cases h
    · exact h
theorem freeSlot_ne {O : Own} {i j : Nat} (h : j ≠ i) {a w} (e : O a = some w) (o : ofSlot j w) : freeSlot O i a = some w := by
  unfold freeSlot
  rcases o with rfl | ⟨g, rfl⟩
  · rw [e]; exact if_neg h
  · rw [e]; exact if_neg h
theorem freeSlot_at {O : Own} {i : Nat} {a w} (e : O a = some w) (o : ofSlot i w) : freeSlot O i a = none := by
  unfold freeSlot
  rcases o with rfl | ⟨g, rfl⟩
  · rw [e]; exact if_pos rfl
  · rw [e]; exact if_pos rfl
theorem freeSlot_some {O : Own} {i : Nat} {a} (h : freeSlot O i a ≠ none) : O a ≠ none := by
  intro n; apply h; unfold freeSlot; rw [n]
section
variable {K : PySem.W.Frag} {O : Own} {H : Hp}
theorem OwL.freed {ow : Ow} {O' : Own} (f : Fm O H O' H) (hk : ∀ a, O a = some ow → O' a = none) : ∀ {v x}, OwL K T O H ow v x → VR K T O' H v x
  | .lst xs, x, ⟨a, vs, e, o, h, r⟩ => by unfold VR; exact ⟨a, vs, e, ⟨h, hk a o⟩, r.mono f⟩
  | .dic ks ws, x, ⟨a, kvs, e, o, h, q, r⟩ => by unfold VR; exact ⟨a, kvs, e, .inl ⟨h, hk a o⟩, q, r.mono f⟩
  | .non, _, h => h.elim
  | .bl _, _, h => h.elim
  | .int _, _, h => h.elim
  | .str _, _, h => h.elim
  | .tup _, _, h => h.elim
  | .ins _ _ _, _, h => h.elim
  | .scr _, _, h => h.elim
theorem FRs.freed {c i : Nat} {O' : Own} (f : Fm O H O' H) (hk : ∀ a g, O a = some (.fl i g) → O' a = none) : ∀ {fs vs ws}, FRs K T O H c i fs vs ws → VRs K T O' H vs ws
  | [], [], [], _ => VRs.nil
  | g :: fs, v :: vs, w :: ws, ⟨a, b⟩ => by
    refine VRs.cons ?_ (b.freed f hk)
    by_cases h : T.own c g = true
    · rw [if_pos h] at a; exact OwL.freed f (fun a => hk a g) a
    · rw [if_neg h] at a; exact VR.mono f _ _ a
  | [], _ :: _, _, h => h.elim
  | [], [], _ :: _, h => h.elim
  | _ :: _, [], _, h => h.elim
  | _ :: _, _ :: _, [], h => h.elim
theorem OwR.freed {i : Nat} {O' : Own} (f : Fm O H O' H) (hk : ∀ a w, O a = some w → ofSlot i w → O' a = none) : ∀ {v x}, OwR K T O H i v x → VR K T O' H v x
  | .ins c fs vs, x, ⟨a, dx, fs', ws, e, o, h, q, r⟩ => by
    unfold VR
    exact ⟨a, dx, fs', ws, e, .inl ⟨h, hk a _ o (.inl rfl)⟩, q, r.freed f fun a g n => hk a _ n (.inr ⟨g, rfl⟩)⟩
  | .lst xs, x, h => OwL.freed f (fun a n => hk a _ n (.inl rfl)) (show OwL K T O H (.sl i) (.lst xs) x from h)
  | .dic ks ws, x, h => OwL.freed f (fun a n => hk a _ n (.inl rfl)) (show OwL K T O H (.sl i) (.dic ks ws) x from h)
  | .non, _, h => h.elim
  | .bl _, _, h => h.elim
  | .int _, _, h => h.elim
  | .str _, _, h => h.elim
  | .tup _, _, h => h.elim
  | .scr _, _, h => h.elim
theorem Rl.freed {fr σ} {i : Nat} (R : Rl K T mu io O fr σ H) : Rl K T mu io (freeSlot O i) (fr.set i none) σ H := by
  refine ⟨by rw [List.length_set]; exact R.len, fun j v e => ?_, fun a n => R.trk a (freeSlot_some n), R.io⟩
  by_cases h : j = i
  · subst h
    rw [List.getElem?_set] at e
    split at e
    · split at e <;> simp at e
    · rename_i n; exact absurd rfl n
  · rw [List.getElem?_set_ne (fun z => h z.symm)] at e
    obtain ⟨x, h1, h2⟩ := R.sl j v e
    exact ⟨x, h1, h2.mono (freeSlot_fm O H i) fun _ a o w e n z => ⟨e, freeSlot_ne h n z⟩⟩
theorem lt_of_get {fr : Fr} {i : Nat} {v : Option Val} (e : fr[i]? = some v) : i < fr.length := (List.getElem?_eq_some_iff.mp e).1
theorem Rl.give {fr σ} {i : Nat} {v : Val} (R : Rl K T mu io O fr σ H) (e : fr[i]? = some (some v)) (hm : mu i = true) : ∃ x, σ[i]? = some (some x) ∧ VR K T (freeSlot O i) H (unfz v) x := by
  obtain ⟨x, h1, h2⟩ := R.sl i v e
  unfold SlR at h2
  rw [if_pos hm] at h2
  refine ⟨x, h1, ?_⟩
  split at h2
  · exact h2.mono (freeSlot_fm O H i)
  · rename_i z
    rw [unfz_not (by simpa using z)]
    exact OwR.freed (freeSlot_fm O H i) (fun a w e o => freeSlot_at e o) h2
theorem Rl.froz {fr σ} {i : Nat} {w : Val} {x : V} (R : Rl K T mu io O fr σ H) (hs : σ[i]? = some (some x)) (hm : mu i = true) (hi : i < fr.length) (h : VR K T (freeSlot O i) H w x) : Rl K T mu io (freeSlot O i) (fr.set i (some (fz w))) σ H := by
  refine ⟨by rw [List.length_set]; exact R.len, fun j v e => ?_, fun a n => R.trk a (freeSlot_some n), R.io⟩
  by_cases z : j = i
  · subst z
    rw [List.getElem?_set, if_pos rfl, if_pos hi] at e
    cases e
    refine ⟨x, hs, ?_⟩
    unfold SlR
    rw [if_pos hm, if_pos (isFz_fz w), unfz_fz]
    exact h
  · rw [List.getElem?_set_ne (fun q => z q.symm)] at e
    obtain ⟨y, h1, h2⟩ := R.sl j v e
    exact ⟨y, h1, h2.mono (freeSlot_fm O H i) fun _ a o w e n q => ⟨e, freeSlot_ne z n q⟩⟩
end
theorem se_mv {i : Nat} {x : Str} {pos : Pos} (hN : X.N[i]? = some x := by rfl) (hv : Vis X.env.scope x := by first | exact .inl rfl | exact .inr (.inl rfl) | exact .inr (.inr rfl)) (hm : mu i = true := by rfl) (hd : (x == ("__debug__" : Str)) = false := by decide) (hcd : (x == ("__classdict__" : Str)) = false := by decide) :
    SE X T E mu io (.Name x pos) (eMv i) :=
  PE.imp (pe_var hN hv hd hcd) fun σ H Q ⟨O, fr, R, q⟩ => by
    unfold eMv at q
    simp only [gF_eq, sF_eq] at q
    split at q
    · rename_i v e
      obtain ⟨y, h1, h2⟩ := R.give e hm
      exact ⟨y, h1, q _ H y (freeSlot_fm O H i) (R.froz h1 hm (lt_of_get e) h2) h2⟩
    · exact q.elim

/-! ### operations on values -/
/-- a one- or two-place operation on values: it makes things at most -/
def rV (K : PySem.W.Frag) (T : Tb) (O : Own) (H : Hp) (Q : VK) : Option Val → Prop
  | some v => ∀ H' x, Hx H H' → VR K T O H' v x → Q x H'
  | none => False
def r2 (K : PySem.W.Frag) (T : Tb) (f : Val → Val → Option Val) : R2 := fun x y H Q => ∃ O a b, (∀ p, O p ≠ none → H p ≠ none) ∧ VR K T O H a x ∧ VR K T O H b y ∧ rV K T O H Q (f a b)
def r1 (K : PySem.W.Frag) (T : Tb) (f : Val → Option Val) : V → Hp → VK → Prop := fun x H Q => ∃ O a, (∀ p, O p ≠ none → H p ≠ none) ∧ VR K T O H a x ∧ rV K T O H Q (f a)
def rN (K : PySem.W.Frag) (T : Tb) (f : List Val → Option Val) : List V → Hp → VK → Prop := fun xs H Q => ∃ O as, (∀ p, O p ≠ none → H p ≠ none) ∧ VRs K T O H as xs ∧ rV K T O H Q (f as)

variable {a b c : Expr} {ma mb mc : EM} {pos : Pos}
theorem e2_imp {f : Val → Val → Option Val} {σ : St} {H : Hp} {Q : VK} {K : PySem.W.Frag} (h : rE K T E mu io (e2 f ma mb) σ H Q) : tOp (r2 K T f) (rE K T E mu io ma) (rE K T E mu io mb) σ H Q := by
  obtain ⟨O, fr, R, q⟩ := h
  unfold e2 at q
  refine ⟨O, fr, R, ?_⟩
  cases h1 : ma fr with
  | bad => rw [h1] at q; exact q
  | exc e => rw [h1] at q; exact q
  | ok p =>
    obtain ⟨x, fr1⟩ := p
    rw [h1] at q
    intro O1 H1 x' F1 R1 V1
    refine ⟨O1, fr1, R1, ?_⟩
    simp only [SK.R.bind_ok] at q
    cases h2 : mb fr1 with
    | bad => rw [h2] at q; exact q
    | exc e => rw [h2] at q; exact pEx.back F1 q
    | ok p =>
      obtain ⟨y, fr2⟩ := p
      rw [h2] at q
      intro O2 H2 y' F2 R2 V2
      refine ⟨O2, x, y, R2.trk, VR.mono F2 _ _ V1, V2, ?_⟩
      simp only [SK.R.bind_ok] at q
      cases h3 : f x y with
      | none => rw [h3] at q; exact q
      | some v =>
        rw [h3] at q
        intro H3 z X3 V3
        exact q O2 H3 z ((F1.trans F2).trans X3.fm) (R2.hx X3) V3
theorem se_op {op : Operator} {f : Val → Val → Option Val} (ho : OpR X (binaryOp op) (r2 X.K T f)) (ha : SE X T E mu io a ma) (hb : SE X T E mu io b mb) : SE X T E mu io (.BinOp a op b pos) (e2 f ma mb) :=
  PE.imp (pe_op ho ha hb) fun σ H Q h => e2_imp h
theorem se_cmp {op : CmpOp} {f : Val → Val → Option Val} (ho : OpR X (compareOp op) (r2 X.K T f)) (ha : SE X T E mu io a ma) (hb : SE X T E mu io b mb) (hm : behindInMarks op b = false := by first | exact nomark _ | with_unfolding_all rfl) : SE X T E mu io (.Compare a [op] [b] pos) (e2 f ma mb) :=
  PE.imp (pe_cmpR ho ha hb hm) fun σ H Q h => e2_imp h
theorem tBl_imp {m : EM} {σ : St} {H : Hp} {Q : Bool → Hp → Prop} {K : PySem.W.Frag} (h : rT K T E mu io (tBl m) σ H Q) : tTest (rE K T E mu io m) σ H Q := by
  obtain ⟨O, fr, R, q⟩ := h
  unfold tBl at q
  refine ⟨O, fr, R, ?_⟩
  cases h1 : m fr with
  | bad => rw [h1] at q; exact q
  | exc e => rw [h1] at q; exact q
  | ok p =>
    obtain ⟨x, fr1⟩ := p
    rw [h1] at q
    intro O1 H1 x' F1 R1 V1
    simp only [SK.R.bind_ok] at q
    cases x with
    | bl b => unfold VR at V1; exact ⟨b, V1, q O1 H1 F1 R1⟩
    | _ => exact q.elim
theorem tOp_tTest {r : R2} {ta tb ta' : TE} (h : ∀ σ H Q, ta' σ H Q → tOp r ta tb σ H Q) {σ H} {Q : Bool → Hp → Prop} (q : tTest ta' σ H Q) : tTest (tOp r ta tb) σ H Q := h σ H _ q
theorem st_cmp {op : CmpOp} {f : Val → Val → Option Val} (ho : OpR X (compareOp op) (r2 X.K T f)) (ha : SE X T E mu io a ma) (hb : SE X T E mu io b mb) (hm : behindInMarks op b = false := by first | exact nomark _ | with_unfolding_all rfl) : ST X T E mu io (.Compare a [op] [b] pos) (tBl (e2 f ma mb)) :=
  PT.imp (pt_cmpR ho ha hb hm) fun σ H Q h => tOp_tTest (fun _ _ _ => e2_imp) (tBl_imp h)
theorem e1_imp {f : Val → Option Val} {σ : St} {H : Hp} {Q : VK} {K : PySem.W.Frag} (h : rE K T E mu io (e1 f ma) σ H Q) : tUn (r1 K T f) (rE K T E mu io ma) σ H Q := by
  obtain ⟨O, fr, R, q⟩ := h
  unfold e1 at q
  refine ⟨O, fr, R, ?_⟩
  cases h1 : ma fr with
  | bad => rw [h1] at q; exact q
  | exc e => rw [h1] at q; exact q
  | ok p =>
    obtain ⟨x, fr1⟩ := p
    rw [h1] at q
    intro O1 H1 x' F1 R1 V1
    refine ⟨O1, x, R1.trk, V1, ?_⟩
    simp only [SK.R.bind_ok] at q
    cases h3 : f x with
    | none => rw [h3] at q; exact q
    | some v =>
      rw [h3] at q
      intro H3 z X3 V3
      exact q O1 H3 z (F1.trans X3.fm) (R1.hx X3) V3
theorem se_un {op : UnaryOp} {f : Val → Option Val} (ho : UnR X (unaryOp op) (r1 X.K T f)) (ha : SE X T E mu io a ma) : SE X T E mu io (.UnaryOp op a pos) (e1 f ma) :=
  PE.imp (pe_un ho ha) fun σ H Q h => e1_imp h
/-! ### truth -/
theorem truth_ok {K : PySem.W.Frag} {O : Own} {H : Hp} {v : Val} {x : V} {k : Bool} (h : VR K T O H v x) (e : truth v = some k) : TruV K x H k := by
  cases v with
  | non => unfold VR at h; subst h; exact (Option.some.inj e).symm
  | bl b => unfold VR at h; subst h; exact (Option.some.inj e).symm
  | int i => unfold VR at h; subst h; exact (Option.some.inj e).symm
  | str s =>
    unfold VR at h
    obtain ⟨z, rfl, hz⟩ := h
    subst hz
    simp only [truth] at e
    split at e
    · rename_i hl
      rw [Array.length_toList] at hl
      refine ⟨by rw [show sizeLine = 16777216 from rfl]; exact hl, ?_⟩
      rw [← Option.some.inj e]
      show (!z.cps.toList.isEmpty) = ((z.cps.size : Int) != 0)
      cases hq : z.cps.toList with
      | nil =>
        have : z.cps.size = 0 := by rw [← Array.length_toList, hq]; rfl
        rw [this]; rfl
      | cons u us =>
        have : z.cps.size = us.length + 1 := by rw [← Array.length_toList, hq]; rfl
        rw [this]
        simp
        omega
    · cases e
  | tup xs =>
    unfold VR at h
    obtain ⟨p, vs, rfl, t, r⟩ := h
    refine .inr (.inl ⟨vs, ?_, ?_⟩)
    · rcases t with ⟨h, _⟩ | h
      · exact SqT.of h
      · exact h H
    · have := r.len
      rw [← Option.some.inj e]
      cases xs <;> cases vs <;> simp at this ⊢
  | lst xs =>
    unfold VR at h
    obtain ⟨p, vs, rfl, t, r⟩ := h
    refine .inl ⟨vs, ?_, ?_⟩
    · exact SqL.of t.1
    · have := r.len
      rw [← Option.some.inj e]
      cases xs <;> cases vs <;> simp at this ⊢
  | dic ks vs => cases e
  | ins c fs vs => cases e
  | scr ns => cases e
theorem tV_imp {m : EM} {σ : St} {H : Hp} {Q : Bool → Hp → Prop} {K : PySem.W.Frag} (h : rT K T E mu io (tV m) σ H Q) : rE K T E mu io m σ H fun x H' => ∃ k, TruV K x H' k ∧ Q k H' := by
  obtain ⟨O, fr, rl, q⟩ := h
  unfold tV at q
  refine ⟨O, fr, rl, ?_⟩
  cases h1 : m fr with
  | bad => rw [h1] at q; exact q
  | exc e => rw [h1] at q; exact q
  | ok p =>
    obtain ⟨x, fr1⟩ := p
    rw [h1] at q
    intro O1 H1 x' F1 R1 V1
    simp only [SK.R.bind_ok] at q
    cases h2 : truth x with
    | none => rw [h2] at q; exact q.elim
    | some k => rw [h2] at q; exact ⟨k, truth_ok V1 h2, q O1 H1 F1 R1⟩
theorem st_v (ha : SE X T E mu io a ma) (he : ∀ whole, isTrue a X.env whole = (do let v ← whole; standAt a.pos; holding [v] (truthy v)) := by intro _; rfl) : ST X T E mu io a (tV ma) :=
  PT.imp (pt_truth ha he) fun σ H Q h => tV_imp h
variable {ta tb : TM} {rest : List Expr}
theorem sw_and1 (ha : ST X T E mu io a ta) : SW X T E mu io (.BoolOp .And [a] pos) ta := pw_and1 ha
theorem sw_or1 (ha : ST X T E mu io a ta) : SW X T E mu io (.BoolOp .Or [a] pos) ta := pw_or1 ha
theorem tAn_imp {σ : St} {H : Hp} {Q : Bool → Hp → Prop} {K : PySem.W.Frag} (h : rT K T E mu io (tAn ta tb) σ H Q) : tAnd (rT K T E mu io ta) (rT K T E mu io tb) σ H Q := by
  obtain ⟨O, fr, rl, q⟩ := h
  unfold tAn at q
  refine ⟨O, fr, rl, ?_⟩
  cases h1 : ta fr with
  | bad => rw [h1] at q; exact q
  | exc e => rw [h1] at q; exact q
  | ok p =>
    obtain ⟨k, fr1⟩ := p
    rw [h1] at q
    intro O1 H1 F1 R1
    simp only [SK.R.bind_ok] at q
    cases k with
    | true => exact ⟨O1, fr1, R1, pT.back F1 (by simpa using q)⟩
    | false => exact q O1 H1 F1 R1
theorem tOr_imp {σ : St} {H : Hp} {Q : Bool → Hp → Prop} {K : PySem.W.Frag} (h : rT K T E mu io (tOr ta tb) σ H Q) : L2.tOr (rT K T E mu io ta) (rT K T E mu io tb) σ H Q := by
  obtain ⟨O, fr, rl, q⟩ := h
  unfold tOr at q
  refine ⟨O, fr, rl, ?_⟩
  cases h1 : ta fr with
  | bad => rw [h1] at q; exact q
  | exc e => rw [h1] at q; exact q
  | ok p =>
    obtain ⟨k, fr1⟩ := p
    rw [h1] at q
    intro O1 H1 F1 R1
    simp only [SK.R.bind_ok] at q
    cases k with
    | true => exact q O1 H1 F1 R1
    | false => exact ⟨O1, fr1, R1, pT.back F1 (by simpa using q)⟩
theorem tNo_imp {σ : St} {H : Hp} {Q : Bool → Hp → Prop} {K : PySem.W.Frag} (h : rT K T E mu io (tNo ta) σ H Q) : tNot (rT K T E mu io ta) σ H Q := by
  obtain ⟨O, fr, rl, q⟩ := h
  unfold tNo at q
  refine ⟨O, fr, rl, ?_⟩
  cases h1 : ta fr with
  | bad => rw [h1] at q; exact q
  | exc e => rw [h1] at q; exact q
  | ok p =>
    obtain ⟨k, fr1⟩ := p
    rw [h1] at q
    exact q
theorem sw_and (ha : ST X T E mu io a ta) (hb : SW X T E mu io (.BoolOp .And (b :: rest) pos) tb) : SW X T E mu io (.BoolOp .And (a :: b :: rest) pos) (tAn ta tb) :=
  PW.imp (pw_and ha hb) fun σ H Q h => tAn_imp h
theorem sw_or (ha : ST X T E mu io a ta) (hb : SW X T E mu io (.BoolOp .Or (b :: rest) pos) tb) : SW X T E mu io (.BoolOp .Or (a :: b :: rest) pos) (tOr ta tb) :=
  PW.imp (pw_or ha hb) fun σ H Q h => tOr_imp h
theorem st_w {ta : TM} (h : SW X T E mu io a ta) : ST X T E mu io a ta := PW.pt h
theorem st_not (ha : ST X T E mu io a ta) : ST X T E mu io (.UnaryOp .Not a pos) (tNo ta) := PT.imp (pt_not ha) fun σ H Q h => tNo_imp h
theorem se_if {t : TM} (hc : ST X T E mu io c t) (ha : SE X T E mu io a ma) (hb : SE X T E mu io b mb) : SE X T E mu io (.IfExp c a b pos) (eIf t ma mb) :=
  PE.imp (pe_ifExp hc ha hb) fun σ H Q ⟨O, fr, rl, q⟩ => by
    unfold eIf at q
    refine ⟨O, fr, rl, ?_⟩
    cases h1 : t fr with
    | bad => rw [h1] at q; exact q
    | exc e => rw [h1] at q; exact q
    | ok p =>
      obtain ⟨k, fr1⟩ := p
      rw [h1] at q
      intro O1 H1 F1 R1
      simp only [SK.R.bind_ok] at q
      cases k with
      | true => exact ⟨O1, fr1, R1, pE.back F1 (by simpa using q)⟩
      | false => exact ⟨O1, fr1, R1, pE.back F1 (by simpa using q)⟩
theorem se_one {op : BoolOp} (h : SE X T E mu io a ma) : SE X T E mu io (.BoolOp op [a] pos) ma := pe_one h
theorem se_and (ha : SE X T E mu io a ma) (hb : SE X T E mu io (.BoolOp .And (b :: rest) pos) mb) : SE X T E mu io (.BoolOp .And (a :: b :: rest) pos) (eAn ma mb) :=
  PE.imp (pe_andT ha hb) fun σ H Q ⟨O, fr, rl, q⟩ => by
    unfold eAn at q
    refine ⟨O, fr, rl, ?_⟩
    cases h1 : ma fr with
    | bad => rw [h1] at q; exact q
    | exc e => rw [h1] at q; exact q
    | ok p =>
      obtain ⟨x, fr1⟩ := p
      rw [h1] at q
      intro O1 H1 x' F1 R1 V1
      simp only [SK.R.bind_ok] at q
      cases h2 : truth x with
      | none => rw [h2] at q; exact q.elim
      | some k =>
        rw [h2] at q
        refine ⟨k, truth_ok V1 h2, ?_⟩
        cases k with
        | true => exact ⟨O1, fr1, R1, pE.back F1 (by simpa [ofO] using q)⟩
        | false => exact q O1 H1 x' F1 R1 V1
theorem se_or (ha : SE X T E mu io a ma) (hb : SE X T E mu io (.BoolOp .Or (b :: rest) pos) mb) : SE X T E mu io (.BoolOp .Or (a :: b :: rest) pos) (eOr ma mb) :=
  PE.imp (pe_orT ha hb) fun σ H Q ⟨O, fr, rl, q⟩ => by
    unfold eOr at q
    refine ⟨O, fr, rl, ?_⟩
    cases h1 : ma fr with
    | bad => rw [h1] at q; exact q
    | exc e => rw [h1] at q; exact q
    | ok p =>
      obtain ⟨x, fr1⟩ := p
      rw [h1] at q
      intro O1 H1 x' F1 R1 V1
      simp only [SK.R.bind_ok] at q
      cases h2 : truth x with
      | none => rw [h2] at q; exact q.elim
      | some k =>
        rw [h2] at q
        refine ⟨k, truth_ok V1 h2, ?_⟩
        cases k with
        | true => exact q O1 H1 x' F1 R1 V1
        | false => exact ⟨O1, fr1, R1, pE.back F1 (by simpa [ofO] using q)⟩
theorem se_not (ha : SE X T E mu io a ma) : SE X T E mu io (.UnaryOp .Not a pos) (eNo ma) :=
  PE.imp (pe_notT ha) fun σ H Q ⟨O, fr, rl, q⟩ => by
    unfold eNo at q
    refine ⟨O, fr, rl, ?_⟩
    cases h1 : ma fr with
    | bad => rw [h1] at q; exact q
    | exc e => rw [h1] at q; exact q
    | ok p =>
      obtain ⟨x, fr1⟩ := p
      rw [h1] at q
      intro O1 H1 x' F1 R1 V1
      simp only [SK.R.bind_ok] at q
      cases h2 : truth x with
      | none => rw [h2] at q; exact q.elim
      | some k =>
        rw [h2] at q
        exact ⟨k, truth_ok V1 h2, q O1 H1 _ F1 R1 (by unfold VR; rfl)⟩
/-! ### a op b op' c -/
theorem eCh_imp {f g : Val → Val → Option Val} {σ : St} {H : Hp} {Q : VK} {K : PySem.W.Frag} (h : rE K T E mu io (eCh f g ma mb mc) σ H Q) : tChain (r2 K T f) (r2 K T g) (rE K T E mu io ma) (rE K T E mu io mb) (rE K T E mu io mc) σ H Q := by
  obtain ⟨O, fr, rl, q⟩ := h
  unfold eCh at q
  refine ⟨O, fr, rl, ?_⟩
  cases h1 : ma fr with
  | bad => rw [h1] at q; exact q
  | exc e => rw [h1] at q; exact q
  | ok p =>
    obtain ⟨x, fr1⟩ := p
    rw [h1] at q
    intro O1 H1 x' F1 R1 V1
    refine ⟨O1, fr1, R1, ?_⟩
    simp only [SK.R.bind_ok] at q
    cases h2 : mb fr1 with
    | bad => rw [h2] at q; exact q
    | exc e => rw [h2] at q; exact pEx.back F1 q
    | ok p =>
      obtain ⟨y, fr2⟩ := p
      rw [h2] at q
      intro O2 H2 y' F2 R2 V2
      refine ⟨O2, x, y, R2.trk, VR.mono F2 _ _ V1, V2, ?_⟩
      simp only [SK.R.bind_ok] at q
      cases h3 : f x y with
      | none => rw [h3] at q; exact q
      | some v =>
        rw [h3] at q
        intro H3 z X3 V3
        simp only [ofO, SK.R.bind_ok] at q
        cases v with
        | bl k =>
          unfold VR at V3
          refine ⟨k, V3, ?_⟩
          simp only [isB, SK.R.bind_ok] at q
          have R3 := R2.hx X3
          cases k with
          | true =>
            refine ⟨O2, fr2, R3, ?_⟩
            simp only [if_true] at q
            cases h4 : mc fr2 with
            | bad => rw [h4] at q; exact q
            | exc e => rw [h4] at q; exact pEx.back ((F1.trans F2).trans X3.fm) q
            | ok p =>
              obtain ⟨u, fr4⟩ := p
              rw [h4] at q
              intro O4 H4 u' F4 R4 V4
              refine ⟨O4, y, u, R4.trk, VR.mono (X3.fm.trans F4) _ _ V2, V4, ?_⟩
              simp only [SK.R.bind_ok] at q
              cases h5 : g y u with
              | none => rw [h5] at q; exact q
              | some v =>
                rw [h5] at q
                intro H5 z5 X5 V5
                exact q O4 H5 z5 ((((F1.trans F2).trans X3.fm).trans F4).trans X5.fm) (R4.hx X5) V5
          | false =>
            exact q O2 H3 _ ((F1.trans F2).trans X3.fm) R3 (by unfold VR; rfl)
        | _ => exact q.elim
theorem se_chain {op op' : CmpOp} {f g : Val → Val → Option Val} (ho : OpR X (compareOp op) (r2 X.K T f)) (ho' : OpR X (compareOp op') (r2 X.K T g)) (ha : SE X T E mu io a ma) (hb : SE X T E mu io b mb) (hc : SE X T E mu io c mc)
    (hm : lastMarks [op, op'] [b, c] = false := by first | exact nomark _ | with_unfolding_all rfl) : SE X T E mu io (.Compare a [op, op'] [b, c] pos) (eCh f g ma mb mc) := PE.imp (pe_chain ho ho' ha hb hc hm) fun σ H Q h => eCh_imp h
theorem st_chain {op op' : CmpOp} {f g : Val → Val → Option Val} (ho : OpR X (compareOp op) (r2 X.K T f)) (ho' : OpR X (compareOp op') (r2 X.K T g)) (ha : SE X T E mu io a ma) (hb : SE X T E mu io b mb) (hc : SE X T E mu io c mc)
    (hm : lastMarks [op, op'] [b, c] = false := by first | exact nomark _ | with_unfolding_all rfl) : ST X T E mu io (.Compare a [op, op'] [b, c] pos) (tBl (eCh f g ma mb mc)) := PT.imp (pt_chain ho ho' ha hb hc hm) fun σ H Q h => eCh_imp (Q := fun x H' => ∃ k, x = .bl k ∧ Q k H') (tBl_imp h)
/-! ### argument lists, displays -/
variable {es : List Expr} {ms : AM}
theorem sa_nil : SA X T E mu io [] aN := PA.imp pa_nil fun σ H Q ⟨O, fr, rl, q⟩ => q O H [] (Fm.refl _ _) rl VRs.nil
theorem aC_imp {σ : St} {H : Hp} {Q : List V → Hp → Prop} {K : PySem.W.Frag} (h : rA K T E mu io (aC ma ms) σ H Q) : tCons (rE K T E mu io ma) (rA K T E mu io ms) σ H Q := by
  obtain ⟨O, fr, rl, q⟩ := h
  unfold aC at q
  refine ⟨O, fr, rl, ?_⟩
  cases h1 : ma fr with
  | bad => rw [h1] at q; exact q
  | exc e => rw [h1] at q; exact q
  | ok p =>
    obtain ⟨x, fr1⟩ := p
    rw [h1] at q
    intro O1 H1 x' F1 R1 V1
    refine ⟨O1, fr1, R1, ?_⟩
    simp only [SK.R.bind_ok] at q
    cases h2 : ms fr1 with
    | bad => rw [h2] at q; exact q
    | exc e => rw [h2] at q; exact pEx.back F1 q
    | ok p =>
      obtain ⟨ys, fr2⟩ := p
      rw [h2] at q
      intro O2 H2 ys' F2 R2 V2
      exact q O2 H2 _ (F1.trans F2) R2 (VRs.cons (VR.mono F2 _ _ V1) V2)
theorem sa_cons {e : Expr} (ha : SE X T E mu io e ma) (hr : SA X T E mu io es ms) (hs : starEach (e :: es) X.env = (false, eval e X.env) :: starEach es X.env := by rfl) : SA X T E mu io (e :: es) (aC ma ms) :=
  PA.imp (pa_cons ha hr hs) fun σ H Q h => aC_imp h
theorem seqOf_ok {K : PySem.W.Frag} {O : Own} {H : Hp} {v : Val} {x : V} {xs} (h : VR K T O H v x) (e : seqOf v = some xs) : ∃ p ws, x = .ref p ∧ (SqT K H p ws ∨ SqL K H p ws) ∧ VRs K T O H xs ws := by
  cases v with
  | tup ys =>
    unfold VR at h
    obtain ⟨p, vs, rfl, t, r⟩ := h
    cases e
    refine ⟨p, vs, rfl, .inl ?_, r⟩
    rcases t with ⟨h, _⟩ | h
    · exact SqT.of h
    · exact h H
  | lst ys =>
    unfold VR at h
    obtain ⟨p, vs, rfl, t, r⟩ := h
    cases e
    refine ⟨p, vs, rfl, .inr ?_, r⟩
    exact SqL.of t.1
  | _ => cases e
theorem sa_star {e : Expr} {p : Pos} (ha : SE X T E mu io e ma) (hr : SA X T E mu io es ms) : SA X T E mu io (.Starred e p :: es) (aS ma ms) :=
  PA.imp (StX.pa_star ha hr rfl) fun σ H Q ⟨O, fr, rl, q⟩ => by
    unfold aS at q
    refine ⟨O, fr, rl, ?_⟩
    cases h1 : ma fr with
    | bad => rw [h1] at q; exact q
    | exc e => rw [h1] at q; exact q
    | ok p =>
      obtain ⟨x, fr1⟩ := p
      rw [h1] at q
      intro O1 H1 x' F1 R1 V1
      simp only [SK.R.bind_ok] at q
      cases h3 : seqOf x with
      | none => rw [h3] at q; exact q.elim
      | some xs =>
        rw [h3] at q
        obtain ⟨p, ws, e1, e2, e3⟩ := seqOf_ok V1 h3
        refine ⟨p, ws, e1, e2, O1, fr1, R1, ?_⟩
        simp only [ofO, SK.R.bind_ok] at q
        cases h2 : ms fr1 with
        | bad => rw [h2] at q; exact q
        | exc e => rw [h2] at q; exact pEx.back F1 q
        | ok p =>
          obtain ⟨ys, fr2⟩ := p
          rw [h2] at q
          intro O2 H2 ys' F2 R2 V2
          exact q O2 H2 _ (F1.trans F2) R2 (VRs.app (e3.mono F2) V2)
/-- a new object that is nobody's -/
theorem own_new {O : Own} {H : Hp} {p : Addr} (h : ∀ a, O a ≠ none → H a ≠ none) (n : H p = none) : O p = none := by
  cases q : O p with
  | none => rfl
  | some w => exact absurd n (h p (by rw [q]; exact fun z => nomatch z))
theorem se_tup {k : Nat} (h : SA X T E mu io es ms) : SE X T E mu io (.Tuple es k pos) (eTup ms) :=
  PE.imp (pe_tup h) fun σ H Q ⟨O, fr, rl, q⟩ => by
    unfold eTup at q
    refine ⟨O, fr, rl, ?_⟩
    cases h1 : ms fr with
    | bad => rw [h1] at q; exact q
    | exc e => rw [h1] at q; exact q
    | ok p =>
      obtain ⟨xs, fr1⟩ := p
      rw [h1] at q
      intro O1 H1 xs' F1 R1 V1
      simp only [SK.R.bind_ok, fits] at q
      by_cases hl : xs.length ≤ 16777216
      · rw [if_pos hl] at q
        refine ⟨by rw [← V1.len]; exact hl, fun p hp => ?_⟩
        have X2 : Hx H1 (upd H1 p (.tup xs')) := Hx.upd hp
        refine q O1 _ _ (F1.trans X2.fm) (R1.hx X2) ?_
        unfold VR
        exact ⟨p, xs', rfl, .inl ⟨upd_same, own_new R1.trk hp⟩, V1.mono X2.fm⟩
      · rw [if_neg hl] at q; exact q.elim
theorem se_lst (h : SA X T E mu io es ms) : SE X T E mu io (.List es pos) (eLst ms) :=
  PE.imp (pe_lst h) fun σ H Q ⟨O, fr, rl, q⟩ => by
    unfold eLst at q
    refine ⟨O, fr, rl, ?_⟩
    cases h1 : ms fr with
    | bad => rw [h1] at q; exact q
    | exc e => rw [h1] at q; exact q
    | ok p =>
      obtain ⟨xs, fr1⟩ := p
      rw [h1] at q
      intro O1 H1 xs' F1 R1 V1
      simp only [SK.R.bind_ok, fits] at q
      by_cases hl : xs.length ≤ 16777216
      · rw [if_pos hl] at q
        refine ⟨by rw [← V1.len]; exact hl, fun p hp => ?_⟩
        have X2 : Hx H1 (upd H1 p (.lst xs')) := Hx.upd hp
        refine q O1 _ _ (F1.trans X2.fm) (R1.hx X2) ?_
        unfold VR
        exact ⟨p, xs', rfl, ⟨upd_same, own_new R1.trk hp⟩, V1.mono X2.fm⟩
      · rw [if_neg hl] at q; exact q.elim
end
end SK

set_option maxHeartbeats 1000000
/-! SK3: statements, targets, loops, comprehensions. -/
noncomputable section
namespace SK
open PySem L2

/-! ### the functions -/
def noX {α : Type} (r : R α) : R α := @R.rec α (fun _ => R α) (fun a => .ok a) (fun _ => .bad) .bad r
abbrev GM := Val → Fr → R Fr
def gN (i : Nat) : GM := fun v fr => .ok (sF fr i (some v))
def gAll : List GM → List Val → Fr → R Fr
  | [], [], fr => .ok fr
  | g :: gs, v :: vs, fr => (g v fr).bind fun fr1 => gAll gs vs fr1
  | _, _, _ => .bad
def gT (gs : List GM) : GM := fun v fr => (ofO (seqOf v)).bind fun xs => gAll gs xs fr
def tTrue : TM := fun fr => .ok (true, fr)
abbrev IM := Fr → R (List Val × Fr)
/-- a list or tuple that is walked -/
def iSq (a : EM) : IM := fun fr => (a fr).bind fun x => (ofO (seqOf x.1)).bind fun xs => .ok (xs, x.2)
def forL (g : GM) (b : SM) : List Val → Fr → R (Fl × Fr)
  | [], fr => .ok (.nx, fr)
  | x :: xs, fr => (noX (g x fr)).bind fun fr1 => (b fr1).bind fun r => match r.1 with
    | .nx => forL g b xs r.2
    | .ct => forL g b xs r.2
    | .bk => .ok (.nx, r.2)
    | .rt v => .ok (.rt v, r.2)
def sFor (i : IM) (g : GM) (b : SM) : SM := fun fr => (i fr).bind fun x => forL g b x.1 x.2
def whL (t : TM) (b : SM) : Nat → Fr → R (Fl × Fr)
  | 0, _ => .bad
  | n + 1, fr => (t fr).bind fun x => if x.1 = true then (b x.2).bind fun r => (match r.1 with
    | .nx => whL t b n r.2
    | .ct => whL t b n r.2
    | .bk => .ok (.nx, r.2)
    | .rt v => .ok (.rt v, r.2)) else .ok (.nx, x.2)
def sWh (n : Nat) (t : TM) (b : SM) : SM := whL t b n
def sAsg (a : EM) (g : GM) : SM := fun fr => (a fr).bind fun x => (noX (g x.1 x.2)).bind fun fr1 => .ok (.nx, fr1)
def wipF (fr : Fr) : List Nat → Fr
  | [] => fr
  | v :: vs => sF (wipF fr vs) v none
/-- the comprehension's own slots as they were -/
def putF' (fr0 : Fr) (fr : Fr) : List Nat → Fr
  | [] => fr
  | v :: vs => sF (putF' fr0 fr vs) v ((gF fr0 v).getD none)
/-- the tests, the element -/
def lcL (own : List Nat) (g : GM) (t : TM) (e : EM) : List Val → Fr → R (List Val × Fr)
  | [], fr => .ok ([], fr)
  | x :: xs, fr => (noX (g x (wipF fr own))).bind fun fr1 => (noX (t fr1)).bind fun k => if k.1 = true then (noX (e k.2)).bind fun y => (lcL own g t e xs y.2).bind fun r => .ok (y.1 :: r.1, r.2) else lcL own g t e xs k.2
def eLc (own : List Nat) (i : IM) (g : GM) (t : TM) (e : EM) : EM := fun fr => (i fr).bind fun x => (noX (lcL own g t e x.1 x.2)).bind fun r => (ofO (fits r.1.length)).bind fun _ => .ok (.lst r.1, putF' x.2 r.2 own)

/-! ### statements -/
section
variable {X : Cx} {T : Tb} {E : XK} {mu : Nat → Bool} {io : List (Nat × V)} {st : Stmt} {rest : List Stmt} {m m2 : SM} {e : Expr} {me : EM} {pos : Pos}
theorem ss_nil : SSs X T E mu io [] sNil := PSs.imp pss_nil fun D σ H ⟨O, fr, rl, q⟩ => q O H σ (Fm.refl _ _) rl
theorem ss_cons (h1 : SS X T E mu io st m) (h2 : SSs X T E mu io rest m2) : SSs X T E mu io (st :: rest) (sSeq m m2) :=
  PSs.imp (pss_cons h1 h2) fun D σ H ⟨O, fr, rl, q⟩ => by
    unfold sSeq at q
    refine ⟨O, fr, rl, ?_⟩
    cases h : m fr with
    | bad => rw [h] at q; exact q
    | exc e => rw [h] at q; exact q
    | ok p =>
      obtain ⟨f, fr1⟩ := p
      rw [h] at q
      simp only [SK.R.bind_ok] at q
      cases f with
      | nx => exact fun O1 H1 σ1 F1 R1 => ⟨O1, fr1, R1, pS.back F1 q⟩
      | rt v => exact q
      | bk => exact q
      | ct => exact q
theorem ss_one (h1 : SS X T E mu io st m) : SSs X T E mu io [st] m := pss_one h1
theorem ss_pass : SS X T E mu io (.Pass pos) sNil := PS.imp ps_pass fun D σ H ⟨O, fr, rl, q⟩ => q O H σ (Fm.refl _ _) rl
theorem ss_break : SS X T E mu io (.Break pos) sBk := PS.imp ps_break fun D σ H ⟨O, fr, rl, q⟩ => q O H σ (Fm.refl _ _) rl
theorem ss_cont : SS X T E mu io (.Continue pos) sCt := PS.imp ps_continue fun D σ H ⟨O, fr, rl, q⟩ => q O H σ (Fm.refl _ _) rl
theorem ss_doc {x j pos'} : SS X T E mu io (.Expr (.Constant (.str x) j pos) pos') sNil := PS.imp ps_doc fun D σ H ⟨O, fr, rl, q⟩ => q O H σ (Fm.refl _ _) rl
theorem ss_expr (he : SE X T E mu io e me) (hs : swapsWith e none pos.line X.env = pure false := by rfl) : SS X T E mu io (.Expr e pos) (sEx me) :=
  PS.imp (ps_expr he hs) fun D σ H ⟨O, fr, rl, q⟩ => by
    unfold sEx at q
    refine ⟨O, fr, rl, ?_⟩
    cases h : me fr with
    | bad => rw [h] at q; exact q
    | exc e => rw [h] at q; exact q
    | ok p => obtain ⟨v, fr1⟩ := p; rw [h] at q; exact fun O1 H1 x F1 R1 _ => q O1 H1 σ F1 R1
theorem slr_val {K : PySem.W.Frag} {O : Own} {H : Hp} {i : Nat} {v : Val} {x : V} (hm : mu i = false := by rfl) (h : VR K T O H v x) : SlR K T O H mu i v x := by
  unfold SlR; rw [if_neg (by rw [hm]; exact Bool.false_ne_true)]; split
  · exact .inl (.inl h)
  · exact h
theorem OwR.nf {K : PySem.W.Frag} {O : Own} {H : Hp} {i : Nat} : ∀ {v : Val} {x : V}, OwR K T O H i v x → isFz v = false
  | .ins c [] [v], x, ⟨a, dx, fs', ws, e, o, h, q, r⟩ => by cases ws <;> exact r.elim
  | .ins c [] [], _, _ => rfl
  | .ins c [] (_ :: _ :: _), _, _ => rfl
  | .ins c (_ :: _) vs, _, _ => rfl
  | .non, _, _ => rfl
  | .bl _, _, _ => rfl
  | .int _, _, _ => rfl
  | .str _, _, _ => rfl
  | .tup _, _, _ => rfl
  | .lst _, _, _ => rfl
  | .dic _ _, _, _ => rfl
  | .scr _, _, _ => rfl
theorem slr_own {K : PySem.W.Frag} {O : Own} {H : Hp} {i : Nat} {v : Val} {x : V} (hm : mu i = true) (h : OwR K T O H i v x) : SlR K T O H mu i v x := by
  unfold SlR; rw [if_pos hm, if_neg (by rw [h.nf]; exact Bool.false_ne_true)]; exact h
theorem rsr_val {K : PySem.W.Frag} {O : Own} {H : Hp} {v : Val} {x : V} (hm : mu RES = false) (h : VR K T O H v x) : RsR K T O H mu v x := by
  unfold RsR; rw [if_neg (by rw [hm]; exact Bool.false_ne_true)]; exact h
theorem rsr_own {K : PySem.W.Frag} {O : Own} {H : Hp} {v : Val} {x : V} (hm : mu RES = true) (h : OwR K T O H RES v x) : RsR K T O H mu v x := by
  unfold RsR; rw [if_pos hm]; exact h
theorem ss_ret (hr : mu RES = false := by rfl) (he : SE X T E mu io e me) : SS X T E mu io (.Return (some e) pos) (sRet me) :=
  PS.imp (ps_ret he) fun D σ H ⟨O, fr, rl, q⟩ => by
    unfold sRet at q
    refine ⟨O, fr, rl, ?_⟩
    cases h : me fr with
    | bad => rw [h] at q; exact q
    | exc e => rw [h] at q; exact q
    | ok p => obtain ⟨v, fr1⟩ := p; rw [h] at q; exact fun O1 H1 x F1 R1 V1 => q O1 H1 σ x F1 R1 (rsr_val hr V1)
theorem ss_retN (hr : mu RES = false := by rfl) : SS X T E mu io (.Return none pos) sRetN := PS.imp ps_retN fun D σ H ⟨O, fr, rl, q⟩ => q O H σ .non (Fm.refl _ _) rl (rsr_val hr (by unfold VR; rfl))
theorem ss_if {c : Expr} {a b : List Stmt} {t : TM} (hc : ST X T E mu io c t) (ha : SSs X T E mu io a m) (hb : SSs X T E mu io b m2) : SS X T E mu io (.If c a b pos) (sIf t m m2) :=
  PS.imp (ps_if hc ha hb) fun D σ H ⟨O, fr, rl, q⟩ => by
    unfold sIf at q
    refine ⟨O, fr, rl, ?_⟩
    cases h1 : t fr with
    | bad => rw [h1] at q; exact q
    | exc e => rw [h1] at q; exact q
    | ok p =>
      obtain ⟨k, fr1⟩ := p
      rw [h1] at q
      intro O1 H1 F1 R1
      simp only [SK.R.bind_ok] at q
      cases k with
      | true => exact ⟨O1, fr1, R1, pS.back F1 (by simpa using q)⟩
      | false => exact ⟨O1, fr1, R1, pS.back F1 (by simpa using q)⟩

/-! ### a slot is set -/
section
variable {K : PySem.W.Frag} {O : Own} {H : Hp}
theorem Rl.set {fr σ} {i : Nat} {v : Val} {x : V} (rl : Rl K T mu io O fr σ H) (hm : mu i = false) (hio : ∀ p ∈ io, p.1 ≠ i) (r : VR K T O H v x) : Rl K T mu io O (fr.set i (some v)) (σ.set i (some x)) H := by
  refine ⟨by rw [List.length_set, List.length_set]; exact rl.len, fun j w e => ?_, rl.trk, fun p hp => ?_⟩
  · by_cases h : j = i
    · subst h
      rw [List.getElem?_set] at e
      rw [if_pos rfl] at e
      split at e
      · rename_i hl
        cases e
        refine ⟨x, ?_, ?_⟩
        · rw [List.getElem?_set, if_pos rfl, if_pos (by rw [← rl.len]; exact hl)]
        · unfold SlR; rw [if_neg (by rw [hm]; exact Bool.false_ne_true)]; split
          · exact .inl (.inl r)
          · exact r
      · cases e
    · rw [List.getElem?_set_ne (fun z => h z.symm)] at e
      obtain ⟨y, h1, h2⟩ := rl.sl j w e
      exact ⟨y, by rw [List.getElem?_set_ne (fun z => h z.symm)]; exact h1, h2⟩
  · rw [List.getElem?_set_ne (fun z => hio p hp z.symm)]
    exact rl.io p hp
/-- what r owned, i owns now; what i owned, nobody -/
def relab (O : Own) (r i : Nat) : Own := fun a => match O a with
  | some (.sl j) => if j = r then some (.sl i) else if j = i then none else some (.sl j)
  | some (.fl j g) => if j = r then some (.fl i g) else if j = i then none else some (.fl j g)
  | o => o
theorem relab_fm (O : Own) (H : Hp) (r i : Nat) : Fm O H (relab O r i) H := by
  refine ⟨fun a o h n => ⟨h, ?_⟩, fun a o h n => ⟨h, ?_⟩, fun a o h n => ⟨h, ?_⟩, fun a h => ?_⟩
  · unfold relab; rw [n]
  · unfold relab; rw [n]
  · unfold relab; rw [n]
  · unfold relab at h
    split at h
    · split at h
      · cases h
      · split at h <;> cases h
    · split at h
      · cases h
      · split at h <;> cases h
    · exact h
theorem relab_ne {O : Own} {r i j : Nat} (h1 : j ≠ r) (h2 : j ≠ i) {a w} (e : O a = some w) (o : ofSlot j w) : relab O r i a = some w := by
  unfold relab
  rcases o with rfl | ⟨g, rfl⟩
  · rw [e]; show (if j = r then _ else if j = i then _ else _) = _; rw [if_neg h1, if_neg h2]
  · rw [e]; show (if j = r then _ else if j = i then _ else _) = _; rw [if_neg h1, if_neg h2]
theorem relab_sl {O : Own} {r i : Nat} {a} (e : O a = some (.sl r)) : relab O r i a = some (.sl i) := by
  unfold relab; rw [e]; exact if_pos rfl
theorem relab_fl {O : Own} {r i g : Nat} {a} (e : O a = some (.fl r g)) : relab O r i a = some (.fl i g) := by
  unfold relab; rw [e]; exact if_pos rfl
theorem relab_some {O : Own} {r i : Nat} {a} (h : relab O r i a ≠ none) : O a ≠ none := by
  intro n; apply h; unfold relab; rw [n]
theorem OwL.relabB {ow ow' : Ow} {O' : Own} (f : Fb O H O' H) (hk : ∀ a, O a = some ow → O' a = some ow') : ∀ {v x}, OwL K T O H ow v x → OwL K T O' H ow' v x
  | .lst xs, x, ⟨a, vs, e, o, h, r⟩ => ⟨a, vs, e, hk a o, h, r.monoB f⟩
  | .dic ks ws, x, ⟨a, kvs, e, o, h, q, r⟩ => ⟨a, kvs, e, hk a o, h, q, r.monoB f⟩
  | .non, _, h => h.elim
  | .bl _, _, h => h.elim
  | .int _, _, h => h.elim
  | .str _, _, h => h.elim
  | .tup _, _, h => h.elim
  | .ins _ _ _, _, h => h.elim
  | .scr _, _, h => h.elim
theorem FRs.relabB {c i i' : Nat} {O' : Own} (f : Fb O H O' H) (hk : ∀ a g, O a = some (.fl i g) → O' a = some (.fl i' g)) : ∀ {fs vs ws}, FRs K T O H c i fs vs ws → FRs K T O' H c i' fs vs ws
  | [], [], [], _ => trivial
  | g :: fs, v :: vs, w :: ws, ⟨a, b⟩ => by
    refine ⟨?_, b.relabB f hk⟩
    by_cases h : T.own c g = true
    · rw [if_pos h] at a ⊢; exact OwL.relabB f (fun a => hk a g) a
    · rw [if_neg h] at a ⊢; exact VR.monoB f _ _ a
  | [], _ :: _, _, h => h.elim
  | [], [], _ :: _, h => h.elim
  | _ :: _, [], _, h => h.elim
  | _ :: _, _ :: _, [], h => h.elim
theorem OwR.relabB {i i' : Nat} {O' : Own} (f : Fb O H O' H) (h1 : ∀ a, O a = some (.sl i) → O' a = some (.sl i')) (h2 : ∀ a g, O a = some (.fl i g) → O' a = some (.fl i' g)) : ∀ {v x}, OwR K T O H i v x → OwR K T O' H i' v x
  | .ins c fs vs, x, ⟨a, dx, fs', ws, e, o, h, q, r⟩ => ⟨a, dx, fs', ws, e, h1 a o, h, q, r.relabB f h2⟩
  | .lst xs, x, h => show OwL K T O' H (.sl i') (.lst xs) x from OwL.relabB f h1 (show OwL K T O H (.sl i) (.lst xs) x from h)
  | .dic ks ws, x, h => show OwL K T O' H (.sl i') (.dic ks ws) x from OwL.relabB f h1 (show OwL K T O H (.sl i) (.dic ks ws) x from h)
  | .non, _, h => h.elim
  | .bl _, _, h => h.elim
  | .int _, _, h => h.elim
  | .str _, _, h => h.elim
  | .tup _, _, h => h.elim
  | .scr _, _, h => h.elim
theorem OwR.relab {i i' : Nat} {O' : Own} (f : Fm O H O' H) (h1 : ∀ a, O a = some (.sl i) → O' a = some (.sl i')) (h2 : ∀ a g, O a = some (.fl i g) → O' a = some (.fl i' g)) {v x} (h : OwR K T O H i v x) : OwR K T O' H i' v x := OwR.relabB f.b h1 h2 h
theorem Rl.setO {fr σ} {i r : Nat} {v : Val} {x : V} (rl : Rl K T mu io O fr σ H) (hm : mu i = true) (hio : ∀ p ∈ io, p.1 ≠ i) (hr : fr.length ≤ r) (w : OwR K T O H r v x) : Rl K T mu io (relab O r i) (fr.set i (some v)) (σ.set i (some x)) H := by
  refine ⟨by rw [List.length_set, List.length_set]; exact rl.len, fun j w' e => ?_, fun a n => rl.trk a (relab_some n), fun p hp => ?_⟩
  · by_cases h : j = i
    · subst h
      rw [List.getElem?_set] at e
      rw [if_pos rfl] at e
      split at e
      · rename_i hl
        cases e
        refine ⟨x, ?_, ?_⟩
        · rw [List.getElem?_set, if_pos rfl, if_pos (by rw [← rl.len]; exact hl)]
        · exact slr_own hm (OwR.relab (relab_fm O H r j) (fun a => relab_sl) (fun a g => relab_fl) w)
      · cases e
    · rw [List.getElem?_set_ne (fun z => h z.symm)] at e
      obtain ⟨y, h1, h2⟩ := rl.sl j w' e
      refine ⟨y, by rw [List.getElem?_set_ne (fun z => h z.symm)]; exact h1, h2.mono (relab_fm O H r i) fun _ a o w e2 n z => ⟨e2, relab_ne ?_ h n z⟩⟩
      have hj : j < fr.length := (List.getElem?_eq_some_iff.mp e).1
      omega
  · rw [List.getElem?_set_ne (fun z => hio p hp z.symm)]
    exact rl.io p hp
end
/-- i = e, a slot that owns nothing -/
theorem ss_set {i : Nat} {x : Str} {pos' : Pos} (hN : X.N.Nodup) (hi : X.N[i]? = some x := by rfl) (hx : Loc X.env.scope x := by first | exact .inl rfl | exact .inr rfl) (hm : mu i = false := by rfl) (hio : ∀ p ∈ io, p.1 ≠ i := by exact io_ne rfl) (he : SE X T E mu io e me) (hs : swapsWith e (some (.Name x pos')) pos.line X.env = pure false := by rfl)
    (hf : X.fn x = true ∨ X.env.scope.names.lookup x = some .local := by first | exact .inl rfl | exact .inr rfl) : SS X T E mu io (.Assign [.Name x pos'] e pos) (sSet i me) :=
  PS.imp (ps_set hN hi hx he hs hf) fun D σ H ⟨O, fr, rl, q⟩ => by
    unfold sSet at q
    simp only [sF_eq] at q
    refine ⟨O, fr, rl, ?_⟩
    cases h : me fr with
    | bad => rw [h] at q; exact q
    | exc e => rw [h] at q; exact q
    | ok p =>
      obtain ⟨v, fr1⟩ := p
      rw [h] at q
      exact fun O1 H1 x F1 R1 V1 => q O1 H1 (σ.set i (some x)) F1 (R1.set hm hio V1)
/-! ### an expression whose result is owned (by the slot r, that is none of the frame's) -/
section
variable (K : PySem.W.Frag) (T : Tb) (E : XK) (mu : Nat → Bool) (io : List (Nat × V)) (r : Nat)
def pO (O : Own) (σ : St) (H : Hp) (Q : VK) : R (Val × Fr) → Prop
  | .ok (v, fr') => ∀ O' H' x, Fm O H O' H' → Rl K T mu io O' fr' σ H' → OwR K T O' H' r v x → Q x H'
  | .exc e => pEx K T E O H e
  | .bad => False
def rO (m : EM) : TE := fun σ H Q => ∃ O fr, Rl K T mu io O fr σ H ∧ pO K T E mu io r O σ H Q (m fr)
end
abbrev SO (X : Cx) (T : Tb) (E : XK) (mu : Nat → Bool) (io : List (Nat × V)) (r : Nat) (e : Expr) (m : EM) : Prop := PE X e (rO X.K T E mu io r m)
theorem pO.back {K : PySem.W.Frag} {r : Nat} {O O1 : Own} {σ : St} {H H1 : Hp} (f : Fm O H O1 H1) {Q q} (h : pO K T E mu io r O σ H Q q) : pO K T E mu io r O1 σ H1 Q q := by
  cases q with
  | ok a => obtain ⟨v, fr'⟩ := a; exact fun O' H' x g => h O' H' x (f.trans g)
  | exc e => exact pEx.back f h
  | bad => exact h
/-- return e, what is given back is owned -/
theorem ss_retO (hr : mu RES = true := by rfl) (he : SO X T E mu io RES e me) : SS X T E mu io (.Return (some e) pos) (sRet me) :=
  PS.imp (ps_ret he) fun D σ H ⟨O, fr, rl, q⟩ => by
    unfold sRet at q
    refine ⟨O, fr, rl, ?_⟩
    cases h : me fr with
    | bad => rw [h] at q; exact q
    | exc e => rw [h] at q; exact q
    | ok p => obtain ⟨v, fr1⟩ := p; rw [h] at q; exact fun O1 H1 x F1 R1 V1 => q O1 H1 σ x F1 R1 (rsr_own hr V1)
/-- i = e, a slot that owns its object; the value comes owned by r -/
theorem ss_setO {i r : Nat} {x : Str} {pos' : Pos} (hN : X.N.Nodup) (hi : X.N[i]? = some x := by rfl) (hx : Loc X.env.scope x := by first | exact .inl rfl | exact .inr rfl) (hm : mu i = true := by rfl) (hio : ∀ p ∈ io, p.1 ≠ i := by exact io_ne rfl) (he : SO X T E mu io r e me) (hl : ∀ σ : St, σ.length = X.N.length → σ.length ≤ r) (hs : swapsWith e (some (.Name x pos')) pos.line X.env = pure false := by rfl)
    (hf : X.fn x = true ∨ X.env.scope.names.lookup x = some .local := by first | exact .inl rfl | exact .inr rfl) : SS X T E mu io (.Assign [.Name x pos'] e pos) (sSet i me) :=
  ⟨fun pins s σ H D I ⟨O, fr, rl, q⟩ => by
    refine (ps_set (pos := pos) hN hi hx he hs hf).run pins s σ H D I ?_
    unfold sSet at q
    simp only [sF_eq] at q
    refine ⟨O, fr, rl, ?_⟩
    cases h : me fr with
    | bad => rw [h] at q; exact q
    | exc e => rw [h] at q; exact q
    | ok p =>
      obtain ⟨v, fr1⟩ := p
      rw [h] at q
      exact fun O1 H1 x F1 R1 V1 => q (relab O1 r i) H1 (σ.set i (some x)) (F1.trans (relab_fm _ _ _ _)) (R1.setO hm hio (by rw [R1.len]; exact hl σ I.len) V1)⟩
/-! ### targets -/
section
variable (K : PySem.W.Frag) (T : Tb) (E : XK) (mu : Nat → Bool) (io : List (Nat × V))
/-- the slots ts alone differ -/
def Eqx (ts : List Nat) (σ σ' : St) : Prop := σ'.length = σ.length ∧ ∀ i, i ∉ ts → σ'[i]? = σ[i]?
def pG (ts : List Nat) (σ : St) (O : Own) (H : Hp) (Q : St → Hp → Prop) : R Fr → Prop
  | .ok fr' => ∀ O' H' σ', Fm O H O' H' → Rl K T mu io O' fr' σ' H' → Eqx ts σ σ' → Q σ' H'
  | _ => False
def rG (ts : List Nat) (g : GM) : TG := fun x σ H Q => ∃ O fr v, Rl K T mu io O fr σ H ∧ VR K T O H v x ∧ pG K T mu io ts σ O H Q (g v fr)
def rGs (ts : List Nat) (g : List Val → Fr → R Fr) : TGs := fun xs σ H Q => ∃ O fr vs, Rl K T mu io O fr σ H ∧ VRs K T O H vs xs ∧ pG K T mu io ts σ O H Q (g vs fr)
end
theorem Eqx.refl (ts : List Nat) (σ : St) : Eqx ts σ σ := ⟨rfl, fun _ _ => rfl⟩
theorem Eqx.trans {ts : List Nat} {a b c : St} (h : Eqx ts a b) (g : Eqx ts b c) : Eqx ts a c := ⟨g.1.trans h.1, fun i n => (g.2 i n).trans (h.2 i n)⟩
theorem Eqx.wipe {ts own : List Nat} {σ σ' : St} (h : Eqx ts σ σ') (hs : ∀ i ∈ ts, i ∈ own) : wipe σ' own = wipe σ own := by
  apply List.ext_getElem?
  intro i
  by_cases hi : i ∈ own
  · have key : ∀ (own : List Nat), i ∈ own → ∀ τ : St, (L2.wipe τ own)[i]? = if i < τ.length then some none else none := by
      intro own
      induction own with
      | nil => intro h; cases h
      | cons w vs ih =>
        intro h τ
        show ((L2.wipe τ vs).set w none)[i]? = _
        by_cases e : i = w
        · subst e
          rw [List.getElem?_set, if_pos rfl, wipe_length]
        · rw [List.getElem?_set_ne (fun z => e z.symm)]
          exact ih (by rcases List.mem_cons.mp h with z | z; exact absurd z e; exact z) τ
    rw [key own hi, key own hi, h.1]
  · rw [wipe_out hi, wipe_out hi]
    exact h.2 i fun z => hi (hs i z)
abbrev SG (X : Cx) (T : Tb) (mu : Nat → Bool) (io : List (Nat × V)) (ts : List Nat) (e : Expr) (g : GM) : Prop := PG X e (rG X.K T mu io ts g)
abbrev SGs (X : Cx) (T : Tb) (mu : Nat → Bool) (io : List (Nat × V)) (ts : List Nat) (es : List Expr) (g : List Val → Fr → R Fr) : Prop := PGs X es (rGs X.K T mu io ts g)
theorem PG.imp {X : Cx} {e : Expr} {t t' : TG} (h : PG X e t) (w : ∀ v σ H Q, t' v σ H Q → t v σ H Q) : PG X e t' := ⟨fun pins s σ H v u Q I r q => h.run pins s σ H v u Q I r (w v σ H Q q)⟩
theorem PGs.imp {X : Cx} {e : List Expr} {t t' : TGs} (h : PGs X e t) (w : ∀ v σ H Q, t' v σ H Q → t v σ H Q) : PGs X e t' := ⟨fun pins s σ H v u Q I r q => h.run pins s σ H v u Q I r (w v σ H Q q)⟩
theorem pG.back {K : PySem.W.Frag} {ts : List Nat} {σ σ1 : St} {O O1 : Own} {H H1 : Hp} (f : Fm O H O1 H1) (x : Eqx ts σ σ1) {Q r} (h : pG K T mu io ts σ O H Q r) : pG K T mu io ts σ1 O1 H1 Q r := by
  cases r with
  | ok a => exact fun O' H' s g r y => h O' H' s (f.trans g) r (x.trans y)
  | exc e => exact h
  | bad => exact h
theorem sg_n {ts : List Nat} {i : Nat} {x : Str} (hts : i ∈ ts := by decide) (hN : X.N.Nodup) (hi : X.N[i]? = some x := by rfl) (hx : Loc X.env.scope x := by first | exact .inl rfl | exact .inr rfl) (hm : mu i = false := by rfl) (hio : ∀ p ∈ io, p.1 ≠ i := by exact io_ne rfl) (hf : X.fn x = true ∨ X.env.scope.names.lookup x = some .local := by first | exact .inl rfl | exact .inr rfl) : SG X T mu io ts (.Name x pos) (gN i) :=
  PG.imp (pg_name hN hi hx hf) fun v σ H Q ⟨O, fr, w, rl, r, q⟩ => q O H _ (Fm.refl _ _) (by rw [sF_eq]; exact rl.set hm hio r) ⟨by rw [List.length_set], fun j hj => by rw [List.getElem?_set_ne (fun z => hj (by rw [← z]; exact hts))]⟩
theorem sgs_nil {ts : List Nat} : SGs X T mu io ts [] (gAll []) := PGs.imp pgs_nil fun xs σ H Q ⟨O, fr, vs, rl, r, q⟩ => by
  cases vs with
  | nil => exact ⟨r.inv0, q O H σ (Fm.refl _ _) rl (Eqx.refl _ _)⟩
  | cons v vs => exact q.elim
theorem sgs_cons {ts : List Nat} {es : List Expr} {g : GM} {gs : List GM} (h1 : SG X T mu io ts e g) (h2 : SGs X T mu io ts es (gAll gs)) (hs : (assignEach (e :: es) X.env).map (·.2) = assign e X.env :: (assignEach es X.env).map (·.2) := by rfl) : SGs X T mu io ts (e :: es) (gAll (g :: gs)) :=
  PGs.imp (pgs_cons h1 h2 hs) fun xs σ H Q ⟨O, fr, vs, rl, r, q⟩ => by
    cases vs with
    | nil => exact q.elim
    | cons v vs =>
      obtain ⟨y, ys, rfl, a, b⟩ := r.inv
      refine ⟨y, ys, rfl, O, fr, v, rl, a, ?_⟩
      unfold gAll at q
      cases h : g v fr with
      | bad => rw [h] at q; exact q
      | exc e => rw [h] at q; exact q
      | ok fr1 =>
        rw [h] at q
        exact fun O1 H1 σ1 F1 R1 x1 => ⟨O1, fr1, vs, R1, b.mono F1, pG.back F1 x1 q⟩
theorem gAll_len : ∀ {gs : List GM} {vs : List Val} {fr fr' : Fr}, gAll gs vs fr = .ok fr' → vs.length = gs.length
  | [], [], _, _, _ => rfl
  | g :: gs, v :: vs, fr, fr', h => by
    unfold gAll at h
    obtain ⟨fr1, _, h2⟩ := R.bind_eq h
    rw [List.length_cons, List.length_cons, gAll_len h2]
  | [], _ :: _, _, _, h => by cases h
  | _ :: _, [], _, _, h => by cases h
theorem sg_t {ts : List Nat} {es : List Expr} {k : Nat} {gs : List GM} (hc : X.calm = true := by rfl) (h : SGs X T mu io ts es (gAll gs)) (hn : (assignEach es X.env).length = gs.length := by rfl) (hst : (assignEach es X.env).findIdx? (·.1) = none := by rfl) : SG X T mu io ts (.Tuple es k pos) (gT gs) := by
  refine ⟨fun pins s σ H x u Q I r ⟨O, fr, v, rl, rv, q⟩ => ?_⟩
  unfold gT at q
  cases h1 : seqOf v with
  | none => rw [h1] at q; exact q.elim
  | some xs =>
    rw [h1] at q
    simp only [ofO, SK.R.bind_ok] at q
    obtain ⟨p, ws, e1, e2, e3⟩ := seqOf_ok rv h1
    have hl : ws.length = gs.length := by
      rw [← e3.len]
      cases h2 : gAll gs xs fr with
      | ok fr' => exact gAll_len h2
      | exc e => rw [h2] at q; exact q.elim
      | bad => rw [h2] at q; exact q.elim
    rcases e2 with e2 | e2
    · exact (pg_tup (pos := pos) (k := k) hc h hn hst).run pins s σ H x u Q I r ⟨p, ws, e1, e2, hl, O, fr, xs, rl, e3, q⟩
    · exact (pg_lst (pos := pos) (k := k) hc h hn hst).run pins s σ H x u Q I r ⟨p, ws, e1, e2, hl, O, fr, xs, rl, e3, q⟩
theorem ss_asg {ts : List Nat} {tg : Expr} {g : GM} (he : SE X T E mu io e me) (hg : SG X T mu io ts tg g) (hs : swapsWithSole [tg] e pos.line X.env = pure false := by rfl) (hw : swappedStores [tg] e X.env = pure none := by rfl)
    (h1 : (assignEach [tg] X.env).map (·.2) = [assign tg X.env] := by rfl) : SS X T E mu io (.Assign [tg] e pos) (sAsg me g) :=
  PS.imp (ps_asg he hg hs hw h1) fun D σ H ⟨O, fr, rl, q⟩ => by
    unfold sAsg at q
    refine ⟨O, fr, rl, ?_⟩
    cases h : me fr with
    | bad => rw [h] at q; exact q
    | exc e => rw [h] at q; exact q
    | ok p =>
      obtain ⟨v, fr1⟩ := p
      rw [h] at q
      intro O1 H1 x F1 R1 V1
      simp only [SK.R.bind_ok] at q
      refine ⟨O1, fr1, v, R1, V1, ?_⟩
      cases h2 : g v fr1 with
      | bad => rw [h2] at q; exact q.elim
      | exc e => rw [h2] at q; exact q.elim
      | ok fr2 => rw [h2] at q; exact fun O2 H2 σ2 F2 R2 _ => q O2 H2 σ2 (F1.trans F2) R2
/-! ### what is walked -/
/-- J walks the items xs while what is nobody's stays -/
def Walks (K : PySem.W.Frag) (T : Tb) (J : It) (xs : List Val) (O : Own) (H : Hp) : Prop := ∀ O' H', Fb O H O' H' → Fo O H O' H' → (∀ a, O' a ≠ none → H' a ≠ none) → ∀ i : Nat,
  (xs.length ≤ i → J.stop i H') ∧ ∀ v, xs[i]? = some v → J.go i H' ∧ ∀ x H'', J.yld i H' x H'' → Hx H' H'' ∧ VR K T O' H'' v x
theorem Walks.monoB {K : PySem.W.Frag} {J : It} {xs : List Val} {O O1 : Own} {H H1 : Hp} (w : Walks K T J xs O H) (f : Fb O H O1 H1) (f2 : Fo O H O1 H1) : Walks K T J xs O1 H1 := fun O' H' g g2 => w O' H' (f.trans g) (fun a o e n => let ⟨h1, n1⟩ := f2 a o e n; g2 a o h1 n1)
theorem Walks.mono {K : PySem.W.Frag} {J : It} {xs : List Val} {O O1 : Own} {H H1 : Hp} (w : Walks K T J xs O H) (f : Fm O H O1 H1) : Walks K T J xs O1 H1 := w.monoB f.b f.out
section
variable (K : PySem.W.Frag) (T : Tb) (E : XK) (mu : Nat → Bool) (io : List (Nat × V))
def pI (O : Own) (σ : St) (H : Hp) (Q : It → Hp → Prop) : R (List Val × Fr) → Prop
  | .ok (xs, fr') => ∀ O' H' J, Fm O H O' H' → Rl K T mu io O' fr' σ H' → Walks K T J xs O' H' → Q J H'
  | .exc e => pEx K T E O H e
  | .bad => False
def rI (m : IM) : TI := fun σ H Q => ∃ O fr, Rl K T mu io O fr σ H ∧ pI K T E mu io O σ H Q (m fr)
end
abbrev SI (X : Cx) (T : Tb) (E : XK) (mu : Nat → Bool) (io : List (Nat × V)) (tg e : Expr) (m : IM) : Prop := PI X tg e (SK.rI X.K T E mu io m)
theorem SqT.fm {K : PySem.W.Frag} {O O' : Own} {H H' : Hp} {a : Addr} {vs} (t : TupAt K O H a vs) (f : Fb O H O' H') : SqT K H' a vs := by
  rcases t.monoB f with ⟨h, _⟩ | h
  · exact SqT.of h
  · exact h H'
theorem SqL.fm {K : PySem.W.Frag} {O O' : Own} {H H' : Hp} {a : Addr} {vs} (t : LstAt O H a vs) (f : Fb O H O' H') : SqL K H' a vs := by
  exact SqL.of (t.monoB f).1
theorem walks_lst {K : PySem.W.Frag} {O : Own} {H : Hp} {a : Addr} {vs xs} (t : LstAt O H a vs) (r : VRs K T O H xs vs) : Walks K T (Itl K a) xs O H := fun O' H' f _ tr i =>
  ⟨fun hl => ⟨vs, SqL.fm t f, by rw [← r.len]; exact hl⟩, fun v hv => by
    obtain ⟨x, h1, h2⟩ := r.get hv
    refine ⟨⟨vs, x, SqL.fm t f, h1⟩, fun y H'' ⟨e, hy⟩ => ?_⟩
    subst e
    have := hy vs (SqL.fm t f)
    rw [h1] at this
    cases this
    exact ⟨Hx.refl _, VR.monoB f _ _ h2⟩⟩
theorem walks_tup {K : PySem.W.Frag} {O : Own} {H : Hp} {a : Addr} {vs xs} (t : TupAt K O H a vs) (r : VRs K T O H xs vs) : Walks K T (Itt K a) xs O H := fun O' H' f _ tr i =>
  ⟨fun hl => ⟨vs, SqT.fm t f, by rw [← r.len]; exact hl⟩, fun v hv => by
    obtain ⟨x, h1, h2⟩ := r.get hv
    refine ⟨⟨vs, x, SqT.fm t f, h1⟩, fun y H'' ⟨e, hy⟩ => ?_⟩
    subst e
    have := hy vs (SqT.fm t f)
    rw [h1] at this
    cases this
    exact ⟨Hx.refl _, VR.monoB f _ _ h2⟩⟩
theorem si_sq {tg : Expr} (he : SE X T E mu io e me) : SI X T E mu io tg e (iSq me) := by
  refine ⟨fun pins s σ H Q I ⟨O, fr, rl, q⟩ => ?_⟩
  unfold iSq at q
  cases h : me fr with
  | bad => rw [h] at q; exact q.elim
  | exc e' =>
    rw [h] at q
    exact (pi_list he).run pins s σ H Q I ⟨O, fr, rl, by rw [h]; exact q⟩
  | ok p =>
    obtain ⟨v, fr1⟩ := p
    rw [h] at q
    simp only [SK.R.bind_ok] at q
    cases v with
    | lst xs =>
      refine (pi_list he).run pins s σ H Q I ⟨O, fr, rl, by
        rw [h]
        intro O1 H1 x F1 R1 V1
        unfold VR at V1
        obtain ⟨a, vs, e1, t, r⟩ := V1
        exact ⟨a, e1, ⟨vs, SqL.fm t (Fb.refl _ _)⟩, q O1 H1 _ F1 R1 (walks_lst t r)⟩⟩
    | tup xs =>
      refine (pi_tup he).run pins s σ H Q I ⟨O, fr, rl, by
        rw [h]
        intro O1 H1 x F1 R1 V1
        unfold VR at V1
        obtain ⟨a, vs, e1, t, r⟩ := V1
        exact ⟨a, e1, ⟨vs, SqT.fm t (Fb.refl _ _)⟩, q O1 H1 _ F1 R1 (walks_tup t r)⟩⟩
    | _ => exact q.elim
/-! ### for, while -/
theorem ss_for {ts : List Nat} {tg iter : Expr} {body : List Stmt} {i : IM} {g : GM} (hp : PassesOwn (model X.prog X.w) X.A X.env X.xe := by exact passes_of rfl) (hc : X.calm = true := by rfl) (hi : SI X T E mu io tg iter i) (hg : SG X T mu io ts tg g) (hb : SSs X T E mu io body m)
    (hs : ∀ x, foldedSetIterable iter X.env x = pure x := by intro _; rfl) : SS X T E mu io (.For tg iter body [] pos) (sFor i g m) :=
  PS.imp (ps_for hp hc hi hg hb hs) fun D σ H ⟨O, fr, rl, q⟩ => by
    unfold sFor at q
    refine ⟨O, fr, rl, ?_⟩
    cases h : i fr with
    | bad => rw [h] at q; exact q
    | exc e => rw [h] at q; exact q
    | ok p =>
      obtain ⟨xs, fr1⟩ := p
      rw [h] at q
      intro O1 H1 J F1 R1 W1
      simp only [SK.R.bind_ok] at q
      refine ⟨fun j k σ' H' => k = xs.length - j ∧ ∃ O' fr', Rl X.K T mu io O' fr' σ' H' ∧ Walks X.K T J xs O' H' ∧ pS X.K T E mu io O' D H' (forL g m (xs.drop j) fr'), ⟨_, rfl, O1, fr1, R1, W1, by simpa using pS.back F1 q⟩, ?_⟩
      rintro j k σ' H' ⟨rfl, O', fr', R', W', q'⟩
      obtain ⟨hstop, hgo⟩ := W' O' H' (Fb.refl _ _) (fun _ _ h n => ⟨h, n⟩) R'.trk j
      by_cases hj : j < xs.length
      · right
        have hx : xs[j]? = some xs[j] := List.getElem?_eq_getElem hj
        obtain ⟨h1, h2⟩ := hgo _ hx
        refine ⟨h1, fun σ2 H2 => ∃ O2 fr2, Rl X.K T mu io O2 fr2 σ2 H2 ∧ Walks X.K T J xs O2 H2 ∧ pS X.K T E mu io O2 D H2 (forL g m (xs.drop (j + 1)) fr2), fun σ2 H2 hN => ⟨_, by omega, rfl, hN⟩, fun x H2 hy => ?_⟩
        obtain ⟨X2, V2⟩ := h2 x H2 hy
        refine ⟨O', fr', xs[j], R'.hx X2, V2, ?_⟩
        rw [List.drop_eq_getElem_cons hj] at q'
        unfold forL at q'
        cases h3 : g xs[j] fr' with
        | bad => rw [h3] at q'; exact q'
        | exc e => rw [h3] at q'; exact q'.elim
        | ok fr3 =>
          rw [h3] at q'
          intro O3 H3 σ3 F3 R3 _
          refine ⟨O3, fr3, R3, ?_⟩
          have F03 := X2.fm.trans F3
          simp only [noX, SK.R.bind_ok] at q'
          cases h4 : m fr3 with
          | bad => rw [h4] at q'; exact q'
          | exc e => rw [h4] at q'; exact pEx.back F03 q'
          | ok p =>
            obtain ⟨f, fr4⟩ := p
            rw [h4] at q'
            simp only [SK.R.bind_ok] at q'
            cases f with
            | nx => exact fun O4 H4 σ4 F4 R4 => ⟨O4, fr4, R4, W'.mono (F03.trans F4), pS.back (F03.trans F4) q'⟩
            | ct => exact fun O4 H4 σ4 F4 R4 => ⟨O4, fr4, R4, W'.mono (F03.trans F4), pS.back (F03.trans F4) q'⟩
            | bk => exact pS.back (r := .ok (.nx, fr4)) F03 q'
            | rt v => exact pS.back (r := .ok (.rt v, fr4)) F03 q'
      · left
        refine ⟨hstop (by omega), ?_⟩
        rw [List.drop_of_length_le (by omega)] at q'
        exact q' O' H' σ' (Fm.refl _ _) R'
theorem ss_while {c : Expr} {body : List Stmt} {t : TM} {n : Nat} (hp : PassesOwn (model X.prog X.w) X.A X.env X.xe := by exact passes_of rfl) (hc : ST X T E mu io c t) (hb : SSs X T E mu io body m) : SS X T E mu io (.While c body [] pos) (sWh n t m) :=
  PS.imp (ps_while hp hc hb) fun D σ H ⟨O, fr, rl, q⟩ => by
    refine ⟨fun k σ' H' => ∃ O' fr', Rl X.K T mu io O' fr' σ' H' ∧ pS X.K T E mu io O' D H' (whL t m k fr'), ⟨n, O, fr, rl, q⟩, ?_⟩
    rintro k σ' H' ⟨O', fr', R', q'⟩
    cases k with
    | zero => exact q'.elim
    | succ k =>
      unfold whL at q'
      refine ⟨O', fr', R', ?_⟩
      cases h : t fr' with
      | bad => rw [h] at q'; exact q'
      | exc e => rw [h] at q'; exact q'
      | ok p =>
        obtain ⟨b, fr1⟩ := p
        rw [h] at q'
        intro O1 H1 F1 R1
        simp only [SK.R.bind_ok] at q'
        cases b with
        | false => exact q' O1 H1 σ' F1 R1
        | true =>
          simp only [if_true] at q' ⊢
          refine ⟨fun σ2 H2 => ∃ O2 fr2, Rl X.K T mu io O2 fr2 σ2 H2 ∧ pS X.K T E mu io O2 D H2 (whL t m k fr2), fun σ2 H2 hN => ⟨k, Nat.lt_succ_self k, hN⟩, O1, fr1, R1, ?_⟩
          cases h4 : m fr1 with
          | bad => rw [h4] at q'; exact q'
          | exc e => rw [h4] at q'; exact pEx.back F1 q'
          | ok p =>
            obtain ⟨f, fr4⟩ := p
            rw [h4] at q'
            simp only [SK.R.bind_ok] at q'
            cases f with
            | nx => exact fun O4 H4 σ4 F4 R4 => ⟨O4, fr4, R4, pS.back (F1.trans F4) q'⟩
            | ct => exact fun O4 H4 σ4 F4 R4 => ⟨O4, fr4, R4, pS.back (F1.trans F4) q'⟩
            | bk => exact pS.back (r := .ok (.nx, fr4)) F1 q'
            | rt v => exact pS.back (r := .ok (.rt v, fr4)) F1 q'
/-! ### comprehensions -/
theorem wipF_len (fr : Fr) : ∀ vs : List Nat, (wipF fr vs).length = fr.length
  | [] => rfl
  | v :: vs => by unfold wipF; rw [sF_eq, List.length_set]; exact wipF_len fr vs
theorem wipF_some {fr : Fr} {i : Nat} {v : Val} : ∀ {vs : List Nat}, (wipF fr vs)[i]? = some (some v) → fr[i]? = some (some v) ∧ i ∉ vs
  | [], h => ⟨h, fun z => nomatch z⟩
  | w :: vs, h => by
    unfold wipF at h
    rw [sF_eq] at h
    by_cases e : i = w
    · subst e
      rw [List.getElem?_set, if_pos rfl] at h
      split at h <;> cases h
    · rw [List.getElem?_set_ne (fun z => e z.symm)] at h
      obtain ⟨a, b⟩ := wipF_some h
      exact ⟨a, fun z => by rcases List.mem_cons.mp z with z | z; exact e z; exact b z⟩
theorem wipe_get {σ : St} {i : Nat} : ∀ {vs : List Nat}, i ∉ vs → (wipe σ vs)[i]? = σ[i]? := fun h => wipe_out h
theorem Rl.wip {K : PySem.W.Frag} {O : Own} {H : Hp} {fr σ} (rl : Rl K T mu io O fr σ H) (own : List Nat) (hio : ∀ p ∈ io, p.1 ∉ own) : Rl K T mu io O (wipF fr own) (wipe σ own) H :=
  ⟨by rw [wipF_len, wipe_length]; exact rl.len, fun i v e => by
    obtain ⟨a, b⟩ := wipF_some e
    obtain ⟨x, h1, h2⟩ := rl.sl i v a
    exact ⟨x, by rw [wipe_out b]; exact h1, h2⟩, rl.trk, fun p hp => by rw [wipe_out (hio p hp)]; exact rl.io p hp⟩
/-- what is true behind the block, outside its own slots -/
theorem putF'_len (fr0 fr : Fr) : ∀ vs : List Nat, (putF' fr0 fr vs).length = fr.length
  | [] => rfl
  | v :: vs => by unfold putF'; rw [sF_eq, List.length_set]; exact putF'_len fr0 fr vs
theorem putF'_in {fr0 fr : Fr} {i : Nat} (hl : fr0.length = fr.length) : ∀ {vs : List Nat}, i ∈ vs → (putF' fr0 fr vs)[i]? = fr0[i]?
  | w :: vs, h => by
    unfold putF'
    rw [sF_eq, gF_eq, ← List.getD_eq_getElem?_getD]
    by_cases e : i = w
    · subst e
      rw [List.getElem?_set, if_pos rfl, putF'_len]
      by_cases hi : i < fr.length
      · rw [if_pos hi, List.getElem?_eq_getElem (by omega)]
        rw [List.getD_eq_getElem?_getD, List.getElem?_eq_getElem (by omega)]
        rfl
      · rw [if_neg hi, List.getElem?_eq_none (by omega)]
    · rw [List.getElem?_set_ne (fun z => e z.symm)]
      exact putF'_in hl (by rcases List.mem_cons.mp h with z | z; exact absurd z e; exact z)
theorem putF'_out {fr0 fr : Fr} {i : Nat} : ∀ {vs : List Nat}, i ∉ vs → (putF' fr0 fr vs)[i]? = fr[i]?
  | [], _ => rfl
  | w :: vs, h => by
    unfold putF'
    rw [sF_eq, List.getElem?_set_ne (fun z => h (by rw [z]; exact List.mem_cons_self))]
    exact putF'_out fun z => h (List.mem_cons_of_mem _ z)
/-- the frame behind a comprehension: own slots as ahead of it -/
theorem Rl.unwip {K : PySem.W.Frag} {O0 O : Own} {H0 H : Hp} {fr0 fr σ σ'} (own : List Nat) (r0 : Rl K T mu io O0 fr0 σ H0) (f : Fb O0 H0 O H) (g : Fo O0 H0 O H) (hmu : ∀ i ∈ own, mu i = false) (hw : wipe σ' own = wipe σ own) (rl : Rl K T mu io O fr σ' H) : Rl K T mu io O (putF' fr0 fr own) σ H := by
  have hls : σ'.length = σ.length := by rw [← wipe_length σ' own, hw, wipe_length]
  have hl : fr0.length = fr.length := by rw [r0.len, rl.len, hls]
  refine ⟨by rw [putF'_len, rl.len, hls], fun i v e => ?_, rl.trk, r0.io⟩
  by_cases h : i ∈ own
  · rw [putF'_in hl h] at e
    obtain ⟨x, h1, h2⟩ := r0.sl i v e
    exact ⟨x, h1, h2.monoB f g fun m => by rw [hmu i h] at m; cases m⟩
  · rw [putF'_out h] at e
    obtain ⟨x, h1, h2⟩ := rl.sl i v e
    rw [← wipe_out h, hw, wipe_out h] at h1
    exact ⟨x, h1, h2⟩
abbrev STs (X : Cx) (T : Tb) (E : XK) (mu : Nat → Bool) (io : List (Nat × V)) (es : List Expr) (m : TM) : Prop := PTs X es (rT X.K T E mu io m)
theorem sts_nil : STs X T E mu io [] tTrue := ⟨fun pins s σ H Q I ⟨O, fr, rl, q⟩ => pts_nil.run pins s σ H Q I (q O H (Fm.refl _ _) rl)⟩
theorem sts_one {t : TM} (h : ST X T E mu io e t) : STs X T E mu io [e] t := pts_one h
def setOw (O : Own) (D : Addr) (w : Option Ow) : Own := fun a => if a = D then w else O a
theorem setOw_same {O : Own} {D w} : setOw O D w D = w := if_pos rfl
theorem setOw_ne {O : Own} {D a w} (h : a ≠ D) : setOw O D w a = O a := if_neg h
/-- the things of a comprehension's block, its list D set apart -/
structure FmD (D : Addr) (O : Own) (H : Hp) (O' : Own) (H' : Hp) : Prop where
  byv : Fb O H O' H'
  out : Fo O H O' H'
  tmp : ∀ a o, H a = some o → O a = some .tmp → H' a = some o ∧ O' a = some .tmp
  no : ∀ a, a ≠ D → O' a = some .out → O a = some .out
theorem FmD.step {D O H O1 H1 O2 H2} (f : FmD D O H O1 H1) (g : Fm O1 H1 O2 H2) : FmD D O H O2 H2 :=
  ⟨f.byv.trans g.b, fun a o e n => let ⟨h1, n1⟩ := f.out a o e n; g.out a o h1 n1, fun a o e n => let ⟨h1, n1⟩ := f.tmp a o e n; g.tmp a o h1 n1, fun a n e => f.no a n (g.no a e)⟩
theorem FmD.put {D O H O1 H1} (f : FmD D O H O1 H1) (h : H D = none) (o : HO) : FmD D O H O1 (upd H1 D o) :=
  ⟨fun a u e n => let ⟨h1, n1⟩ := f.byv a u e n; ⟨by rw [upd_ne (ne_of_none e h)]; exact h1, n1⟩, fun a u e n => let ⟨h1, n1⟩ := f.out a u e n; ⟨by rw [upd_ne (ne_of_none e h)]; exact h1, n1⟩, fun a u e n => let ⟨h1, n1⟩ := f.tmp a u e n; ⟨by rw [upd_ne (ne_of_none e h)]; exact h1, n1⟩, f.no⟩
theorem FmD.fin {D O H O1 H1} (f : FmD D O H O1 H1) (h : H D = none) {w : Option Ow} (hw : w = some .out → False) : Fm O H (setOw O1 D w) H1 :=
  ⟨fun a u e n => let ⟨h1, n1⟩ := f.byv a u e n; ⟨h1, by rw [setOw_ne (ne_of_none e h)]; exact n1⟩, fun a u e n => let ⟨h1, n1⟩ := f.out a u e n; ⟨h1, by rw [setOw_ne (ne_of_none e h)]; exact n1⟩, fun a u e n => let ⟨h1, n1⟩ := f.tmp a u e n; ⟨h1, by rw [setOw_ne (ne_of_none e h)]; exact n1⟩, fun a e => by
    by_cases z : a = D
    · subst z; rw [setOw_same] at e; exact (hw e).elim
    · rw [setOw_ne z] at e; exact f.no a z e⟩
theorem FmD.begin {D O H} {o : HO} (h : H D = none) : FmD D O H (setOw O D (some .tmp)) (upd H D o) :=
  ⟨fun a u e n => ⟨by rw [upd_ne (ne_of_none e h)]; exact e, by rw [setOw_ne (ne_of_none e h)]; exact n⟩, fun a u e n => ⟨by rw [upd_ne (ne_of_none e h)]; exact e, by rw [setOw_ne (ne_of_none e h)]; exact n⟩, fun a u e n => ⟨by rw [upd_ne (ne_of_none e h)]; exact e, by rw [setOw_ne (ne_of_none e h)]; exact n⟩, fun a z e => by rw [setOw_ne z] at e; exact e⟩
/-- a new object is laid, owned as w says -/
theorem Rl.laid {K : PySem.W.Frag} {O : Own} {H : Hp} {fr σ} {D : Addr} {o : HO} {w : Option Ow} (rl : Rl K T mu io O fr σ H) (h : H D = none) : Rl K T mu io (setOw O D w) fr σ (upd H D o) :=
  rl.monoB (fun a u e n => ⟨by rw [upd_ne (ne_of_none e h)]; exact e, by rw [setOw_ne (ne_of_none e h)]; exact n⟩) (fun a u e n => ⟨by rw [upd_ne (ne_of_none e h)]; exact e, by rw [setOw_ne (ne_of_none e h)]; exact n⟩)
    (fun i m a u w e n z => ⟨by rw [upd_ne (ne_of_none e h)]; exact e, by rw [setOw_ne (ne_of_none e h)]; exact n⟩)
    (fun a n => by
      by_cases z : a = D
      · subst z; rw [upd_same]; exact fun q => nomatch q
      · rw [setOw_ne z] at n; rw [upd_ne z]; exact rl.trk a n)
/-- a temporary object is changed -/
theorem Rl.putOut {K : PySem.W.Frag} {O : Own} {H : Hp} {fr σ} {D : Addr} {o : HO} (rl : Rl K T mu io O fr σ H) (h : O D = some .tmp) : Rl K T mu io O fr σ (upd H D o) :=
  rl.monoB (fun a u e n => ⟨by rw [upd_ne (fun z => by rw [z, h] at n; cases n)]; exact e, n⟩) (fun a u e n => ⟨by rw [upd_ne (fun z => by rw [z, h] at n; cases n)]; exact e, n⟩)
    (fun i m a u w e n z => ⟨by rw [upd_ne (fun q => by rw [q, h] at n; cases n; rcases z with z | ⟨g, z⟩ <;> cases z)]; exact e, n⟩)
    (fun a n => by
      by_cases z : a = D
      · subst z; rw [upd_same]; exact fun q => nomatch q
      · rw [upd_ne z]; exact rl.trk a n)
/-- .. handed over -/
theorem Rl.outTo {K : PySem.W.Frag} {O : Own} {H : Hp} {fr σ} {D : Addr} {w : Option Ow} (rl : Rl K T mu io O fr σ H) (h : O D = some .tmp) : Rl K T mu io (setOw O D w) fr σ H :=
  rl.monoB (fun a u e n => ⟨e, by rw [setOw_ne (fun z => by rw [z, h] at n; cases n)]; exact n⟩) (fun a u e n => ⟨e, by rw [setOw_ne (fun z => by rw [z, h] at n; cases n)]; exact n⟩)
    (fun i m a u w e n z => ⟨e, by rw [setOw_ne (fun q => by rw [q, h] at n; cases n; rcases z with z | ⟨g, z⟩ <;> cases z)]; exact n⟩)
    (fun a n => by
      by_cases z : a = D
      · subst z; exact rl.trk a (by rw [h]; exact fun q => nomatch q)
      · rw [setOw_ne z] at n; exact rl.trk a n)
section
variable {K : PySem.W.Frag} {i : IM} {g : GM} {t : TM} {own : List Nat} {ts : List Nat} {σ : St} {H : Hp} {Q : VK}
/-- the block of a comprehension; what is done with its list is said by fin -/
theorem lc_core' (hio : ∀ p ∈ io, p.1 ∉ own) (hmu : ∀ i ∈ own, mu i = false) (hts : ∀ i ∈ ts, i ∈ own) {O1 : Own} {fr1 : Fr} {H1 : Hp} {J : It} {xs : List Val} {vs : List Val} {frE : Fr} (R1 : Rl K T mu io O1 fr1 σ H1) (W1 : Walks K T J xs O1 H1)
    (hz : lcL own g t me xs fr1 = .ok (vs, frE)) (hf : vs.length ≤ 16777216) (D : Addr) (hD : H1 D = none)
    (fin : ∀ O' H' ws, FmD D O1 H1 O' H' → O' D = some .tmp → H' D = some (.lst ws) → VRs K T O' H' vs ws → Rl K T mu io O' (putF' fr1 frE own) σ H' → Q (.ref D) H') :
    ∃ W : Nat → Nat → Hp → Prop, (∃ m, W 0 m (upd H1 D (.lst []))) ∧ ∀ i m H, W i m H →
      (J.stop i H ∧ Q (.ref D) H) ∨ (J.go i H ∧ ∃ Nx : Hp → Prop, (∀ H', Nx H' → ∃ m', m' < m ∧ W (i + 1) m' H') ∧ ∀ x H', J.yld i H x H' → rG K T mu io ts g x (wipe σ own) H' fun σ2 H2 => wipe σ2 own = wipe σ own ∧ rT K T L2.E0 mu io t σ2 H2 fun b H3 =>
        if b = true then rE K T L2.E0 mu io me σ2 H3 fun y H4 => ∃ acc, H4 D = some (.lst acc) ∧ acc.length < sizeLine ∧ Nx (upd H4 D (.lst (acc ++ [y]))) else Nx H3) := by
  refine ⟨fun j k H' => k = xs.length - j ∧ ∃ O' fr' σ' done rest ws, wipe σ' own = wipe σ own ∧ Rl K T mu io O' fr' σ' H' ∧ FmD D O1 H1 O' H' ∧ O' D = some .tmp ∧ H' D = some (.lst ws) ∧ VRs K T O' H' done ws ∧ vs = done ++ rest ∧ lcL own g t me (xs.drop j) fr' = .ok (rest, frE),
    ⟨_, rfl, setOw O1 D (some .tmp), fr1, σ, [], vs, [], rfl, R1.laid hD, FmD.begin hD, setOw_same, upd_same, VRs.nil, rfl, by simpa using hz⟩, ?_⟩
  rintro j k H' ⟨rfl, O', fr', σ', done, rest, ws, hw, R', F', oD, hHD, V', ev, hq⟩
  obtain ⟨hstop, hgo⟩ := W1 O' H' F'.byv F'.out R'.trk j
  by_cases hj : j < xs.length
  · right
    have hx : xs[j]? = some xs[j] := List.getElem?_eq_getElem hj
    obtain ⟨h1, h2⟩ := hgo _ hx
    refine ⟨h1, fun H2 => ∃ O2 fr2 σ2 done rest ws, wipe σ2 own = wipe σ own ∧ Rl K T mu io O2 fr2 σ2 H2 ∧ FmD D O1 H1 O2 H2 ∧ O2 D = some .tmp ∧ H2 D = some (.lst ws) ∧ VRs K T O2 H2 done ws ∧ vs = done ++ rest ∧ lcL own g t me (xs.drop (j + 1)) fr2 = .ok (rest, frE),
      fun H2 hN => ⟨_, by omega, rfl, hN⟩, fun x H2 hy => ?_⟩
    obtain ⟨X2, V2⟩ := h2 x H2 hy
    have Rw : Rl K T mu io O' (wipF fr' own) (wipe σ own) H2 := by rw [← hw]; exact (R'.hx X2).wip own hio
    refine ⟨O', wipF fr' own, xs[j], Rw, V2, ?_⟩
    rw [List.drop_eq_getElem_cons hj] at hq
    unfold lcL at hq
    cases h3 : g xs[j] (wipF fr' own) with
    | bad => rw [h3] at hq; cases hq
    | exc e => rw [h3] at hq; cases hq
    | ok fr3 =>
      rw [h3] at hq
      intro O3 H3 σ3 F3 R3 x3
      refine ⟨(x3.wipe hts).trans ?_, O3, fr3, R3, ?_⟩
      · apply List.ext_getElem?
        intro q
        have key : ∀ (own : List Nat) (τ : St) (q : Nat), (L2.wipe τ own)[q]? = if q ∈ own then (if q < τ.length then some none else none) else τ[q]? := by
          intro own
          induction own with
          | nil => intro τ q; simp [L2.wipe]
          | cons w vs ih =>
            intro τ q
            show ((L2.wipe τ vs).set w none)[q]? = _
            by_cases e : q = w
            · subst e
              rw [List.getElem?_set, if_pos rfl, wipe_length, if_pos List.mem_cons_self]
            · rw [List.getElem?_set_ne (fun z => e z.symm), ih]
              by_cases h : q ∈ vs
              · rw [if_pos h, if_pos (List.mem_cons_of_mem _ h)]
              · rw [if_neg h, if_neg (fun z => by rcases List.mem_cons.mp z with z | z; exact e z; exact h z)]
        rw [key, key, wipe_length]
        split <;> rfl
      have F03 := X2.fm.trans F3
      simp only [noX, SK.R.bind_ok] at hq
      cases h4 : t fr3 with
      | bad => rw [h4] at hq; cases hq
      | exc e => rw [h4] at hq; cases hq
      | ok p =>
        obtain ⟨b, fr4⟩ := p
        rw [h4] at hq
        intro O4 H4 F4 R4
        have F04 := F03.trans F4
        have hw3 : wipe σ3 own = wipe σ own := (x3.wipe hts).trans (by
          apply List.ext_getElem?
          intro q
          have key : ∀ (own : List Nat) (τ : St) (q : Nat), (L2.wipe τ own)[q]? = if q ∈ own then (if q < τ.length then some none else none) else τ[q]? := by
            intro own
            induction own with
            | nil => intro τ q; simp [L2.wipe]
            | cons w vs ih =>
              intro τ q
              show ((L2.wipe τ vs).set w none)[q]? = _
              by_cases e : q = w
              · subst e
                rw [List.getElem?_set, if_pos rfl, wipe_length, if_pos List.mem_cons_self]
              · rw [List.getElem?_set_ne (fun z => e z.symm), ih]
                by_cases h : q ∈ vs
                · rw [if_pos h, if_pos (List.mem_cons_of_mem _ h)]
                · rw [if_neg h, if_neg (fun z => by rcases List.mem_cons.mp z with z | z; exact e z; exact h z)]
          rw [key, key, wipe_length]
          split <;> rfl)
        simp only [SK.R.bind_ok] at hq
        cases b with
        | false =>
          have ⟨hD4, oD4⟩ := F04.tmp D _ hHD oD
          exact ⟨O4, fr4, σ3, done, rest, ws, hw3, R4, F'.step F04, oD4, hD4, V'.mono F04, ev, by simpa using hq⟩
        | true =>
          simp only [if_true] at hq ⊢
          refine ⟨O4, fr4, R4, ?_⟩
          cases h5 : me fr4 with
          | bad => rw [h5] at hq; cases hq
          | exc e => rw [h5] at hq; cases hq
          | ok p =>
            obtain ⟨y, fr5⟩ := p
            rw [h5] at hq
            intro O5 H5 y' F5 R5 V5
            have F05 := F04.trans F5
            have ⟨hD5, oD5⟩ := F05.tmp D _ hHD oD
            simp only [SK.R.bind_ok] at hq
            obtain ⟨r, e6, e7⟩ := R.bind_eq hq
            cases e7
            have V5' : VRs K T O5 H5 (done ++ [y]) (ws ++ [y']) := (V'.mono F05).app (VRs.cons V5 VRs.nil)
            have hl : ws.length < sizeLine := by
              have : (done ++ y :: r.1).length ≤ 16777216 := by rw [← ev]; exact hf
              rw [List.length_append, List.length_cons] at this
              rw [← V'.len]
              show done.length < 16777216
              omega
            refine ⟨ws, hD5, hl, O5, fr5, σ3, done ++ [y], r.1, ws ++ [y'], hw3, R5.putOut oD5, (F'.step F05).put hD _, oD5, upd_same, ?_, by rw [ev]; simp, e6⟩
            refine VRs.monoB (fun a u e n => ⟨?_, n⟩) _ _ V5'
            rw [upd_ne (fun z => by rw [z, oD5] at n; cases n)]
            exact e
  · left
    rw [List.drop_of_length_le (by omega)] at hq
    cases hq
    refine ⟨hstop (by omega), fin O' H' ws F' oD hHD (by rw [ev, List.append_nil]; exact V') ?_⟩
    exact Rl.unwip (H0 := H1) (O0 := O1) own R1 F'.byv F'.out hmu hw R'
end
end
end SK

set_option maxHeartbeats 1000000
/-! SK4: comprehensions as values, calls of defs, defs. -/
noncomputable section
namespace SK
open PySem L2
section
variable {X : Cx} {T : Tb} {E : XK} {mu : Nat → Bool} {io : List (Nat × V)} {me : EM} {pos : Pos}
theorem lc_noX {own g t} : ∀ {xs : List Val} {fr : Fr} {e}, noX (lcL own g t me xs fr) = .exc e → False := fun {xs fr e} h => by
  cases q : lcL own g t me xs fr with
  | ok a => rw [q] at h; cases h
  | exc e => rw [q] at h; cases h
  | bad => rw [q] at h; cases h
theorem eLc_imp {K : PySem.W.Frag} {r : Nat} {own : List (Str × Nat)} {ts : List Nat} {i : IM} {g : GM} {t : TM} (hio : ∀ p ∈ io, p.1 ∉ own.map (·.2)) (hmu : ∀ i ∈ own.map (·.2), mu i = false) (hts : ∀ i ∈ ts, i ∈ own.map (·.2)) {σ : St} {H : Hp} {Q : VK} (h : rE K T E mu io (eLc (own.map (·.2)) i g t me) σ H Q) :
    tLc (SK.rI K T E mu io i) (rG K T mu io ts g) (rT K T L2.E0 mu io t) (rE K T L2.E0 mu io me) (own.map (·.2)) σ H Q := by
  obtain ⟨O, fr, rl, q⟩ := h
  unfold eLc at q
  refine ⟨O, fr, rl, ?_⟩
  cases h : i fr with
  | bad => rw [h] at q; exact q
  | exc e => rw [h] at q; exact q
  | ok p =>
    obtain ⟨xs, fr1⟩ := p
    rw [h] at q
    intro O1 H1 J F1 R1 W1 D hD
    simp only [SK.R.bind_ok] at q
    cases hz : lcL (own.map (·.2)) g t me xs fr1 with
    | bad => rw [hz] at q; exact q.elim
    | exc e => rw [hz] at q; exact q.elim
    | ok p =>
      obtain ⟨vs, frE⟩ := p
      rw [hz] at q
      simp only [noX, SK.R.bind_ok, fits] at q
      by_cases hl : vs.length ≤ 16777216
      · rw [if_pos hl] at q
        refine lc_core' hio hmu hts R1 W1 hz hl D hD fun O' H' ws F' oD hHD V' R' => ?_
        refine q (setOw O' D none) H' _ (F1.trans (F'.fin hD fun z => nomatch z)) (R'.outTo oD) ?_
        unfold VR
        refine ⟨D, ws, rfl, ⟨hHD, setOw_same⟩, VRs.monoB (fun a u e n => ⟨e, ?_⟩) _ _ V'⟩
        rw [setOw_ne (fun z => by rw [z, oD] at n; cases n)]
        exact n
      · rw [if_neg hl] at q; exact q.elim
theorem se_lc {elt tg iter : Expr} {ifs : List Expr} {scope : Scope} {own : List (Str × Nat)} {ts : List Nat} {i : IM} {g : GM} {t : TM} (hc : X.calm = true := by rfl) (hN : X.N.Nodup) (hi : SI X T E mu io tg iter i) (ok : BlkOk X.N X.env.scope scope own)
    (hio : ∀ p ∈ io, p.1 ∉ own.map (·.2) := by exact io_own rfl) (hmu : ∀ i ∈ own.map (·.2), mu i = false := by decide) (hts : ∀ i ∈ ts, i ∈ own.map (·.2) := by decide)
    (hg : ∀ (s : Shared) (H : Hp) (C : Addr) (cl : List (Str × Addr)) (fp : List Addr), SG (X.blk s H scope (compEnvC scope cl C X.env) fp) T mu io ts tg g) (ht : ∀ (s : Shared) (H : Hp) (C : Addr) (cl : List (Str × Addr)) (fp : List Addr), STs (X.blk s H scope (compEnvC scope cl C X.env) fp) T L2.E0 mu io ifs t)
    (he : ∀ (s : Shared) (H : Hp) (C : Addr) (cl : List (Str × Addr)) (fp : List Addr), SE (X.blk s H scope (compEnvC scope cl C X.env) fp) T L2.E0 mu io elt me) (hs : ∀ x, foldedSetIterable iter X.env x = pure x := by intro _; rfl) :
    SE X T E mu io (.ListComp elt [⟨tg, iter, ifs, 0⟩] scope pos) (eLc (own.map (·.2)) i g t me) :=
  PE.imp (pe_lc hc hN hi ok hg ht he hs) fun σ H Q h => eLc_imp (r := 0) hio hmu hts h
theorem eLcO_imp {K : PySem.W.Frag} {r : Nat} {own : List (Str × Nat)} {ts : List Nat} {i : IM} {g : GM} {t : TM} (hio : ∀ p ∈ io, p.1 ∉ own.map (·.2)) (hmu : ∀ i ∈ own.map (·.2), mu i = false) (hts : ∀ i ∈ ts, i ∈ own.map (·.2)) {σ : St} {H : Hp} {Q : VK} (h : rO K T E mu io r (eLc (own.map (·.2)) i g t me) σ H Q) :
    tLc (SK.rI K T E mu io i) (rG K T mu io ts g) (rT K T L2.E0 mu io t) (rE K T L2.E0 mu io me) (own.map (·.2)) σ H Q := by
  obtain ⟨O, fr, rl, q⟩ := h
  unfold eLc at q
  refine ⟨O, fr, rl, ?_⟩
  cases h : i fr with
  | bad => rw [h] at q; exact q
  | exc e => rw [h] at q; exact q
  | ok p =>
    obtain ⟨xs, fr1⟩ := p
    rw [h] at q
    intro O1 H1 J F1 R1 W1 D hD
    simp only [SK.R.bind_ok] at q
    cases hz : lcL (own.map (·.2)) g t me xs fr1 with
    | bad => rw [hz] at q; exact q.elim
    | exc e => rw [hz] at q; exact q.elim
    | ok p =>
      obtain ⟨vs, frE⟩ := p
      rw [hz] at q
      simp only [noX, SK.R.bind_ok, fits] at q
      by_cases hl : vs.length ≤ 16777216
      · rw [if_pos hl] at q
        refine lc_core' hio hmu hts R1 W1 hz hl D hD fun O' H' ws F' oD hHD V' R' => ?_
        refine q (setOw O' D (some (.sl r))) H' _ (F1.trans (F'.fin hD fun z => nomatch z)) (R'.outTo oD) ?_
        refine ⟨D, ws, rfl, setOw_same, hHD, VRs.monoB (fun a u e n => ⟨e, ?_⟩) _ _ V'⟩
        rw [setOw_ne (fun z => by rw [z, oD] at n; cases n)]
        exact n
      · rw [if_neg hl] at q; exact q.elim
/-- the same, its list owned -/
theorem so_lc {r : Nat} {elt tg iter : Expr} {ifs : List Expr} {scope : Scope} {own : List (Str × Nat)} {ts : List Nat} {i : IM} {g : GM} {t : TM} (hc : X.calm = true := by rfl) (hN : X.N.Nodup) (hi : SI X T E mu io tg iter i) (ok : BlkOk X.N X.env.scope scope own)
    (hio : ∀ p ∈ io, p.1 ∉ own.map (·.2) := by exact io_own rfl) (hmu : ∀ i ∈ own.map (·.2), mu i = false := by decide) (hts : ∀ i ∈ ts, i ∈ own.map (·.2) := by decide)
    (hg : ∀ (s : Shared) (H : Hp) (C : Addr) (cl : List (Str × Addr)) (fp : List Addr), SG (X.blk s H scope (compEnvC scope cl C X.env) fp) T mu io ts tg g) (ht : ∀ (s : Shared) (H : Hp) (C : Addr) (cl : List (Str × Addr)) (fp : List Addr), STs (X.blk s H scope (compEnvC scope cl C X.env) fp) T L2.E0 mu io ifs t)
    (he : ∀ (s : Shared) (H : Hp) (C : Addr) (cl : List (Str × Addr)) (fp : List Addr), SE (X.blk s H scope (compEnvC scope cl C X.env) fp) T L2.E0 mu io elt me) (hs : ∀ x, foldedSetIterable iter X.env x = pure x := by intro _; rfl) :
    SO X T E mu io r (.ListComp elt [⟨tg, iter, ifs, 0⟩] scope pos) (eLc (own.map (·.2)) i g t me) :=
  PE.imp (pe_lc hc hN hi ok hg ht he hs) fun σ H Q h => eLcO_imp hio hmu hts h
theorem ss_setLc {i0 : Nat} {y : Str} {py spos : Pos} {elt tg iter : Expr} {ifs : List Expr} {scope : Scope} {own : List (Str × Nat)} {ts : List Nat} {i : IM} {g : GM} {t : TM} (hc : X.calm = true := by rfl) (hN : X.N.Nodup) (hy : X.N[i0]? = some y := by rfl) (hyl : X.env.scope.names.lookup y = some .local := by rfl) (hm : mu i0 = false := by rfl) (hio0 : ∀ p ∈ io, p.1 ≠ i0 := by exact io_ne rfl)
    (hk : X.env.scope.kind = .function := by rfl) (hln : (py.line == pos.line) = true := by rfl) (hna : (scope.names.any fun (n, k) => n == y && (k == .local || k == .cell)) = false := by rfl) (hi : SI X T E mu io tg iter i) (ok : BlkOk X.N X.env.scope scope own)
    (hio : ∀ p ∈ io, p.1 ∉ own.map (·.2) := by exact io_own rfl) (hmu : ∀ i ∈ own.map (·.2), mu i = false := by decide) (hts : ∀ i ∈ ts, i ∈ own.map (·.2) := by decide)
    (hg : ∀ (s : Shared) (H : Hp) (C : Addr) (cl : List (Str × Addr)) (fp : List Addr), SG (X.blk s H scope (compEnvC scope cl C X.env) fp) T mu io ts tg g) (ht : ∀ (s : Shared) (H : Hp) (C : Addr) (cl : List (Str × Addr)) (fp : List Addr), STs (X.blk s H scope (compEnvC scope cl C X.env) fp) T L2.E0 mu io ifs t)
    (he : ∀ (s : Shared) (H : Hp) (C : Addr) (cl : List (Str × Addr)) (fp : List Addr), SE (X.blk s H scope (compEnvC scope cl C X.env) fp) T L2.E0 mu io elt me) (hs : ∀ x, foldedSetIterable iter X.env x = pure x := by intro _; rfl) :
    SS X T E mu io (.Assign [.Name y py] (.ListComp elt [⟨tg, iter, ifs, 0⟩] scope pos) spos) (sSet i0 (eLc (own.map (·.2)) i g t me)) :=
  PS.imp (ps_setLc hc hN hy hyl (sw_true hk hyl hln hna) hi ok hg ht he hs) fun D σ H ⟨O, fr, rl, q⟩ => by
    unfold sSet at q
    simp only [sF_eq] at q
    refine eLc_imp (r := 0) (g := g) (t := t) (me := me) hio hmu hts ⟨O, fr, rl, ?_⟩
    cases h : eLc (own.map (·.2)) i g t me fr with
    | bad => rw [h] at q; exact q
    | exc e => rw [h] at q; exact q
    | ok p =>
      obtain ⟨v, fr1⟩ := p
      rw [h] at q
      exact fun O1 H1 x F1 R1 V1 => q O1 H1 (σ.set i0 (some x)) F1 (R1.set hm hio0 V1)
theorem ss_setLcO {i0 r : Nat} {y : Str} {py spos : Pos} {elt tg iter : Expr} {ifs : List Expr} {scope : Scope} {own : List (Str × Nat)} {ts : List Nat} {i : IM} {g : GM} {t : TM} (hc : X.calm = true := by rfl) (hN : X.N.Nodup) (hy : X.N[i0]? = some y := by rfl) (hyl : X.env.scope.names.lookup y = some .local := by rfl) (hm : mu i0 = true := by rfl) (hio0 : ∀ p ∈ io, p.1 ≠ i0 := by exact io_ne rfl)
    (hk : X.env.scope.kind = .function := by rfl) (hln : (py.line == pos.line) = true := by rfl) (hna : (scope.names.any fun (n, k) => n == y && (k == .local || k == .cell)) = false := by rfl) (hi : SI X T E mu io tg iter i) (ok : BlkOk X.N X.env.scope scope own)
    (hio : ∀ p ∈ io, p.1 ∉ own.map (·.2) := by exact io_own rfl) (hmu : ∀ i ∈ own.map (·.2), mu i = false := by decide) (hts : ∀ i ∈ ts, i ∈ own.map (·.2) := by decide)
    (hg : ∀ (s : Shared) (H : Hp) (C : Addr) (cl : List (Str × Addr)) (fp : List Addr), SG (X.blk s H scope (compEnvC scope cl C X.env) fp) T mu io ts tg g) (ht : ∀ (s : Shared) (H : Hp) (C : Addr) (cl : List (Str × Addr)) (fp : List Addr), STs (X.blk s H scope (compEnvC scope cl C X.env) fp) T L2.E0 mu io ifs t)
    (he : ∀ (s : Shared) (H : Hp) (C : Addr) (cl : List (Str × Addr)) (fp : List Addr), SE (X.blk s H scope (compEnvC scope cl C X.env) fp) T L2.E0 mu io elt me) (hl : X.N.length ≤ r) (hs : ∀ x, foldedSetIterable iter X.env x = pure x := by intro _; rfl) :
    SS X T E mu io (.Assign [.Name y py] (.ListComp elt [⟨tg, iter, ifs, 0⟩] scope pos) spos) (sSet i0 (eLc (own.map (·.2)) i g t me)) :=
  ⟨fun pins s σ H D I ⟨O, fr, rl, q⟩ => by
    refine (ps_setLc (g := rG X.K T mu io ts g) (tt := rT X.K T L2.E0 mu io t) (te := rE X.K T L2.E0 mu io me) hc hN hy hyl (sw_true hk hyl hln hna) hi ok hg ht he hs).run pins s σ H D I ?_
    unfold sSet at q
    simp only [sF_eq] at q
    refine eLcO_imp (r := r) (g := g) (t := t) (me := me) hio hmu hts ⟨O, fr, rl, ?_⟩
    cases h : eLc (own.map (·.2)) i g t me fr with
    | bad => rw [h] at q; exact q
    | exc e => rw [h] at q; exact q
    | ok p =>
      obtain ⟨v, fr1⟩ := p
      rw [h] at q
      exact fun O1 H1 x F1 R1 V1 => q (relab O1 r i0) H1 (σ.set i0 (some x)) (F1.trans (relab_fm _ _ _ _)) (R1.setO hm hio0 (by rw [R1.len, I.len]; exact hl) V1)⟩
/-- a list display, owned -/
theorem so_lst {r : Nat} {es : List Expr} {ms : AM} (h : SA X T E mu io es ms) : SO X T E mu io r (.List es pos) (eLst ms) :=
  PE.imp (pe_lst h) fun σ H Q ⟨O, fr, rl, q⟩ => by
    unfold eLst at q
    refine ⟨O, fr, rl, ?_⟩
    cases h1 : ms fr with
    | bad => rw [h1] at q; exact q
    | exc e => rw [h1] at q; exact q
    | ok p =>
      obtain ⟨xs, fr1⟩ := p
      rw [h1] at q
      intro O1 H1 xs' F1 R1 V1
      simp only [SK.R.bind_ok, fits] at q
      by_cases hl : xs.length ≤ 16777216
      · rw [if_pos hl] at q
        refine ⟨by rw [← V1.len]; exact hl, fun p hp => ?_⟩
        have f0 : FmD p O1 H1 (setOw O1 p (some .tmp)) (upd H1 p (.lst xs')) := FmD.begin hp
        have f1 : Fm O1 H1 (setOw O1 p (some (.sl r))) (upd H1 p (.lst xs')) := by
          have := f0.fin (w := some (.sl r)) hp (fun z => nomatch z)
          rw [show setOw (setOw O1 p (some .tmp)) p (some (.sl r)) = setOw O1 p (some (.sl r)) from funext fun a => by unfold setOw; split <;> rfl] at this
          exact this
        exact q _ _ _ (F1.trans f1) (R1.laid hp) ⟨p, xs', rfl, setOw_same, upd_same, V1.mono f1⟩
      · rw [if_neg hl] at q; exact q.elim
end

/-! ### what a def promises: a function of its arguments -/
/-- the arguments: what is lent at the places iop, the rest by value -/
def ArgsR (K : PySem.W.Frag) (T : Tb) (O : Own) (H : Hp) (iop bop : List Nat) : Nat → List Val → List V → Prop
  | _, [], [] => True
  | j, v :: vs, x :: xs => (if iop.contains j = true then OwR K T O H j v x else if bop.contains j = true then BoR K T O H v x else VR K T O H v x) ∧ ArgsR K T O H iop bop (j + 1) vs xs
  | _, _, _ => False
def OutsR (K : PySem.W.Frag) (T : Tb) (O : Own) (H : Hp) (vs : List V) : List Nat → List Val → Prop
  | [], [] => True
  | j :: js, v :: outs => (∃ x, vs[j]? = some x ∧ OwR K T O H j v x) ∧ OutsR K T O H vs js outs
  | _, _ => False
abbrev FnM := List Val → R (Val × List Val)
/-- what a def gives back: by value, or owned by r -/
def RtR (K : PySem.W.Frag) (T : Tb) (ro : Bool) (r : Nat) (O : Own) (H : Hp) (v : Val) (x : V) : Prop := if ro = true then OwR K T O H r v x else VR K T O H v x
def spG (K : PySem.W.Frag) (T : Tb) (iop bop : List Nat) (ro : Bool) (n : Nat) (m : FnM) : Sp := fun vs H Q E => vs.length = n ∧ ∃ O args, (∀ a, O a ≠ none → H a ≠ none) ∧ ArgsR K T O H iop bop 0 args vs ∧ (match m args with
  | .ok (v, outs) => ∀ O' H' x, Fm O H O' H' → (∀ a, O' a ≠ none → H' a ≠ none) → OutsR K T O' H' vs iop outs → RtR K T ro RES O' H' v x → Q x H'
  | .exc e => pEx K T E O H e
  | .bad => False)
def outsOf (fr : Fr) : List Nat → Option (List Val)
  | [] => some []
  | j :: js => match gF fr j with
    | some (some v) => if isFz v = true then none else (outsOf fr js).map (v :: ·)
    | _ => none
def repN (n : Nat) : Fr := @Nat.rec (fun _ => Fr) [] (fun _ r => none :: r) n
def initF (n : Nat) (args : List Val) : Fr := @List.rec Val (fun _ => Nat → Fr) (fun n => repN n) (fun a _ ih n => some a :: ih (n - 1)) args n
theorem repN_eq : ∀ n, repN n = List.replicate n none
  | 0 => rfl
  | n + 1 => congrArg (none :: ·) (repN_eq n)
theorem initF_eq : ∀ (args : List Val) (n : Nat), initF n args = args.map some ++ List.replicate (n - args.length) none
  | [], n => repN_eq n
  | a :: r, n => by
    show some a :: initF (n - 1) r = some a :: (r.map some ++ List.replicate (n - (r.length + 1)) none)
    rw [initF_eq r (n - 1), show n - 1 - r.length = n - (r.length + 1) by omega]
/-- a def: n slots, iop the parameters that are lent -/
def runF (n : Nat) (iop : List Nat) (ro : Bool) (body : SM) : FnM := fun args => (body (initF n args)).bind fun r => match r.1 with
  | .rt v => (ofO (outsOf r.2 iop)).bind fun o => .ok (v, o)
  | .nx => if ro = true then .bad else (ofO (outsOf r.2 iop)).bind fun o => .ok (.non, o)
  | _ => .bad
section
variable {K : PySem.W.Frag} {T : Tb} {mu : Nat → Bool}
theorem ArgsR.get {O : Own} {H : Hp} {iop bop : List Nat} : ∀ {k : Nat} {args : List Val} {vs : List V} {i : Nat} {v : Val}, ArgsR K T O H iop bop k args vs → args[i]? = some v → ∃ x, vs[i]? = some x ∧ (if iop.contains (k + i) = true then OwR K T O H (k + i) v x else if bop.contains (k + i) = true then BoR K T O H v x else VR K T O H v x)
  | _, [], [], _, _, _, e => by simp at e
  | k, a :: as, x :: xs, 0, v, ⟨h, _⟩, e => by simp at e; subst e; exact ⟨x, rfl, h⟩
  | k, a :: as, x :: xs, i + 1, v, ⟨_, h⟩, e => by
    simp at e
    obtain ⟨y, h1, h2⟩ := ArgsR.get h e
    refine ⟨y, by simpa using h1, ?_⟩
    rw [show k + (i + 1) = k + 1 + i by omega]
    exact h2
  | _, [], _ :: _, _, _, h, _ => h.elim
  | _, _ :: _, [], _, _, h, _ => h.elim
theorem ArgsR.len {O : Own} {H : Hp} {iop bop : List Nat} : ∀ {k : Nat} {args : List Val} {vs : List V}, ArgsR K T O H iop bop k args vs → args.length = vs.length
  | _, [], [], _ => rfl
  | k, a :: as, x :: xs, ⟨_, h⟩ => by rw [List.length_cons, List.length_cons, h.len]
  | _, [], _ :: _, h => h.elim
  | _, _ :: _, [], h => h.elim
/-- the frame at a def's entry -/
theorem Rl.start {O : Own} {H : Hp} {iop bop : List Nat} {N : List Str} {args : List Val} {vs : List V} (tr : ∀ a, O a ≠ none → H a ≠ none) (hA : ArgsR K T O H iop bop 0 args vs) (hl : vs.length ≤ N.length) (hmu : ∀ i, i < vs.length → mu i = iop.contains i) (hbo : ∀ i, i < vs.length → mu (BOR + i) = bop.contains i) (hio : ∀ j ∈ iop, j < vs.length) :
    Rl K T mu (iop.map fun j => (j, vs.getD j .non)) O (initF N.length args) (start N vs) H := by
  have hal := hA.len
  refine ⟨?_, fun i v e => ?_, tr, fun p hp => ?_⟩
  · rw [initF_eq]
    show (args.map some ++ List.replicate (N.length - args.length) none).length = (vs.map some ++ List.replicate (N.length - vs.length) none).length
    simp; omega
  · rw [initF_eq] at e
    have hi : i < args.length := by
      apply Classical.byContradiction
      intro hn
      rw [List.getElem?_append_right (by simp; omega)] at e
      rw [List.getElem?_replicate] at e
      split at e <;> cases e
    rw [List.getElem?_append_left (by simpa using hi), List.getElem?_map] at e
    have e2 : args[i]? = some v := by
      cases q : args[i]? with
      | none => rw [q] at e; cases e
      | some u => rw [q] at e; simp at e; rw [e]
    obtain ⟨x, h1, h2⟩ := hA.get e2
    refine ⟨x, ?_, ?_⟩
    · unfold L2.start
      rw [List.getElem?_append_left (by simp; omega), List.getElem?_map, h1]; rfl
    · rw [Nat.zero_add] at h2
      by_cases m : iop.contains i = true
      · rw [if_pos m] at h2
        exact slr_own (by rw [hmu i (by omega)]; exact m) h2
      · rw [if_neg m] at h2
        unfold SlR
        rw [hmu i (by omega), hbo i (by omega), if_neg m]
        exact h2
  · obtain ⟨j, hj, rfl⟩ := List.mem_map.mp hp
    have := hio j hj
    show (L2.start N vs)[j]? = some (some (vs.getD j .non))
    unfold L2.start
    rw [List.getElem?_append_left (by simpa using this), List.getElem?_map, List.getElem?_eq_getElem this, List.getD_eq_getElem?_getD, List.getElem?_eq_getElem this]
    rfl
theorem outs_ok {O : Own} {H : Hp} {iop0 : List Nat} {vs : List V} {fr : Fr} {σ : St} (hmu : ∀ i, iop0.contains i = true → mu i = true) (hio : ∀ j ∈ iop0, j < vs.length) (rl : Rl K T mu (iop0.map fun j => (j, vs.getD j .non)) O fr σ H) : ∀ {js : List Nat} {outs : List Val}, (∀ j ∈ js, j ∈ iop0) → outsOf fr js = some outs → OutsR K T O H vs js outs
  | [], outs, _, e => by unfold outsOf at e; cases e; trivial
  | j :: js, outs, hs, e => by
    unfold outsOf at e
    rw [gF_eq] at e
    split at e
    · rename_i v hv
      by_cases hz : isFz v = true
      · rw [if_pos hz] at e; cases e
      rw [if_neg hz] at e
      cases q : outsOf fr js with
      | none => rw [q] at e; cases e
      | some os =>
        rw [q] at e
        cases e
        have hj : j ∈ iop0 := hs j List.mem_cons_self
        have hjc : iop0.contains j = true := by simpa using hj
        obtain ⟨x, h1, h2⟩ := rl.owned hv (hmu j hjc) (by simpa using hz)
        have hq := rl.io (j, vs.getD j .non) (List.mem_map.mpr ⟨j, hj, rfl⟩)
        have hlt := hio j hj
        refine ⟨⟨x, ?_, ?_⟩, outs_ok hmu hio rl (fun i hi => hs i (List.mem_cons_of_mem _ hi)) q⟩
        · have : σ[j]? = some (some (vs.getD j .non)) := hq
          rw [h1] at this
          cases this
          rw [List.getD_eq_getElem?_getD, List.getElem?_eq_getElem hlt]; rfl
        · exact h2
    · cases e
end
/-- THE RULE for a def: its body's simulation -/
theorem fn_ok {CX : CXT} {P : Program} {w : World} {K : PySem.W.Frag} {mg : Str → Option Value} {base : Heap} {x qual : Str} {params : Arguments} {body : List Stmt} {scope : Scope} {dvs : List V} {kws : List (Str × V)} {f : Addr} {fd : FuncData} {N ps : List Str} {k : Nat} {T : Tb} {mu : Nat → Bool} {iop bop : List Nat} {ro : Bool} {m : SM}
    (F : FunD K x qual params body scope dvs kws f fd) (S : FnScope N ps scope) (hl : ps.length ≤ N.length) (hmu : ∀ i, i < ps.length → mu i = iop.contains i) (hio : ∀ j ∈ iop, j < ps.length) (hbo : ∀ i, i < ps.length → mu (BOR + i) = bop.contains i) (hro : mu RES = ro)
    (hbody : ∀ (cdv : Value) (A : Around) (outer : List Env) (s : Shared) (H : Hp) (vs : List V) (E : XK), Room k (A.deeper (PyProof.Rows.envOfC qual scope s.heap.objs.size f cdv)) →
      SSs (cxOf CX P w K mg base N qual scope f cdv A outer s H E) T E mu (iop.map fun j => (j, vs.getD j .non)) body m) :
    FnOk P w K mg base CX (k + 1) f fd ps (spG K T iop bop ro ps.length (runF N.length iop ro m)) := by
  refine F.ok S (fun vs H Q E h => h.1) (fun cdv A outer s H vs Q E hr h => ?_)
  obtain ⟨hvl, O, args, tr, hA, q⟩ := h
  refine ⟨_, hbody cdv A outer s H vs E hr, O, initF N.length args, Rl.start tr hA (by omega) (fun i hi => hmu i (by omega)) (fun i hi => hbo i (by omega)) (fun j hj => by have := hio j hj; omega), ?_⟩
  have hmu' : ∀ i, iop.contains i = true → mu i = true := fun i hi => by
    rw [hmu i (hio i (by simpa using hi))]; exact hi
  unfold runF at q
  cases hm : m (initF N.length args) with
  | bad => rw [hm] at q; exact q
  | exc e => rw [hm] at q; exact q
  | ok p =>
    obtain ⟨fl, fr'⟩ := p
    rw [hm] at q
    simp only [SK.R.bind_ok] at q
    have fin : ∀ (v : Val) (x : V) (O' : Own) (H' : Hp) (σ' : St) (outs : List Val), outsOf fr' iop = some outs → Fm O H O' H' → Rl K T mu (iop.map fun j => (j, vs.getD j .non)) O' fr' σ' H' → RsR K T O' H' mu v x →
        (∀ O' H' x, Fm O H O' H' → (∀ a, O' a ≠ none → H' a ≠ none) → OutsR K T O' H' vs iop outs → RtR K T ro RES O' H' v x → Q x H') → Q x H' := fun v x O' H' σ' outs ho F' R' V' g =>
      g O' H' x F' R'.trk (outs_ok hmu' (fun j hj => by have := hio j hj; omega) R' (fun j h => h) ho) (by
        unfold RtR; rw [← hro]; exact V')
    cases fl with
    | bk => exact q.elim
    | ct => exact q.elim
    | nx =>
      cases ro with
      | true => exact q.elim
      | false =>
        simp only [Bool.false_eq_true, if_false] at q
        cases ho : outsOf fr' iop with
        | none => rw [ho] at q; exact q.elim
        | some outs =>
          rw [ho] at q
          exact fun O' H' σ' F' R' => fin .non .non O' H' σ' outs ho F' R' (rsr_val hro (by unfold VR; rfl)) q
    | rt v =>
      cases ho : outsOf fr' iop with
      | none => rw [ho] at q; exact q.elim
      | some outs =>
        rw [ho] at q
        exact fun O' H' σ' x F' R' V' => fin v x O' H' σ' outs ho F' R' V' q
end SK

set_option maxHeartbeats 1000000
/-! SK5: calls of defs with what is lent, of classes, methods; fields. -/
noncomputable section
namespace SK
open PySem L2
section
variable {K : PySem.W.Frag} {T : Tb}
/-- to whom the callee's places belong -/
def inn (iop : List Nat) (pj : Nat → Nat) (O : Own) : Own := fun a => (O a).map fun w => match w with
  | .sl k => (match iop.find? (fun j => pj j == k) with
    | some j => .sl j
    | none => .out)
  | .fl k g => (match iop.find? (fun j => pj j == k) with
    | some j => .fl j g
    | none => .out)
  | .out => .out
  | .tmp => .out
def outt (pj : Nat → Nat) (O1 O' : Own) : Own := fun a => (O' a).map fun w => match w with
  | .sl j => .sl (pj j)
  | .fl j g => .fl (pj j) g
  | .tmp => .tmp
  | .out => (O1 a).getD .out
/-- lent to be read: what is lent to us, or what a slot owns that is not lent otherwise -/
def BoC (K : PySem.W.Frag) (T : Tb) (O : Own) (H : Hp) (iop : List Nat) (pj : Nat → Nat) (v : Val) (x : V) : Prop := BoR K T O H v x ∨ ∃ i, (∀ j, iop.contains j = true → pj j ≠ i) ∧ OwR K T O H i v x
def ArgsI (K : PySem.W.Frag) (T : Tb) (O : Own) (H : Hp) (iop bop : List Nat) (pj : Nat → Nat) : Nat → List Val → List V → Prop
  | _, [], [] => True
  | j, v :: vs, x :: xs => (if iop.contains j = true then OwR K T O H (pj j) v x else if bop.contains j = true then BoC K T O H iop pj v x else VR K T O H v x) ∧ ArgsI K T O H iop bop pj (j + 1) vs xs
  | _, _, _ => False
def OutsI (K : PySem.W.Frag) (T : Tb) (O : Own) (H : Hp) (pj : Nat → Nat) (vs : List V) : List Nat → List Val → Prop
  | [], [] => True
  | j :: js, v :: outs => (∃ x, vs[j]? = some x ∧ OwR K T O H (pj j) v x) ∧ OutsI K T O H pj vs js outs
  | _, _ => False
theorem inn_none {iop pj O a} (h : O a = none) : inn iop pj O a = none := by unfold inn; rw [h]; rfl
theorem inn_some {iop pj O a} (h : inn iop pj O a ≠ none) : O a ≠ none := fun n => h (inn_none n)
theorem find_pj {iop : List Nat} {pj : Nat → Nat} (inj : ∀ j j', iop.contains j = true → iop.contains j' = true → pj j = pj j' → j = j') {j : Nat} (hj : iop.contains j = true) : iop.find? (fun i => pj i == pj j) = some j := by
  cases q : iop.find? (fun i => pj i == pj j) with
  | none =>
    have := List.find?_eq_none.mp q j (by simpa using hj)
    simp at this
  | some i =>
    have h1 := List.find?_some q
    have h2 := List.mem_of_find?_eq_some q
    rw [inj i j (by simpa using h2) hj (by simpa using h1)]
theorem inn_out {iop pj O a} (h : O a = some .out) : inn iop pj O a = some .out := by unfold inn; rw [h]; rfl
theorem inn_sl {iop : List Nat} {pj : Nat → Nat} {O : Own} {a i} (n : ∀ j, iop.contains j = true → pj j ≠ i) (h : ∀ w, O a = some w → ofSlot i w) (e : O a ≠ none) : inn iop pj O a = some .out := by
  have nf : iop.find? (fun j => pj j == i) = none := List.find?_eq_none.mpr fun j hj => by
    have := n j (by simpa using hj)
    simpa using this
  cases q : O a with
  | none => exact absurd q e
  | some w =>
    unfold inn
    rw [q]
    rcases h w q with rfl | ⟨g, rfl⟩
    · show some (match iop.find? (fun j => pj j == i) with | some j => Ow.sl j | none => .out) = _; rw [nf]
    · show some (match iop.find? (fun j => pj j == i) with | some j => Ow.fl j g | none => .out) = _; rw [nf]
theorem BFs.relabB {O O' : Own} {H : Hp} {c : Nat} (f : Fb O H O' H) (hk : ∀ a, O a = some .out → O' a = some .out) : ∀ {fs vs ws}, BFs K T O H c fs vs ws → BFs K T O' H c fs vs ws
  | [], [], [], _ => trivial
  | k :: fs, v :: vs, w :: ws, ⟨a, b⟩ => by
    refine ⟨?_, b.relabB f hk⟩
    by_cases h : T.own c k = true
    · rw [if_pos h] at a ⊢
      rcases a with a | a
      · exact .inl (a.monoB f)
      · exact .inr (OwL.relabB f hk a)
    · rw [if_neg h] at a ⊢; exact VR.monoB f _ _ a
  | [], _ :: _, _, h => h.elim
  | [], [], _ :: _, h => h.elim
  | _ :: _, [], _, h => h.elim
  | _ :: _, _ :: _, [], h => h.elim
theorem LdI.relabB {O O' : Own} {H : Hp} (f : Fb O H O' H) (hk : ∀ a, O a = some .out → O' a = some .out) : ∀ {v x}, LdI K T O H v x → LdI K T O' H v x
  | .ins c fs vs, x, ⟨a, dx, fs', ws, e, o, h, q, r⟩ => ⟨a, dx, fs', ws, e, hk a o, h, q, r.relabB f hk⟩
  | .non, _, h => h.elim
  | .bl _, _, h => h.elim
  | .int _, _, h => h.elim
  | .str _, _, h => h.elim
  | .tup _, _, h => h.elim
  | .lst _, _, h => h.elim
  | .dic _ _, _, h => h.elim
  | .scr _, _, h => h.elim
theorem BoR.relabB {O O' : Own} {H : Hp} (f : Fb O H O' H) (hk : ∀ a, O a = some .out → O' a = some .out) {v x} (h : BoR K T O H v x) : BoR K T O' H v x := by
  rcases h with (h | h) | h
  · exact .inl (.inl (h.monoB f))
  · exact .inl (.inr (OwL.relabB f hk h))
  · exact .inr (h.relabB f hk)
theorem FRs.lend {O O' : Own} {H : Hp} {c i : Nat} (f : Fb O H O' H) (hk : ∀ a g, O a = some (.fl i g) → O' a = some .out) : ∀ {fs vs ws}, FRs K T O H c i fs vs ws → BFs K T O' H c fs vs ws
  | [], [], [], _ => trivial
  | g :: fs, v :: vs, w :: ws, ⟨a, b⟩ => by
    refine ⟨?_, b.lend f hk⟩
    by_cases h : T.own c g = true
    · rw [if_pos h] at a ⊢; exact .inr (OwL.relabB f (fun a => hk a g) a)
    · rw [if_neg h] at a ⊢; exact VR.monoB f _ _ a
  | [], _ :: _, _, h => h.elim
  | [], [], _ :: _, h => h.elim
  | _ :: _, [], _, h => h.elim
  | _ :: _, _ :: _, [], h => h.elim
theorem OwR.lend {O O' : Own} {H : Hp} {i : Nat} (f : Fb O H O' H) (h1 : ∀ a w, O a = some w → ofSlot i w → O' a = some .out) : ∀ {v x}, OwR K T O H i v x → BoR K T O' H v x
  | .ins c fs vs, x, ⟨a, dx, fs', ws, e, o, h, q, r⟩ => .inr ⟨a, dx, fs', ws, e, h1 a _ o (.inl rfl), h, q, r.lend f fun a g e => h1 a _ e (.inr ⟨g, rfl⟩)⟩
  | .lst xs, x, h => .inl (.inr (OwL.relabB f (fun a e => h1 a _ e (.inl rfl)) (show OwL K T O H (.sl i) (.lst xs) x from h)))
  | .dic ks ws, x, h => .inl (.inr (OwL.relabB f (fun a e => h1 a _ e (.inl rfl)) (show OwL K T O H (.sl i) (.dic ks ws) x from h)))
  | .non, _, h => h.elim
  | .bl _, _, h => h.elim
  | .int _, _, h => h.elim
  | .str _, _, h => h.elim
  | .tup _, _, h => h.elim
  | .scr _, _, h => h.elim
theorem args_in {O1 : Own} {H1 : Hp} {iop bop : List Nat} {pj : Nat → Nat} (inj : ∀ j j', iop.contains j = true → iop.contains j' = true → pj j = pj j' → j = j') : ∀ {k : Nat} {args : List Val} {vs : List V},
    ArgsI K T O1 H1 iop bop pj k args vs → ArgsR K T (inn iop pj O1) H1 iop bop k args vs
  | _, [], [], _ => trivial
  | k, v :: as, x :: xs, ⟨a, b⟩ => by
    have fb : Fb O1 H1 (inn iop pj O1) H1 := fun a o e n => ⟨e, inn_none n⟩
    refine ⟨?_, args_in inj b⟩
    by_cases h : iop.contains k = true
    · rw [if_pos h] at a ⊢
      have ff := find_pj inj h
      refine OwR.relabB fb (fun a e => ?_) (fun a g e => ?_) a
      · unfold inn; rw [e]; show some (match iop.find? (fun j => pj j == pj k) with | some j => Ow.sl j | none => .out) = _; rw [ff]
      · unfold inn; rw [e]; show some (match iop.find? (fun j => pj j == pj k) with | some j => Ow.fl j g | none => .out) = _; rw [ff]
    · rw [if_neg h] at a ⊢
      by_cases hb : bop.contains k = true
      · rw [if_pos hb] at a ⊢
        rcases a with a | ⟨i, n, a⟩
        · exact a.relabB fb fun a e => inn_out e
        · exact a.lend fb fun a w e z => inn_sl n (fun w' e' => by rw [e] at e'; cases e'; exact z) (by rw [e]; exact fun q => nomatch q)
      · rw [if_neg hb] at a ⊢
        exact VR.monoB fb _ _ a
  | _, [], _ :: _, h => h.elim
  | _, _ :: _, [], h => h.elim
theorem outs_in {O1 O' : Own} {H' : Hp} {pj : Nat → Nat} {vs : List V} (fb : Fb O' H' (outt pj O1 O') H') : ∀ {js : List Nat} {outs : List Val}, OutsR K T O' H' vs js outs → OutsI K T (outt pj O1 O') H' pj vs js outs
  | [], [], _ => trivial
  | j :: js, v :: os, ⟨⟨x, h1, h2⟩, b⟩ => by
    refine ⟨⟨x, h1, OwR.relabB fb (fun a e => ?_) (fun a g e => ?_) h2⟩, outs_in fb b⟩
    · unfold outt; rw [e]; rfl
    · unfold outt; rw [e]; rfl
  | [], _ :: _, h => h.elim
  | _ :: _, [], h => h.elim
/-- a call: what the caller has to show -/
theorem spG_use {E : XK} {iop bop : List Nat} {ro : Bool} {n : Nat} {m : FnM} {O1 : Own} {H1 : Hp} {pj : Nat → Nat} {args : List Val} {vs : List V} {Q : VK} (tr : ∀ a, O1 a ≠ none → H1 a ≠ none)
    (inj : ∀ j j', iop.contains j = true → iop.contains j' = true → pj j = pj j' → j = j') (hl : vs.length = n) (hA : ArgsI K T O1 H1 iop bop pj 0 args vs)
    (h : match m args with
      | .ok (v, outs) => ∀ O' H' x, Fm O1 H1 O' H' → (∀ a, O' a ≠ none → H' a ≠ none) → (∀ k, (∀ j, iop.contains j = true → pj j ≠ k) → ∀ a o w, H1 a = some o → O1 a = some w → ofSlot k w → H' a = some o ∧ O' a = some w) → OutsI K T O' H' pj vs iop outs → RtR K T ro (pj RES) O' H' v x → Q x H'
      | .exc e => pEx K T E O1 H1 e
      | .bad => False) : spG K T iop bop ro n m vs H1 Q E := by
  refine ⟨hl, inn iop pj O1, args, fun a e => tr a (inn_some e), args_in inj hA, ?_⟩
  · cases hm : m args with
    | bad => rw [hm] at h; exact h
    | exc e =>
      rw [hm] at h
      intro O' H' c d F' X'
      have key : Fm O1 H1 (outt pj O1 O') H' := by
        refine ⟨fun a o e n => ?_, fun a o e n => ?_, fun a o e n => ?_, fun a q => ?_⟩
        · obtain ⟨h1, h2⟩ := F'.byv a o e (inn_none n)
          exact ⟨h1, by unfold outt; rw [h2]; rfl⟩
        · obtain ⟨h1, h2⟩ := F'.out a o e (by unfold inn; rw [n]; rfl)
          exact ⟨h1, by unfold outt; rw [h2]; show some ((O1 a).getD .out) = _; rw [n]; rfl⟩
        · obtain ⟨h1, h2⟩ := F'.out a o e (by unfold inn; rw [n]; rfl)
          exact ⟨h1, by unfold outt; rw [h2]; show some ((O1 a).getD .out) = _; rw [n]; rfl⟩
        · unfold outt at q
          cases r : O' a with
          | none => rw [r] at q; cases q
          | some u =>
            rw [r] at q
            cases u with
            | sl j => cases q
            | fl j g => cases q
            | tmp => cases q
            | out =>
              have := F'.no a r
              unfold inn at this
              cases s : O1 a with
              | none => rw [s] at this; cases this
              | some v =>
                simp only [Option.map_some, s, Option.getD_some] at q
                exact q
      exact h _ H' c d key (by
        obtain ⟨cc, fs, vs', ws, fs', da, e1, e2, e3, e4, e5, e6⟩ := X'
        exact ⟨cc, fs, vs', ws, fs', da, e1, e2, e3, e4, e5, VRs.monoB (fun a o e n => ⟨e, by unfold outt; rw [n]; rfl⟩) _ _ e6⟩)
    | ok p =>
      obtain ⟨v, outs⟩ := p
      rw [hm] at h
      intro O' H' x F' tr' oR vR
      have fb : Fb O' H' (outt pj O1 O') H' := fun a o e n => ⟨e, by unfold outt; rw [n]; rfl⟩
      refine h (outt pj O1 O') H' x ⟨fun a o e n => ?_, fun a o e n => ?_, fun a o e n => ?_, fun a q => ?_⟩ (fun a q => tr' a fun z => q (by unfold outt; rw [z]; rfl)) (fun k hk a o w e n z => ?_) (outs_in fb oR) (by
        unfold RtR at vR ⊢
        cases ro with
        | true => simp only [if_true] at vR ⊢; exact OwR.relabB fb (fun a e => by unfold outt; rw [e]; rfl) (fun a g e => by unfold outt; rw [e]; rfl) vR
        | false => simp only [Bool.false_eq_true, if_false] at vR ⊢; exact VR.monoB fb _ _ vR)
      · obtain ⟨h1, h2⟩ := F'.byv a o e (inn_none n)
        exact ⟨h1, by unfold outt; rw [h2]; rfl⟩
      · obtain ⟨h1, h2⟩ := F'.out a o e (by unfold inn; rw [n]; rfl)
        exact ⟨h1, by unfold outt; rw [h2]; show some ((O1 a).getD .out) = _; rw [n]; rfl⟩
      · obtain ⟨h1, h2⟩ := F'.out a o e (by unfold inn; rw [n]; rfl)
        exact ⟨h1, by unfold outt; rw [h2]; show some ((O1 a).getD .out) = _; rw [n]; rfl⟩
      · unfold outt at q
        cases r : O' a with
        | none => rw [r] at q; cases q
        | some u =>
          rw [r] at q
          cases u with
          | sl j => cases q
          | fl j g => cases q
          | tmp => cases q
          | out =>
            have := F'.no a r
            unfold inn at this
            cases s : O1 a with
            | none => rw [s] at this; cases this
            | some v =>
              simp only [Option.map_some, s, Option.getD_some] at q
              exact q
      · have ho : inn iop pj O1 a = some .out := by
          have nf : iop.find? (fun j => pj j == k) = none := List.find?_eq_none.mpr fun j hj => by
            have := hk j (by simpa using hj)
            simpa using this
          unfold inn
          rw [n]
          rcases z with rfl | ⟨g, rfl⟩
          · show some (match iop.find? (fun j => pj j == k) with | some j => Ow.sl j | none => .out) = _; rw [nf]
          · show some (match iop.find? (fun j => pj j == k) with | some j => Ow.fl j g | none => .out) = _; rw [nf]
        obtain ⟨h1, h2⟩ := F'.out a o e ho
        exact ⟨h1, by unfold outt; rw [h2]; show some ((O1 a).getD .out) = _; rw [n]; rfl⟩
end

/-! ### argument lists that lend -/
abbrev Lt := Nat ⊕ (Val ⊕ Nat)
abbrev LM := Fr → R (List Lt × Fr)
def lN : LM := fun fr => .ok ([], fr)
def lC (a : EM) (b : LM) : LM := fun fr => (a fr).bind fun x => (b x.2).bind fun y => .ok (.inr (.inl x.1) :: y.1, y.2)
def lI (i : Nat) (b : LM) : LM := fun fr => match fr[i]? with
  | some (some _) => (b fr).bind fun y => .ok (.inl i :: y.1, y.2)
  | _ => .bad
/-- lent to be read -/
def lB (i : Nat) (b : LM) : LM := fun fr => match fr[i]? with
  | some (some _) => (b fr).bind fun y => .ok (.inr (.inr i) :: y.1, y.2)
  | _ => .bad
def valA (fr : Fr) : Val ⊕ Nat → Option Val
  | .inl v => some v
  | .inr i => match fr[i]? with
    | some (some v) => some (unfz v)
    | _ => none
def fillA (fr : Fr) : List Lt → Option (List Val)
  | [] => some []
  | .inr a :: r => match valA fr a with
    | some v => (fillA fr r).map (v :: ·)
    | none => none
  | .inl i :: r => match fr[i]? with
    | some (some v) => if isFz v = true then none else (fillA fr r).map (v :: ·)
    | _ => none
/-- the places that are lent -/
def lentP : Nat → List Lt → List Nat
  | _, [] => []
  | k, .inl _ :: r => k :: lentP (k + 1) r
  | k, .inr _ :: r => lentP (k + 1) r
def lentS : List Lt → List Nat
  | [] => []
  | .inl i :: r => i :: lentS r
  | .inr _ :: r => lentS r
def setAll : Fr → List Nat → List Val → Fr
  | fr, i :: is, v :: vs => setAll (fr.set i (some v)) is vs
  | fr, _, _ => fr
def nodupB : List Nat → Bool
  | [] => true
  | x :: xs => !xs.contains x && nodupB xs
/-- what is lent to be read, at places for that, and not lent otherwise -/
def borOk (bop ls : List Nat) : Nat → List Lt → Bool
  | _, [] => true
  | k, .inr (.inr i) :: r => bop.contains k && !ls.contains i && borOk bop ls (k + 1) r
  | k, _ :: r => borOk bop ls (k + 1) r
/-- f(..), the def m with its defaults -/
def callM (iop bop : List Nat) (m : FnM) (dv : List Val) (as : LM) : EM := fun fr => (as fr).bind fun x => if lentP 0 x.1 = iop ∧ nodupB (lentS x.1) = true ∧ borOk bop (lentS x.1) 0 x.1 = true then (ofO (fillA x.2 x.1)).bind fun args => (m (args ++ dv)).bind fun r => .ok (r.1, setAll x.2 (lentS x.1) r.2) else .bad
section
variable (K : PySem.W.Frag) (T : Tb) (E : XK) (mu : Nat → Bool) (io : List (Nat × V))
def ArA (O : Own) (H : Hp) (σ : St) : Val ⊕ Nat → V → Prop
  | .inl v, x => VR K T O H v x
  | .inr i, x => (mu i = true ∨ mu (BOR + i) = true) ∧ σ[i]? = some (some x)
def ArgL (O : Own) (H : Hp) (σ : St) : List Lt → List V → Prop
  | [], [] => True
  | .inr a :: r, x :: xs => ArA K T mu O H σ a x ∧ ArgL O H σ r xs
  | .inl i :: r, x :: xs => (mu i = true ∧ σ[i]? = some (some x)) ∧ ArgL O H σ r xs
  | _, _ => False
def pL (O : Own) (σ : St) (H : Hp) (Q : List V → Hp → Prop) : R (List Lt × Fr) → Prop
  | .ok (vs, fr') => ∀ O' H' xs, Fm O H O' H' → Rl K T mu io O' fr' σ H' → ArgL K T mu O' H' σ vs xs → Q xs H'
  | .exc e => pEx K T E O H e
  | .bad => False
def rL (m : LM) : TA := fun σ H Q => ∃ O fr, Rl K T mu io O fr σ H ∧ pL K T E mu io O σ H Q (m fr)
end
section
variable {X : Cx} {T : Tb} {E : XK} {mu : Nat → Bool} {io : List (Nat × V)} {me : EM} {pos : Pos} {e : Expr} {es : List Expr} {ms : LM}
abbrev SL (X : Cx) (T : Tb) (E : XK) (mu : Nat → Bool) (io : List (Nat × V)) (es : List Expr) (m : LM) : Prop := PA X es (rL X.K T E mu io m)
theorem ArgL.mono {K : PySem.W.Frag} {O O' : Own} {H H' : Hp} {σ : St} (f : Fm O H O' H') : ∀ {as : List Lt} {xs : List V}, ArgL K T mu O H σ as xs → ArgL K T mu O' H' σ as xs
  | [], [], _ => trivial
  | .inr (.inl v) :: r, x :: xs, ⟨a, b⟩ => ⟨VR.mono f _ _ a, b.mono f⟩
  | .inr (.inr v) :: r, x :: xs, ⟨a, b⟩ => ⟨a, b.mono f⟩
  | .inl i :: r, x :: xs, ⟨a, b⟩ => ⟨a, b.mono f⟩
  | [], _ :: _, h => h.elim
  | .inr _ :: _, [], h => h.elim
  | .inl _ :: _, [], h => h.elim
theorem sl_nil : SL X T E mu io [] lN := PA.imp pa_nil fun σ H Q ⟨O, fr, rl, q⟩ => q O H [] (Fm.refl _ _) rl trivial
theorem sl_cons (ha : SE X T E mu io e me) (hr : SL X T E mu io es ms) (hs : starEach (e :: es) X.env = (false, eval e X.env) :: starEach es X.env := by rfl) : SL X T E mu io (e :: es) (lC me ms) :=
  PA.imp (pa_cons ha hr hs) fun σ H Q ⟨O, fr, rl, q⟩ => by
    unfold lC at q
    refine ⟨O, fr, rl, ?_⟩
    cases h1 : me fr with
    | bad => rw [h1] at q; exact q
    | exc e => rw [h1] at q; exact q
    | ok p =>
      obtain ⟨x, fr1⟩ := p
      rw [h1] at q
      intro O1 H1 x' F1 R1 V1
      refine ⟨O1, fr1, R1, ?_⟩
      simp only [SK.R.bind_ok] at q
      cases h2 : ms fr1 with
      | bad => rw [h2] at q; exact q
      | exc e => rw [h2] at q; exact pEx.back F1 q
      | ok p =>
        obtain ⟨ys, fr2⟩ := p
        rw [h2] at q
        intro O2 H2 ys' F2 R2 V2
        exact q O2 H2 _ (F1.trans F2) R2 ⟨VR.mono F2 _ _ V1, V2⟩
theorem sl_lend {i : Nat} {x : Str} {p : Pos} (hN : X.N[i]? = some x := by rfl) (hv : Vis X.env.scope x := by first | exact .inl rfl | exact .inr (.inl rfl) | exact .inr (.inr rfl)) (hm : mu i = true := by rfl) (hd : (x == ("__debug__" : Str)) = false := by decide) (hcd : (x == ("__classdict__" : Str)) = false := by decide) (hr : SL X T E mu io es ms)
    (hs : starEach (.Name x p :: es) X.env = (false, eval (.Name x p) X.env) :: starEach es X.env := by rfl) : SL X T E mu io (.Name x p :: es) (lI i ms) :=
  PA.imp (pa_cons (pe_var hN hv hd hcd) hr hs) fun σ H Q ⟨O, fr, rl, q⟩ => by
    unfold lI at q
    split at q
    · rename_i v hv
      obtain ⟨y, h1, _⟩ := rl.sl _ _ hv
      refine ⟨y, h1, O, fr, rl, ?_⟩
      cases h2 : ms fr with
      | bad => rw [h2] at q; exact q
      | exc e => rw [h2] at q; exact q
      | ok p =>
        obtain ⟨ys, fr2⟩ := p
        rw [h2] at q
        intro O2 H2 ys' F2 R2 V2
        exact q O2 H2 _ F2 R2 ⟨⟨hm, h1⟩, V2⟩
    · exact q.elim
theorem sl_bor {i : Nat} {x : Str} {p : Pos} (hN : X.N[i]? = some x := by rfl) (hv : Vis X.env.scope x := by first | exact .inl rfl | exact .inr (.inl rfl) | exact .inr (.inr rfl)) (hm : mu i = true ∨ mu (BOR + i) = true := by first | exact .inl rfl | exact .inr rfl) (hd : (x == ("__debug__" : Str)) = false := by decide) (hcd : (x == ("__classdict__" : Str)) = false := by decide) (hr : SL X T E mu io es ms)
    (hs : starEach (.Name x p :: es) X.env = (false, eval (.Name x p) X.env) :: starEach es X.env := by rfl) : SL X T E mu io (.Name x p :: es) (lB i ms) :=
  PA.imp (pa_cons (pe_var hN hv hd hcd) hr hs) fun σ H Q ⟨O, fr, rl, q⟩ => by
    unfold lB at q
    split at q
    · rename_i v hv
      obtain ⟨y, h1, h2⟩ := rl.sl i v hv
      refine ⟨y, h1, O, fr, rl, ?_⟩
      cases h2 : ms fr with
      | bad => rw [h2] at q; exact q
      | exc e => rw [h2] at q; exact q
      | ok p =>
        obtain ⟨ys, fr2⟩ := p
        rw [h2] at q
        intro O2 H2 ys' F2 R2 V2
        exact q O2 H2 _ F2 R2 ⟨⟨hm, h1⟩, V2⟩
    · exact q.elim
/-! ### the call itself -/
theorem fill_len {fr : Fr} : ∀ {as : List Lt} {args}, fillA fr as = some args → args.length = as.length
  | [], _, h => by cases h; rfl
  | .inr v :: r, args, h => by
    unfold fillA at h
    split at h
    · cases q : fillA fr r with
      | none => rw [q] at h; cases h
      | some l => rw [q] at h; cases h; rw [List.length_cons, List.length_cons, fill_len q]
    · cases h
  | .inl i :: r, args, h => by
    unfold fillA at h
    split at h
    · split at h
      · cases h
      · cases q : fillA fr r with
        | none => rw [q] at h; cases h
        | some l => rw [q] at h; cases h; rw [List.length_cons, List.length_cons, fill_len q]
    · cases h
/-- the slot that stands at the place j -/
def slotAt (as : List Lt) (off j : Nat) : Nat := match as[j - off]? with
  | some (.inl i) => i
  | _ => 0
theorem lentP_ge : ∀ {as : List Lt} {k j : Nat}, j ∈ lentP k as → k ≤ j
  | .inl _ :: r, k, j, h => by
    unfold lentP at h
    rcases List.mem_cons.mp h with h | h
    · omega
    · have := lentP_ge h; omega
  | .inr _ :: r, k, j, h => by
    unfold lentP at h
    have := lentP_ge h; omega
theorem lent_at : ∀ {as : List Lt} {k j : Nat}, j ∈ lentP k as → ∃ i, as[j - k]? = some (.inl i) ∧ i ∈ lentS as
  | .inl i :: r, k, j, h => by
    unfold lentP at h
    rcases List.mem_cons.mp h with h | h
    · subst h; exact ⟨i, by simp, by unfold lentS; exact List.mem_cons_self⟩
    · obtain ⟨i', h1, h2⟩ := lent_at h
      have := lentP_ge h
      refine ⟨i', ?_, by unfold lentS; exact List.mem_cons_of_mem _ h2⟩
      rw [show j - k = (j - (k + 1)) + 1 by omega]
      simpa using h1
  | .inr v :: r, k, j, h => by
    unfold lentP at h
    obtain ⟨i', h1, h2⟩ := lent_at h
    have := lentP_ge h
    refine ⟨i', ?_, by unfold lentS; exact h2⟩
    rw [show j - k = (j - (k + 1)) + 1 by omega]
    simpa using h1
theorem nodupB_cons {x : Nat} {xs} (h : nodupB (x :: xs) = true) : x ∉ xs ∧ nodupB xs = true := by
  unfold nodupB at h
  simp at h
  exact h
theorem lentP_mem {as : List Lt} : ∀ {k j i : Nat}, as[j]? = some (.inl i) → k + j ∈ lentP k as := by
  induction as with
  | nil => intro k j i h; simp at h
  | cons a r ih =>
    intro k j i h
    cases j with
    | zero =>
      simp at h; subst h
      unfold lentP; exact List.mem_cons_self
    | succ j =>
      simp at h
      have := ih (k := k + 1) h
      rw [show k + (j + 1) = k + 1 + j by omega]
      cases a with
      | inl u => unfold lentP; exact List.mem_cons_of_mem _ this
      | inr u => unfold lentP; exact this
theorem slot_inj {as : List Lt} (nd : nodupB (lentS as) = true) : ∀ {j j' i : Nat}, as[j]? = some (.inl i) → as[j']? = some (.inl i) → j = j' := by
  induction as with
  | nil => intro j j' i h; simp at h
  | cons a r ih =>
    intro j j' i h h'
    have mem : ∀ {q i : Nat}, r[q]? = some (.inl i) → i ∈ lentS r := fun {q i} hq => by
      have := lentP_mem (k := 0) hq
      obtain ⟨i', h1, h2⟩ := lent_at this
      simp at h1
      rw [hq] at h1
      cases h1
      exact h2
    cases a with
    | inr v =>
      unfold lentS at nd
      cases j with
      | zero => simp at h
      | succ j =>
        cases j' with
        | zero => simp at h'
        | succ j' => exact congrArg (· + 1) (ih nd (j := j) (j' := j') (i := i) (by simpa using h) (by simpa using h'))
    | inl u =>
      unfold lentS at nd
      obtain ⟨n1, n2⟩ := nodupB_cons nd
      cases j with
      | zero =>
        cases j' with
        | zero => rfl
        | succ j' =>
          simp at h h'
          subst h
          exact absurd (mem h') n1
      | succ j =>
        cases j' with
        | zero =>
          simp at h h'
          subst h'
          exact absurd (mem h) n1
        | succ j' => exact congrArg (· + 1) (ih n2 (j := j) (j' := j') (i := i) (by simpa using h) (by simpa using h'))
theorem argsI_of {K : PySem.W.Frag} {O : Own} {H : Hp} {σ : St} {fr : Fr} {dv : List Val} {dx : List V} {all : List Lt} {iop bop : List Nat} {pj : Nat → Nat} (rl : Rl K T mu io O fr σ H) (hd : VRs K T O H dv dx) (hnl : ∀ i : Nat, i < fr.length → i ∉ lentS all → ∀ j, iop.contains j = true → pj j ≠ i) : ∀ {as : List Lt} {k : Nat} {args : List Val} {xs : List V},
    (∀ j : Nat, j ∈ iop → k + as.length ≤ j → False) → (∀ j i : Nat, as[j]? = some (Sum.inl i) → iop.contains (k + j) = true ∧ pj (k + j) = i) → (∀ (j : Nat) (v : Val ⊕ Nat), as[j]? = some (Sum.inr v) → iop.contains (k + j) = false) → borOk bop (lentS all) k as = true → ArgL K T mu O H σ as xs → fillA fr as = some args → ArgsI K T O H iop bop pj k (args ++ dv) (xs ++ dx)
  | [], k, args, xs, h0, h1, h2, hB, hA, hf => by
    cases hf
    cases xs with
    | cons x xs => exact hA.elim
    | nil =>
      have : ∀ {k : Nat} {dv : List Val} {dx : List V}, (∀ j, j ∈ iop → k ≤ j → False) → VRs K T O H dv dx → ArgsI K T O H iop bop pj k dv dx := by
        intro k dv
        induction dv generalizing k with
        | nil => intro dx h r; rw [r.inv0]; trivial
        | cons v dv ih =>
          intro dx h r
          obtain ⟨y, q, rfl, a, b⟩ := r.inv
          refine ⟨?_, ih (fun j hj hk => h j hj (by omega)) b⟩
          rw [if_neg (by intro z; exact h k (by simpa using z) (Nat.le_refl _))]
          split
          · exact .inl (.inl (.inl a))
          · exact a
      exact this (fun j hj hk => h0 j hj (by simpa using hk)) hd
  | .inr v :: r, k, args, xs, h0, h1, h2, hB, hA, hf => by
    cases xs with
    | nil => exact hA.elim
    | cons x xs =>
      unfold fillA at hf
      split at hf
      · rename_i u hu
        cases q : fillA fr r with
        | none => rw [q] at hf; cases hf
        | some l =>
          rw [q] at hf
          cases hf
          have hB' : borOk bop (lentS all) (k + 1) r = true := by
            unfold borOk at hB
            split at hB
            · rename_i e; cases e
            · rename_i e; cases e; rw [Bool.and_eq_true] at hB; exact hB.2
            · rename_i e; cases e; exact hB
          refine ⟨?_, argsI_of (all := all) rl hd hnl (fun j hj hk => h0 j hj (by rw [List.length_cons]; omega)) (fun j i e => ?_) (fun j v e => ?_) hB' hA.2 q⟩
          · have := h2 0 v (by simp)
            rw [Nat.add_zero] at this
            rw [if_neg (by rw [this]; exact Bool.false_ne_true)]
            cases v with
            | inl w' =>
              cases hu
              have hA1 : VR K T O H _ x := hA.1
              split
              · exact .inl (.inl (.inl hA1))
              · exact hA1
            | inr i =>
              have hb : bop.contains k = true ∧ (lentS all).contains i = false := by
                have hB2 : (bop.contains k && !(lentS all).contains i && borOk bop (lentS all) (k + 1) r) = true := hB
                rw [Bool.and_eq_true, Bool.and_eq_true] at hB2
                exact ⟨hB2.1.1, by simpa using hB2.1.2⟩
              rw [if_pos hb.1]
              have hu : (match fr[i]? with | some (some v) => some (unfz v) | _ => none) = some u := hu
              split at hu
              · rename_i w hw
                cases hu
                obtain ⟨y, g1, g2⟩ := rl.sl i _ hw
                have hA1 : (mu i = true ∨ mu (BOR + i) = true) ∧ σ[i]? = some (some x) := hA.1
                rw [hA1.2] at g1
                cases g1
                unfold SlR at g2
                by_cases m : mu i = true
                · rw [if_pos m] at g2
                  split at g2
                  · exact .inl (.inl (.inl g2))
                  · rename_i hz
                    rw [unfz_not (by simpa using hz)]
                    exact .inr ⟨i, hnl i (List.getElem?_eq_some_iff.mp hw).1 (by simpa using hb.2), g2⟩
                · rw [if_neg m] at g2
                  rcases hA1.1 with z | z
                  · exact absurd z m
                  · rw [if_pos z] at g2; rw [unfz_not (BoR.nf g2)]; exact .inl g2
              · cases hu
          · have z := h1 (j + 1) i (by simpa using e); rw [show k + (j + 1) = k + 1 + j from by omega] at z; exact z
          · have z := h2 (j + 1) v (by simpa using e); rw [show k + (j + 1) = k + 1 + j from by omega] at z; exact z
      · cases hf
  | .inl i :: r, k, args, xs, h0, h1, h2, hB, hA, hf => by
    cases xs with
    | nil => exact hA.elim
    | cons x xs =>
      unfold fillA at hf
      split at hf
      · rename_i v hv
        by_cases hz : isFz v = true
        · rw [if_pos hz] at hf; cases hf
        rw [if_neg hz] at hf
        cases q : fillA fr r with
        | none => rw [q] at hf; cases hf
        | some l =>
          rw [q] at hf
          cases hf
          refine ⟨?_, argsI_of (all := all) rl hd hnl (fun j hj hk => h0 j hj (by rw [List.length_cons]; omega)) (fun j i e => ?_) (fun j v e => ?_) hB hA.2 q⟩
          · obtain ⟨c1, c2⟩ := h1 0 i (by simp)
            rw [Nat.add_zero] at c1 c2
            rw [if_pos c1, c2]
            obtain ⟨y, g1, g2⟩ := rl.owned hv hA.1.1 (by simpa using hz)
            rw [hA.1.2] at g1
            cases g1
            exact g2
          · have z := h1 (j + 1) i (by simpa using e); rw [show k + (j + 1) = k + 1 + j from by omega] at z; exact z
          · have z := h2 (j + 1) v (by simpa using e); rw [show k + (j + 1) = k + 1 + j from by omega] at z; exact z
      · cases hf
theorem setAll_len : ∀ (is : List Nat) (vs : List Val) (fr : Fr), (setAll fr is vs).length = fr.length
  | [], _, _ => rfl
  | _ :: _, [], _ => rfl
  | i :: is, v :: vs, fr => by unfold setAll; rw [setAll_len is vs, List.length_set]
theorem setAll_ne : ∀ {is : List Nat} {vs : List Val} {fr : Fr} {j : Nat}, j ∉ is → (setAll fr is vs)[j]? = fr[j]?
  | [], _, _, _, _ => rfl
  | _ :: _, [], _, _, _ => rfl
  | i :: is, v :: vs, fr, j, h => by
    unfold setAll
    rw [setAll_ne fun z => h (List.mem_cons_of_mem _ z), List.getElem?_set_ne fun z => h (by rw [z]; exact List.mem_cons_self)]
theorem lent_out {K : PySem.W.Frag} {O' : Own} {H' : Hp} {σ : St} {pj : Nat → Nat} {all : List Lt} {vs : List V} : ∀ {as : List Lt} {k : Nat} {js : List Nat} {outs : List Val} {fr : Fr} {i : Nat} {v : Val}, js = lentP k as → i ∈ lentS as → nodupB (lentS as) = true → OutsI K T O' H' pj vs js outs → i < fr.length →
    (∀ j : Nat, j ∈ js → ∃ i : Nat, all[j]? = some (Sum.inl i) ∧ as[j - k]? = some (Sum.inl i) ∧ pj j = i) → (∀ (j i : Nat) (x : V), all[j]? = some (Sum.inl i) → vs[j]? = some x → mu i = true ∧ σ[i]? = some (some x)) →
    (setAll fr (lentS as) outs)[i]? = some (some v) → ∃ x, σ[i]? = some (some x) ∧ mu i = true ∧ OwR K T O' H' i v x
  | [], _, _, _, _, _, _, _, hi, _, _, _, _, _, _ => by unfold lentS at hi; cases hi
  | .inr w :: r, k, js, outs, fr, i, v, hj, hi, nd, ho, hl, h1, h2, hg => by
    unfold lentS at hi nd hg
    refine lent_out (as := r) (k := k + 1) (js := js) (by rw [hj]; rfl) hi nd ho hl (fun j hjm => ?_) h2 hg
    obtain ⟨i', a1, a2, a3⟩ := h1 j hjm
    have hk : k + 1 ≤ j := lentP_ge (as := r) (by rw [hj] at hjm; exact hjm)
    rw [show j - k = (j - (k + 1)) + 1 from by omega] at a2
    exact ⟨i', a1, by simpa using a2, a3⟩
  | .inl u :: r, k, js, outs, fr, i, v, hj, hi, nd, ho, hl, h1, h2, hg => by
    subst hj
    unfold lentP at ho h1
    cases outs with
    | nil => exact ho.elim
    | cons out outs =>
      obtain ⟨⟨x, hx, hr⟩, ho⟩ := ho
      unfold lentS at hi nd hg
      obtain ⟨n1, n2⟩ := nodupB_cons nd
      unfold setAll at hg
      obtain ⟨i', a1, a2, a3⟩ := h1 k List.mem_cons_self
      rw [Nat.sub_self] at a2
      simp at a2
      subst a2
      by_cases e : i = u
      · subst e
        rw [setAll_ne n1, List.getElem?_set, if_pos rfl, if_pos hl] at hg
        cases hg
        obtain ⟨b1, b2⟩ := h2 k _ x a1 hx
        rw [a3] at hr
        exact ⟨x, b2, b1, hr⟩
      · have hi' : i ∈ lentS r := by rcases List.mem_cons.mp hi with z | z; exact absurd z e; exact z
        refine lent_out (as := r) (k := k + 1) rfl hi' n2 ho (by rw [List.length_set]; exact hl) (fun j hjm => ?_) h2 hg
        obtain ⟨i2, c1, c2, c3⟩ := h1 j (List.mem_cons_of_mem _ hjm)
        have hk : k + 1 ≤ j := lentP_ge hjm
        rw [show j - k = (j - (k + 1)) + 1 from by omega] at c2
        exact ⟨i2, c1, by simpa using c2, c3⟩
theorem ArgL.len {K : PySem.W.Frag} {O : Own} {H : Hp} {σ : St} : ∀ {as : List Lt} {xs : List V}, ArgL K T mu O H σ as xs → as.length = xs.length
  | [], [], _ => rfl
  | .inr v :: r, x :: xs, ⟨a, b⟩ => by rw [List.length_cons, List.length_cons, b.len]
  | .inl i :: r, x :: xs, ⟨a, b⟩ => by rw [List.length_cons, List.length_cons, b.len]
  | [], _ :: _, h => h.elim
  | .inr _ :: _, [], h => h.elim
  | .inl _ :: _, [], h => h.elim
theorem ArgL.at_ {K : PySem.W.Frag} {O : Own} {H : Hp} {σ : St} : ∀ {as : List Lt} {xs : List V} {j i : Nat}, ArgL K T mu O H σ as xs → as[j]? = some (.inl i) → ∃ x, xs[j]? = some x ∧ mu i = true ∧ σ[i]? = some (some x)
  | [], [], _, _, _, e => by simp at e
  | .inr v :: r, x :: xs, 0, i, _, e => by simp at e
  | .inl u :: r, x :: xs, 0, i, ⟨a, _⟩, e => by simp at e; subst e; exact ⟨x, rfl, a.1, a.2⟩
  | .inr v :: r, x :: xs, j + 1, i, ⟨_, b⟩, e => by simp at e; obtain ⟨y, h1, h2⟩ := b.at_ e; exact ⟨y, by simpa using h1, h2⟩
  | .inl u :: r, x :: xs, j + 1, i, ⟨_, b⟩, e => by simp at e; obtain ⟨y, h1, h2⟩ := b.at_ e; exact ⟨y, by simpa using h1, h2⟩
  | [], _ :: _, _, _, h, _ => h.elim
  | .inr _ :: _, [], _, _, h, _ => h.elim
  | .inl _ :: _, [], _, _, h, _ => h.elim
/-- what the caller shows, from the lists -/
theorem call_core {K : PySem.W.Frag} {iop bop : List Nat} {ro : Bool} {r : Nat} {n : Nat} {m : FnM} {dv : List Val} {dx : List V} {O1 : Own} {H1 : Hp} {σ : St} {fr1 : Fr} {as : List Lt} {args : List Val} {xs : List V} {Q : VK} (R1 : Rl K T mu io O1 fr1 σ H1) (hd : ∀ O H, VRs K T O H dv dx) (hn : (xs ++ dx).length = n) (hRES : iop.contains RES = false)
    (hp : lentP 0 as = iop) (nd : nodupB (lentS as) = true) (hB : borOk bop (lentS as) 0 as = true) (hA : ArgL K T mu O1 H1 σ as xs) (hf : fillA fr1 as = some args)
    (h : match m (args ++ dv) with
      | .ok (v, outs) => ∀ O' H' x, Fm O1 H1 O' H' → Rl K T mu io O' (setAll fr1 (lentS as) outs) σ H' → RtR K T ro r O' H' v x → Q x H'
      | .exc e => pEx K T E O1 H1 e
      | .bad => False) : spG K T iop bop ro n m (xs ++ dx) H1 Q E := by
  have hmem : ∀ j, iop.contains j = true → ∃ i, as[j]? = some (.inl i) := fun j hj => by
    obtain ⟨i, h1, _⟩ := lent_at (as := as) (k := 0) (j := j) (by rw [hp]; simpa using hj)
    exact ⟨i, by simpa using h1⟩
  have hsl : ∀ j i, as[j]? = some (.inl i) → iop.contains j = true ∧ (fun j => if j = RES then r else slotAt as 0 j) j = i := fun j i e => by
    have hj : iop.contains j = true := by
      have := lentP_mem (k := 0) e
      rw [Nat.zero_add, hp] at this
      simpa using this
    refine ⟨hj, ?_⟩
    have hne : j ≠ RES := fun z => by rw [z, hRES] at hj; cases hj
    show (if j = RES then r else slotAt as 0 j) = i
    rw [if_neg hne]
    unfold slotAt; rw [Nat.sub_zero, e]
  refine spG_use (pj := fun j => if j = RES then r else slotAt as 0 j) (args := args ++ dv) R1.trk (fun j j' hj hj' e => ?_) hn ?_ ?_
  · obtain ⟨i, h1⟩ := hmem j hj
    obtain ⟨i', h2⟩ := hmem j' hj'
    have e : i = i' := ((hsl j i h1).2.symm.trans e).trans (hsl j' i' h2).2
    subst e
    exact slot_inj nd h1 h2
  · refine argsI_of (all := as) R1 (hd O1 H1) (fun i _ hi j hj z => ?_) (fun j hj hk => ?_) (fun j i e => ?_) (fun j v e => ?_) hB hA hf
    · obtain ⟨u, h1⟩ := hmem j hj
      have z : u = i := (hsl j u h1).2.symm.trans z
      subst z
      obtain ⟨u', h2, h3⟩ := lent_at (as := as) (k := 0) (j := j) (by rw [hp]; simpa using hj)
      rw [Nat.sub_zero, h1] at h2
      cases h2
      exact hi h3
    · obtain ⟨i, h1⟩ := hmem j (by simpa using hj)
      have := (List.getElem?_eq_some_iff.mp h1).1
      omega
    · rw [Nat.zero_add]; exact hsl j i e
    · rw [Nat.zero_add]
      cases q : iop.contains j with
      | false => rfl
      | true =>
        obtain ⟨i, h1⟩ := hmem j q
        rw [e] at h1
        cases h1
  · cases hm : m (args ++ dv) with
    | bad => rw [hm] at h; exact h
    | exc e => rw [hm] at h; exact h
    | ok p =>
      obtain ⟨v, outs⟩ := p
      rw [hm] at h
      intro O' H' x F' tr' keep oR vR
      refine h O' H' x F' ⟨by rw [setAll_len]; exact R1.len, fun i v' e => ?_, tr', R1.io⟩ (by simpa using vR)
      by_cases hi : i ∈ lentS as
      · have hil : i < fr1.length := by
          have := (List.getElem?_eq_some_iff.mp e).1
          rw [setAll_len] at this
          exact this
        obtain ⟨y, g1, g2, g3⟩ := lent_out (all := as) (σ := σ) (vs := xs ++ dx) (as := as) (k := 0) (js := iop) hp.symm hi nd oR hil (fun j hj => by
            obtain ⟨i, h1⟩ := hmem j (by simpa using hj)
            exact ⟨i, h1, by simpa using h1, (hsl j i h1).2⟩) (fun j i x e1 e2 => by
            obtain ⟨y, h1, h2, h3⟩ := hA.at_ e1
            have hjl := (List.getElem?_eq_some_iff.mp h1).1
            rw [List.getElem?_append_left hjl, h1] at e2
            cases e2
            exact ⟨h2, h3⟩) e
        exact ⟨y, g1, slr_own g2 g3⟩
      · rw [setAll_ne hi] at e
        obtain ⟨y, g1, g2⟩ := R1.sl i v' e
        refine ⟨y, g1, g2.mono F' fun mi a o w e1 e2 e3 => keep i (fun j hj z => hi ?_) a o w e1 e2 e3⟩
        obtain ⟨u, h1⟩ := hmem j hj
        have z : u = i := (hsl j u h1).2.symm.trans z
        subst z
        obtain ⟨u', h2, h3⟩ := lent_at (as := as) (k := 0) (j := j) (by rw [hp]; simpa using hj)
        rw [Nat.sub_zero, h1] at h2
        cases h2
        exact h3
variable {CX : CXT} {k n : Nat} {f C : Addr} {fd : FuncData} {ps : List Str} {iop bop : List Nat} {ro : Bool} {r : Nat} {m : FnM} {dv : List Val} {dx : List V} {ds : List Value} {x : Str} {p apos : Pos}
/-- an expression whose result is owned by r (m), or by value -/
def rX (K : PySem.W.Frag) (T : Tb) (E : XK) (mu : Nat → Bool) (io : List (Nat × V)) (ro : Bool) (r : Nat) (m : EM) : TE := fun σ H Q => ∃ O fr, Rl K T mu io O fr σ H ∧ (match m fr with
  | .ok (v, fr') => ∀ O' H' x, Fm O H O' H' → Rl K T mu io O' fr' σ H' → RtR K T ro r O' H' v x → Q x H'
  | .exc e => pEx K T E O H e
  | .bad => False)
theorem rX_E {K : PySem.W.Frag} {r : Nat} {m : EM} {σ : St} {H : Hp} {Q : VK} (h : rE K T E mu io m σ H Q) : rX K T E mu io false r m σ H Q := by
  obtain ⟨O, fr, rl, q⟩ := h
  refine ⟨O, fr, rl, ?_⟩
  cases e : m fr with
  | bad => rw [e] at q; exact q
  | exc e' => rw [e] at q; exact q
  | ok p => obtain ⟨v, fr'⟩ := p; rw [e] at q; exact fun O' H' x F R V => q O' H' x F R (by unfold RtR at V; simpa using V)
theorem rX_O {K : PySem.W.Frag} {r : Nat} {m : EM} {σ : St} {H : Hp} {Q : VK} (h : rO K T E mu io r m σ H Q) : rX K T E mu io true r m σ H Q := by
  obtain ⟨O, fr, rl, q⟩ := h
  refine ⟨O, fr, rl, ?_⟩
  cases e : m fr with
  | bad => rw [e] at q; exact q
  | exc e' => rw [e] at q; exact q
  | ok p => obtain ⟨v, fr'⟩ := p; rw [e] at q; exact fun O' H' x F R V => q O' H' x F R (by unfold RtR at V; simpa using V)
theorem rE_X {K : PySem.W.Frag} {r : Nat} {m : EM} {σ : St} {H : Hp} {Q : VK} (h : rX K T E mu io false r m σ H Q) : rE K T E mu io m σ H Q := by
  obtain ⟨O, fr, rl, q⟩ := h
  refine ⟨O, fr, rl, ?_⟩
  cases e : m fr with
  | bad => rw [e] at q; exact q
  | exc e' => rw [e] at q; exact q
  | ok p => obtain ⟨v, fr'⟩ := p; rw [e] at q; exact fun O' H' x F R V => q O' H' x F R (by unfold RtR; simpa using V)
theorem rO_X {K : PySem.W.Frag} {r : Nat} {m : EM} {σ : St} {H : Hp} {Q : VK} (h : rX K T E mu io true r m σ H Q) : rO K T E mu io r m σ H Q := by
  obtain ⟨O, fr, rl, q⟩ := h
  refine ⟨O, fr, rl, ?_⟩
  cases e : m fr with
  | bad => rw [e] at q; exact q
  | exc e' => rw [e] at q; exact q
  | ok p => obtain ⟨v, fr'⟩ := p; rw [e] at q; exact fun O' H' x F R V => q O' H' x F R (by unfold RtR; simpa using V)
abbrev SX (X : Cx) (T : Tb) (E : XK) (mu : Nat → Bool) (io : List (Nat × V)) (ro : Bool) (r : Nat) (e : Expr) (m : EM) : Prop := PE X e (rX X.K T E mu io ro r m)
theorem sx_e {e : Expr} (h : SE X T E mu io e me) : SX X T E mu io false r e me := PE.imp h fun σ H Q q => rE_X q
theorem sx_o {e : Expr} (h : SO X T E mu io r e me) : SX X T E mu io true r e me := PE.imp h fun σ H Q q => rO_X q
theorem se_x {e : Expr} (h : SX X T E mu io false r e me) : SE X T E mu io e me := PE.imp h fun σ H Q q => rX_E q
theorem so_x {e : Expr} (h : SX X T E mu io true r e me) : SO X T E mu io r e me := PE.imp h fun σ H Q q => rX_O q
/-- what all calls come to -/
theorem call_imp {K : PySem.W.Frag} {Q : VK} {σ : St} {H : Hp} (hdv : ∀ O H, VRs K T O H dv dx) (hRES : iop.contains RES = false) (hl : ∀ fr as fr', ms fr = .ok (as, fr') → as.length + dv.length = n) (h : rX K T E mu io ro r (callM iop bop m dv ms) σ H Q) :
    rL K T E mu io ms σ H fun vs H1 => spG K T iop bop ro n m (vs ++ dx) H1 Q E := by
  obtain ⟨O, fr, rl, q⟩ := h
  unfold callM at q
  refine ⟨O, fr, rl, ?_⟩
  cases h1 : ms fr with
  | bad => rw [h1] at q; exact q
  | exc e => rw [h1] at q; exact q
  | ok p =>
    obtain ⟨as, fr1⟩ := p
    rw [h1] at q
    intro O1 H1 xs F1 R1 A1
    simp only [SK.R.bind_ok] at q
    by_cases hc : lentP 0 as = iop ∧ nodupB (lentS as) = true ∧ borOk bop (lentS as) 0 as = true
    · rw [if_pos hc] at q
      cases h2 : fillA fr1 as with
      | none => rw [h2] at q; exact q.elim
      | some args =>
        rw [h2] at q
        simp only [ofO, SK.R.bind_ok] at q
        have hlen : (xs ++ dx).length = n := by
          rw [List.length_append, ← A1.len, ← (hdv O1 H1).len, hl fr as fr1 h1]
        refine call_core (r := r) R1 hdv hlen hRES hc.1 hc.2.1 hc.2.2 A1 h2 ?_
        cases h3 : m (args ++ dv) with
        | bad => rw [h3] at q; exact q
        | exc e => rw [h3] at q; exact pEx.back F1 q
        | ok p =>
          obtain ⟨v, outs⟩ := p
          rw [h3] at q
          exact fun O' H' x F' R' V' => q O' H' x (F1.trans F') R' V'
    · rw [if_neg hc] at q; exact q.elim
theorem sx_call (F : FnOk X.prog X.w X.K X.mg X.base CX k f fd ps (spG X.K T iop bop ro n m)) (hr : Room k X.A) (hg : Gl X x := by rfl) (hm : X.mg x = some (.ref f)) (hk : PySem.W.keepIn X.K (.ref f) = true) (hb : Binds X.K fd ps ds) (hd : Vals dx ds) (hdv : ∀ O H, VRs X.K T O H dv dx) (hRES : iop.contains RES = false := by rfl) (hx : Passes CX X E := by exact pass0)
    (ha : SL X T E mu io (e :: es) ms) (hl : ∀ fr as fr', ms fr = .ok (as, fr') → as.length + dv.length = n) (hdb : (x == ("__debug__" : Str)) = false := by decide) (he : starEach (e :: es) X.env = (false, eval e X.env) :: starEach es X.env := by rfl) (hpl : (backTo pos (starEach es X.env)).any (·.1) = false := by rfl) :
    SX X T E mu io ro r (.Call (.Name x p) (e :: es) [] pos) (callM iop bop m dv ms) :=
  PE.imp (pe_call F hr hg hm hk hb hd hx ha hdb he hpl) fun σ H Q h => call_imp hdv hRES hl h
theorem rL_nil {K : PySem.W.Frag} {Q : List V → Hp → Prop} {σ : St} {H : Hp} (h : rL K T E mu io lN σ H Q) : Q [] H := by
  obtain ⟨O, fr, rl, q⟩ := h
  exact q O H [] (Fm.refl _ _) rl trivial
theorem sx_call0 (F : FnOk X.prog X.w X.K X.mg X.base CX k f fd ps (spG X.K T iop bop ro n m)) (hr : Room k X.A) (hg : Gl X x := by rfl) (hm : X.mg x = some (.ref f)) (hk : PySem.W.keepIn X.K (.ref f) = true) (hb : Binds X.K fd ps ds) (hd : Vals dx ds) (hdv : ∀ O H, VRs X.K T O H dv dx) (hRES : iop.contains RES = false := by rfl) (hx : Passes CX X E := by exact pass0)
    (hn : dv.length = n) (hdb : (x == ("__debug__" : Str)) = false := by decide) : SX X T E mu io ro r (.Call (.Name x p) [] [] pos) (callM iop bop m dv lN) :=
  PE.imp (pe_call0 F hr hg hm hk hb hd hx hdb) fun σ H Q h => rL_nil (call_imp hdv hRES (fun fr as fr' e => by cases e; simpa using hn) h)
end
end SK

set_option maxHeartbeats 1000000
/-! SK6: operations on values. -/
noncomputable section
namespace SK
open PySem L2

/-! ### the functions -/
def vAdd : Val → Val → Option Val
  | .int a, .int b => some (.int (a + b))
  | .str a, .str b => if a.length + b.length ≤ 16777216 then some (.str (a ++ b)) else none
  | .lst a, .lst b => if a.length + b.length ≤ 16777216 then some (.lst (a ++ b)) else none
  | .tup a, .tup b => if a.length + b.length ≤ 16777216 then some (.tup (a ++ b)) else none
  | _, _ => none
def vSub : Val → Val → Option Val
  | .int a, .int b => some (.int (a - b))
  | _, _ => none
def vMul : Val → Val → Option Val
  | .int a, .int b => if (-(2 ^ 64) < a ∧ a < 2 ^ 64) ∨ (-(2 ^ 64) < b ∧ b < 2 ^ 64) then some (.int (a * b)) else none
  | .lst a, .int b => if -(2 ^ 63) ≤ b ∧ b < 2 ^ 63 ∧ a.length * b.toNat ≤ 16777216 then some (.lst (List.replicate b.toNat a).flatten) else none
  | _, _ => none
def vDiv : Val → Val → Option Val
  | .int a, .int b => if 0 < b ∧ b < 1073741824 then some (.int (a / b)) else none
  | _, _ => none
def vMod : Val → Val → Option Val
  | .int a, .int b => if 0 < b then some (.int (a % b)) else none
  | _, _ => none
def vPow : Val → Val → Option Val
  | .int a, .int b => if 0 ≤ b ∧ b ≤ 1000000 ∧ a.natAbs < 2 ^ 64 then some (.int (a ^ b.toNat)) else none
  | _, _ => none
def vNeg : Val → Option Val
  | .int a => some (.int (-a))
  | _ => none
def vLt : Val → Val → Option Val
  | .int a, .int b => some (.bl (decide (a < b)))
  | _, _ => none
def vLe : Val → Val → Option Val
  | .int a, .int b => some (.bl (decide (a ≤ b)))
  | _, _ => none
def vGt : Val → Val → Option Val
  | .int a, .int b => some (.bl (decide (b < a)))
  | _, _ => none
def vGe : Val → Val → Option Val
  | .int a, .int b => some (.bl (decide (b ≤ a)))
  | _, _ => none
def eqZ (f : Val → Val → Option Bool) : List Val → List Val → Option Bool
  | x :: xs, y :: ys => match f x y, eqZ f xs ys with
    | some a, some b => some (a && b)
    | _, _ => none
  | _, _ => some true
/-- == of data; the number bounds the depth -/
def eqv : Nat → Val → Val → Option Bool
  | 0, _, _ => none
  | n + 1, .tup xs, .tup ys => (eqZ (eqv n) xs ys).map fun b => b && xs.length == ys.length
  | n + 1, .lst xs, .lst ys => if xs.length = ys.length then eqZ (eqv n) xs ys else some false
  | _ + 1, .non, .non => some true
  | _ + 1, .bl a, .bl b => some (a == b)
  | _ + 1, .int a, .int b => some (a == b)
  | _ + 1, .str a, .str b => some (a == b)
  | _ + 1, .bl a, .int b => some ((if a then 1 else 0) == b)
  | _ + 1, .int a, .bl b => some (a == (if b then 1 else 0))
  | _ + 1, .non, .bl _ => some false
  | _ + 1, .non, .int _ => some false
  | _ + 1, .non, .str _ => some false
  | _ + 1, .non, .tup _ => some false
  | _ + 1, .non, .lst _ => some false
  | _ + 1, .bl _, .non => some false
  | _ + 1, .bl _, .str _ => some false
  | _ + 1, .bl _, .tup _ => some false
  | _ + 1, .bl _, .lst _ => some false
  | _ + 1, .int _, .non => some false
  | _ + 1, .int _, .str _ => some false
  | _ + 1, .int _, .tup _ => some false
  | _ + 1, .int _, .lst _ => some false
  | _ + 1, .str _, .non => some false
  | _ + 1, .str _, .bl _ => some false
  | _ + 1, .str _, .int _ => some false
  | _ + 1, .str _, .tup _ => some false
  | _ + 1, .str _, .lst _ => some false
  | _ + 1, .tup _, .non => some false
  | _ + 1, .tup _, .bl _ => some false
  | _ + 1, .tup _, .int _ => some false
  | _ + 1, .tup _, .str _ => some false
  | _ + 1, .tup _, .lst _ => some false
  | _ + 1, .lst _, .non => some false
  | _ + 1, .lst _, .bl _ => some false
  | _ + 1, .lst _, .int _ => some false
  | _ + 1, .lst _, .str _ => some false
  | _ + 1, .lst _, .tup _ => some false
  | _ + 1, _, _ => none
def vEq (a b : Val) : Option Val := (eqv 20 a b).map .bl
def vNe (a b : Val) : Option Val := (eqv 20 a b).map fun k => .bl (!k)
def anyO (f : Val → Option Bool) : List Val → Option Bool
  | [] => some false
  | x :: xs => match f x, anyO f xs with
    | some a, some b => some (a || b)
    | _, _ => none
def inSeq (x : Val) (ys : List Val) : Option Bool := anyO (fun y => eqv 20 y x) ys
def inV : Val → Val → Option Bool
  | x, .lst ys => inSeq x ys
  | x, .tup ys => inSeq x ys
  | .str [c], .str z => some (decide (c ∈ z))
  | _, _ => none
def vIn (a b : Val) : Option Val := (inV a b).map .bl
def vNotIn (a b : Val) : Option Val := (inV a b).map fun k => .bl (!k)
def isNon : Val → Bool
  | .non => true
  | _ => false
def vIs : Val → Val → Option Val
  | a, .non => some (.bl (isNon a))
  | .bl a, .bl b => some (.bl (a == b))
  | _, _ => none
def vIsNot : Val → Val → Option Val
  | a, .non => some (.bl (!isNon a))
  | .bl a, .bl b => some (.bl (!(a == b)))
  | _, _ => none

section
variable {X : Cx} {T : Tb} {K : PySem.W.Frag} {O : Own} {H : Hp}
theorem VR.int {i : Int} {x : V} (h : VR K T O H (.int i) x) : x = .int i := by unfold VR at h; exact h
theorem VR.bl {i : Bool} {x : V} (h : VR K T O H (.bl i) x) : x = .bl i := by unfold VR at h; exact h
theorem VR.non {x : V} (h : VR K T O H .non x) : x = .non := by unfold VR at h; exact h
theorem VR.str {s : Sg} {x : V} (h : VR K T O H (.str s) x) : ∃ z : Str, x = .str z ∧ z.cps.toList = s := by unfold VR at h; exact h
theorem VR.tup {xs : List Val} {x : V} (h : VR K T O H (.tup xs) x) : ∃ a vs, x = .ref a ∧ TupAt K O H a vs ∧ VRs K T O H xs vs := by unfold VR at h; exact h
theorem VR.lst {xs : List Val} {x : V} (h : VR K T O H (.lst xs) x) : ∃ a vs, x = .ref a ∧ LstAt O H a vs ∧ VRs K T O H xs vs := by unfold VR at h; exact h
theorem TupAt.sq {a vs} (h : TupAt K O H a vs) : SqT K H a vs := by
  rcases h with ⟨h, _⟩ | h
  · exact SqT.of h
  · exact h H
theorem LstAt.sq {a vs} (h : LstAt O H a vs) : SqL K H a vs := SqL.of h.1
theorem vr_int {i : Int} : VR K T O H (.int i) (.int i) := by unfold VR; rfl
theorem vr_bl {i : Bool} : VR K T O H (.bl i) (.bl i) := by unfold VR; rfl
theorem vr_non : VR K T O H .non .non := by unfold VR; rfl
theorem vr_str {z : Str} : VR K T O H (.str z.cps.toList) (.str z) := by unfold VR; exact ⟨z, rfl, rfl⟩
theorem vr_new {xs : List Val} {vs : List V} {p : Addr} (tr : ∀ a, O a ≠ none → H a ≠ none) (hp : H p = none) (r : VRs K T O H xs vs) : Hx H (upd H p (.lst vs)) ∧ VR K T O (upd H p (.lst vs)) (.lst xs) (.ref p) :=
  ⟨Hx.upd hp, by unfold VR; exact ⟨p, vs, rfl, ⟨upd_same, own_new tr hp⟩, r.mono (Hx.upd hp).fm⟩⟩
theorem vr_newT {xs : List Val} {vs : List V} {p : Addr} (tr : ∀ a, O a ≠ none → H a ≠ none) (hp : H p = none) (r : VRs K T O H xs vs) : Hx H (upd H p (.tup vs)) ∧ VR K T O (upd H p (.tup vs)) (.tup xs) (.ref p) :=
  ⟨Hx.upd hp, by unfold VR; exact ⟨p, vs, rfl, .inl ⟨upd_same, own_new tr hp⟩, r.mono (Hx.upd hp).fm⟩⟩
/-- an operation that answers a scalar at once -/
theorem op_ii {f : Value → Value → Sem Value} {g : Int → Int → V} {h : Val → Val → Option Val} (ho : OpR X f (rI0 g)) (hh : ∀ a b v, h a b = some v → ∃ i j, a = .int i ∧ b = .int j ∧ ∀ K T O H, VR K T O H v (g i j)) : OpR X f (r2 X.K T h) := by
  intro pins s σ H x y v u Q I rx ry ⟨O, a, b, tr, va, vb, q⟩
  cases e : h a b with
  | none => rw [e] at q; exact q.elim
  | some w =>
    rw [e] at q
    obtain ⟨i, j, rfl, rfl, hv⟩ := hh a b w e
    cases va.int
    cases vb.int
    exact ho pins s σ H _ _ v u Q I rx ry ⟨i, j, rfl, rfl, q H _ (Hx.refl _) (hv _ _ _ _)⟩
theorem op_iiC {f : Value → Value → Sem Value} {C : Int → Int → Prop} {g : Int → Int → V} {h : Val → Val → Option Val} (ho : OpR X f (L2.rI C g)) (hh : ∀ a b v, h a b = some v → ∃ i j, a = .int i ∧ b = .int j ∧ C i j ∧ ∀ K T O H, VR K T O H v (g i j)) : OpR X f (r2 X.K T h) := by
  intro pins s σ H x y v u Q I rx ry ⟨O, a, b, tr, va, vb, q⟩
  cases e : h a b with
  | none => rw [e] at q; exact q.elim
  | some w =>
    rw [e] at q
    obtain ⟨i, j, rfl, rfl, hc, hv⟩ := hh a b w e
    cases va.int
    cases vb.int
    exact ho pins s σ H _ _ v u Q I rx ry ⟨i, j, rfl, rfl, hc, q H _ (Hx.refl _) (hv _ _ _ _)⟩
theorem o_sub : OpR X (binaryOp .Sub) (r2 X.K T vSub) := op_ii op_sub fun a b v e => by
  unfold vSub at e
  split at e
  · cases e; exact ⟨_, _, rfl, rfl, fun _ _ _ _ => vr_int⟩
  · cases e
theorem o_lt : OpR X (compareOp .Lt) (r2 X.K T vLt) := op_ii op_lt fun a b v e => by
  unfold vLt at e
  split at e
  · cases e; exact ⟨_, _, rfl, rfl, fun _ _ _ _ => vr_bl⟩
  · cases e
theorem o_le : OpR X (compareOp .LtE) (r2 X.K T vLe) := op_ii op_le fun a b v e => by
  unfold vLe at e
  split at e
  · cases e; exact ⟨_, _, rfl, rfl, fun _ _ _ _ => vr_bl⟩
  · cases e
theorem o_gt : OpR X (compareOp .Gt) (r2 X.K T vGt) := op_ii op_gt fun a b v e => by
  unfold vGt at e
  split at e
  · cases e; exact ⟨_, _, rfl, rfl, fun _ _ _ _ => vr_bl⟩
  · cases e
theorem o_ge : OpR X (compareOp .GtE) (r2 X.K T vGe) := op_ii op_ge fun a b v e => by
  unfold vGe at e
  split at e
  · cases e; exact ⟨_, _, rfl, rfl, fun _ _ _ _ => vr_bl⟩
  · cases e
theorem o_div : OpR X (binaryOp .FloorDiv) (r2 X.K T vDiv) := op_iiC op_fdiv fun a b v e => by
  unfold vDiv at e
  split at e
  · split at e
    · rename_i h; cases e; exact ⟨_, _, rfl, rfl, h, fun _ _ _ _ => vr_int⟩
    · cases e
  · cases e
theorem o_mod : OpR X (binaryOp .Mod) (r2 X.K T vMod) := op_iiC op_mod fun a b v e => by
  unfold vMod at e
  split at e
  · split at e
    · rename_i h; cases e; exact ⟨_, _, rfl, rfl, h, fun _ _ _ _ => vr_int⟩
    · cases e
  · cases e
theorem o_pow : OpR X (binaryOp .Pow) (r2 X.K T vPow) := op_iiC op_pow fun a b v e => by
  unfold vPow at e
  split at e
  · split at e
    · rename_i h; cases e; exact ⟨_, _, rfl, rfl, h, fun _ _ _ _ => vr_int⟩
    · cases e
  · cases e
theorem o_neg : UnR X (unaryOp .USub) (r1 X.K T vNeg) := by
  intro pins s σ H x v Q I rx ⟨O, a, tr, va, q⟩
  cases a with
  | int i =>
    cases va.int
    exact un_neg pins s σ H _ v Q I rx ⟨i, rfl, q H _ (Hx.refl _) vr_int⟩
  | _ => exact q.elim
theorem o_add : OpR X (binaryOp .Add) (r2 X.K T vAdd) := by
  intro pins s σ H x y v u Q I rx ry ⟨O, a, b, tr, va, vb, q⟩
  unfold vAdd at q
  split at q
  · cases va.int
    cases vb.int
    exact op_add pins s σ H _ _ v u Q I rx ry ⟨_, _, rfl, rfl, q H _ (Hx.refl _) vr_int⟩
  · split at q
    · rename_i hl
      obtain ⟨z, rfl, hz⟩ := va.str
      obtain ⟨z', rfl, hz'⟩ := vb.str
      have e1 : z.length = z.cps.toList.length := by rw [Array.length_toList]; rfl
      have e2 : z'.length = z'.cps.toList.length := by rw [Array.length_toList]; rfl
      refine op_add_str pins s σ H _ _ v u Q I rx ry ⟨z, z', rfl, rfl, ?_, q H _ (Hx.refl _) ?_⟩
      · rw [e1, e2, hz, hz']; exact hl
      · unfold VR
        refine ⟨_, rfl, ?_⟩
        rw [← hz, ← hz']
        exact Array.toList_append
    · exact q.elim
  · split at q
    · rename_i hl
      obtain ⟨p, vs, rfl, t, r⟩ := va.lst
      obtain ⟨p', vs', rfl, t', r'⟩ := vb.lst
      refine op_cat pins s σ H _ _ v u Q I rx ry ⟨p, p', vs, vs', rfl, rfl, t.1, t'.1, by rw [← r.len, ← r'.len]; exact hl, fun p hp => ?_⟩
      obtain ⟨h1, h2⟩ := vr_new tr hp (r.app r')
      exact q _ _ h1 h2
    · exact q.elim
  · rename_i l1 l2
    split at q
    · rename_i hl
      obtain ⟨p, vs, rfl, t, r⟩ := va.tup
      obtain ⟨p', vs', rfl, t', r'⟩ := vb.tup
      refine op_catA pins s σ H _ _ v u Q I rx ry ⟨p, p', vs, vs', rfl, rfl, t.sq, t'.sq, by rw [← r.len, ← r'.len]; exact hl, fun e => ?_, fun _ e => ?_, fun _ _ p hp => ?_⟩
      · subst e
        have := r.len
        cases l1 with
        | nil => exact q H _ (Hx.refl _) vb
        | cons => simp at this
      · subst e
        have := r'.len
        cases l2 with
        | nil => exact q H _ (Hx.refl _) (by rw [List.append_nil]; exact va)
        | cons => simp at this
      · obtain ⟨h1, h2⟩ := vr_newT tr hp (r.app r')
        exact q _ _ h1 h2
    · exact q.elim
  · exact q.elim
theorem VRs.rep {xs : List Val} {vs : List V} (r : VRs K T O H xs vs) : ∀ n : Nat, VRs K T O H (List.replicate n xs).flatten (List.replicate n vs).flatten
  | 0 => VRs.nil
  | n + 1 => by
    rw [List.replicate_succ, List.replicate_succ, List.flatten_cons, List.flatten_cons]
    exact r.app (r.rep n)
theorem o_mul : OpR X (binaryOp .Mult) (r2 X.K T vMul) := by
  intro pins s σ H x y v u Q I rx ry ⟨O, a, b, tr, va, vb, q⟩
  unfold vMul at q
  split at q
  · split at q
    · rename_i h
      cases va.int
      cases vb.int
      exact op_mul pins s σ H _ _ v u Q I rx ry ⟨_, _, rfl, rfl, h, q H _ (Hx.refl _) vr_int⟩
    · exact q.elim
  · split at q
    · rename_i h
      obtain ⟨p, vs, rfl, t, r⟩ := va.lst
      cases vb.int
      refine op_rep pins s σ H _ _ v u Q I rx ry ⟨p, _, vs, rfl, rfl, t.1, h.1, h.2.1, by rw [← r.len]; exact h.2.2, fun p hp => ?_⟩
      obtain ⟨h1, h2⟩ := vr_new tr hp (r.rep _)
      exact q _ _ h1 h2
    · exact q.elim
  · exact q.elim

/-! ### == -/
theorem str_beq {z z' : Str} : (z == z') = (z.cps.toList == z'.cps.toList) := by
  rw [Bool.eq_iff_iff]
  simp only [beq_iff_eq]
  exact ⟨fun h => by rw [h], fun h => by
    obtain ⟨c⟩ := z
    obtain ⟨c'⟩ := z'
    have : c = c' := Array.toList_inj.mp h
    rw [this]⟩
end
theorem eqZ_spec {f : Val → Val → Option Bool} : ∀ {xs ys : List Val} {k : Bool}, eqZ f xs ys = some k →
    (∀ (j : Nat) a b, xs[j]? = some a → ys[j]? = some b → f a b = some ((f a b).getD false)) ∧ (k = true ↔ ∀ (j : Nat) a b, xs[j]? = some a → ys[j]? = some b → f a b = some true)
  | x :: xs, y :: ys, k, h => by
    unfold eqZ at h
    split at h
    · rename_i a b ha hb
      cases h
      obtain ⟨h1, h2⟩ := eqZ_spec hb
      refine ⟨fun j u v hu hv => ?_, ?_⟩
      · cases j with
        | zero => simp at hu hv; subst hu; subst hv; rw [ha]; rfl
        | succ j => exact h1 j u v (by simpa using hu) (by simpa using hv)
      · rw [Bool.and_eq_true, h2]
        constructor
        · rintro ⟨e, g⟩ j u v hu hv
          cases j with
          | zero => simp at hu hv; subst hu; subst hv; rw [ha, e]
          | succ j => exact g j u v (by simpa using hu) (by simpa using hv)
        · intro g
          refine ⟨?_, fun j u v hu hv => g (j + 1) u v (by simpa using hu) (by simpa using hv)⟩
          have := g 0 x y rfl rfl
          rw [ha] at this
          exact Option.some.inj this
    · cases h
  | [], ys, k, h => by
    unfold eqZ at h; cases h
    exact ⟨fun j a b h => by simp at h, fun _ j a b h => by simp at h, fun _ => rfl⟩
  | x :: xs, [], k, h => by
    unfold eqZ at h; cases h
    exact ⟨fun j a b _ h => by simp at h, fun _ j a b _ h => by simp at h, fun _ => rfl⟩
section
variable {X : Cx} {T : Tb} {O : Own} {H : Hp} {pins : List (Addr × Obj)} {s : Shared} {σ : St}
theorem tup_items (I : Inv X pins σ H s) {p : Addr} {xs : List Val} {vs : List V} (t : TupAt X.K O H p vs) : ∃ its : List Value, Vals vs its ∧ s.heap.IsTuple p its.toArray := by
  obtain ⟨its, r, h, _⟩ := I.tuple t.sq
  exact ⟨its, r, h⟩
theorem lst_items (I : Inv X pins σ H s) {p : Addr} {vs : List V} (t : LstAt O H p vs) : ∃ its : List Value, Vals vs its ∧ s.heap.IsList p its.toArray := by
  obtain ⟨its, r, h, _⟩ := I.list (show SqL X.K H p vs from t.sq)
  exact ⟨its, r, h.isList⟩
theorem tup_uniq (I : Inv X pins σ H s) {p : Addr} {vs ws : List V} (t : TupAt X.K O H p vs) (t' : TupAt X.K O H p ws) : vs = ws := by
  obtain ⟨its, r, o, e, hc, n, hd⟩ := tup_items (xs := []) I t
  obtain ⟨its', r', o', e', hc', n', hd'⟩ := tup_items (xs := []) I t'
  rw [e] at e'; cases e'
  rw [hd] at hd'
  injection hd' with h1 h2
  have : its = its' := by simpa using h1
  subst this
  exact Vals.inj r r'
theorem eqv_same (I : Inv X pins σ H s) : ∀ (n : Nat) {a b : Val} {k : Bool} {x : V}, eqv n a b = some k → VR X.K T O H a x → VR X.K T O H b x → k = true
  | 0, _, _, _, _, h, _, _ => by unfold eqv at h; cases h
  | n + 1, a, b, k, x, h, va, vb => by
    have zip : ∀ {xs ys : List Val} {vs : List V} {k : Bool}, eqZ (eqv n) xs ys = some k → VRs X.K T O H xs vs → VRs X.K T O H ys vs → k = true := fun {xs ys vs k} hz r r' => by
      obtain ⟨h1, h2⟩ := eqZ_spec hz
      rw [h2]
      intro j a b ha hb
      obtain ⟨x, e1, q1⟩ := r.get ha
      obtain ⟨x', e2, q2⟩ := r'.get hb
      rw [e1] at e2; cases e2
      have := h1 j a b ha hb
      rw [this, eqv_same I n this q1 q2]
    cases a with
    | non =>
      cases va.non
      cases b with
      | non => unfold eqv at h; cases h; rfl
      | bl b => cases vb.bl
      | int b => cases vb.int
      | str b => obtain ⟨z, e, _⟩ := vb.str; cases e
      | tup b => obtain ⟨p, vs, e, _⟩ := vb.tup; cases e
      | lst b => obtain ⟨p, vs, e, _⟩ := vb.lst; cases e
      | _ => unfold eqv at h; cases h
    | bl a =>
      cases va.bl
      cases b with
      | non => cases vb.non
      | bl b => cases vb.bl; unfold eqv at h; cases h; simp
      | int b => cases vb.int
      | str b => obtain ⟨z, e, _⟩ := vb.str; cases e
      | tup b => obtain ⟨p, vs, e, _⟩ := vb.tup; cases e
      | lst b => obtain ⟨p, vs, e, _⟩ := vb.lst; cases e
      | _ => unfold eqv at h; cases h
    | int a =>
      cases va.int
      cases b with
      | non => cases vb.non
      | bl b => cases vb.bl
      | int b => cases vb.int; unfold eqv at h; cases h; simp
      | str b => obtain ⟨z, e, _⟩ := vb.str; cases e
      | tup b => obtain ⟨p, vs, e, _⟩ := vb.tup; cases e
      | lst b => obtain ⟨p, vs, e, _⟩ := vb.lst; cases e
      | _ => unfold eqv at h; cases h
    | str a =>
      obtain ⟨z, rfl, hz⟩ := va.str
      cases b with
      | non => cases vb.non
      | bl b => cases vb.bl
      | int b => cases vb.int
      | str b => obtain ⟨z', e, hz'⟩ := vb.str; cases e; unfold eqv at h; rw [← hz, ← hz'] at h; cases h; simp
      | tup b => obtain ⟨p, vs, e, _⟩ := vb.tup; cases e
      | lst b => obtain ⟨p, vs, e, _⟩ := vb.lst; cases e
      | _ => unfold eqv at h; cases h
    | tup a =>
      obtain ⟨p, vs, rfl, t, r⟩ := va.tup
      cases b with
      | non => cases vb.non
      | bl b => cases vb.bl
      | int b => cases vb.int
      | str b => obtain ⟨z, e, _⟩ := vb.str; cases e
      | tup b =>
        obtain ⟨p', vs', e, t', r'⟩ := vb.tup
        cases e
        have := tup_uniq I t t'
        subst this
        unfold eqv at h
        cases hz : eqZ (eqv n) a b with
        | none => rw [hz] at h; cases h
        | some k' =>
          rw [hz] at h
          cases h
          rw [zip hz r r', r.len, r'.len]
          simp
      | lst b =>
        obtain ⟨p', vs', e, t', r'⟩ := vb.lst
        cases e
        obtain ⟨its, _, o, e, hc, _⟩ := tup_items (xs := []) I t
        obtain ⟨its', _, o', e', hc', _⟩ := lst_items I t'
        rw [e] at e'; cases e'
        rw [hc] at hc'
        exact absurd hc' (by simp)
      | _ => unfold eqv at h; cases h
    | lst a =>
      obtain ⟨p, vs, rfl, t, r⟩ := va.lst
      cases b with
      | non => cases vb.non
      | bl b => cases vb.bl
      | int b => cases vb.int
      | str b => obtain ⟨z, e, _⟩ := vb.str; cases e
      | tup b =>
        obtain ⟨p', vs', e, t', r'⟩ := vb.tup
        cases e
        obtain ⟨its, _, o, e, hc, _⟩ := tup_items (xs := []) I t'
        obtain ⟨its', _, o', e', hc', _⟩ := lst_items I t
        rw [e] at e'; cases e'
        rw [hc] at hc'
        exact absurd hc' (by simp)
      | lst b =>
        obtain ⟨p', vs', e, t', r'⟩ := vb.lst
        cases e
        have : vs = vs' := by
          have h1 := t.1
          rw [t'.1] at h1
          cases h1; rfl
        subst this
        unfold eqv at h
        rw [if_pos (by rw [r.len, r'.len])] at h
        exact zip h r r'
      | _ => unfold eqv at h; cases h
    | _ => unfold eqv at h; cases h

open SeqAt in
/-- the three answers at once -/
def Eq3 (A : Around) (s : Shared) (u w : Value) (k : Bool) : Prop := RcAt A s u w k ∧ RcNeAt A s u w (!k) ∧ EqAt A s u w k
open SeqAt in
theorem Eq3.of_refs {A : Around} {s : Shared} {l b : Addr} {k : Bool} (h1 : RcAt A s (.ref l) (.ref b) k) (h2 : RcNeAt A s (.ref l) (.ref b) (!k)) (h3 : l = b → k = true) : Eq3 A s (.ref l) (.ref b) k := by
  refine ⟨h1, h2, ?_⟩
  by_cases e : l = b
  · subst e
    rw [h3 rfl]
    exact EqAt.same _
  · exact EqAt.of_refs e h1
open SeqAt in
theorem eqv_at (I : Inv X pins σ H s) : ∀ (n : Nat) (A : Around) {a b : Val} {k : Bool} {x y : V} {u w : Value}, eqv n a b = some k → A.units + n < cLine → VR X.K T O H a x → VR X.K T O H b y → RelV x u → RelV y w → Eq3 A s u w k
  | 0, _, _, _, _, _, _, _, _, h, _, _, _, _, _ => by unfold eqv at h; cases h
  | n + 1, A, a, b, k, x, y, u, w, h, hu, va, vb, ru, rw_ => by
    have hu0 : A.units < cLine := by omega
    have item : ∀ {xs ys : List Val} {vs ws : List V} {its its2 : List Value} {k : Bool}, eqZ (eqv n) xs ys = some k → VRs X.K T O H xs vs → VRs X.K T O H ys ws → Vals vs its → Vals ws its2 →
        ∃ e : Nat → Bool, (∀ j (h1 : j < its.toArray.size) (h2 : j < its2.toArray.size), EqAt A.in1 s its.toArray[j] its2.toArray[j] (e j)) ∧ (List.range (min its.toArray.size its2.toArray.size)).all e = k := fun {xs ys vs ws its its2 k} hz r r' q q' => by
      obtain ⟨h1, h2⟩ := eqZ_spec hz
      refine ⟨fun j => match xs[j]?, ys[j]? with | some a, some b => (eqv n a b).getD false | _, _ => true, fun j g1 g2 => ?_, ?_⟩
      · simp at g1 g2
        have k1 : j < xs.length := by rw [r.len, q.length]; exact g1
        have k2 : j < ys.length := by rw [r'.len, q'.length]; exact g2
        have e1 : xs[j]? = some xs[j] := List.getElem?_eq_getElem k1
        have e2 : ys[j]? = some ys[j] := List.getElem?_eq_getElem k2
        simp only [e1, e2]
        obtain ⟨x1, f1, v1⟩ := r.get e1
        obtain ⟨x2, f2, v2⟩ := r'.get e2
        obtain ⟨u1, i1, w1⟩ := q.get f1
        obtain ⟨u2, i2, w2⟩ := q'.get f2
        rw [List.getElem?_eq_getElem g1] at i1
        rw [List.getElem?_eq_getElem g2] at i2
        have := (eqv_at I n A.in1 (h1 j _ _ e1 e2) (by show A.units + 1 + n < cLine; omega) v1 v2 w1 w2).2.2
        rw [← Option.some.inj i1, ← Option.some.inj i2] at this
        simpa using this
      · rw [Bool.eq_iff_iff, List.all_eq_true]
        constructor
        · intro g
          rw [h2]
          intro j a b ha hb
          have l1 := (List.getElem?_eq_some_iff.mp ha).1
          have l2 := (List.getElem?_eq_some_iff.mp hb).1
          have := g j (by rw [List.mem_range]; simp; rw [← q.length, ← q'.length, ← r.len, ← r'.len]; omega)
          simp only [ha, hb] at this
          rw [h1 j a b ha hb, this]
        · intro g j hj
          have hk := h2.mp g
          cases e1 : xs[j]? with
          | none => rfl
          | some a =>
            cases e2 : ys[j]? with
            | none => rfl
            | some b => simp only [hk j a b e1 e2]; rfl
    cases a with
    | non =>
      cases va.non; cases ru
      cases b with
      | non => cases vb.non; cases rw_; unfold eqv at h; cases h; exact ⟨RcAt.none_none, RcNeAt.none_none, EqAt.same _⟩
      | bl b => cases vb.bl; cases rw_; unfold eqv at h; cases h; exact ⟨RcAt.none_bool _, RcNeAt.none_bool _, EqAt.none_bool _⟩
      | int b => cases vb.int; obtain ⟨t, rfl⟩ := rw_; unfold eqv at h; cases h; exact ⟨RcAt.none_int _ _, RcNeAt.none_int _ _, EqAt.none_int _ _⟩
      | str b => obtain ⟨z, rfl, _⟩ := vb.str; obtain ⟨t, rfl⟩ := rw_; unfold eqv at h; cases h; exact ⟨RcAt.none_str _ _, RcNeAt.none_str _ _, EqAt.none_str _ _⟩
      | tup b => obtain ⟨p, vs, rfl, t, _⟩ := vb.tup; cases rw_; obtain ⟨its, q, g⟩ := tup_items (xs := []) I t; unfold eqv at h; cases h; exact ⟨RcAt.none_tuple g hu0, RcNeAt.none_tuple g hu0, EqAt.none_tuple g hu0⟩
      | lst b => obtain ⟨p, vs, rfl, t, _⟩ := vb.lst; cases rw_; obtain ⟨its, q, g⟩ := lst_items I t; unfold eqv at h; cases h; exact ⟨RcAt.none_list g hu0, RcNeAt.none_list g hu0, EqAt.none_list g hu0⟩
      | _ => unfold eqv at h; cases h
    | bl a =>
      cases va.bl; cases ru
      cases b with
      | non => cases vb.non; cases rw_; unfold eqv at h; cases h; exact ⟨RcAt.bool_none _, RcNeAt.bool_none _, EqAt.bool_none _⟩
      | bl b => cases vb.bl; cases rw_; unfold eqv at h; cases h; exact ⟨RcAt.bool_bool _ _, RcNeAt.bool_bool _ _, EqAt.bool_bool _ _⟩
      | int b => cases vb.int; obtain ⟨t, rfl⟩ := rw_; unfold eqv at h; cases h; exact ⟨RcAt.bool_int _ _ _, RcNeAt.bool_int _ _ _, EqAt.bool_int _ _ _⟩
      | str b => obtain ⟨z, rfl, _⟩ := vb.str; obtain ⟨t, rfl⟩ := rw_; unfold eqv at h; cases h; exact ⟨RcAt.bool_str _ _ _, RcNeAt.bool_str _ _ _, EqAt.bool_str _ _ _⟩
      | tup b => obtain ⟨p, vs, rfl, t, _⟩ := vb.tup; cases rw_; obtain ⟨its, q, g⟩ := tup_items (xs := []) I t; unfold eqv at h; cases h; exact ⟨RcAt.bool_tuple _ g hu0, RcNeAt.bool_tuple _ g hu0, EqAt.bool_tuple _ g hu0⟩
      | lst b => obtain ⟨p, vs, rfl, t, _⟩ := vb.lst; cases rw_; obtain ⟨its, q, g⟩ := lst_items I t; unfold eqv at h; cases h; exact ⟨RcAt.bool_list _ g hu0, RcNeAt.bool_list _ g hu0, EqAt.bool_list _ g hu0⟩
      | _ => unfold eqv at h; cases h
    | int a =>
      cases va.int; obtain ⟨tk, rfl⟩ := ru
      cases b with
      | non => cases vb.non; cases rw_; unfold eqv at h; cases h; exact ⟨RcAt.int_none _ _, RcNeAt.int_none _ _, EqAt.int_none _ _⟩
      | bl b => cases vb.bl; cases rw_; unfold eqv at h; cases h; exact ⟨RcAt.int_bool _ _ _, RcNeAt.int_bool _ _ _, EqAt.int_bool _ _ _⟩
      | int b => cases vb.int; obtain ⟨t, rfl⟩ := rw_; unfold eqv at h; cases h; exact ⟨RcAt.int_int _ _ _ _, RcNeAt.int_int _ _ _ _, EqAt.int_int _ _ _ _⟩
      | str b => obtain ⟨z, rfl, _⟩ := vb.str; obtain ⟨t, rfl⟩ := rw_; unfold eqv at h; cases h; exact ⟨RcAt.int_str _ _ _ _, RcNeAt.int_str _ _ _ _, EqAt.int_str _ _ _ _⟩
      | tup b => obtain ⟨p, vs, rfl, t, _⟩ := vb.tup; cases rw_; obtain ⟨its, q, g⟩ := tup_items (xs := []) I t; unfold eqv at h; cases h; exact ⟨RcAt.int_tuple _ _ g hu0, RcNeAt.int_tuple _ _ g hu0, EqAt.int_tuple _ _ g hu0⟩
      | lst b => obtain ⟨p, vs, rfl, t, _⟩ := vb.lst; cases rw_; obtain ⟨its, q, g⟩ := lst_items I t; unfold eqv at h; cases h; exact ⟨RcAt.int_list _ _ g hu0, RcNeAt.int_list _ _ g hu0, EqAt.int_list _ _ g hu0⟩
      | _ => unfold eqv at h; cases h
    | str a =>
      obtain ⟨z, rfl, hz⟩ := va.str; obtain ⟨tk, rfl⟩ := ru
      cases b with
      | non => cases vb.non; cases rw_; unfold eqv at h; cases h; exact ⟨RcAt.str_none _ _, RcNeAt.str_none _ _, EqAt.str_none _ _⟩
      | bl b => cases vb.bl; cases rw_; unfold eqv at h; cases h; exact ⟨RcAt.str_bool _ _ _, RcNeAt.str_bool _ _ _, EqAt.str_bool _ _ _⟩
      | int b => cases vb.int; obtain ⟨t, rfl⟩ := rw_; unfold eqv at h; cases h; exact ⟨RcAt.str_int _ _ _ _, RcNeAt.str_int _ _ _ _, EqAt.str_int _ _ _ _⟩
      | str b =>
        obtain ⟨z', rfl, hz'⟩ := vb.str; obtain ⟨t, rfl⟩ := rw_; unfold eqv at h; rw [← hz, ← hz', ← str_beq] at h; cases h
        exact ⟨RcAt.str_str _ _ _ _, RcNeAt.str_str _ _ _ _, EqAt.str_str _ _ _ _⟩
      | tup b => obtain ⟨p, vs, rfl, t, _⟩ := vb.tup; cases rw_; obtain ⟨its, q, g⟩ := tup_items (xs := []) I t; unfold eqv at h; cases h; exact ⟨RcAt.str_tuple _ _ g hu0, RcNeAt.str_tuple _ _ g hu0, EqAt.str_tuple _ _ g hu0⟩
      | lst b => obtain ⟨p, vs, rfl, t, _⟩ := vb.lst; cases rw_; obtain ⟨its, q, g⟩ := lst_items I t; unfold eqv at h; cases h; exact ⟨RcAt.str_list _ _ g hu0, RcNeAt.str_list _ _ g hu0, EqAt.str_list _ _ g hu0⟩
      | _ => unfold eqv at h; cases h
    | tup a =>
      obtain ⟨p, vs, rfl, t, r⟩ := va.tup
      cases ru
      obtain ⟨its, q, g⟩ := tup_items (xs := []) I t
      cases b with
      | non => cases vb.non; cases rw_; unfold eqv at h; cases h; exact ⟨RcAt.tuple_none g hu0, RcNeAt.tuple_none g hu0, EqAt.tuple_none g hu0⟩
      | bl b => cases vb.bl; cases rw_; unfold eqv at h; cases h; exact ⟨RcAt.tuple_bool _ g hu0, RcNeAt.tuple_bool _ g hu0, EqAt.tuple_bool _ g hu0⟩
      | int b => cases vb.int; obtain ⟨t, rfl⟩ := rw_; unfold eqv at h; cases h; exact ⟨RcAt.tuple_int _ _ g hu0, RcNeAt.tuple_int _ _ g hu0, EqAt.tuple_int _ _ g hu0⟩
      | str b => obtain ⟨z, rfl, _⟩ := vb.str; obtain ⟨t, rfl⟩ := rw_; unfold eqv at h; cases h; exact ⟨RcAt.tuple_str _ _ g hu0, RcNeAt.tuple_str _ _ g hu0, EqAt.tuple_str _ _ g hu0⟩
      | lst b => obtain ⟨p, vs, rfl, t, _⟩ := vb.lst; cases rw_; obtain ⟨its, q, g'⟩ := lst_items I t; unfold eqv at h; cases h; exact ⟨RcAt.tuple_list g g' hu0, RcNeAt.tuple_list g g' hu0, EqAt.tuple_list g g' hu0⟩
      | tup b =>
        have h0 := h
        obtain ⟨p', vs', rfl, t', r'⟩ := vb.tup
        cases rw_
        obtain ⟨its', q', g'⟩ := tup_items (xs := []) I t'
        unfold eqv at h
        cases hz : eqZ (eqv n) a b with
        | none => rw [hz] at h; cases h
        | some k' =>
          rw [hz] at h
          obtain ⟨e, he, hk⟩ := item hz r r' q q'
          have e1 := RcAt.tuples g g' hu0 he
          have e2 := RcNeAt.tuples g g' hu0 he
          rw [hk] at e1 e2
          have hk2 : (k' && its.toArray.size == its'.toArray.size) = k := by
            have : (k' && a.length == b.length) = k := Option.some.inj h
            rw [← this, List.size_toArray, List.size_toArray, ← q.length, ← q'.length, ← r.len, ← r'.len]
          rw [hk2] at e1 e2
          refine Eq3.of_refs e1 e2 fun e => ?_
          subst e
          exact eqv_same I _ h0 va vb
      | _ => unfold eqv at h; cases h
    | lst a =>
      obtain ⟨p, vs, rfl, t, r⟩ := va.lst
      cases ru
      obtain ⟨its, q, g⟩ := lst_items I t
      cases b with
      | non => cases vb.non; cases rw_; unfold eqv at h; cases h; exact ⟨RcAt.list_none g hu0, RcNeAt.list_none g hu0, EqAt.list_none g hu0⟩
      | bl b => cases vb.bl; cases rw_; unfold eqv at h; cases h; exact ⟨RcAt.list_bool _ g hu0, RcNeAt.list_bool _ g hu0, EqAt.list_bool _ g hu0⟩
      | int b => cases vb.int; obtain ⟨t, rfl⟩ := rw_; unfold eqv at h; cases h; exact ⟨RcAt.list_int _ _ g hu0, RcNeAt.list_int _ _ g hu0, EqAt.list_int _ _ g hu0⟩
      | str b => obtain ⟨z, rfl, _⟩ := vb.str; obtain ⟨t, rfl⟩ := rw_; unfold eqv at h; cases h; exact ⟨RcAt.list_str _ _ g hu0, RcNeAt.list_str _ _ g hu0, EqAt.list_str _ _ g hu0⟩
      | tup b => obtain ⟨p, vs, rfl, t, _⟩ := vb.tup; cases rw_; obtain ⟨its, q, g'⟩ := tup_items (xs := []) I t; unfold eqv at h; cases h; exact ⟨RcAt.list_tuple g g' hu0, RcNeAt.list_tuple g g' hu0, EqAt.list_tuple g g' hu0⟩
      | lst b =>
        have h0 := h
        obtain ⟨p', vs', rfl, t', r'⟩ := vb.lst
        cases rw_
        obtain ⟨its', q', g'⟩ := lst_items I t'
        unfold eqv at h
        by_cases hl : a.length = b.length
        · rw [if_pos hl] at h
          obtain ⟨e, he, hk⟩ := item h r r' q q'
          have hsz : its.toArray.size = its'.toArray.size := by rw [List.size_toArray, List.size_toArray, ← q.length, ← q'.length, ← r.len, ← r'.len, hl]
          have e1 := RcAt.lists g g' hsz hu0 he
          have e2 := RcNeAt.lists g g' hsz hu0 he
          rw [← hsz, Nat.min_self] at hk
          rw [hk] at e1 e2
          refine Eq3.of_refs e1 e2 fun e => ?_
          subst e
          exact eqv_same I _ h0 va vb
        · rw [if_neg hl] at h
          cases h
          have hsz : (its.toArray.size != its'.toArray.size) = true := by
            rw [List.size_toArray, List.size_toArray, ← q.length, ← q'.length, ← r.len, ← r'.len]
            simpa using hl
          refine Eq3.of_refs (RcAt.lists_lengths g g' hsz hu0) (RcNeAt.lists_lengths g g' hsz hu0) fun e => ?_
          subst e
          exact eqv_same I _ h0 va vb
      | _ => unfold eqv at h; cases h
    | _ => unfold eqv at h; cases h
theorem o_eq (hu : X.A.units + 20 < cLine) : OpR X (compareOp .Eq) (r2 X.K T vEq) := by
  intro pins s σ H x y v u Q I rx ry ⟨O, a, b, tr, va, vb, q⟩
  unfold vEq at q
  cases e : eqv 20 a b with
  | none => rw [e] at q; exact q.elim
  | some k =>
    rw [e] at q
    exact (eqv_at I 20 X.A e hu va vb rx ry).1 _ _ _ _ ⟨.bl k, H, I, rfl, q H _ (Hx.refl _) vr_bl⟩
theorem o_ne (hu : X.A.units + 20 < cLine) : OpR X (compareOp .NotEq) (r2 X.K T vNe) := by
  intro pins s σ H x y v u Q I rx ry ⟨O, a, b, tr, va, vb, q⟩
  unfold vNe at q
  cases e : eqv 20 a b with
  | none => rw [e] at q; exact q.elim
  | some k =>
    rw [e] at q
    exact (eqv_at I 20 X.A e hu va vb rx ry).2.1 _ _ _ _ ⟨.bl (!k), H, I, rfl, q H _ (Hx.refl _) vr_bl⟩
theorem anyO_spec {f : Val → Option Bool} : ∀ {xs : List Val} {k : Bool}, anyO f xs = some k → (∀ a ∈ xs, f a = some ((f a).getD false)) ∧ (k = true ↔ ∃ a ∈ xs, f a = some true)
  | [], k, h => by
    unfold anyO at h; cases h
    refine ⟨fun a h => (by cases h), ⟨fun h => (by cases h), fun h => ?_⟩⟩
    obtain ⟨a, h, _⟩ := h
    cases h
  | x :: xs, k, h => by
    unfold anyO at h
    split at h
    · rename_i a b ha hb
      cases h
      obtain ⟨h1, h2⟩ := anyO_spec hb
      refine ⟨fun u hu => ?_, ?_⟩
      · rcases List.mem_cons.mp hu with rfl | hu
        · rw [ha]; rfl
        · exact h1 u hu
      · rw [Bool.or_eq_true, h2]
        constructor
        · rintro (e | ⟨u, hu, e⟩)
          · exact ⟨x, List.mem_cons_self, by rw [ha, e]⟩
          · exact ⟨u, List.mem_cons_of_mem _ hu, e⟩
        · rintro ⟨u, hu, e⟩
          rcases List.mem_cons.mp hu with rfl | hu
          · rw [ha] at e; exact .inl (Option.some.inj e)
          · exact .inr ⟨u, hu, e⟩
    · cases h
/-- the items' answers, as a function of the items -/
theorem any_items (I : Inv X pins σ H s) {A : Around} {a : Val} {xs : List Val} {vs : List V} {its : List Value} {x : V} {u : Value} {k : Bool} (h : anyO (fun y => eqv 20 y a) xs = some k) (hu : A.units + 20 < cLine) (va : VR X.K T O H a x) (ru : RelV x u) (r : VRs X.K T O H xs vs) (q : Vals vs its) :
    ∃ e : Value → Bool, (∀ y, y ∈ its.toArray → SeqAt.EqAt A s y u (e y)) ∧ its.toArray.any e = k := by
  obtain ⟨h1, h2⟩ := anyO_spec h
  have hd : ∀ p : Prop, ∃ b : Bool, b = true ↔ p := fun p => by
    by_cases hp : p
    · exact ⟨true, by simp [hp]⟩
    · exact ⟨false, by simp [hp]⟩
  have pick : ∃ e : Value → Bool, ∀ y, e y = true ↔ ∃ (i : Nat) (b : Val), its[i]? = some y ∧ xs[i]? = some b ∧ eqv 20 b a = some true :=
    ⟨fun y => Classical.choose (hd (∃ (i : Nat) (b : Val), its[i]? = some y ∧ xs[i]? = some b ∧ eqv 20 b a = some true)), fun y => Classical.choose_spec (hd _)⟩
  obtain ⟨e, he⟩ := pick
  have at_ : ∀ (i : Nat) (b : Val) (y : Value), its[i]? = some y → xs[i]? = some b → SeqAt.EqAt A s y u ((eqv 20 b a).getD false) := fun i b y h3 h4 => by
    obtain ⟨z, e1, v1⟩ := r.get h4
    obtain ⟨w, e2, w1⟩ := q.get e1
    rw [h3] at e2; cases e2
    exact (eqv_at I 20 A (h1 b (List.mem_of_getElem? h4)) hu v1 va w1 ru).2.2
  refine ⟨e, fun y hy => ?_, ?_⟩
  · cases q1 : e y with
    | true =>
      obtain ⟨i, b, h3, h4, h5⟩ := (he y).mp q1
      have := at_ i b y h3 h4
      rw [h5] at this
      exact this
    | false =>
      obtain ⟨i, hi⟩ := List.getElem?_of_mem (List.mem_toArray.mp hy)
      have hl : i < xs.length := by
        have := (List.getElem?_eq_some_iff.mp hi).1
        rw [r.len, q.length]; exact this
      have := at_ i _ y hi (List.getElem?_eq_getElem hl)
      cases h5 : eqv 20 xs[i] a with
      | none => have h6 := h1 xs[i] (List.getElem_mem hl); rw [h5] at h6; cases h6
      | some b =>
        rw [h5] at this
        cases b with
        | false => exact this
        | true => rw [(he y).mpr ⟨i, xs[i], hi, List.getElem?_eq_getElem hl, h5⟩] at q1; cases q1
  · rw [Bool.eq_iff_iff, h2, show its.toArray.any e = its.any e by simp, List.any_eq_true]
    constructor
    · rintro ⟨y, hy, ey⟩
      obtain ⟨i, b, h3, h4, h5⟩ := (he y).mp ey
      exact ⟨b, List.mem_of_getElem? h4, h5⟩
    · rintro ⟨b, hb, h5⟩
      obtain ⟨i, hi⟩ := List.getElem?_of_mem hb
      have hl : i < its.length := by
        have := (List.getElem?_eq_some_iff.mp hi).1
        rw [← q.length, ← r.len]; exact this
      exact ⟨its[i], List.getElem_mem hl, (he _).mpr ⟨i, b, List.getElem?_eq_getElem hl, hi, h5⟩⟩
theorem o_in (hu : X.A.units + 21 < cLine) : OpR X (compareOp .In) (r2 X.K T vIn) := by
  intro pins s σ H x y v u Q I rx ry ⟨O, a, b, tr, va, vb, q⟩
  unfold vIn at q
  cases e : inV a b with
  | none => rw [e] at q; exact q.elim
  | some k =>
    rw [e] at q
    unfold inV at e
    split at e
    · obtain ⟨p, vs, rfl, t, r⟩ := vb.lst
      cases ry
      obtain ⟨its, rq, g⟩ := lst_items I t
      obtain ⟨f, h1, h2⟩ := any_items I (A := X.A.in1) e (by show X.A.units + 1 + 20 < cLine; omega) va rx r rq
      refine SeqAt.in_listAt f g h1 ⟨.bl _, H, I, rfl, ?_⟩
      rw [h2]
      exact q H _ (Hx.refl _) vr_bl
    · obtain ⟨p, vs, rfl, t, r⟩ := vb.tup
      cases ry
      obtain ⟨its, rq, g⟩ := tup_items (xs := []) I t
      obtain ⟨f, h1, h2⟩ := any_items I (A := X.A.in1) e (by show X.A.units + 1 + 20 < cLine; omega) va rx r rq
      refine SeqAt.in_tupleAt f g h1 ⟨.bl _, H, I, rfl, ?_⟩
      rw [h2]
      exact q H _ (Hx.refl _) vr_bl
    · rename_i c z
      cases e
      obtain ⟨z1, rfl, hz⟩ := va.str
      obtain ⟨z2, rfl, hz2⟩ := vb.str
      have e1 : z1 = ⟨#[c]⟩ := by
        obtain ⟨ar⟩ := z1
        have : ar.toList = [c] := hz
        rw [show ar = #[c] from Array.toList_inj.mp (by rw [this])]
      subst e1
      subst hz2
      exact op_in_sign pins s σ H _ _ v u Q I rx ry ⟨c, z2, rfl, rfl, q H _ (Hx.refl _) vr_bl⟩
    · cases e
theorem o_notIn (hu : X.A.units + 21 < cLine) : OpR X (compareOp .NotIn) (r2 X.K T vNotIn) := by
  intro pins s σ H x y v u Q I rx ry ⟨O, a, b, tr, va, vb, q⟩
  unfold vNotIn at q
  cases e : inV a b with
  | none => rw [e] at q; exact q.elim
  | some k =>
    rw [e] at q
    unfold inV at e
    split at e
    · obtain ⟨p, vs, rfl, t, r⟩ := vb.lst
      cases ry
      obtain ⟨its, rq, g⟩ := lst_items I t
      obtain ⟨f, h1, h2⟩ := any_items I (A := X.A.in1) e (by show X.A.units + 1 + 20 < cLine; omega) va rx r rq
      refine SeqAt.notIn_listAt f g h1 ⟨.bl _, H, I, rfl, ?_⟩
      rw [h2]
      exact q H _ (Hx.refl _) vr_bl
    · obtain ⟨p, vs, rfl, t, r⟩ := vb.tup
      cases ry
      obtain ⟨its, rq, g⟩ := tup_items (xs := []) I t
      obtain ⟨f, h1, h2⟩ := any_items I (A := X.A.in1) e (by show X.A.units + 1 + 20 < cLine; omega) va rx r rq
      refine SeqAt.notIn_tupleAt f g h1 ⟨.bl _, H, I, rfl, ?_⟩
      rw [h2]
      exact q H _ (Hx.refl _) vr_bl
    · rename_i c z
      cases e
      obtain ⟨z1, rfl, hz⟩ := va.str
      obtain ⟨z2, rfl, hz2⟩ := vb.str
      have e1 : z1 = ⟨#[c]⟩ := by
        obtain ⟨ar⟩ := z1
        have : ar.toList = [c] := hz
        rw [show ar = #[c] from Array.toList_inj.mp (by rw [this])]
      subst e1
      subst hz2
      exact op_notIn_sign pins s σ H _ _ v u Q I rx ry ⟨c, z2, rfl, rfl, q H _ (Hx.refl _) vr_bl⟩
    · cases e
end
end SK

set_option maxHeartbeats 1000000
/-! SK7: calls of built-ins, subscripts, slices, what is walked. -/
noncomputable section
namespace SK
open PySem L2 RZ

/-! ### the functions -/
def eN (f : List Val → Option Val) (ms : AM) : EM := fun fr => (ms fr).bind fun x => (ofO (f x.1)).bind fun v => .ok (v, x.2)
def vLen : List Val → Option Val
  | [.lst xs] => some (.int xs.length)
  | [.tup xs] => some (.int xs.length)
  | [.str s] => if s.length ≤ 16777216 then some (.int s.length) else none
  | [.scr ns] => some (.int ns.length)
  | _ => none
def vInt : List Val → Option Val
  | [.int i] => some (.int i)
  | [.bl b] => some (.int (if b then 1 else 0))
  | _ => none
def vMax : List Val → Option Val
  | [.int i, .int j] => some (.int (if j > i then j else i))
  | _ => none
def vMin : List Val → Option Val
  | [.int i, .int j] => some (.int (if j < i then j else i))
  | _ => none
def vList : List Val → Option Val
  | [.lst xs] => some (.lst xs)
  | [.tup xs] => some (.lst xs)
  | _ => none
def vTuple : List Val → Option Val
  | [.lst xs] => some (.tup xs)
  | [.tup xs] => some (.tup xs)
  | _ => none
def bools : List Val → Option (List Bool)
  | [] => some []
  | .bl b :: r => (bools r).map (b :: ·)
  | _ => none
def vAll : List Val → Option Val
  | [.lst xs] => (bools xs).map fun bs => .bl (bs.all id)
  | _ => none
def vAny : List Val → Option Val
  | [.lst xs] => (bools xs).map fun bs => .bl (bs.any id)
  | _ => none
def vIx : Val → Val → Option Val
  | .lst xs, .int i => atI xs i
  | .tup xs, .int i => atI xs i
  | .str s, .int i => if s.length ≤ 16777216 then (atI s i).map fun c => .str [c] else none
  | .scr ns, .int i => (atI ns i).map .int
  | _, _ => none
abbrev OM := Fr → R (Option Int × Fr)
def oN : OM := fun fr => .ok (none, fr)
def isI : Val → Option Int
  | .int i => some i
  | _ => none
def oS (a : EM) : OM := fun fr => (a fr).bind fun x => (ofO (isI x.1)).bind fun i => .ok (some i, x.2)
def cutL {α : Type} (xs : List α) (lo hi : Option Int) : List α := (xs.drop (HT.sIx xs.length 0 lo)).take (HT.sIx xs.length xs.length hi - HT.sIx xs.length 0 lo)
def vSl (v : Val) (lo hi : Option Int) : Option Val := match v with
  | .lst xs => some (.lst (cutL xs lo hi))
  | .tup xs => some (.tup (cutL xs lo hi))
  | _ => none
def eSl (a : EM) (l h : OM) : EM := fun fr => (a fr).bind fun x => (l x.2).bind fun lo => (h lo.2).bind fun hi => (ofO (vSl x.1 lo.1 hi.1)).bind fun v => .ok (v, hi.2)
def itOf : Val → Option (List Val)
  | .tup xs => some xs
  | .lst xs => some xs
  | .str s => some (s.map fun c => .str [c])
  | _ => none
def iIt (a : EM) : IM := fun fr => (a fr).bind fun x => (ofO (itOf x.1)).bind fun xs => .ok (xs, x.2)
def rngL (n : Int) : List Val := (List.range n.toNat).map fun i => .int (i : Nat)
def rngL2 (lo hi : Int) : List Val := (List.range (hi - lo).toNat).map fun i => .int (lo + (i : Nat))
def iRg (a : AM) : IM := fun fr => (a fr).bind fun x => match x.1 with
  | [.int n] => if -(2 ^ 62) ≤ n ∧ n < 2 ^ 62 then .ok (rngL n, x.2) else .bad
  | _ => .bad
def iRg2 (a : AM) : IM := fun fr => (a fr).bind fun x => match x.1 with
  | [.int m, .int n] => if -(2 ^ 62) ≤ m ∧ m < 2 ^ 62 ∧ -(2 ^ 62) ≤ n ∧ n < 2 ^ 62 then .ok (rngL2 m n, x.2) else .bad
  | _ => .bad
def enL : Nat → List Val → List Val
  | _, [] => []
  | k, x :: xs => .tup [.int (k : Nat), x] :: enL (k + 1) xs
def iEn (a : AM) : IM := fun fr => (a fr).bind fun x => match x.1 with
  | [.lst xs] => .ok (enL 0 xs, x.2)
  | _ => .bad
def zipL : List Val → List Val → List Val
  | x :: xs, y :: ys => .tup [x, y] :: zipL xs ys
  | _, _ => []
def iZp (a : AM) : IM := fun fr => (a fr).bind fun x => match x.1 with
  | [.lst xs, .lst ys] => .ok (zipL xs ys, x.2)
  | [.tup xs, .tup ys] => .ok (zipL xs ys, x.2)
  | _ => .bad

section
variable {X : Cx} {T : Tb} {E : XK} {mu : Nat → Bool} {io : List (Nat × V)} {e : Expr} {es : List Expr} {ma mb : EM} {ms : AM} {pos : Pos}
theorem eN_imp {K : PySem.W.Frag} {f : List Val → Option Val} {σ : St} {H : Hp} {Q : VK} (h : rE K T E mu io (eN f ms) σ H Q) : rA K T E mu io ms σ H (fun vs H1 => rN K T f vs H1 Q) := by
  obtain ⟨O, fr, rl, q⟩ := h
  unfold eN at q
  refine ⟨O, fr, rl, ?_⟩
  cases h1 : ms fr with
  | bad => rw [h1] at q; exact q
  | exc e => rw [h1] at q; exact q
  | ok p =>
    obtain ⟨xs, fr1⟩ := p
    rw [h1] at q
    intro O1 H1 xs' F1 R1 V1
    simp only [SK.R.bind_ok] at q
    refine ⟨O1, xs, R1.trk, V1, ?_⟩
    cases h2 : f xs with
    | none => rw [h2] at q; exact q.elim
    | some v =>
      rw [h2] at q
      exact fun H2 x X2 V2 => q O1 H2 x (F1.trans X2.fm) (R1.hx X2) V2
theorem se_callB {f : List Val → Option Val} {id : String} {x : Str} {p : Pos} (hc : CallR X (.builtin id) (rN X.K T f)) (hg : Gl X x := by rfl) (hm : X.mg x = none) (hv : bootBuiltins x = some (.builtin id) := by first | rfl | decide +kernel) (ha : SA X T E mu io (e :: es) ms) (hn : x ≠ "__name__" := by decide) (hdb : (x == ("__debug__" : Str)) = false := by decide)
    (he : starEach (e :: es) X.env = (false, eval e X.env) :: starEach es X.env := by rfl) (hpl : (backTo pos (starEach es X.env)).any (·.1) = false := by rfl) : SE X T E mu io (.Call (.Name x p) (e :: es) [] pos) (eN f ms) :=
  PE.imp (pe_callB hc hg hm hv ha hn hdb he hpl) fun σ H Q h => eN_imp h
theorem se_callTy {f : List Val → Option Val} {id : String} {x : Str} {p : Pos} (hc : CallR X (.type id) (rN X.K T f)) (hg : Gl X x := by rfl) (hm : X.mg x = none) (hv : bootBuiltins x = some (.type id) := by first | rfl | decide +kernel) (ha : SA X T E mu io (e :: es) ms) (hn : x ≠ "__name__" := by decide) (hdb : (x == ("__debug__" : Str)) = false := by decide)
    (he : starEach (e :: es) X.env = (false, eval e X.env) :: starEach es X.env := by rfl) (hpl : (backTo pos (starEach es X.env)).any (·.1) = false := by rfl) : SE X T E mu io (.Call (.Name x p) (e :: es) [] pos) (eN f ms) :=
  PE.imp (pe_callTy hc hg hm hv ha hn hdb he hpl) fun σ H Q h => eN_imp h
section
variable {K : PySem.W.Frag} {O : Own} {H : Hp}
theorem VRs.one {a : Val} {xs : List V} (h : VRs K T O H [a] xs) : ∃ x, xs = [x] ∧ VR K T O H a x := by
  obtain ⟨y, r, rfl, h1, h2⟩ := h.inv
  rw [h2.inv0]
  exact ⟨y, rfl, h1⟩
theorem VRs.two {a b : Val} {xs : List V} (h : VRs K T O H [a, b] xs) : ∃ x y, xs = [x, y] ∧ VR K T O H a x ∧ VR K T O H b y := by
  obtain ⟨y, r, rfl, h1, h2⟩ := h.inv
  obtain ⟨z, rfl, h3⟩ := h2.one
  exact ⟨y, z, rfl, h1, h3⟩
theorem VR.scr {ns : List Int} {x : V} (h : VR K T O H (.scr ns) x) : ∃ a, x = .ref a ∧ SqL K H a (ns.map V.int) := by
  unfold VR at h
  obtain ⟨a, rfl, h | ⟨⟨o, h⟩, _⟩ | h⟩ := h
  · exact ⟨a, rfl, SqL.of h.1⟩
  · exact ⟨a, rfl, .inl (.inr ⟨o, h⟩)⟩
  · exact ⟨a, rfl, h H⟩
theorem str_len {z : Str} : z.length = z.cps.toList.length := by rw [Array.length_toList]; rfl
end
theorem c_len : CallR X (.builtin "len") (rN X.K T vLen) := by
  intro pins s σ H xs us Q I r ⟨O, as, tr, va, q⟩
  unfold vLen at q
  split at q
  · obtain ⟨x, rfl, h⟩ := va.one
    obtain ⟨p, vs, rfl, t, rr⟩ := h.lst
    exact call_len pins s σ H _ us Q I r ⟨.ref p, _, rfl, .inl ⟨vs, t.sq, rfl⟩, by rw [← rr.len]; exact q H _ (Hx.refl _) vr_int⟩
  · obtain ⟨x, rfl, h⟩ := va.one
    obtain ⟨p, vs, rfl, t, rr⟩ := h.tup
    exact call_len pins s σ H _ us Q I r ⟨.ref p, _, rfl, .inr ⟨vs, t.sq, rfl⟩, by rw [← rr.len]; exact q H _ (Hx.refl _) vr_int⟩
  · split at q
    · rename_i hl
      obtain ⟨x, rfl, h⟩ := va.one
      obtain ⟨z, rfl, hz⟩ := h.str
      exact call_len pins s σ H _ us Q I r ⟨.str z, _, rfl, ⟨by rw [str_len, hz]; exact hl, rfl⟩, by rw [str_len, hz]; exact q H _ (Hx.refl _) vr_int⟩
    · exact q.elim
  · obtain ⟨x, rfl, h⟩ := va.one
    obtain ⟨p, rfl, t⟩ := h.scr
    exact call_len pins s σ H _ us Q I r ⟨.ref p, _, rfl, .inl ⟨_, t, rfl⟩, by rw [List.length_map]; exact q H _ (Hx.refl _) vr_int⟩
  · exact q.elim
theorem c_int : CallR X (.type "int") (rN X.K T vInt) := by
  intro pins s σ H xs us Q I r ⟨O, as, tr, va, q⟩
  unfold vInt at q
  split at q
  · obtain ⟨x, rfl, h⟩ := va.one
    cases h.int
    exact call_int1 pins s σ H _ us Q I r (.inl ⟨_, rfl, q H _ (Hx.refl _) vr_int⟩)
  · obtain ⟨x, rfl, h⟩ := va.one
    cases h.bl
    exact call_int1 pins s σ H _ us Q I r (.inr ⟨_, rfl, q H _ (Hx.refl _) vr_int⟩)
  · exact q.elim
theorem c_max (hc : X.calm = true) : CallR X (.builtin "max") (rN X.K T vMax) := by
  intro pins s σ H xs us Q I r ⟨O, as, tr, va, q⟩
  unfold vMax at q
  split at q
  · obtain ⟨x, y, rfl, h, h'⟩ := va.two
    cases h.int
    cases h'.int
    exact call_max2 hc pins s σ H _ us Q I r ⟨_, _, rfl, q H _ (Hx.refl _) vr_int⟩
  · exact q.elim
theorem c_min (hc : X.calm = true) : CallR X (.builtin "min") (rN X.K T vMin) := by
  intro pins s σ H xs us Q I r ⟨O, as, tr, va, q⟩
  unfold vMin at q
  split at q
  · obtain ⟨x, y, rfl, h, h'⟩ := va.two
    cases h.int
    cases h'.int
    exact call_min2 hc pins s σ H _ us Q I r ⟨_, _, rfl, q H _ (Hx.refl _) vr_int⟩
  · exact q.elim
theorem c_list : CallR X (.type "list") (rN X.K T vList) := by
  intro pins s σ H xs us Q I r ⟨O, as, tr, va, q⟩
  unfold vList at q
  split at q
  · obtain ⟨x, rfl, h⟩ := va.one
    obtain ⟨p, vs, rfl, t, rr⟩ := h.lst
    exact call_list_of pins s σ H _ us Q I r ⟨p, vs, rfl, .inl t.sq, fun l hl => by obtain ⟨a, b⟩ := vr_new tr hl rr; exact q _ _ a b⟩
  · obtain ⟨x, rfl, h⟩ := va.one
    obtain ⟨p, vs, rfl, t, rr⟩ := h.tup
    exact call_list_of pins s σ H _ us Q I r ⟨p, vs, rfl, .inr t.sq, fun l hl => by obtain ⟨a, b⟩ := vr_new tr hl rr; exact q _ _ a b⟩
  · exact q.elim
theorem c_tuple : CallR X (.type "tuple") (rN X.K T vTuple) := by
  intro pins s σ H xs us Q I r ⟨O, as, tr, va, q⟩
  unfold vTuple at q
  split at q
  · obtain ⟨x, rfl, h⟩ := va.one
    obtain ⟨p, vs, rfl, t, rr⟩ := h.lst
    exact call_tuple_of pins s σ H _ us Q I r ⟨p, vs, rfl, .inl ⟨t.sq, fun l hl => by obtain ⟨a, b⟩ := vr_newT tr hl rr; exact q _ _ a b⟩⟩
  · obtain ⟨x, rfl, h⟩ := va.one
    obtain ⟨p, vs, rfl, t, rr⟩ := h.tup
    exact call_tuple_of pins s σ H _ us Q I r ⟨p, vs, rfl, .inr ⟨t.sq, q H _ (Hx.refl _) h⟩⟩
  · exact q.elim
theorem bools_ok {K : PySem.W.Frag} {O : Own} {H : Hp} : ∀ {xs : List Val} {bs : List Bool} {vs : List V}, bools xs = some bs → VRs K T O H xs vs → vs = bs.map V.bl
  | [], bs, vs, h, r => by cases h; rw [r.inv0]; rfl
  | .bl b :: xs, bs, vs, h, r => by
    unfold bools at h
    obtain ⟨y, q, rfl, h1, h2⟩ := r.inv
    cases e : bools xs with
    | none => rw [e] at h; cases h
    | some l => rw [e] at h; cases h; rw [h1.bl, bools_ok e h2]; rfl
  | .non :: _, _, _, h, _ => by cases h
  | .int _ :: _, _, _, h, _ => by cases h
  | .str _ :: _, _, _, h, _ => by cases h
  | .tup _ :: _, _, _, h, _ => by cases h
  | .lst _ :: _, _, _, h, _ => by cases h
  | .dic _ _ :: _, _, _, h, _ => by cases h
  | .ins _ _ _ :: _, _, _, h, _ => by cases h
  | .scr _ :: _, _, _, h, _ => by cases h
theorem c_all (hc : X.calm = true) : CallR X (.builtin "all") (rN X.K T vAll) := by
  intro pins s σ H xs us Q I r ⟨O, as, tr, va, q⟩
  unfold vAll at q
  split at q
  · rename_i ys
    cases e : bools ys with
    | none => rw [e] at q; exact q.elim
    | some bs =>
      rw [e] at q
      obtain ⟨x, rfl, h⟩ := va.one
      obtain ⟨p, vs, rfl, t, rr⟩ := h.lst
      have := bools_ok e rr
      subst this
      exact cr_all hc pins s σ H _ us Q I r ⟨p, bs, rfl, t.sq, q H _ (Hx.refl _) vr_bl⟩
  · exact q.elim
theorem c_any (hc : X.calm = true) : CallR X (.builtin "any") (rN X.K T vAny) := by
  intro pins s σ H xs us Q I r ⟨O, as, tr, va, q⟩
  unfold vAny at q
  split at q
  · rename_i ys
    cases e : bools ys with
    | none => rw [e] at q; exact q.elim
    | some bs =>
      rw [e] at q
      obtain ⟨x, rfl, h⟩ := va.one
      obtain ⟨p, vs, rfl, t, rr⟩ := h.lst
      have := bools_ok e rr
      subst this
      exact cr_any hc pins s σ H _ us Q I r ⟨p, bs, rfl, t.sq, q H _ (Hx.refl _) vr_bl⟩
  · exact q.elim
theorem o_is : OpR X (compareOp .Is) (r2 X.K T vIs) := by
  intro pins s σ H x y v u Q I rx ry ⟨O, a, b, tr, va, vb, q⟩
  unfold vIs at q
  split at q
  · cases vb.non
    refine op_isN pins s σ H _ _ v u Q I rx ry ⟨rfl, ?_⟩
    have : decide (x = V.non) = isNon a := by
      cases a with
      | non => cases va.non; rfl
      | bl b => cases va.bl; rfl
      | int b => cases va.int; rfl
      | str b => obtain ⟨z, rfl, _⟩ := va.str; rfl
      | tup b => obtain ⟨p, vs, rfl, _⟩ := va.tup; rfl
      | lst b => obtain ⟨p, vs, rfl, _⟩ := va.lst; rfl
      | dic ks vs => unfold VR at va; obtain ⟨p, kvs, rfl, _⟩ := va; rfl
      | ins c fs vs => unfold VR at va; obtain ⟨p, dx, fs', ws, rfl, _⟩ := va; rfl
      | scr ns => obtain ⟨p, rfl, _⟩ := va.scr; rfl
    rw [this]
    exact q H _ (Hx.refl _) vr_bl
  · cases va.bl
    cases vb.bl
    rename_i i j
    refine op_isBl pins s σ H _ _ v u Q I rx ry ⟨i, j, rfl, rfl, ?_⟩
    rw [show decide (i = j) = (i == j) by cases i <;> cases j <;> rfl]
    exact q H _ (Hx.refl _) vr_bl
  · exact q.elim
theorem o_isNot : OpR X (compareOp .IsNot) (r2 X.K T vIsNot) := by
  intro pins s σ H x y v u Q I rx ry ⟨O, a, b, tr, va, vb, q⟩
  unfold vIsNot at q
  split at q
  · cases vb.non
    refine op_notN pins s σ H _ _ v u Q I rx ry ⟨rfl, ?_⟩
    have : decide (x = V.non) = isNon a := by
      cases a with
      | non => cases va.non; rfl
      | bl b => cases va.bl; rfl
      | int b => cases va.int; rfl
      | str b => obtain ⟨z, rfl, _⟩ := va.str; rfl
      | tup b => obtain ⟨p, vs, rfl, _⟩ := va.tup; rfl
      | lst b => obtain ⟨p, vs, rfl, _⟩ := va.lst; rfl
      | dic ks vs => unfold VR at va; obtain ⟨p, kvs, rfl, _⟩ := va; rfl
      | ins c fs vs => unfold VR at va; obtain ⟨p, dx, fs', ws, rfl, _⟩ := va; rfl
      | scr ns => obtain ⟨p, rfl, _⟩ := va.scr; rfl
    rw [this]
    exact q H _ (Hx.refl _) vr_bl
  · cases va.bl
    cases vb.bl
    rename_i i j
    refine op_notBl pins s σ H _ _ v u Q I rx ry ⟨i, j, rfl, rfl, ?_⟩
    rw [show decide (i = j) = (i == j) by cases i <;> cases j <;> rfl]
    exact q H _ (Hx.refl _) vr_bl
  · exact q.elim
/-! ### subscripts, slices -/
theorem VRs.atI {K : PySem.W.Frag} {O : Own} {H : Hp} {xs : List Val} {vs : List V} {i : Int} {v : Val} (r : VRs K T O H xs vs) (h : atI xs i = some v) : ∃ x, L2.atI vs i = some x ∧ VR K T O H v x := by
  unfold L2.atI at h ⊢
  rw [← r.len]
  cases e : ixN xs.length i with
  | none => rw [e] at h; cases h
  | some j =>
    rw [e] at h
    exact r.get h
theorem ix_val : IxR X (r2 X.K T vIx) := by
  intro value slice pins s σ H x y v u Q I rx ry ⟨O, a, b, tr, va, vb, q⟩ hs
  unfold vIx at q
  split at q
  · rename_i xs i
    obtain ⟨p, vs, rfl, t, r⟩ := va.lst
    cases vb.int
    cases e : atI xs i with
    | none => rw [e] at q; exact q.elim
    | some w =>
      rw [e] at q
      obtain ⟨x, h1, h2⟩ := r.atI e
      exact ix_seq value slice pins s σ H _ _ v u Q I rx ry (.inl ⟨p, vs, i, x, rfl, rfl, t.sq, h1, q H _ (Hx.refl _) h2⟩) hs
  · rename_i xs i
    obtain ⟨p, vs, rfl, t, r⟩ := va.tup
    cases vb.int
    cases e : atI xs i with
    | none => rw [e] at q; exact q.elim
    | some w =>
      rw [e] at q
      obtain ⟨x, h1, h2⟩ := r.atI e
      exact ix_seq value slice pins s σ H _ _ v u Q I rx ry (.inr (.inl ⟨p, vs, i, x, rfl, rfl, t.sq, h1, q H _ (Hx.refl _) h2⟩)) hs
  · rename_i xs i
    split at q
    · rename_i hl
      obtain ⟨z, rfl, hz⟩ := va.str
      cases vb.int
      cases e : atI xs i with
      | none => rw [e] at q; exact q.elim
      | some w =>
        rw [e] at q
        exact ix_seq value slice pins s σ H _ _ v u Q I rx ry (.inr (.inr ⟨z, i, w, rfl, rfl, by rw [str_len, hz]; exact hl, by rw [hz]; exact e, q H _ (Hx.refl _) (by unfold VR; exact ⟨_, rfl, rfl⟩)⟩)) hs
    · exact q.elim
  · rename_i xs i
    obtain ⟨p, rfl, t⟩ := va.scr
    cases vb.int
    cases e : atI xs i with
    | none => rw [e] at q; exact q.elim
    | some w =>
      rw [e] at q
      have h1 : L2.atI (xs.map V.int) i = some (.int w) := by
        unfold L2.atI at e ⊢
        rw [List.length_map]
        cases e2 : ixN xs.length i with
        | none => rw [e2] at e; cases e
        | some j =>
          rw [e2] at e
          show (xs.map V.int)[j]? = _
          rw [List.getElem?_map]
          have e' : xs[j]? = some w := e
          rw [e']; rfl
      exact ix_seq value slice pins s σ H _ _ v u Q I rx ry (.inl ⟨p, _, i, _, rfl, rfl, t, h1, q H _ (Hx.refl _) vr_int⟩) hs
  · exact q.elim
theorem se_ix {a b : Expr} (ha : SE X T E mu io a ma) (hb : SE X T E mu io b mb) (hs : PlainIx b := by intro _ _; rfl) : SE X T E mu io (.Subscript a b pos) (e2 vIx ma mb) :=
  PE.imp (pe_ix ix_val ha hb hs) fun σ H Q h => e2_imp h
def pOm (K : PySem.W.Frag) (T : Tb) (E : XK) (mu : Nat → Bool) (io : List (Nat × V)) (O : Own) (σ : St) (H : Hp) (Q : Option Int → Hp → Prop) : R (Option Int × Fr) → Prop
  | .ok (b, fr') => ∀ O' H', Fm O H O' H' → Rl K T mu io O' fr' σ H' → Q b H'
  | .exc e => pEx K T E O H e
  | .bad => False
def rOm (K : PySem.W.Frag) (T : Tb) (E : XK) (mu : Nat → Bool) (io : List (Nat × V)) (m : OM) : TO := fun σ H Q => ∃ O fr, Rl K T mu io O fr σ H ∧ pOm K T E mu io O σ H Q (m fr)
theorem PO.imp {X : Cx} {e : Option Expr} {t t' : TO} (h : PO X e t) (w : ∀ σ H Q, t' σ H Q → t σ H Q) : PO X e t' := ⟨fun pins s σ H Q I q => h.run pins s σ H Q I (w σ H Q q)⟩
abbrev SOm (X : Cx) (T : Tb) (E : XK) (mu : Nat → Bool) (io : List (Nat × V)) (e : Option Expr) (m : OM) : Prop := PO X e (rOm X.K T E mu io m)
theorem som_n : SOm X T E mu io none oN := PO.imp po_none fun σ H Q ⟨O, fr, rl, q⟩ => q O H (Fm.refl _ _) rl
theorem som_s {a : Expr} (h : SE X T E mu io a ma) : SOm X T E mu io (some a) (oS ma) := PO.imp (po_some h) fun σ H Q ⟨O, fr, rl, q⟩ => by
  unfold oS at q
  refine ⟨O, fr, rl, ?_⟩
  cases h1 : ma fr with
  | bad => rw [h1] at q; exact q
  | exc e => rw [h1] at q; exact q
  | ok p =>
    obtain ⟨x, fr1⟩ := p
    rw [h1] at q
    intro O1 H1 x' F1 R1 V1
    simp only [SK.R.bind_ok] at q
    cases x with
    | int i => cases V1.int; exact ⟨i, rfl, q O1 H1 F1 R1⟩
    | _ => exact q.elim
theorem VRs.cut {K : PySem.W.Frag} {O : Own} {H : Hp} {xs : List Val} {vs : List V} (r : VRs K T O H xs vs) (lo hi : Option Int) : VRs K T O H (cutL xs lo hi) (cutV vs lo hi) := by
  unfold cutL cutV
  rw [r.len]
  exact (r.drop _).take _
theorem pOm.back {K : PySem.W.Frag} {O O1 : Own} {H H1 : Hp} {σ : St} (f : Fm O H O1 H1) {Q r} (h : pOm K T E mu io O σ H Q r) : pOm K T E mu io O1 σ H1 Q r := by
  cases r with
  | ok a => obtain ⟨v, fr'⟩ := a; exact fun O' H' g => h O' H' (f.trans g)
  | exc e => exact pEx.back f h
  | bad => exact h
def rSlV (K : PySem.W.Frag) (T : Tb) : V → Option Int → Option Int → Hp → VK → Prop := fun x lo hi H Q => ∃ O a, (∀ p, O p ≠ none → H p ≠ none) ∧ VR K T O H a x ∧ rV K T O H Q (vSl a lo hi)
theorem sl_val : L2.SlR X (rSlV X.K T) := by
  intro pins s σ H x v vl vu lo hi sl Q I rx hs pl pu ⟨O, a, tr, va, q⟩
  unfold vSl at q
  split at q
  · obtain ⟨p, vs, rfl, t, r⟩ := va.lst
    exact sl_list pins s σ H _ v vl vu lo hi sl Q I rx hs pl pu ⟨p, vs, rfl, t.sq, fun l hl => by obtain ⟨a, b⟩ := vr_new tr hl (r.cut lo hi); exact q _ _ a b⟩
  · rename_i xs
    obtain ⟨p, vs, rfl, t, r⟩ := va.tup
    refine sl_tupA pins s σ H _ v vl vu lo hi sl Q I rx hs pl pu ⟨p, vs, rfl, t.sq, fun hw => ?_, fun hw l hl => by obtain ⟨a, b⟩ := vr_newT tr hl (r.cut lo hi); exact q _ _ a b⟩
    have : cutL xs lo hi = xs := by
      unfold cutL
      rw [r.len, hw.1, hw.2]
      simp [r.len.symm]
    rw [this] at q
    exact q H _ (Hx.refl _) va
  · exact q.elim
theorem se_sl {a : Expr} {lo hi : Option Expr} {ml mh : OM} {p2 : Pos} (ha : SE X T E mu io a ma) (hl : SOm X T E mu io lo ml) (hu : SOm X T E mu io hi mh) : SE X T E mu io (.Subscript a (.Slice lo hi none p2) pos) (eSl ma ml mh) :=
  PE.imp (pe_slice sl_val ha hl hu) fun σ H Q ⟨O, fr, rl, q⟩ => by
    unfold eSl at q
    refine ⟨O, fr, rl, ?_⟩
    cases h1 : ma fr with
    | bad => rw [h1] at q; exact q
    | exc e => rw [h1] at q; exact q
    | ok p =>
      obtain ⟨x, fr1⟩ := p
      rw [h1] at q
      intro O1 H1 x' F1 R1 V1
      refine ⟨O1, fr1, R1, ?_⟩
      simp only [SK.R.bind_ok] at q
      cases h2 : ml fr1 with
      | bad => rw [h2] at q; exact q
      | exc e => rw [h2] at q; exact pEx.back F1 q
      | ok p =>
        obtain ⟨l, fr2⟩ := p
        rw [h2] at q
        intro O2 H2 F2 R2
        refine ⟨O2, fr2, R2, ?_⟩
        simp only [SK.R.bind_ok] at q
        cases h3 : mh fr2 with
        | bad => rw [h3] at q; exact q
        | exc e => rw [h3] at q; exact pEx.back (F1.trans F2) q
        | ok p =>
          obtain ⟨h, fr3⟩ := p
          rw [h3] at q
          intro O3 H3 F3 R3
          refine ⟨O3, x, R3.trk, VR.mono (F2.trans F3) _ _ V1, ?_⟩
          simp only [SK.R.bind_ok] at q
          cases h4 : vSl x l h with
          | none => rw [h4] at q; exact q.elim
          | some w =>
            rw [h4] at q
            exact fun H4 y X4 V4 => q O3 H4 y (((F1.trans F2).trans F3).trans X4.fm) (R3.hx X4) V4
/-! ### what is walked -/
theorem walks_str {K : PySem.W.Frag} {O : Own} {H : Hp} {z : Str} : Walks K T (Its z) (z.cps.toList.map fun c => .str [c]) O H := fun O' H' f _ tr i =>
  ⟨fun hl => by rw [List.length_map] at hl; show z.cps.size ≤ i; simpa using hl, fun v hv => by
    rw [List.getElem?_map] at hv
    cases e : z.cps.toList[i]? with
    | none => rw [e] at hv; cases hv
    | some c =>
      rw [e] at hv
      cases hv
      have hi : i < z.cps.size := by have := (List.getElem?_eq_some_iff.mp e).1; simpa using this
      refine ⟨hi, fun y H'' ⟨e1, c', h1, h2⟩ => ?_⟩
      subst e1
      subst h2
      refine ⟨Hx.refl _, ?_⟩
      unfold VR
      refine ⟨_, rfl, ?_⟩
      have : z.cps.toList[i]? = some c' := by simpa using h1
      rw [e] at this
      cases this
      rfl⟩
theorem si_it {tg : Expr} (he : SE X T E mu io e ma) : SI X T E mu io tg e (iIt ma) := by
  refine ⟨fun pins s σ H Q I ⟨O, fr, rl, q⟩ => ?_⟩
  unfold iIt at q
  cases h : ma fr with
  | bad => rw [h] at q; exact q.elim
  | exc e' =>
    rw [h] at q
    exact (pi_list he).run pins s σ H Q I ⟨O, fr, rl, by rw [h]; exact q⟩
  | ok p =>
    obtain ⟨v, fr1⟩ := p
    rw [h] at q
    simp only [SK.R.bind_ok] at q
    cases v with
    | lst xs =>
      refine (pi_list he).run pins s σ H Q I ⟨O, fr, rl, by
        rw [h]
        intro O1 H1 x F1 R1 V1
        obtain ⟨a, vs, e1, t, r⟩ := V1.lst
        exact ⟨a, e1, ⟨vs, SqL.fm t (Fb.refl _ _)⟩, q O1 H1 _ F1 R1 (walks_lst t r)⟩⟩
    | tup xs =>
      refine (pi_tup he).run pins s σ H Q I ⟨O, fr, rl, by
        rw [h]
        intro O1 H1 x F1 R1 V1
        obtain ⟨a, vs, e1, t, r⟩ := V1.tup
        exact ⟨a, e1, ⟨vs, SqT.fm t (Fb.refl _ _)⟩, q O1 H1 _ F1 R1 (walks_tup t r)⟩⟩
    | str xs =>
      refine (pi_str he).run pins s σ H Q I ⟨O, fr, rl, by
        rw [h]
        intro O1 H1 x F1 R1 V1
        obtain ⟨z, rfl, hz⟩ := V1.str
        subst hz
        exact ⟨z, rfl, q O1 H1 _ F1 R1 walks_str⟩⟩
    | _ => exact q.elim
theorem walks_rng {K : PySem.W.Frag} {O : Own} {H : Hp} {n : Nat} {lo : Int} : Walks K T (Itr lo n) ((List.range n).map fun i => .int (lo + (i : Nat))) O H := fun O' H' f _ tr i =>
  ⟨fun hl => by rw [List.length_map, List.length_range] at hl; exact hl, fun v hv => by
    have hi : i < n := by
      have := (List.getElem?_eq_some_iff.mp hv).1
      simpa using this
    refine ⟨hi, fun y H'' ⟨e1, e2⟩ => ?_⟩
    subst e1
    subst e2
    refine ⟨Hx.refl _, ?_⟩
    rw [List.getElem?_map, List.getElem?_range hi] at hv
    cases hv
    exact vr_int⟩
theorem si_rg1 {tg : Expr} {p : Pos} (hg : Gl X "range" := by rfl) (hm : X.mg "range" = none) (ha : SA X T E mu io [e] ms) (hs : starEach [e] X.env = [(false, eval e X.env)] := by rfl) : SI X T E mu io tg (.Call (.Name "range" p) [e] [] pos) (iRg ms) := by
  refine ⟨fun pins s σ H Q I ⟨O, fr, rl, q⟩ => ?_⟩
  refine (pi_range1 hg hm ha hs).run pins s σ H Q I ⟨O, fr, rl, ?_⟩
  unfold iRg at q
  cases h : ms fr with
  | bad => rw [h] at q; exact q
  | exc e' => rw [h] at q; exact q
  | ok p =>
    obtain ⟨xs, fr1⟩ := p
    rw [h] at q
    intro O1 H1 vs F1 R1 V1
    simp only [SK.R.bind_ok] at q
    split at q
    · rename_i n
      split at q
      · rename_i hb
        obtain ⟨x, rfl, hx⟩ := V1.one
        cases hx.int
        refine ⟨n, rfl, hb.1, hb.2, q O1 H1 _ F1 R1 ?_⟩
        have := walks_rng (K := X.K) (T := T) (O := O1) (H := H1) (n := n.toNat) (lo := 0)
        unfold rngL
        simpa using this
      · exact q.elim
    · exact q.elim
theorem si_rg2 {tg e2 : Expr} {p : Pos} (hg : Gl X "range" := by rfl) (hm : X.mg "range" = none) (ha : SA X T E mu io [e, e2] ms) (hs : starEach [e, e2] X.env = [(false, eval e X.env), (false, eval e2 X.env)] := by rfl) (hs2 : starEach [e2] X.env = [(false, eval e2 X.env)] := by rfl) : SI X T E mu io tg (.Call (.Name "range" p) [e, e2] [] pos) (iRg2 ms) := by
  refine ⟨fun pins s σ H Q I ⟨O, fr, rl, q⟩ => ?_⟩
  refine (pi_range2 hg hm ha hs hs2).run pins s σ H Q I ⟨O, fr, rl, ?_⟩
  unfold iRg2 at q
  cases h : ms fr with
  | bad => rw [h] at q; exact q
  | exc e' => rw [h] at q; exact q
  | ok p =>
    obtain ⟨xs, fr1⟩ := p
    rw [h] at q
    intro O1 H1 vs F1 R1 V1
    simp only [SK.R.bind_ok] at q
    split at q
    · rename_i m n
      split at q
      · rename_i hb
        obtain ⟨x, y, rfl, hx, hy⟩ := V1.two
        cases hx.int
        cases hy.int
        exact ⟨m, n, rfl, hb, q O1 H1 _ F1 R1 walks_rng⟩
      · exact q.elim
    · exact q.elim
theorem enL_get : ∀ {xs : List Val} {k i : Nat}, (enL k xs)[i]? = (xs[i]?).map fun x => .tup [.int ((k + i : Nat) : Int), x]
  | [], k, i => rfl
  | x :: xs, k, 0 => rfl
  | x :: xs, k, i + 1 => by
    show (enL (k + 1) xs)[i]? = _
    rw [enL_get, show k + 1 + i = k + (i + 1) from by omega]
    rfl
theorem enL_len : ∀ {xs : List Val} {k : Nat}, (enL k xs).length = xs.length
  | [], _ => rfl
  | x :: xs, k => by show (enL (k + 1) xs).length + 1 = _; rw [enL_len]; rfl
theorem walks_enum {K : PySem.W.Frag} {O : Own} {H : Hp} {a : Addr} {vs xs} (t : LstAt O H a vs) (r : VRs K T O H xs vs) : Walks K T (Ite K a) (enL 0 xs) O H := fun O' H' f _ tr i =>
  ⟨fun hl => ⟨vs, SqL.fm t f, by rw [enL_len, r.len] at hl; exact hl⟩, fun v hv => by
    rw [enL_get] at hv
    cases e : xs[i]? with
    | none => rw [e] at hv; cases hv
    | some w =>
      rw [e] at hv
      cases hv
      obtain ⟨x, h1, h2⟩ := r.get e
      refine ⟨⟨vs, x, SqL.fm t f, h1⟩, fun y H'' ⟨T', x', e1, e2, e3, hy⟩ => ?_⟩
      subst e1
      subst e3
      have := hy vs (SqL.fm t f)
      rw [h1] at this
      cases this
      rw [Nat.zero_add]
      exact vr_newT tr e2 (.cons vr_int (.cons (VR.monoB f _ _ h2) .nil))⟩
theorem si_en {elts : List Expr} {kk : Nat} {tpos p : Pos} (hg : Gl X "enumerate" := by rfl) (hm : X.mg "enumerate" = none) (ha : SA X T E mu io [e] ms) (hs : starEach [e] X.env = [(false, eval e X.env)] := by rfl) : SI X T E mu io (.Tuple elts kk tpos) (.Call (.Name "enumerate" p) [e] [] pos) (iEn ms) := by
  refine ⟨fun pins s σ H Q I ⟨O, fr, rl, q⟩ => ?_⟩
  refine (pi_enum hg hm ha hs).run pins s σ H Q I ⟨O, fr, rl, ?_⟩
  unfold iEn at q
  cases h : ms fr with
  | bad => rw [h] at q; exact q
  | exc e' => rw [h] at q; exact q
  | ok p =>
    obtain ⟨xs, fr1⟩ := p
    rw [h] at q
    intro O1 H1 vs F1 R1 V1
    simp only [SK.R.bind_ok] at q
    split at q
    · obtain ⟨x, rfl, hx⟩ := V1.one
      obtain ⟨a, vs, rfl, t, r⟩ := hx.lst
      exact ⟨a, vs, rfl, t.sq, q O1 H1 _ F1 R1 (walks_enum t r)⟩
    · exact q.elim
theorem zipL_get : ∀ {xs ys : List Val} {i : Nat}, (zipL xs ys)[i]? = (match xs[i]?, ys[i]? with | some x, some y => some (.tup [x, y]) | _, _ => none)
  | [], ys, i => by simp [zipL]
  | x :: xs, [], i => by
    show ([] : List Val)[i]? = _
    cases i with
    | zero => rfl
    | succ i => cases h : (x :: xs)[i + 1]? <;> rfl
  | x :: xs, y :: ys, 0 => rfl
  | x :: xs, y :: ys, i + 1 => by
    show (zipL xs ys)[i]? = _
    rw [zipL_get]
    rfl
theorem zipL_len : ∀ {xs ys : List Val}, (zipL xs ys).length = min xs.length ys.length
  | [], ys => by simp [zipL]
  | x :: xs, [] => by simp [zipL]
  | x :: xs, y :: ys => by show (zipL xs ys).length + 1 = _; rw [zipL_len]; simp only [List.length_cons]; omega
theorem walks_zip {K : PySem.W.Frag} {O : Own} {H : Hp} {a b : Addr} {vs ws xs ys} (t : LstAt O H a vs) (r : VRs K T O H xs vs) (t' : LstAt O H b ws) (r' : VRs K T O H ys ws) : Walks K T (Itz K a b) (zipL xs ys) O H := fun O' H' f _ tr i =>
  ⟨fun hl => ⟨vs, ws, SqL.fm t f, SqL.fm t' f, by rw [zipL_len, r.len, r'.len] at hl; omega⟩, fun v hv => by
    rw [zipL_get] at hv
    cases e : xs[i]? with
    | none => rw [e] at hv; cases hv
    | some w =>
      cases e' : ys[i]? with
      | none => rw [e, e'] at hv; cases hv
      | some w' =>
        rw [e, e'] at hv
        cases hv
        obtain ⟨x, h1, h2⟩ := r.get e
        obtain ⟨x', h1', h2'⟩ := r'.get e'
        refine ⟨⟨vs, ws, x, x', SqL.fm t f, SqL.fm t' f, h1, h1'⟩, fun y H'' ⟨T', z, z', e1, e2, e3, hy, hy'⟩ => ?_⟩
        subst e1
        subst e3
        have g1 := hy vs (SqL.fm t f)
        have g2 := hy' ws (SqL.fm t' f)
        rw [h1] at g1
        rw [h1'] at g2
        cases g1
        cases g2
        exact vr_newT tr e2 (.cons (VR.monoB f _ _ h2) (.cons (VR.monoB f _ _ h2') .nil))⟩
theorem walks_zipT {K : PySem.W.Frag} {O : Own} {H : Hp} {a b : Addr} {vs ws xs ys} (t : TupAt K O H a vs) (r : VRs K T O H xs vs) (t' : TupAt K O H b ws) (r' : VRs K T O H ys ws) : Walks K T (ItzT K a b) (zipL xs ys) O H := fun O' H' f _ tr i =>
  ⟨fun hl => ⟨vs, ws, SqT.fm t f, SqT.fm t' f, by rw [zipL_len, r.len, r'.len] at hl; omega⟩, fun v hv => by
    rw [zipL_get] at hv
    cases e : xs[i]? with
    | none => rw [e] at hv; cases hv
    | some w =>
      cases e' : ys[i]? with
      | none => rw [e, e'] at hv; cases hv
      | some w' =>
        rw [e, e'] at hv
        cases hv
        obtain ⟨x, h1, h2⟩ := r.get e
        obtain ⟨x', h1', h2'⟩ := r'.get e'
        refine ⟨⟨vs, ws, x, x', SqT.fm t f, SqT.fm t' f, h1, h1'⟩, fun y H'' ⟨T', z, z', e1, e2, e3, hy, hy'⟩ => ?_⟩
        subst e1
        subst e3
        have g1 := hy vs (SqT.fm t f)
        have g2 := hy' ws (SqT.fm t' f)
        rw [h1] at g1
        rw [h1'] at g2
        cases g1
        cases g2
        exact vr_newT tr e2 (.cons (VR.monoB f _ _ h2) (.cons (VR.monoB f _ _ h2') .nil))⟩
theorem si_zp {e2 : Expr} {elts : List Expr} {kk : Nat} {tpos p : Pos} (hg : Gl X "zip" := by rfl) (hm : X.mg "zip" = none) (ha : SA X T E mu io [e, e2] ms) (hs : starEach [e, e2] X.env = (false, eval e X.env) :: starEach [e2] X.env := by rfl) (hpl : (backTo pos (starEach [e2] X.env)).any (·.1) = false := by rfl) :
    SI X T E mu io (.Tuple elts kk tpos) (.Call (.Name "zip" p) [e, e2] [] pos) (iZp ms) := by
  refine ⟨fun pins s σ H Q I ⟨O, fr, rl, q⟩ => ?_⟩
  refine (pi_zipA hg hm ha hs hpl).run pins s σ H Q I ⟨O, fr, rl, ?_⟩
  unfold iZp at q
  cases h : ms fr with
  | bad => rw [h] at q; exact q
  | exc e' => rw [h] at q; exact q
  | ok p =>
    obtain ⟨xs, fr1⟩ := p
    rw [h] at q
    intro O1 H1 vs F1 R1 V1
    simp only [SK.R.bind_ok] at q
    split at q
    · obtain ⟨x, y, rfl, hx, hy⟩ := V1.two
      obtain ⟨a, vs, rfl, t, r⟩ := hx.lst
      obtain ⟨b, ws, rfl, t', r'⟩ := hy.lst
      exact ⟨a, b, vs, ws, rfl, .inl ⟨t.sq, t'.sq, q O1 H1 _ F1 R1 (walks_zip t r t' r')⟩⟩
    · obtain ⟨x, y, rfl, hx, hy⟩ := V1.two
      obtain ⟨a, vs, rfl, t, r⟩ := hx.tup
      obtain ⟨b, ws, rfl, t', r'⟩ := hy.tup
      exact ⟨a, b, vs, ws, rfl, .inr ⟨t.sq, t'.sq, q O1 H1 _ F1 R1 (walks_zipT t r t' r')⟩⟩
    · exact q.elim
end
end SK

set_option maxHeartbeats 1000000
/-! SK8: slots that are read where they stand, lists and dicts that are owned. -/
noncomputable section
namespace SK
open PySem L2

/-! ### what stands in a slot, whoever owns it -/
section
variable (K : PySem.W.Frag) (T : Tb) (O : Own) (H : Hp)
def TpL (v : Val) (x : V) : Prop := VR K T O H v x ∨ ∃ w, OwL K T O H w v x
def TFs (c : Nat) : List Nat → List Val → List V → Prop
  | f :: fs, v :: vs, w :: ws => (if T.own c f = true then TpL K T O H v w else VR K T O H v w) ∧ TFs c fs vs ws
  | [], [], [] => True
  | _, _, _ => False
def TpI : Val → V → Prop
  | .ins c fs vs, x => ∃ a dx fs' ws, x = .ref a ∧ H a = some (.ins (T.cl c) dx fs') ∧ FsR T fs ws fs' ∧ TFs K T O H c fs vs ws
  | _, _ => False
def TpR (v : Val) (x : V) : Prop := TpL K T O H v x ∨ TpI K T O H v x
end
section
variable {K : PySem.W.Frag} {T : Tb} {O : Own} {H : Hp} {mu : Nat → Bool} {io : List (Nat × V)}
theorem FRs.tp {c i : Nat} : ∀ {fs vs ws}, FRs K T O H c i fs vs ws → TFs K T O H c fs vs ws
  | [], [], [], _ => trivial
  | g :: fs, v :: vs, w :: ws, ⟨a, b⟩ => by
    refine ⟨?_, b.tp⟩
    by_cases h : T.own c g = true
    · rw [if_pos h] at a ⊢; exact .inr ⟨_, a⟩
    · rw [if_neg h] at a ⊢; exact a
  | [], _ :: _, _, h => h.elim
  | [], [], _ :: _, h => h.elim
  | _ :: _, [], _, h => h.elim
  | _ :: _, _ :: _, [], h => h.elim
theorem BFs.tp {c : Nat} : ∀ {fs vs ws}, BFs K T O H c fs vs ws → TFs K T O H c fs vs ws
  | [], [], [], _ => trivial
  | g :: fs, v :: vs, w :: ws, ⟨a, b⟩ => by
    refine ⟨?_, b.tp⟩
    by_cases h : T.own c g = true
    · rw [if_pos h] at a ⊢
      rcases a with a | a
      · exact .inl a
      · exact .inr ⟨_, a⟩
    · rw [if_neg h] at a ⊢; exact a
  | [], _ :: _, _, h => h.elim
  | [], [], _ :: _, h => h.elim
  | _ :: _, [], _, h => h.elim
  | _ :: _, _ :: _, [], h => h.elim
theorem VRs.tf {c : Nat} : ∀ {fs : List Nat} {vs ws}, fs.length = ws.length → VRs K T O H vs ws → TFs K T O H c fs vs ws
  | [], vs, ws, hl, r => by
    cases ws with
    | nil => cases vs with
      | nil => trivial
      | cons v vs => obtain ⟨y, q, e, _⟩ := r.inv; cases e
    | cons w ws => cases hl
  | f :: fs, vs, ws, hl, r => by
    cases vs with
    | nil => rw [r.inv0] at hl; cases hl
    | cons v vs =>
      obtain ⟨y, q, rfl, a, b⟩ := r.inv
      refine ⟨?_, b.tf (by simpa using hl)⟩
      split
      · exact .inl a
      · exact a
theorem OwR.tp {i : Nat} : ∀ {v x}, OwR K T O H i v x → TpR K T O H v x
  | .ins c fs vs, x, ⟨a, dx, fs', ws, e, o, h, q, r⟩ => .inr ⟨a, dx, fs', ws, e, h, q, r.tp⟩
  | .lst xs, x, h => .inl (.inr ⟨_, (show OwL K T O H (.sl i) (.lst xs) x from h)⟩)
  | .dic ks ws, x, h => .inl (.inr ⟨_, (show OwL K T O H (.sl i) (.dic ks ws) x from h)⟩)
  | .non, _, h => h.elim
  | .bl _, _, h => h.elim
  | .int _, _, h => h.elim
  | .str _, _, h => h.elim
  | .tup _, _, h => h.elim
  | .scr _, _, h => h.elim
theorem LdI.tp : ∀ {v x}, LdI K T O H v x → TpI K T O H v x
  | .ins c fs vs, x, ⟨a, dx, fs', ws, e, o, h, q, r⟩ => ⟨a, dx, fs', ws, e, h, q, r.tp⟩
  | .non, _, h => h.elim
  | .bl _, _, h => h.elim
  | .int _, _, h => h.elim
  | .str _, _, h => h.elim
  | .tup _, _, h => h.elim
  | .lst _, _, h => h.elim
  | .dic _ _, _, h => h.elim
  | .scr _, _, h => h.elim
theorem Rl.tp {fr : Fr} {σ : St} (rl : Rl K T mu io O fr σ H) {i : Nat} {v : Val} (e : ∃ v0, fr[i]? = some (some v0) ∧ unfz v0 = v) : ∃ x, σ[i]? = some (some x) ∧ TpR K T O H v x := by
  obtain ⟨v, e, rfl⟩ := e
  obtain ⟨x, h1, h2⟩ := rl.sl i v e
  refine ⟨x, h1, ?_⟩
  unfold SlR at h2
  split at h2
  · split at h2
    · exact .inl (.inl h2)
    · rename_i z
      rw [unfz_not (by simpa using z)]
      exact h2.tp
  · split at h2
    · rw [unfz_not (BoR.nf h2)]
      rcases h2 with (h2 | h2) | h2
      · exact .inl (.inl h2)
      · exact .inl (.inr ⟨_, h2⟩)
      · exact .inr h2.tp
    · rw [unfz_not h2.nf]
      exact .inl (.inl h2)
/-- as if nobody owned anything -/
def ON : Own := fun _ => none
theorem on_fb : Fb O H ON H := fun a o h n => ⟨h, rfl⟩
theorem on_trk : ∀ a, ON a ≠ none → H a ≠ none := fun a n => absurd rfl n
theorem OwL.on {w : Ow} : ∀ {v x}, OwL K T O H w v x → VR K T ON H v x
  | .lst xs, x, ⟨a, vs, e, o, h, r⟩ => by unfold VR; exact ⟨a, vs, e, ⟨h, rfl⟩, r.monoB on_fb⟩
  | .dic ks ws, x, ⟨a, kvs, e, o, h, q, r⟩ => by unfold VR; exact ⟨a, kvs, e, .inl ⟨h, rfl⟩, q, r.monoB on_fb⟩
  | .non, _, h => h.elim
  | .bl _, _, h => h.elim
  | .int _, _, h => h.elim
  | .str _, _, h => h.elim
  | .tup _, _, h => h.elim
  | .ins _ _ _, _, h => h.elim
  | .scr _, _, h => h.elim
theorem TpL.on {v x} (h : TpL K T O H v x) : VR K T ON H v x := by
  rcases h with h | ⟨w, h⟩
  · exact h.monoB on_fb
  · exact h.on
theorem TFs.on {c : Nat} : ∀ {fs vs ws}, TFs K T O H c fs vs ws → VRs K T ON H vs ws
  | [], [], [], _ => VRs.nil
  | g :: fs, v :: vs, w :: ws, ⟨a, b⟩ => by
    refine VRs.cons ?_ b.on
    by_cases h : T.own c g = true
    · rw [if_pos h] at a; exact a.on
    · rw [if_neg h] at a; exact a.monoB on_fb
  | [], _ :: _, _, h => h.elim
  | [], [], _ :: _, h => h.elim
  | _ :: _, [], _, h => h.elim
  | _ :: _, _ :: _, [], h => h.elim
theorem TpI.on : ∀ {v x}, TpI K T O H v x → VR K T ON H v x
  | .ins c fs vs, x, ⟨a, dx, fs', ws, e, h, q, r⟩ => by unfold VR; exact ⟨a, dx, fs', ws, e, .inl ⟨h, rfl⟩, q, r.on⟩
  | .non, _, h => h.elim
  | .bl _, _, h => h.elim
  | .int _, _, h => h.elim
  | .str _, _, h => h.elim
  | .tup _, _, h => h.elim
  | .lst _, _, h => h.elim
  | .dic _ _, _, h => h.elim
  | .scr _, _, h => h.elim
theorem TpR.on {v x} (h : TpR K T O H v x) : VR K T ON H v x := by
  rcases h with h | h
  · exact h.on
  · exact h.on
/-- a plain value -/
def flt : Val → Bool
  | .non => true
  | .bl _ => true
  | .int _ => true
  | .str _ => true
  | _ => false
theorem VR.flat {O' : Own} {H' : Hp} : ∀ {v x}, flt v = true → VR K T O H v x → VR K T O' H' v x
  | .non, _, _, h => by unfold VR at h ⊢; exact h
  | .bl _, _, _, h => by unfold VR at h ⊢; exact h
  | .int _, _, _, h => by unfold VR at h ⊢; exact h
  | .str _, _, _, h => by unfold VR at h ⊢; exact h
  | .lst _, _, f, _ => by cases f
  | .tup _, _, f, _ => by cases f
  | .dic _ _, _, f, _ => by cases f
  | .ins _ _ _, _, f, _ => by cases f
  | .scr _, _, f, _ => by cases f
/-- a list in a slot -/
theorem TpR.lst {xs : List Val} {x : V} (h : TpR K T O H (.lst xs) x) : ∃ a vs, x = .ref a ∧ H a = some (.lst vs) ∧ VRs K T O H xs vs := by
  rcases h with (h | ⟨w, a, vs, e, o, h, r⟩) | h
  · obtain ⟨a, vs, e, t, r⟩ := h.lst; exact ⟨a, vs, e, t.1, r⟩
  · exact ⟨a, vs, e, h, r⟩
  · exact h.elim
theorem TpR.dic {ks vs : List Val} {x : V} (h : TpR K T O H (.dic ks vs) x) : ∃ a kvs, x = .ref a ∧ (Sm (.dK kvs) (H a) ∨ T.kd a kvs) ∧ ks = kvs.map (fun p => kVal p.1) ∧ VRs K T O H vs (kvs.map (·.2)) := by
  rcases h with (h | ⟨w, a, kvs, e, o, h, q, r⟩) | h
  · unfold VR at h
    obtain ⟨a, kvs, e, t, q, r⟩ := h
    refine ⟨a, kvs, e, ?_, q, r⟩
    rcases t with t | t
    · exact .inl t.1
    · exact .inr t
  · exact ⟨a, kvs, e, .inl h, q, r⟩
  · exact h.elim
theorem TpR.val : ∀ {v x}, TpR K T O H v x → (match v with | .lst _ => False | .dic _ _ => False | .ins _ _ _ => False | _ => True) → VR K T O H v x
  | v, x, .inl (.inl h), _ => h
  | .lst _, _, _, h => h.elim
  | .dic _ _, _, _, h => h.elim
  | .ins _ _ _, _, _, h => h.elim
  | .non, _, .inl (.inr ⟨w, h⟩), _ => h.elim
  | .bl _, _, .inl (.inr ⟨w, h⟩), _ => h.elim
  | .int _, _, .inl (.inr ⟨w, h⟩), _ => h.elim
  | .str _, _, .inl (.inr ⟨w, h⟩), _ => h.elim
  | .tup _, _, .inl (.inr ⟨w, h⟩), _ => h.elim
  | .scr _, _, .inl (.inr ⟨w, h⟩), _ => h.elim
  | .non, _, .inr h, _ => h.elim
  | .bl _, _, .inr h, _ => h.elim
  | .int _, _, .inr h, _ => h.elim
  | .str _, _, .inr h, _ => h.elim
  | .tup _, _, .inr h, _ => h.elim
  | .scr _, _, .inr h, _ => h.elim
end

/-! ### the functions -/
def getS (fr : Fr) (i : Nat) : R Val := match gF fr i with
  | some (some v) => .ok (unfz v)
  | _ => .bad
def flO (v : Option Val) : R Val := match v with
  | some w => if flt w = true then .ok w else .bad
  | none => .bad
/-- slot op e, e op slot, slot op slot: a plain answer -/
def e2L (f : Val → Val → Option Val) (i : Nat) (b : EM) : EM := fun fr => (getS fr i).bind fun _ => (b fr).bind fun y => (getS y.2 i).bind fun v => (flO (f v y.1)).bind fun w => .ok (w, y.2)
def e2R (f : Val → Val → Option Val) (a : EM) (i : Nat) : EM := fun fr => (a fr).bind fun x => (getS x.2 i).bind fun v => (flO (f x.1 v)).bind fun w => .ok (w, x.2)
def e2S (f : Val → Val → Option Val) (i j : Nat) : EM := fun fr => (getS fr i).bind fun x => (getS fr j).bind fun v => (flO (f x v)).bind fun w => .ok (w, fr)
/-- f(slot): a plain answer -/
def eNS (f : List Val → Option Val) (i : Nat) : EM := fun fr => (getS fr i).bind fun v => (flO (f [v])).bind fun w => .ok (w, fr)
/-- a plain value that stands in a slot for reading -/
def eVp (i : Nat) : EM := fun fr => (getS fr i).bind fun v => match v with
  | .lst _ => .bad
  | .dic _ _ => .bad
  | .ins _ _ _ => .bad
  | v => .ok (v, fr)
/-- a test of a slot -/
def tVS (i : Nat) : TM := fun fr => (getS fr i).bind fun v => (ofO (truth v)).bind fun b => .ok (b, fr)
/-- slot[e] of a list -/
def eIxS (i : Nat) (b : EM) : EM := fun fr => (getS fr i).bind fun _ => (b fr).bind fun y => (getS y.2 i).bind fun v => (ofO (vIx v y.1)).bind fun w => .ok (w, y.2)
def eApp (i : Nat) (a : EM) : EM := fun fr => match fr[i]? with
  | some (some (.lst _)) => (a fr).bind fun y => match y.2[i]? with
    | some (some (.lst xs)) => if xs.length < 16777216 then .ok (.non, y.2.set i (some (.lst (xs ++ [y.1])))) else .bad
    | _ => .bad
  | _ => .bad
def eExt (i : Nat) (a : EM) : EM := fun fr => match fr[i]? with
  | some (some (.lst _)) => (a fr).bind fun y => match y.1, y.2[i]? with
    | .lst zs, some (some (.lst xs)) => if xs.length + zs.length ≤ 16777216 then .ok (.non, y.2.set i (some (.lst (xs ++ zs)))) else .bad
    | _, _ => .bad
  | _ => .bad
def ePop (i : Nat) : EM := fun fr => match fr[i]? with
  | some (some (.lst xs)) => (ofO xs[xs.length - 1]?).bind fun v => .ok (v, fr.set i (some (.lst xs.dropLast)))
  | _ => .bad
def ePopA (i : Nat) (a : EM) : EM := fun fr => match fr[i]? with
  | some (some (.lst _)) => (a fr).bind fun y => match y.1, y.2[i]? with
    | .int k, some (some (.lst xs)) => if -(2 ^ 63) ≤ k ∧ k < 2 ^ 63 then (match seqIndex? k xs.length with
      | some j => (ofO xs[j]?).bind fun v => .ok (v, y.2.set i (some (.lst (xs.eraseIdx j))))
      | none => .bad) else .bad
    | _, _ => .bad
  | _ => .bad
def eClr (i : Nat) : EM := fun fr => match fr[i]? with
  | some (some (.lst _)) => .ok (.non, fr.set i (some (.lst [])))
  | _ => .bad
/-- slot[e] = v of a list -/
def sSetL (i : Nat) (v b : EM) : SM := fun fr => (v fr).bind fun x => (getS x.2 i).bind fun _ => (b x.2).bind fun y => match y.1, y.2[i]? with
  | .int k, some (some (.lst xs)) => (match ixN xs.length k with
    | some j => .ok (.nx, y.2.set i (some (.lst (xs.set j x.1))))
    | none => .bad)
  | _, _ => .bad

section
variable {X : Cx} {T : Tb} {E : XK} {mu : Nat → Bool} {io : List (Nat × V)} {e : Expr} {es : List Expr} {ma mb : EM} {ms : AM} {pos : Pos}
/-- a name, read where it stands -/
structure Sl (X : Cx) (i : Nat) (x : Str) : Prop where
  hN : X.N[i]? = some x
  hv : Vis X.env.scope x
  hd : (x == ("__debug__" : Str)) = false
  hcd : (x == ("__classdict__" : Str)) = false
/-- the common end: a plain answer of an operation on ON -/
theorem r2_on {K : PySem.W.Frag} {O : Own} {H : Hp} {fr : Fr} {σ : St} {f : Val → Val → Option Val} {a b : Val} {x y : V} {Q : VK} (rl : Rl K T mu io O fr σ H) (va : VR K T ON H a x) (vb : VR K T ON H b y) (q : ∀ w H' z, f a b = some w → flt w = true → Hx H H' → VR K T O H' w z → Q z H') (h : ∃ w, flO (f a b) = .ok w) : r2 K T f x y H Q := by
  refine ⟨ON, a, b, on_trk, va, vb, ?_⟩
  obtain ⟨w, h⟩ := h
  unfold flO at h
  split at h
  · rename_i w' e
    split at h
    · rename_i hf
      cases h
      rw [e]
      exact fun H' z X' V' => q _ H' z e hf X' (V'.flat hf)
    · cases h
  · cases h
theorem flO_ok {v : Option Val} {w : Val} (h : flO v = .ok w) : v = some w ∧ flt w = true := by
  unfold flO at h
  split at h
  · split at h
    · rename_i hf; cases h; exact ⟨rfl, hf⟩
    · cases h
  · cases h
theorem flO_cases (v : Option Val) : (∃ w, flO v = .ok w) ∨ flO v = .bad := by
  unfold flO
  split
  · split
    · exact .inl ⟨_, rfl⟩
    · exact .inr rfl
  · exact .inr rfl
theorem getS_cases (fr : Fr) (i : Nat) : (∃ v, (∃ v0, fr[i]? = some (some v0) ∧ unfz v0 = v) ∧ getS fr i = .ok v) ∨ getS fr i = .bad := by
  unfold getS
  rw [gF_eq]
  split
  · rename_i v hv; exact .inl ⟨_, ⟨v, hv, rfl⟩, rfl⟩
  · exact .inr rfl
theorem e2L_imp {K : PySem.W.Frag} {f : Val → Val → Option Val} {i : Nat} {σ : St} {H : Hp} {Q : VK} (h : rE K T E mu io (e2L f i mb) σ H Q) : tOp (r2 K T f) (tVar i) (rE K T E mu io mb) σ H Q := by
  obtain ⟨O, fr, rl, q⟩ := h
  unfold e2L at q
  rcases getS_cases fr i with ⟨v0, e0, e1⟩ | e1
  · rw [e1] at q
    obtain ⟨x, hx, _⟩ := rl.tp e0
    refine ⟨x, hx, O, fr, rl, ?_⟩
    simp only [SK.R.bind_ok] at q
    cases h2 : mb fr with
    | bad => rw [h2] at q; exact q
    | exc e => rw [h2] at q; exact q
    | ok p =>
      obtain ⟨y, fr2⟩ := p
      rw [h2] at q
      intro O2 H2 y' F2 R2 V2
      simp only [SK.R.bind_ok] at q
      rcases getS_cases fr2 i with ⟨v, e2, e3⟩ | e3
      · rw [e3] at q
        obtain ⟨x', hx', tp⟩ := R2.tp e2
        rw [hx] at hx'
        cases hx'
        simp only [SK.R.bind_ok] at q
        rcases flO_cases (f v y) with ⟨w, e4⟩ | e4
        · rw [e4] at q
          refine r2_on R2 tp.on (V2.monoB on_fb) (fun w' H' z e5 hf X' V' => ?_) ⟨w, e4⟩
          have := (flO_ok e4).1
          rw [e5] at this
          cases this
          exact q O2 H' z (F2.trans X'.fm) (R2.hx X') V'
        · rw [e4] at q; exact q.elim
      · rw [e3] at q; exact q.elim
  · rw [e1] at q; exact q.elim
theorem e2R_imp {K : PySem.W.Frag} {f : Val → Val → Option Val} {i : Nat} {σ : St} {H : Hp} {Q : VK} (h : rE K T E mu io (e2R f ma i) σ H Q) : tOp (r2 K T f) (rE K T E mu io ma) (tVar i) σ H Q := by
  obtain ⟨O, fr, rl, q⟩ := h
  unfold e2R at q
  refine ⟨O, fr, rl, ?_⟩
  cases h2 : ma fr with
  | bad => rw [h2] at q; exact q
  | exc e => rw [h2] at q; exact q
  | ok p =>
    obtain ⟨y, fr2⟩ := p
    rw [h2] at q
    intro O2 H2 y' F2 R2 V2
    simp only [SK.R.bind_ok] at q
    rcases getS_cases fr2 i with ⟨v, e2, e3⟩ | e3
    · rw [e3] at q
      obtain ⟨x', hx', tp⟩ := R2.tp e2
      refine ⟨x', hx', ?_⟩
      simp only [SK.R.bind_ok] at q
      rcases flO_cases (f y v) with ⟨w, e4⟩ | e4
      · rw [e4] at q
        refine r2_on R2 (V2.monoB on_fb) tp.on (fun w' H' z e5 hf X' V' => ?_) ⟨w, e4⟩
        have := (flO_ok e4).1
        rw [e5] at this
        cases this
        exact q O2 H' z (F2.trans X'.fm) (R2.hx X') V'
      · rw [e4] at q; exact q.elim
    · rw [e3] at q; exact q.elim
theorem e2S_imp {K : PySem.W.Frag} {f : Val → Val → Option Val} {i j : Nat} {σ : St} {H : Hp} {Q : VK} (h : rE K T E mu io (e2S f i j) σ H Q) : tOp (r2 K T f) (tVar i) (tVar j) σ H Q := by
  obtain ⟨O, fr, rl, q⟩ := h
  unfold e2S at q
  rcases getS_cases fr i with ⟨v, e2, e3⟩ | e3
  · rw [e3] at q
    obtain ⟨x, hx, tp⟩ := rl.tp e2
    refine ⟨x, hx, ?_⟩
    simp only [SK.R.bind_ok] at q
    rcases getS_cases fr j with ⟨u, e2', e3'⟩ | e3'
    · rw [e3'] at q
      obtain ⟨x', hx', tp'⟩ := rl.tp e2'
      refine ⟨x', hx', ?_⟩
      simp only [SK.R.bind_ok] at q
      rcases flO_cases (f v u) with ⟨w, e4⟩ | e4
      · rw [e4] at q
        refine r2_on rl tp.on tp'.on (fun w' H' z e5 hf X' V' => ?_) ⟨w, e4⟩
        have := (flO_ok e4).1
        rw [e5] at this
        cases this
        exact q O H' z X'.fm (rl.hx X') V'
      · rw [e4] at q; exact q.elim
    · rw [e3'] at q; exact q.elim
  · rw [e3] at q; exact q.elim
variable {i j : Nat} {x y : Str} {p p' : Pos} {a b : Expr}
theorem Sl.pe (s : Sl X i x) : PE X (.Name x p) (tVar i) := pe_var s.hN s.hv s.hd s.hcd
theorem se_cmpL {op : CmpOp} {f : Val → Val → Option Val} (ho : OpR X (compareOp op) (r2 X.K T f)) (ha : Sl X i x) (hb : SE X T E mu io b mb) (hm : behindInMarks op b = false := by first | exact nomark _ | with_unfolding_all rfl) : SE X T E mu io (.Compare (.Name x p) [op] [b] pos) (e2L f i mb) :=
  PE.imp (pe_cmpR ho ha.pe hb hm) fun σ H Q h => e2L_imp h
theorem se_cmpRt {op : CmpOp} {f : Val → Val → Option Val} (ho : OpR X (compareOp op) (r2 X.K T f)) (ha : SE X T E mu io a ma) (hb : Sl X i x) (hm : behindInMarks op (.Name x p) = false := by first | exact nomark _ | with_unfolding_all rfl) : SE X T E mu io (.Compare a [op] [.Name x p] pos) (e2R f ma i) :=
  PE.imp (pe_cmpR ho ha hb.pe hm) fun σ H Q h => e2R_imp h
theorem se_cmpS {op : CmpOp} {f : Val → Val → Option Val} (ho : OpR X (compareOp op) (r2 X.K T f)) (ha : Sl X i x) (hb : Sl X j y) (hm : behindInMarks op (.Name y p') = false := by first | exact nomark _ | with_unfolding_all rfl) : SE X T E mu io (.Compare (.Name x p) [op] [.Name y p'] pos) (e2S f i j) :=
  PE.imp (pe_cmpR ho ha.pe hb.pe hm) fun σ H Q h => e2S_imp h
theorem st_cmpL {op : CmpOp} {f : Val → Val → Option Val} (ho : OpR X (compareOp op) (r2 X.K T f)) (ha : Sl X i x) (hb : SE X T E mu io b mb) (hm : behindInMarks op b = false := by first | exact nomark _ | with_unfolding_all rfl) : ST X T E mu io (.Compare (.Name x p) [op] [b] pos) (tBl (e2L f i mb)) :=
  PT.imp (pt_cmpR ho ha.pe hb hm) fun σ H Q h => tOp_tTest (fun _ _ _ => e2L_imp) (tBl_imp h)
theorem st_cmpRt {op : CmpOp} {f : Val → Val → Option Val} (ho : OpR X (compareOp op) (r2 X.K T f)) (ha : SE X T E mu io a ma) (hb : Sl X i x) (hm : behindInMarks op (.Name x p) = false := by first | exact nomark _ | with_unfolding_all rfl) : ST X T E mu io (.Compare a [op] [.Name x p] pos) (tBl (e2R f ma i)) :=
  PT.imp (pt_cmpR ho ha hb.pe hm) fun σ H Q h => tOp_tTest (fun _ _ _ => e2R_imp) (tBl_imp h)
theorem st_cmpS {op : CmpOp} {f : Val → Val → Option Val} (ho : OpR X (compareOp op) (r2 X.K T f)) (ha : Sl X i x) (hb : Sl X j y) (hm : behindInMarks op (.Name y p') = false := by first | exact nomark _ | with_unfolding_all rfl) : ST X T E mu io (.Compare (.Name x p) [op] [.Name y p'] pos) (tBl (e2S f i j)) :=
  PT.imp (pt_cmpR ho ha.pe hb.pe hm) fun σ H Q h => tOp_tTest (fun _ _ _ => e2S_imp) (tBl_imp h)
/-- a plain value in a slot that is for reading -/
theorem se_vp (s : Sl X i x) : SE X T E mu io (.Name x p) (eVp i) :=
  PE.imp s.pe fun σ H Q ⟨O, fr, rl, q⟩ => by
    unfold eVp at q
    rcases getS_cases fr i with ⟨v, e2, e3⟩ | e3
    · rw [e3] at q
      obtain ⟨x, hx, tp⟩ := rl.tp e2
      refine ⟨x, hx, ?_⟩
      simp only [SK.R.bind_ok] at q
      cases v with
      | lst _ => exact q.elim
      | dic _ _ => exact q.elim
      | ins _ _ _ => exact q.elim
      | non => exact q O H x (Fm.refl _ _) rl (tp.val trivial)
      | bl _ => exact q O H x (Fm.refl _ _) rl (tp.val trivial)
      | int _ => exact q O H x (Fm.refl _ _) rl (tp.val trivial)
      | str _ => exact q O H x (Fm.refl _ _) rl (tp.val trivial)
      | tup _ => exact q O H x (Fm.refl _ _) rl (tp.val trivial)
      | scr _ => exact q O H x (Fm.refl _ _) rl (tp.val trivial)
    · rw [e3] at q; exact q.elim
theorem eNS_imp {K : PySem.W.Frag} {f : List Val → Option Val} {σ : St} {H : Hp} {Q : VK} (h : rE K T E mu io (eNS f i) σ H Q) : ∃ x, σ[i]? = some (some x) ∧ rN K T f [x] H Q := by
  obtain ⟨O, fr, rl, q⟩ := h
  unfold eNS at q
  rcases getS_cases fr i with ⟨v, e2, e3⟩ | e3
  · rw [e3] at q
    obtain ⟨x, hx, tp⟩ := rl.tp e2
    refine ⟨x, hx, ON, [v], on_trk, .cons tp.on .nil, ?_⟩
    simp only [SK.R.bind_ok] at q
    rcases flO_cases (f [v]) with ⟨w, e4⟩ | e4
    · rw [e4] at q
      obtain ⟨e5, e6⟩ := flO_ok e4
      rw [e5]
      exact fun H' z X' V' => q O H' z X'.fm (rl.hx X') (V'.flat e6)
    · rw [e4] at q; exact q.elim
  · rw [e3] at q; exact q.elim
theorem se_callBS {f : List Val → Option Val} {id : String} {g : Str} {pf : Pos} (hc : CallR X (.builtin id) (rN X.K T f)) (hg : Gl X g := by rfl) (hm : X.mg g = none) (hv : bootBuiltins g = some (.builtin id) := by first | rfl | decide +kernel) (s : Sl X i x) (hn : g ≠ "__name__" := by decide) (hdb : (g == ("__debug__" : Str)) = false := by decide)
    (he : starEach [.Name x p] X.env = (false, eval (.Name x p) X.env) :: starEach [] X.env := by rfl) (hpl : (backTo pos (starEach [] X.env)).any (·.1) = false := by rfl) : SE X T E mu io (.Call (.Name g pf) [.Name x p] [] pos) (eNS f i) :=
  PE.imp (pe_callB hc hg hm hv (pa_cons s.pe pa_nil he) hn hdb he hpl) fun σ H Q h => by
    obtain ⟨x, hx, q⟩ := eNS_imp h
    exact ⟨x, hx, q⟩
theorem se_callTyS {f : List Val → Option Val} {id : String} {g : Str} {pf : Pos} (hc : CallR X (.type id) (rN X.K T f)) (hg : Gl X g := by rfl) (hm : X.mg g = none) (hv : bootBuiltins g = some (.type id) := by first | rfl | decide +kernel) (s : Sl X i x) (hn : g ≠ "__name__" := by decide) (hdb : (g == ("__debug__" : Str)) = false := by decide)
    (he : starEach [.Name x p] X.env = (false, eval (.Name x p) X.env) :: starEach [] X.env := by rfl) (hpl : (backTo pos (starEach [] X.env)).any (·.1) = false := by rfl) : SE X T E mu io (.Call (.Name g pf) [.Name x p] [] pos) (eNS f i) :=
  PE.imp (pe_callTy hc hg hm hv (pa_cons s.pe pa_nil he) hn hdb he hpl) fun σ H Q h => by
    obtain ⟨x, hx, q⟩ := eNS_imp h
    exact ⟨x, hx, q⟩
theorem st_vS (s : Sl X i x) (he : ∀ whole, isTrue (.Name x p) X.env whole = (do let v ← whole; standAt p; holding [v] (truthy v)) := by intro _; rfl) : ST X T E mu io (.Name x p) (tVS i) :=
  PT.imp (pt_truth s.pe he) fun σ H Q ⟨O, fr, rl, q⟩ => by
    unfold tVS at q
    rcases getS_cases fr i with ⟨v, e2, e3⟩ | e3
    · rw [e3] at q
      obtain ⟨x, hx, tp⟩ := rl.tp e2
      simp only [SK.R.bind_ok] at q
      cases h2 : truth v with
      | none => rw [h2] at q; exact q.elim
      | some k =>
        rw [h2] at q
        exact ⟨x, hx, k, truth_ok tp.on h2, q O H (Fm.refl _ _) rl⟩
    · rw [e3] at q; exact q.elim
end
end SK

set_option maxHeartbeats 1000000
/-! SK9: lists that a slot owns are changed; pairs of names. -/
noncomputable section
namespace SK
open PySem L2
section
variable {K : PySem.W.Frag} {T : Tb} {O : Own} {H : Hp} {mu : Nat → Bool} {io : List (Nat × V)}
/-- what a slot owns is changed -/
theorem wr_fm {a : Addr} {i : Nat} {o : HO} (h : O a = some (.sl i)) : Fm O H O (upd H a o) :=
  ⟨fun b u e n => ⟨by rw [upd_ne (fun z => by rw [z, h] at n; cases n)]; exact e, n⟩, fun b u e n => ⟨by rw [upd_ne (fun z => by rw [z, h] at n; cases n)]; exact e, n⟩, fun b u e n => ⟨by rw [upd_ne (fun z => by rw [z, h] at n; cases n)]; exact e, n⟩, fun _ e => e⟩
theorem Rl.wr {fr : Fr} {σ : St} {a : Addr} {i : Nat} {o : HO} {v : Val} (rl : Rl K T mu io O fr σ H) (hm : mu i = true) (h : O a = some (.sl i)) (hs : σ[i]? = some (some (.ref a))) (hi : i < fr.length) (w : OwR K T O (upd H a o) i v (.ref a)) : Rl K T mu io O (fr.set i (some v)) σ (upd H a o) := by
  refine ⟨by rw [List.length_set]; exact rl.len, fun j u e => ?_, fun b n => ?_, rl.io⟩
  · by_cases z : j = i
    · subst z
      rw [List.getElem?_set, if_pos rfl, if_pos hi] at e
      cases e
      exact ⟨_, hs, slr_own hm w⟩
    · rw [List.getElem?_set_ne (fun q => z q.symm)] at e
      obtain ⟨x, h1, h2⟩ := rl.sl j u e
      refine ⟨x, h1, h2.mono (wr_fm h) fun _ b o' w' e1 e2 e3 => ⟨?_, e2⟩⟩
      have hne : b ≠ a := fun q => by
        rw [q, h] at e2
        cases e2
        rcases e3 with e3 | ⟨g, e3⟩
        · cases e3; exact z rfl
        · cases e3
      rw [upd_ne hne]
      exact e1
  · by_cases z : b = a
    · subst z; rw [upd_same]; exact fun q => nomatch q
    · rw [upd_ne z]; exact rl.trk b n
/-- the slot's list -/
theorem Rl.lst {fr : Fr} {σ : St} {i : Nat} {xs : List Val} (rl : Rl K T mu io O fr σ H) (hm : mu i = true) (e : fr[i]? = some (some (.lst xs))) : ∃ a vs, σ[i]? = some (some (.ref a)) ∧ O a = some (.sl i) ∧ H a = some (.lst vs) ∧ VRs K T O H xs vs := by
  obtain ⟨x, h1, h2⟩ := rl.owned e hm rfl
  have h3 : OwL K T O H (.sl i) (.lst xs) x := h2
  obtain ⟨a, vs, rfl, o, h, r⟩ := h3
  exact ⟨a, vs, h1, o, h, r⟩
/-- .. rewritten -/
theorem Rl.lstW {fr : Fr} {σ : St} {i : Nat} {a : Addr} {xs : List Val} {vs : List V} (rl : Rl K T mu io O fr σ H) (hm : mu i = true) (hs : σ[i]? = some (some (.ref a))) (ho : O a = some (.sl i)) (hi : i < fr.length) (r : VRs K T O H xs vs) : Rl K T mu io O (fr.set i (some (.lst xs))) σ (upd H a (.lst vs)) :=
  rl.wr hm ho hs hi (show OwL K T O _ (.sl i) (.lst xs) (.ref a) from ⟨a, vs, rfl, ho, upd_same, r.mono (wr_fm ho)⟩)
end
section
variable {X : Cx} {T : Tb} {E : XK} {mu : Nat → Bool} {io : List (Nat × V)} {e : Expr} {es : List Expr} {ma mb : EM} {ms : AM} {pos : Pos} {i j : Nat} {x y : Str} {p p' apos : Pos}
theorem atI_map {ns : List Int} {i w : Int} (e : L2.atI ns i = some w) : L2.atI (ns.map V.int) i = some (.int w) := by
  unfold L2.atI at e ⊢
  rw [List.length_map]
  cases e2 : ixN ns.length i with
  | none => rw [e2] at e; cases e
  | some j =>
    rw [e2] at e
    show (ns.map V.int)[j]? = _
    rw [List.getElem?_map]
    have e' : ns[j]? = some w := e
    rw [e']; rfl
theorem tyl {K : PySem.W.Frag} {H : Hp} {a : Addr} {vs : List V} (h : H a = some (.lst vs)) : tyV K "list" (.ref a) H := .inl ⟨rfl, vs, SqL.of h⟩
theorem se_app (hm : mu i = true := by rfl) (s : Sl X i x) (he : SE X T E mu io e ma)
    (hbase : attributeBase (.Name x p) "append" X.env (eval (.Name x p) X.env) = eval (.Name x p) X.env := by rfl)
    (hfew : ((backTo pos (starEach (e :: []) X.env)).all (fun x => !x.1) && (backToKw pos (keywordEach [] X.env)).all (fun x => x.1.isSome)
      && decide ((e :: []).length + ([] : List Keyword).length + (if ([] : List Keyword).isEmpty then 0 else 1) < 30)) = true := by rfl)
    (hline : (apos.endLine == pos.line) = true := by rfl) (hs : starEach (e :: []) X.env = (false, eval e X.env) :: starEach [] X.env := by rfl) (hplain : (backTo pos (starEach [] X.env)).any (·.1) = false := by rfl) :
    SE X T E mu io (.Call (.Attribute (.Name x p) "append" apos) [e] [] pos) (eApp i ma) :=
  PE.imp (pe_bm PySem.F.plainAttrs_list PySem.F.slot_list_append PySem.F.type_list_append mt_append s.pe (pa_cons he pa_nil hs) hbase hfew hline hs hplain) fun σ H Q ⟨O, fr, rl, q⟩ => by
    unfold eApp at q
    split at q
    · rename_i xs0 e0
      obtain ⟨a, vs, h1, h2, h3, h4⟩ := rl.lst hm e0
      refine ⟨.ref a, h1, tyl h3, O, fr, rl, ?_⟩
      cases h5 : ma fr with
      | bad => rw [h5] at q; exact q
      | exc e => rw [h5] at q; exact q
      | ok p =>
        obtain ⟨z, fr1⟩ := p
        rw [h5] at q
        intro O1 H1 z' F1 R1 V1
        simp only [SK.R.bind_ok] at q
        split at q
        · rename_i xs e1
          split at q
          · rename_i hl
            obtain ⟨a', vs', g1, g2, g3, g4⟩ := R1.lst hm e1
            rw [h1] at g1
            cases g1
            refine ⟨a, vs', z', rfl, rfl, g3, by rw [← g4.len]; exact hl, ?_⟩
            exact q O1 _ _ (F1.trans (wr_fm g2)) (R1.lstW hm h1 g2 (lt_of_get e1) (g4.app (.cons V1 .nil))) vr_non
          · exact q.elim
        · exact q.elim
    · exact q.elim
theorem se_ext (hm : mu i = true := by rfl) (s : Sl X i x) (he : SE X T E mu io e ma)
    (hbase : attributeBase (.Name x p) "extend" X.env (eval (.Name x p) X.env) = eval (.Name x p) X.env := by rfl)
    (hfew : ((backTo pos (starEach (e :: []) X.env)).all (fun x => !x.1) && (backToKw pos (keywordEach [] X.env)).all (fun x => x.1.isSome)
      && decide ((e :: []).length + ([] : List Keyword).length + (if ([] : List Keyword).isEmpty then 0 else 1) < 30)) = true := by rfl)
    (hline : (apos.endLine == pos.line) = true := by rfl) (hs : starEach (e :: []) X.env = (false, eval e X.env) :: starEach [] X.env := by rfl) (hplain : (backTo pos (starEach [] X.env)).any (·.1) = false := by rfl) :
    SE X T E mu io (.Call (.Attribute (.Name x p) "extend" apos) [e] [] pos) (eExt i ma) :=
  PE.imp (pe_bm PySem.F.plainAttrs_list PySem.F.slot_list_extend PySem.F.type_list_extend mt_extend s.pe (pa_cons he pa_nil hs) hbase hfew hline hs hplain) fun σ H Q ⟨O, fr, rl, q⟩ => by
    unfold eExt at q
    split at q
    · rename_i xs0 e0
      obtain ⟨a, vs, h1, h2, h3, h4⟩ := rl.lst hm e0
      refine ⟨.ref a, h1, tyl h3, O, fr, rl, ?_⟩
      cases h5 : ma fr with
      | bad => rw [h5] at q; exact q
      | exc e => rw [h5] at q; exact q
      | ok p =>
        obtain ⟨z, fr1⟩ := p
        rw [h5] at q
        intro O1 H1 z' F1 R1 V1
        simp only [SK.R.bind_ok] at q
        split at q
        · rename_i zs xs e2
          split at q
          · rename_i hl
            obtain ⟨a', vs', g1, g2, g3, g4⟩ := R1.lst hm e2
            obtain ⟨b, ws, rfl, t, r⟩ := V1.lst
            rw [h1] at g1
            cases g1
            refine ⟨a, b, vs', ws, rfl, rfl, g3, t.1, by rw [← g4.len, ← r.len]; exact hl, ?_⟩
            exact q O1 _ _ (F1.trans (wr_fm g2)) (R1.lstW hm h1 g2 (lt_of_get e2) (g4.app r)) vr_non
          · exact q.elim
        · exact q.elim
    · exact q.elim
theorem VRs.dropLast {K : PySem.W.Frag} {O : Own} {H : Hp} : ∀ {xs : List Val} {vs : List V}, VRs K T O H xs vs → VRs K T O H xs.dropLast vs.dropLast := fun {xs vs} r => by
  rw [List.dropLast_eq_take, List.dropLast_eq_take, r.len]
  exact r.take _
theorem VRs.erase {K : PySem.W.Frag} {O : Own} {H : Hp} : ∀ {xs : List Val} {vs : List V} (k : Nat), VRs K T O H xs vs → VRs K T O H (xs.eraseIdx k) (vs.eraseIdx k)
  | [], _, k, h => by rw [h.inv0]; exact VRs.nil
  | _ :: _, _, 0, h => by obtain ⟨y, r, rfl, a, b⟩ := h.inv; exact b
  | _ :: _, _, k + 1, h => by obtain ⟨y, r, rfl, a, b⟩ := h.inv; exact .cons a (b.erase k)
theorem se_pop (hm : mu i = true := by rfl) (s : Sl X i x) (hbase : attributeBase (.Name x p) "pop" X.env (eval (.Name x p) X.env) = eval (.Name x p) X.env := by rfl) (hline : (apos.endLine == pos.line) = true := by rfl) :
    SE X T E mu io (.Call (.Attribute (.Name x p) "pop" apos) [] [] pos) (ePop i) :=
  PE.imp (pe_bm0 PySem.F.plainAttrs_list PySem.F.slot_list_pop PySem.F.type_list_pop mt_pop s.pe hbase hline) fun σ H Q ⟨O, fr, rl, q⟩ => by
    unfold ePop at q
    split at q
    · rename_i xs e0
      obtain ⟨a, vs, h1, h2, h3, h4⟩ := rl.lst hm e0
      refine ⟨.ref a, h1, tyl h3, ?_⟩
      cases h5 : xs[xs.length - 1]? with
      | none => rw [h5] at q; exact q.elim
      | some v =>
        rw [h5] at q
        obtain ⟨y, g1, g2⟩ := h4.get h5
        refine ⟨a, vs, y, rfl, rfl, h3, by rw [← h4.len]; exact g1, ?_⟩
        exact q O _ _ (wr_fm h2) (rl.lstW hm h1 h2 (lt_of_get e0) h4.dropLast) (g2.mono (wr_fm h2))
    · exact q.elim
theorem se_clr (hm : mu i = true := by rfl) (s : Sl X i x) (hbase : attributeBase (.Name x p) "clear" X.env (eval (.Name x p) X.env) = eval (.Name x p) X.env := by rfl) (hline : (apos.endLine == pos.line) = true := by rfl) :
    SE X T E mu io (.Call (.Attribute (.Name x p) "clear" apos) [] [] pos) (eClr i) :=
  PE.imp (pe_bm0 PySem.F.plainAttrs_list PySem.F.slot_list_clear PySem.F.type_list_clear mt_clear s.pe hbase hline) fun σ H Q ⟨O, fr, rl, q⟩ => by
    unfold eClr at q
    split at q
    · rename_i xs e0
      obtain ⟨a, vs, h1, h2, h3, h4⟩ := rl.lst hm e0
      refine ⟨.ref a, h1, tyl h3, a, vs, rfl, rfl, h3, ?_⟩
      exact q O _ _ (wr_fm h2) (rl.lstW hm h1 h2 (lt_of_get e0) .nil) vr_non
    · exact q.elim
theorem se_popA (hm : mu i = true := by rfl) (s : Sl X i x) (he : SE X T E mu io e ma)
    (hbase : attributeBase (.Name x p) "pop" X.env (eval (.Name x p) X.env) = eval (.Name x p) X.env := by rfl)
    (hfew : ((backTo pos (starEach (e :: []) X.env)).all (fun x => !x.1) && (backToKw pos (keywordEach [] X.env)).all (fun x => x.1.isSome)
      && decide ((e :: []).length + ([] : List Keyword).length + (if ([] : List Keyword).isEmpty then 0 else 1) < 30)) = true := by rfl)
    (hline : (apos.endLine == pos.line) = true := by rfl) (hs : starEach (e :: []) X.env = (false, eval e X.env) :: starEach [] X.env := by rfl) (hplain : (backTo pos (starEach [] X.env)).any (·.1) = false := by rfl) :
    SE X T E mu io (.Call (.Attribute (.Name x p) "pop" apos) [e] [] pos) (ePopA i ma) :=
  PE.imp (pe_bm PySem.F.plainAttrs_list PySem.F.slot_list_pop PySem.F.type_list_pop mt_popAt s.pe (pa_cons he pa_nil hs) hbase hfew hline hs hplain) fun σ H Q ⟨O, fr, rl, q⟩ => by
    unfold ePopA at q
    split at q
    · rename_i xs0 e0
      obtain ⟨a, vs, h1, h2, h3, h4⟩ := rl.lst hm e0
      refine ⟨.ref a, h1, tyl h3, O, fr, rl, ?_⟩
      cases h5 : ma fr with
      | bad => rw [h5] at q; exact q
      | exc e => rw [h5] at q; exact q
      | ok p =>
        obtain ⟨z, fr1⟩ := p
        rw [h5] at q
        intro O1 H1 z' F1 R1 V1
        simp only [SK.R.bind_ok] at q
        split at q
        · rename_i k xs e2
          split at q
          · rename_i hb
            cases h6 : seqIndex? k xs.length with
            | none => rw [h6] at q; exact q.elim
            | some n =>
              rw [h6] at q
              cases h7 : xs[n]? with
              | none => simp only [h7] at q; exact q.elim
              | some v =>
                simp only [h7] at q
                obtain ⟨a', vs', g1, g2, g3, g4⟩ := R1.lst hm e2
                rw [h1] at g1
                cases g1
                cases V1.int
                obtain ⟨y, g5, g6⟩ := g4.get h7
                refine ⟨a, vs', k, n, y, rfl, rfl, g3, hb.1, hb.2, by rw [← g4.len]; exact h6, g5, ?_⟩
                exact q O1 _ _ (F1.trans (wr_fm g2)) (R1.lstW hm h1 g2 (lt_of_get e2) (g4.erase n)) (g6.mono (wr_fm g2))
          · exact q.elim
        · exact q.elim
    · exact q.elim
/-- slot[e], a list -/
theorem se_ixS {b : Expr} (s : Sl X i x) (hb : SE X T E mu io b mb) (hs : PlainIx b := by intro _ _; rfl) : SE X T E mu io (.Subscript (.Name x p) b pos) (eIxS i mb) :=
  PE.imp (pe_ix ix_seq s.pe hb hs) fun σ H Q ⟨O, fr, rl, q⟩ => by
    unfold eIxS at q
    rcases getS_cases fr i with ⟨v0, e0, e1⟩ | e1
    · rw [e1] at q
      obtain ⟨x, hx, _⟩ := rl.tp e0
      refine ⟨x, hx, O, fr, rl, ?_⟩
      simp only [SK.R.bind_ok] at q
      cases h2 : mb fr with
      | bad => rw [h2] at q; exact q
      | exc e => rw [h2] at q; exact q
      | ok p =>
        obtain ⟨y, fr2⟩ := p
        rw [h2] at q
        intro O2 H2 y' F2 R2 V2
        simp only [SK.R.bind_ok] at q
        rcases getS_cases fr2 i with ⟨v, e2, e3⟩ | e3
        · rw [e3] at q
          obtain ⟨x', hx', tp⟩ := R2.tp e2
          rw [hx] at hx'
          cases hx'
          simp only [SK.R.bind_ok] at q
          cases h4 : vIx v y with
          | none => rw [h4] at q; exact q.elim
          | some w =>
            rw [h4] at q
            unfold vIx at h4
            split at h4
            · obtain ⟨a, vs, rfl, g1, g2⟩ := tp.lst
              cases V2.int
              obtain ⟨z, g3, g4⟩ := g2.atI h4
              exact .inl ⟨a, vs, _, z, rfl, rfl, SqL.of g1, g3, q O2 H2 z F2 R2 g4⟩
            · have vv := tp.val trivial
              obtain ⟨a, vs, rfl, t, r⟩ := vv.tup
              cases V2.int
              obtain ⟨z, g3, g4⟩ := r.atI h4
              exact .inr (.inl ⟨a, vs, _, z, rfl, rfl, t.sq, g3, q O2 H2 z F2 R2 g4⟩)
            · have vv := tp.val trivial
              obtain ⟨z, rfl, hz⟩ := vv.str
              cases V2.int
              split at h4
              · rename_i hl
                obtain ⟨c, g, e5⟩ := Option.map_eq_some_iff.mp h4
                subst e5
                exact .inr (.inr ⟨z, _, c, rfl, rfl, by rw [str_len, hz]; exact hl, by rw [hz]; exact g, q O2 H2 _ F2 R2 (by unfold VR; exact ⟨_, rfl, rfl⟩)⟩)
              · cases h4
            · have vv := tp.val trivial
              obtain ⟨a, rfl, t⟩ := vv.scr
              cases V2.int
              obtain ⟨w', g, e5⟩ := Option.map_eq_some_iff.mp h4
              subst e5
              refine .inl ⟨a, _, _, _, rfl, rfl, t, atI_map g, q O2 H2 _ F2 R2 vr_int⟩
            · cases h4
        · rw [e3] at q; exact q.elim
    · rw [e1] at q; exact q.elim
/-- slot[e] = v, a list that the slot owns -/
theorem ss_setL {b v : Expr} {mv : EM} {k : Nat} (hm : mu i = true := by rfl) (s : Sl X i x) (hv : SE X T E mu io v mv) (hb : SE X T E mu io b mb)
    (ha : ∀ w, assign (.Subscript (.Name x p) b p') X.env w = (do
      let ov ← holding [w] (eval (.Name x p) X.env)
      let iv ← holding [w, ov] (eval b X.env)
      standAt p'
      holding [w, ov, iv] (setItem ov iv w)
      release [w, ov, iv] []) := by intro _; rfl)
    (hs : swapsWithSole [.Subscript (.Name x p) b p'] v pos.line X.env = pure false := by rfl) (hw : swappedStores [.Subscript (.Name x p) b p'] v X.env = pure none := by rfl)
    (h1 : (assignEach [.Subscript (.Name x p) b p'] X.env).map (·.2) = [assign (.Subscript (.Name x p) b p') X.env] := by rfl) : SS X T E mu io (.Assign [.Subscript (.Name x p) b p'] v pos) (sSetL i mv mb) :=
  PS.imp (ps_asg hv (pg_sub s.pe hb set_list ha) hs hw h1) fun D σ H ⟨O, fr, rl, q⟩ => by
    unfold sSetL at q
    refine ⟨O, fr, rl, ?_⟩
    cases h2 : mv fr with
    | bad => rw [h2] at q; exact q
    | exc e => rw [h2] at q; exact q
    | ok p =>
      obtain ⟨y, fr2⟩ := p
      rw [h2] at q
      intro O2 H2 y' F2 R2 V2
      simp only [SK.R.bind_ok] at q
      rcases getS_cases fr2 i with ⟨v0, e0, e1⟩ | e1
      · rw [e1] at q
        obtain ⟨x, hx, _⟩ := R2.tp e0
        refine ⟨x, hx, O2, fr2, R2, ?_⟩
        simp only [SK.R.bind_ok] at q
        cases h3 : mb fr2 with
        | bad => rw [h3] at q; exact q
        | exc e => rw [h3] at q; exact pEx.back F2 q
        | ok p =>
          obtain ⟨z, fr3⟩ := p
          rw [h3] at q
          intro O3 H3 z' F3 R3 V3
          simp only [SK.R.bind_ok] at q
          split at q
          · rename_i k xs e3
            cases h5 : ixN xs.length k with
            | none => rw [h5] at q; exact q.elim
            | some n =>
              rw [h5] at q
              obtain ⟨a', vs', g1, g2, g3, g4⟩ := R3.lst hm e3
              rw [hx] at g1
              cases g1
              cases V3.int
              refine ⟨a', vs', k, n, rfl, rfl, g3, by rw [← g4.len]; exact h5, ?_⟩
              exact q O3 _ σ ((F2.trans F3).trans (wr_fm g2)) (R3.lstW hm hx g2 (lt_of_get e3) (g4.set (V2.mono F3) n))
          · exact q.elim
      · rw [e1] at q; exact q.elim
/-! ### a, b = x, y -/
def sPar (i j : Nat) (a b : EM) : SM := fun fr => (a fr).bind fun x => (b x.2).bind fun y => .ok (.nx, (y.2.set i (some x.1)).set j (some y.1))
theorem RtR.mono {K : PySem.W.Frag} {O O' : Own} {H H' : Hp} {ro : Bool} {r : Nat} {v : Val} {x : V} (f : Fm O H O' H') (hk : ro = true → ∀ a o w, H a = some o → O a = some w → ofSlot r w → H' a = some o ∧ O' a = some w) (h : RtR K T ro r O H v x) : RtR K T ro r O' H' v x := by
  unfold RtR at h ⊢
  cases ro with
  | true => simp only [if_true] at h ⊢; exact OwR.mono f (hk rfl) h
  | false => simp only [Bool.false_eq_true, if_false] at h ⊢; exact VR.mono f _ _ h
/-- a slot takes a value, or what r owns -/
theorem Rl.setX {K : PySem.W.Frag} {O : Own} {H : Hp} {fr : Fr} {σ : St} {i r : Nat} {ro : Bool} {v : Val} {x : V} (rl : Rl K T mu io O fr σ H) (hm : mu i = ro) (hio : ∀ p ∈ io, p.1 ≠ i) (hr : fr.length ≤ r) (w : RtR K T ro r O H v x) :
    ∃ O', Fm O H O' H ∧ Rl K T mu io O' (fr.set i (some v)) (σ.set i (some x)) H ∧ ∀ a w r', r' ≠ r → r' ≠ i → O a = some w → ofSlot r' w → O' a = some w := by
  unfold RtR at w
  cases ro with
  | true =>
    simp only [if_true] at w
    exact ⟨relab O r i, relab_fm _ _ _ _, rl.setO hm hio hr w, fun a w r' h1 h2 e o => relab_ne h1 h2 e o⟩
  | false =>
    simp only [Bool.false_eq_true, if_false] at w
    exact ⟨O, Fm.refl _ _, rl.set hm hio w, fun a w r' _ _ e _ => e⟩
/-- what r owns is set apart -/
def relT (O : Own) (r : Nat) : Own := fun a => if O a = some (.sl r) then some .tmp else O a
theorem relT_fm (O : Own) (H : Hp) (r : Nat) : Fm O H (relT O r) H := by
  have key : ∀ a w, O a = w → w ≠ some (.sl r) → relT O r a = w := fun a w e n => by
    unfold relT; rw [e, if_neg n]
  refine ⟨fun a o h n => ⟨h, key a _ n (by simp)⟩, fun a o h n => ⟨h, key a _ n (by simp)⟩, fun a o h n => ⟨h, key a _ n (by simp)⟩, fun a h => ?_⟩
  unfold relT at h
  split at h
  · cases h
  · exact h
theorem Rl.relT {K : PySem.W.Frag} {O : Own} {H : Hp} {fr : Fr} {σ : St} {r : Nat} (rl : Rl K T mu io O fr σ H) (hr : fr.length ≤ r) : Rl K T mu io (relT O r) fr σ H :=
  ⟨rl.len, fun j u e => by
    obtain ⟨x, h1, h2⟩ := rl.sl j u e
    refine ⟨x, h1, h2.mono (relT_fm O H r) fun _ a o w e1 e2 e3 => ⟨e1, ?_⟩⟩
    have hj := lt_of_get e
    unfold SK.relT
    rw [if_neg (fun z => by rw [e2] at z; cases z; rcases e3 with e3 | ⟨g, e3⟩ <;> cases e3; omega)]
    exact e2, fun a n => rl.trk a fun z => n (by unfold SK.relT; rw [if_neg (by rw [z]; simp)]; exact z), rl.io⟩
/-- lists and dicts only -/
def isLD : Val → Bool
  | .lst _ => true
  | .dic _ _ => true
  | _ => false
theorem OwR.ld {K : PySem.W.Frag} {O : Own} {H : Hp} {i : Nat} : ∀ {v x}, isLD v = true → OwR K T O H i v x → OwL K T O H (.sl i) v x
  | .lst xs, x, _, h => h
  | .dic ks vs, x, _, h => h
  | .non, _, f, _ => by cases f
  | .bl _, _, f, _ => by cases f
  | .int _, _, f, _ => by cases f
  | .str _, _, f, _ => by cases f
  | .tup _, _, f, _ => by cases f
  | .ins _ _ _, _, f, _ => by cases f
  | .scr _, _, f, _ => by cases f
theorem OwL.r {K : PySem.W.Frag} {O : Own} {H : Hp} {i : Nat} : ∀ {v x}, OwL K T O H (.sl i) v x → OwR K T O H i v x
  | .lst xs, x, h => h
  | .dic ks vs, x, h => h
  | .non, _, h => h.elim
  | .bl _, _, h => h.elim
  | .int _, _, h => h.elim
  | .str _, _, h => h.elim
  | .tup _, _, h => h.elim
  | .ins _ _ _, _, h => h.elim
  | .scr _, _, h => h.elim
theorem OwL.addr {K : PySem.W.Frag} {O : Own} {H : Hp} {w : Ow} : ∀ {v x}, OwL K T O H w v x → ∃ a, x = .ref a ∧ O a = some w ∧ ∀ (O' : Own) (w' : Ow), Fb O H O' H → O' a = some w' → OwL K T O' H w' v x
  | .lst xs, x, ⟨a, vs, e, o, h, r⟩ => ⟨a, e, o, fun O' w' f e' => ⟨a, vs, e, e', h, r.monoB f⟩⟩
  | .dic ks ws, x, ⟨a, kvs, e, o, h, q, r⟩ => ⟨a, e, o, fun O' w' f e' => ⟨a, kvs, e, e', h, q, r.monoB f⟩⟩
  | .non, _, h => h.elim
  | .bl _, _, h => h.elim
  | .int _, _, h => h.elim
  | .str _, _, h => h.elim
  | .tup _, _, h => h.elim
  | .ins _ _ _, _, h => h.elim
  | .scr _, _, h => h.elim
def sParX (r1 : Bool) (i j : Nat) (a b : EM) : SM := fun fr => (a fr).bind fun x => if r1 = true ∧ isLD x.1 = false then .bad else (b x.2).bind fun y => .ok (.nx, (y.2.set i (some x.1)).set j (some y.1))
theorem ss_par {ro1 ro2 : Bool} {r1 r2 : Nat} {a b : Expr} {px py pt : Pos} {kt k2 pt2} (hc : X.calm = true := by rfl) (hN : X.N.Nodup) (hi : X.N[i]? = some x := by rfl) (hj : X.N[j]? = some y := by rfl) (hij : i ≠ j := by decide)
    (hx : X.env.scope.names.lookup x = some .local := by rfl) (hy : X.env.scope.names.lookup y = some .local := by rfl) (ha : SX X T E mu io ro1 r1 a ma) (hb : SX X T E mu io ro2 r2 b mb) (m1 : mu i = ro1) (m2 : mu j = ro2) (hio : ∀ p ∈ io, p.1 ≠ i ∧ p.1 ≠ j := by exact io_ne2 rfl rfl)
    (hl : X.N.length ≤ r1 ∧ X.N.length ≤ r2 := by decide)
    (hs1 : starEach [a, b] X.env = (false, eval a X.env) :: starEach [b] X.env := by rfl) (hs2 : starEach [b] X.env = (false, eval b X.env) :: starEach [] X.env := by rfl)
    (hw : swappedStores [.Tuple [.Name x px, .Name y py] kt pt] (.Tuple [a, b] k2 pt2) X.env = pure (some [x, y]) := by rfl)
    (hs : swapsWithSole [.Tuple [.Name x px, .Name y py] kt pt] (.Tuple [a, b] k2 pt2) pos.line X.env = pure false := by rfl) :
    SS X T E mu io (.Assign [.Tuple [.Name x px, .Name y py] kt pt] (.Tuple [a, b] k2 pt2) pos) (sParX ro1 i j ma mb) :=
  ⟨fun pins s σ H D I ⟨O, fr, rl, q⟩ => by
    refine (ps_par (pos := pos) hc hN hi hj hij hx hy (pa_cons ha (pa_cons hb pa_nil hs2) hs1) hw hs).run pins s σ H D I ?_
    have hlen : fr.length = X.N.length := rl.len.trans I.len
    unfold sParX at q
    refine ⟨O, fr, rl, ?_⟩
    cases h : ma fr with
    | bad => rw [h] at q; exact q
    | exc e => rw [h] at q; exact q
    | ok p =>
      obtain ⟨v, fr1⟩ := p
      rw [h] at q
      intro O1 H1 x1 F1 R1 V1
      have hlen1 : fr1.length = X.N.length := R1.len.trans I.len
      simp only [SK.R.bind_ok] at q
      cases ro1 with
      | true =>
        by_cases hld : isLD v = false
        · rw [if_pos ⟨rfl, hld⟩] at q; exact q.elim
        · have hld : isLD v = true := by simpa using hld
          rw [if_neg (fun z => by rw [hld] at z; cases z.2)] at q
          have V1' : OwR X.K T O1 H1 r1 v x1 := by unfold RtR at V1; simpa using V1
          obtain ⟨c, rfl, ec, gc⟩ := (V1'.ld hld).addr
          have FT := relT_fm O1 H1 r1
          have R1T : Rl X.K T mu io (relT O1 r1) fr1 σ H1 := R1.relT (by rw [hlen1]; exact hl.1)
          have LT : OwL X.K T (relT O1 r1) H1 .tmp v (.ref c) := gc _ _ FT.b (by unfold relT; rw [if_pos ec])
          refine ⟨relT O1 r1, fr1, R1T, ?_⟩
          cases h2 : mb fr1 with
          | bad => rw [h2] at q; exact q
          | exc e => rw [h2] at q; exact pEx.back (F1.trans FT) q
          | ok p =>
            obtain ⟨u, fr2⟩ := p
            rw [h2] at q
            intro O2 H2 x2 F2 R2 V2
            have hlen2 : fr2.length = X.N.length := R2.len.trans I.len
            refine ⟨_, _, rfl, ?_⟩
            obtain ⟨O3, F3, R3, _⟩ := R2.setX m2 (fun p hp => (hio p hp).2) (by rw [hlen2]; exact hl.2) V2
            have LT3 := OwL.monoB _ (F2.trans F3).b (fun a o => (F2.trans F3).tmp a o) LT
            obtain ⟨c', ec', oc, gc'⟩ := LT3.addr
            cases ec'
            have R4 : Rl X.K T mu io (setOw O3 c (some (.sl i))) (fr2.set j (some u)) (σ.set j (some x2)) H2 := R3.outTo oc
            have Fb34 : Fb O3 H2 (setOw O3 c (some (.sl i))) H2 := fun a o e n => ⟨e, by rw [setOw_ne (fun z => by rw [z, oc] at n; cases n)]; exact n⟩
            have LI : OwR X.K T (setOw O3 c (some (.sl i))) H2 i v (.ref c) := (gc' _ _ Fb34 setOw_same).r
            have G : Fm O H O3 H2 := ((F1.trans FT).trans F2).trans F3
            have FF : Fm O H (setOw O3 c (some (.sl i))) H2 := by
              refine ⟨fun a o e n => ?_, fun a o e n => ?_, fun a o e n => ?_, fun a e => ?_⟩
              · obtain ⟨g1, g2⟩ := G.byv a o e n
                exact ⟨g1, by rw [setOw_ne (fun z => by rw [z, oc] at g2; cases g2)]; exact g2⟩
              · obtain ⟨g1, g2⟩ := G.out a o e n
                exact ⟨g1, by rw [setOw_ne (fun z => by rw [z, oc] at g2; cases g2)]; exact g2⟩
              · obtain ⟨g1, g2⟩ := G.tmp a o e n
                obtain ⟨g3, g4⟩ := F1.tmp a o e n
                exact ⟨g1, by rw [setOw_ne (fun z => by rw [z, ec] at g4; cases g4)]; exact g2⟩
              · by_cases z : a = c
                · rw [z, setOw_same] at e; cases e
                · rw [setOw_ne z] at e; exact G.no a e
            have R5 : Rl X.K T mu io (setOw O3 c (some (.sl i))) ((fr2.set j (some u)).set i (some v)) ((σ.set j (some x2)).set i (some (.ref c))) H2 := by
              refine ⟨by simpa using R4.len, fun k w e => ?_, R4.trk, fun p hp => ?_⟩
              · by_cases z : k = i
                · subst z
                  rw [List.getElem?_set, if_pos rfl] at e
                  split at e
                  · rename_i hk
                    cases e
                    exact ⟨.ref c, by rw [List.getElem?_set, if_pos rfl, if_pos (by rw [← R4.len]; exact hk)], slr_own m1 LI⟩
                  · cases e
                · rw [List.getElem?_set_ne (fun q => z q.symm)] at e
                  obtain ⟨y, g1, g2⟩ := R4.sl k w e
                  exact ⟨y, by rw [List.getElem?_set_ne (fun q => z q.symm)]; exact g1, g2⟩
              · rw [List.getElem?_set_ne (fun q => (hio p hp).1 q.symm)]
                exact R4.io p hp
            have e1 : (fr2.set j (some u)).set i (some v) = (fr2.set i (some v)).set j (some u) := List.set_comm _ _ (fun z => hij z.symm)
            have e2 : (σ.set j (some x2)).set i (some (V.ref c)) = (σ.set i (some (V.ref c))).set j (some x2) := List.set_comm _ _ (fun z => hij z.symm)
            rw [e1, e2] at R5
            exact q _ H2 _ FF R5
      | false =>
        rw [if_neg (fun z => by cases z.1)] at q
        have V1' : VR X.K T O1 H1 v x1 := by unfold RtR at V1; simpa using V1
        refine ⟨O1, fr1, R1, ?_⟩
        cases h2 : mb fr1 with
        | bad => rw [h2] at q; exact q
        | exc e => rw [h2] at q; exact pEx.back F1 q
        | ok p =>
          obtain ⟨u, fr2⟩ := p
          rw [h2] at q
          intro O2 H2 x2 F2 R2 V2
          have hlen2 : fr2.length = X.N.length := R2.len.trans I.len
          refine ⟨_, _, rfl, ?_⟩
          obtain ⟨O3, F3, R3, _⟩ := R2.setX m2 (fun p hp => (hio p hp).2) (by rw [hlen2]; exact hl.2) V2
          have R4 := R3.set m1 (fun p hp => (hio p hp).1) (V1'.mono (F2.trans F3))
          rw [List.set_comm _ _ (fun z => hij z.symm), List.set_comm _ _ (fun z => hij z.symm)] at R4
          exact q _ H2 _ ((F1.trans F2).trans F3) R4⟩
end
end SK

set_option maxHeartbeats 1000000
/-! SK10: instances: fields, making, methods. -/
noncomputable section
namespace SK
open PySem L2

def getF (g : Nat) : List Nat → List Val → Option Val
  | f :: fs, v :: vs => if f = g then some v else getF g fs vs
  | _, _ => none
def setF {α : Type} (g : Nat) (v : α) : List Nat → List α → List Nat × List α
  | f :: fs, w :: ws => if f = g then (f :: fs, v :: ws) else (f :: (setF g v fs ws).1, w :: (setF g v fs ws).2)
  | _, _ => ([g], [v])
/-- e.f, f the field g of the classes cs -/
def vAt (cs : List Nat) (g : Nat) : Val → Option Val
  | .ins c fs vs => if (cs.contains c && decide (c < EXC)) = true then getF g fs vs else none
  | _ => none
/-- slot.f, f not one that owns -/
def eAtS (cs : List Nat) (g : Nat) (i : Nat) : EM := fun fr => (getS fr i).bind fun v => match v with
  | .ins c fs vs => if (cs.contains c && decide (c < EXC)) = true then (ofO (getF g fs vs)).bind fun w => .ok (w, fr) else .bad
  | _ => .bad
/-- self.f = e -/
def sAt (cs : List Nat) (g : Nat) (i : Nat) (a : EM) : SM := fun fr => (a fr).bind fun x => match x.2[i]? with
  | some (some (.ins c fs vs)) => if cs.contains c = true ∧ isFz (.ins c fs vs) = false ∧ fs.length < 1000 then .ok (.nx, x.2.set i (some (.ins c (setF g x.1 fs vs).1 (setF g x.1 fs vs).2))) else .bad
  | _ => .bad

/-- the field names apart -/
def FldOk (T : Tb) : Prop := ∀ g g', g < T.nf → g' < T.nf → T.fld g = T.fld g' → g = g'
section
variable {K : PySem.W.Frag} {T : Tb} {O : Own} {H : Hp} {mu : Nat → Bool} {io : List (Nat × V)}
theorem putF_len (f : Str) (v : V) : ∀ fs : List (Str × V), (putF f v fs).length = if (fs.lookup f).isSome = true then fs.length else fs.length + 1
  | [] => rfl
  | (g, x) :: r => by
    rw [show putF f v ((g, x) :: r) = (if g = f then (g, v) :: r else (g, x) :: putF f v r) from rfl]
    by_cases h : g = f
    · subst h
      rw [if_pos rfl]
      simp
    · rw [if_neg h, List.length_cons, putF_len f v r]
      have : (f == g) = false := by simpa using fun z => h z.symm
      rw [show List.lookup f ((g, x) :: r) = List.lookup f r by simp [List.lookup, this]]
      split <;> rfl
theorem setF_len {α : Type} {g : Nat} {v : α} : ∀ {fs : List Nat} {ws : List α}, fs.length = ws.length → (setF g v fs ws).1.length = (setF g v fs ws).2.length
  | [], [], _ => rfl
  | f :: fs, w :: ws, h => by
    unfold setF
    split
    · simpa using h
    · simp only [List.length_cons]; rw [setF_len (by simpa using h)]
  | [], _ :: _, h => by cases h
  | _ :: _, [], h => by cases h
theorem setF_fst {α β : Type} {g : Nat} {v : α} {u : β} : ∀ {fs : List Nat} {ws : List α} {us : List β}, fs.length = ws.length → fs.length = us.length → (setF g v fs ws).1 = (setF g u fs us).1
  | [], [], [], _, _ => rfl
  | f :: fs, w :: ws, u' :: us, h, h' => by
    unfold setF
    split
    · rfl
    · show f :: _ = f :: _; rw [setF_fst (by simpa using h) (by simpa using h')]
  | [], _ :: _, _, h, _ => by cases h
  | _ :: _, [], _, h, _ => by cases h
  | [], [], _ :: _, _, h => by cases h
  | _ :: _, _ :: _, [], _, h => by cases h
theorem setF_mem {α : Type} {g : Nat} {v : α} : ∀ {fs : List Nat} {ws : List α}, ∀ f ∈ (setF g v fs ws).1, f = g ∨ f ∈ fs
  | [], [], f, h => .inl (by simpa [setF] using h)
  | [], _ :: _, f, h => .inl (by simpa [setF] using h)
  | _ :: _, [], f, h => .inl (by simpa [setF] using h)
  | f' :: fs, w :: ws, f, h => by
    unfold setF at h
    split at h
    · exact .inr h
    · rcases List.mem_cons.mp h with h | h
      · exact .inr (h ▸ List.mem_cons_self)
      · rcases setF_mem f h with z | z
        · exact .inl z
        · exact .inr (List.mem_cons_of_mem _ z)
theorem lookup_setF (hF : FldOk T) {g : Nat} (hg : g < T.nf) {v : V} (nm : Str) : ∀ {fs : List Nat} {ws : List V}, (∀ f ∈ fs, f < T.nf) → fs.length = ws.length →
    (((setF g v fs ws).1.map T.fld).zip (setF g v fs ws).2).lookup nm = if nm = T.fld g then some v else ((fs.map T.fld).zip ws).lookup nm
  | [], [], _, _ => by
    show List.lookup nm [(T.fld g, v)] = _
    by_cases h : nm = T.fld g
    · rw [if_pos h]; subst h; simp [List.lookup]
    · rw [if_neg h]
      have : (nm == T.fld g) = false := by simpa using h
      simp [List.lookup, this]
  | f :: fs, w :: ws, hm, hl => by
    unfold setF
    by_cases e : f = g
    · subst e
      rw [if_pos rfl]
      show List.lookup nm ((T.fld f, v) :: _) = if nm = T.fld f then some v else List.lookup nm ((T.fld f, w) :: _)
      by_cases h : nm = T.fld f
      · rw [if_pos h]; subst h; simp [List.lookup]
      · rw [if_neg h]
        have : (nm == T.fld f) = false := by simpa using h
        simp [List.lookup, this]
    · rw [if_neg e]
      have hne : T.fld f ≠ T.fld g := fun z => e (hF f g (hm f List.mem_cons_self) hg z)
      show List.lookup nm ((T.fld f, w) :: ((setF g v fs ws).1.map T.fld).zip (setF g v fs ws).2) = if nm = T.fld g then some v else List.lookup nm ((T.fld f, w) :: (fs.map T.fld).zip ws)
      have ih := lookup_setF hF hg (v := v) nm (fs := fs) (ws := ws) (fun x hx => hm x (List.mem_cons_of_mem _ hx)) (by simpa using hl)
      by_cases h : nm = T.fld f
      · subst h
        rw [if_neg hne]
        simp [List.lookup]
      · have : (nm == T.fld f) = false := by simpa using h
        simp only [List.lookup, this]
        exact ih
  | [], _ :: _, _, h => by cases h
  | _ :: _, [], _, h => by cases h
theorem lookup_some_mem {g : Nat} : ∀ {fs : List Nat} {ws : List V}, (((fs.map T.fld).zip ws).lookup (T.fld g)).isSome = true → ∃ f ∈ fs, T.fld f = T.fld g
  | [], _, h => by simp at h
  | f :: fs, [], h => by simp at h
  | f :: fs, w :: ws, h => by
    by_cases e : T.fld g = T.fld f
    · exact ⟨f, List.mem_cons_self, e.symm⟩
    · have : (T.fld g == T.fld f) = false := by simpa using e
      have h' : (List.lookup (T.fld g) ((T.fld f, w) :: (fs.map T.fld).zip ws)).isSome = true := h
      simp only [List.lookup, this] at h'
      obtain ⟨f', h1, h2⟩ := lookup_some_mem h'
      exact ⟨f', List.mem_cons_of_mem _ h1, h2⟩
theorem setF_size {α : Type} {g : Nat} {v : α} : ∀ {fs : List Nat} {ws : List α}, fs.length = ws.length → (setF g v fs ws).1.length = if g ∈ fs then fs.length else fs.length + 1
  | [], [], _ => rfl
  | f :: fs, w :: ws, h => by
    unfold setF
    by_cases e : f = g
    · subst e; rw [if_pos rfl, if_pos List.mem_cons_self]
    · rw [if_neg e]
      show (setF g v fs ws).1.length + 1 = _
      rw [setF_size (by simpa using h)]
      by_cases m : g ∈ fs
      · rw [if_pos m, if_pos (List.mem_cons_of_mem _ m)]; rfl
      · rw [if_neg m, if_neg (fun z => by rcases List.mem_cons.mp z with z | z; exact e z.symm; exact m z)]; rfl
  | [], _ :: _, h => by cases h
  | _ :: _, [], h => by cases h
theorem lookup_mem {g : Nat} : ∀ {fs : List Nat} {ws : List V}, fs.length = ws.length → g ∈ fs → (((fs.map T.fld).zip ws).lookup (T.fld g)).isSome = true
  | f :: fs, w :: ws, h, m => by
    show (List.lookup (T.fld g) ((T.fld f, w) :: (fs.map T.fld).zip ws)).isSome = true
    by_cases e : T.fld g = T.fld f
    · rw [e]; simp [List.lookup]
    · have : (T.fld g == T.fld f) = false := by simpa using e
      simp only [List.lookup, this]
      exact lookup_mem (by simpa using h) (by rcases List.mem_cons.mp m with z | z; exact absurd (congrArg T.fld z) e; exact z)
  | [], _, _, m => by cases m
  | _ :: _, [], h, _ => by cases h
theorem FsR.put (hF : FldOk T) {g : Nat} (hg : g < T.nf) {fs : List Nat} {ws : List V} {fs' : List (Str × V)} (r : FsR T fs ws fs') (x : V) : FsR T (setF g x fs ws).1 (setF g x fs ws).2 (putF (T.fld g) x fs') := by
  obtain ⟨h1, h2, h3, h4⟩ := r
  refine ⟨setF_len h1, ?_, fun f hf => ?_, fun nm => ?_⟩
  · rw [putF_len, setF_size h1, h4 (T.fld g), h2]
    by_cases m : g ∈ fs
    · rw [if_pos m, if_pos (lookup_mem h1 m)]
    · rw [if_neg m, if_neg]
      intro z
      obtain ⟨f, a, b⟩ := lookup_some_mem z
      exact m (hF f g (h3 f a) hg b ▸ a)
  · rcases setF_mem f hf with z | z
    · rw [z]; exact hg
    · exact h3 f z
  · rw [lookup_putF, lookup_setF hF hg nm h3 h1, h4 nm]
theorem FsR.get (hF : FldOk T) {g : Nat} (hg : g < T.nf) : ∀ {fs : List Nat} {vs : List Val} {ws : List V} {v : Val}, (∀ f ∈ fs, f < T.nf) → VRs K T O H vs ws → fs.length = ws.length → getF g fs vs = some v → ∃ x, ((fs.map T.fld).zip ws).lookup (T.fld g) = some x ∧ VR K T O H v x
  | [], vs, ws, v, hm, r, hl, h => by cases vs <;> (unfold getF at h; cases h)
  | f :: fs, [], ws, v, hm, r, hl, h => by unfold getF at h; cases h
  | f :: fs, u :: vs, ws, v, hm, r, hl, h => by
    obtain ⟨y, q, rfl, a, b⟩ := r.inv
    unfold getF at h
    show ∃ x, List.lookup (T.fld g) ((T.fld f, y) :: (fs.map T.fld).zip q) = some x ∧ _
    by_cases e : f = g
    · subst e
      rw [if_pos rfl] at h
      cases h
      exact ⟨y, by simp [List.lookup], a⟩
    · rw [if_neg e] at h
      obtain ⟨x, h1, h2⟩ := FsR.get hF hg (fun x hx => hm x (List.mem_cons_of_mem _ hx)) b (by simpa using hl) h
      have z : T.fld g ≠ T.fld f := fun z => e (hF f g (hm f List.mem_cons_self) hg z.symm)
      have : (T.fld g == T.fld f) = false := by simpa using z
      simp only [List.lookup, this]
      exact ⟨x, h1, h2⟩
theorem TFs.get (hF : FldOk T) {g : Nat} (hg : g < T.nf) {c : Nat} (ho : T.own c g = false) : ∀ {fs : List Nat} {vs : List Val} {ws : List V} {v : Val}, (∀ f ∈ fs, f < T.nf) → TFs K T O H c fs vs ws → getF g fs vs = some v → ∃ x, ((fs.map T.fld).zip ws).lookup (T.fld g) = some x ∧ VR K T O H v x
  | [], vs, ws, v, hm, r, h => by cases vs <;> (unfold getF at h; cases h)
  | f :: fs, [], ws, v, hm, r, h => by unfold getF at h; cases h
  | f :: fs, u :: vs, [], v, hm, r, h => r.elim
  | f :: fs, u :: vs, w :: ws, v, hm, ⟨a, b⟩, h => by
    unfold getF at h
    show ∃ x, List.lookup (T.fld g) ((T.fld f, w) :: (fs.map T.fld).zip ws) = some x ∧ _
    by_cases e : f = g
    · subst e
      rw [if_pos rfl] at h
      cases h
      rw [if_neg (by rw [ho]; exact Bool.false_ne_true)] at a
      exact ⟨w, by simp [List.lookup], a⟩
    · rw [if_neg e] at h
      obtain ⟨x, h1, h2⟩ := TFs.get hF hg ho (fun x hx => hm x (List.mem_cons_of_mem _ hx)) b h
      have z : T.fld g ≠ T.fld f := fun z => e (hF f g (hm f List.mem_cons_self) hg z.symm)
      have : (T.fld g == T.fld f) = false := by simpa using z
      simp only [List.lookup, this]
      exact ⟨x, h1, h2⟩
theorem FRs.put {c i g : Nat} (ho : T.own c g = false) {v : Val} {x : V} (a : VR K T O H v x) : ∀ {fs : List Nat} {vs : List Val} {ws : List V}, FRs K T O H c i fs vs ws → FRs K T O H c i (setF g v fs vs).1 (setF g v fs vs).2 (setF g x fs ws).2
  | [], [], [], _ => by
    show FRs K T O H c i [g] [v] [x]
    refine ⟨?_, trivial⟩
    rw [if_neg (by rw [ho]; exact Bool.false_ne_true)]; exact a
  | f :: fs, u :: vs, w :: ws, ⟨p, b⟩ => by
    unfold setF
    by_cases e : f = g
    · subst e
      rw [if_pos rfl, if_pos rfl]
      refine ⟨?_, b⟩
      rw [if_neg (by rw [ho]; exact Bool.false_ne_true)]; exact a
    · rw [if_neg e, if_neg e]
      exact ⟨p, b.put ho a⟩
  | [], _ :: _, _, h => h.elim
  | [], [], _ :: _, h => h.elim
  | _ :: _, [], _, h => h.elim
  | _ :: _, _ :: _, [], h => h.elim
theorem FRs.len {c i : Nat} : ∀ {fs : List Nat} {vs : List Val} {ws : List V}, FRs K T O H c i fs vs ws → fs.length = vs.length ∧ fs.length = ws.length
  | [], [], [], _ => ⟨rfl, rfl⟩
  | f :: fs, u :: vs, w :: ws, ⟨p, b⟩ => ⟨congrArg Nat.succ b.len.1, congrArg Nat.succ b.len.2⟩
  | [], _ :: _, _, h => h.elim
  | [], [], _ :: _, h => h.elim
  | _ :: _, [], _, h => h.elim
  | _ :: _, _ :: _, [], h => h.elim
theorem FRs.monoF {c i : Nat} {H' : Hp} (f : Fb O H O H') (hk : ∀ a o g, H a = some o → O a = some (.fl i g) → H' a = some o) {fs vs ws} (h : FRs K T O H c i fs vs ws) : FRs K T O H' c i fs vs ws := h.monoB f fun a o g e n => ⟨hk a o g e n, n⟩
end
/-! ### fields -/
/-- what of the text the classes cs must have for the field g -/
structure FldF (K : PySem.W.Frag) (T : Tb) (cs : List Nat) (g : Nat) : Prop where
  ok : FldOk T
  lt : g < T.nf
  cl : ∀ c, cs.contains c = true → Cls K (T.cl c) ∧ NoAttr K (T.cl c) (T.fld g)
  ow : ∀ c, cs.contains c = true → T.own c g = false
section
variable {X : Cx} {T : Tb} {E : XK} {mu : Nat → Bool} {io : List (Nat × V)} {e : Expr} {es : List Expr} {ma mb : EM} {ms : AM} {pos : Pos} {i j : Nat} {x y : Str} {p p' apos : Pos} {cs : List Nat} {g : Nat} {f : Str}
theorem cs_1 {cs : List Nat} {c : Nat} (h : (cs.contains c && decide (c < EXC)) = true) : cs.contains c = true := (Bool.and_eq_true_iff.mp h).1
theorem cs_2 {cs : List Nat} {c : Nat} (h : (cs.contains c && decide (c < EXC)) = true) : c < EXC := of_decide_eq_true (Bool.and_eq_true_iff.mp h).2
theorem VR.ins {K : PySem.W.Frag} {O : Own} {H : Hp} {c : Nat} {fs : List Nat} {vs : List Val} {x : V} (hc : c < EXC) (h : VR K T O H (.ins c fs vs) x) : ∃ a dx fs' ws, x = .ref a ∧ H a = some (.ins (T.cl c) dx fs') ∧ O a = none ∧ FsR T fs ws fs' ∧ VRs K T O H vs ws := by
  unfold VR at h
  obtain ⟨a, dx, fs', ws, e, t, q, r⟩ := h
  rcases t with ⟨t, n⟩ | ⟨n, _⟩
  · exact ⟨a, dx, fs', ws, e, t, n, q, r⟩
  · exact absurd hc (Nat.not_lt.mpr n)
/-- e.f -/
theorem se_at (F : FldF X.K T cs g) (hf : T.fld g = f) (he : SE X T E mu io e ma) (hb : attributeBase e f X.env (eval e X.env) = eval e X.env := by rfl) : SE X T E mu io (.Attribute e f pos) (e1 (vAt cs g) ma) :=
  PE.imp (pe_fld he hb) fun σ H Q h => by
    subst hf
    refine (fun q => ?_) (e1_imp h)
    obtain ⟨O, fr, rl, q⟩ := h
    unfold e1 at q
    refine ⟨O, fr, rl, ?_⟩
    cases h1 : ma fr with
    | bad => rw [h1] at q; exact q
    | exc e => rw [h1] at q; exact q
    | ok p =>
      obtain ⟨v, fr1⟩ := p
      rw [h1] at q
      intro O1 H1 x' F1 R1 V1
      simp only [SK.R.bind_ok] at q
      cases h3 : vAt cs g v with
      | none => rw [h3] at q; exact q.elim
      | some w =>
        rw [h3] at q
        unfold vAt at h3
        split at h3
        · split at h3
          · rename_i hc
            obtain ⟨a, dx, fs', ws, rfl, h4, h5, h6, h7⟩ := V1.ins (cs_2 hc)
            obtain ⟨z, g1, g2⟩ := FsR.get F.ok F.lt h6.2.2.1 h7 h6.1 h3
            obtain ⟨k1, k2⟩ := F.cl _ (cs_1 hc)
            exact ⟨a, _, dx, fs', z, rfl, h4, k1, k2, by rw [h6.2.2.2]; exact g1, q O1 H1 z F1 R1 g2⟩
          · cases h3
        · cases h3
/-- slot.f -/
theorem se_atS (F : FldF X.K T cs g) (hf : T.fld g = f) (s : Sl X i x) (hb : attributeBase (.Name x p) f X.env (eval (.Name x p) X.env) = eval (.Name x p) X.env := by rfl) : SE X T E mu io (.Attribute (.Name x p) f pos) (eAtS cs g i) :=
  PE.imp (pe_fld s.pe hb) fun σ H Q ⟨O, fr, rl, q⟩ => by
    subst hf
    unfold eAtS at q
    rcases getS_cases fr i with ⟨v, e2, e3⟩ | e3
    · rw [e3] at q
      obtain ⟨x, hx, tp⟩ := rl.tp e2
      refine ⟨x, hx, ?_⟩
      simp only [SK.R.bind_ok] at q
      split at q
      · split at q
        · rename_i c fs vs hc
          cases h3 : getF g fs vs with
          | none => rw [h3] at q; exact q.elim
          | some w =>
            rw [h3] at q
            have tI : ∃ a dx fs' ws, x = .ref a ∧ H a = some (.ins (T.cl c) dx fs') ∧ FsR T fs ws fs' ∧ TFs X.K T O H c fs vs ws := by
              rcases tp with (tp | ⟨w, tp⟩) | tp
              · obtain ⟨a, dx, fs', ws, e, h4, h5, h6, h7⟩ := tp.ins (cs_2 hc)
                exact ⟨a, dx, fs', ws, e, h4, h6, h7.tf h6.1⟩
              · exact tp.elim
              · exact tp
            obtain ⟨a, dx, fs', ws, rfl, h4, h6, h7⟩ := tI
            obtain ⟨z, g1, g2⟩ := TFs.get F.ok F.lt (F.ow _ (cs_1 hc)) h6.2.2.1 h7 h3
            obtain ⟨k1, k2⟩ := F.cl _ (cs_1 hc)
            exact ⟨a, _, dx, fs', z, rfl, h4, k1, k2, by rw [h6.2.2.2]; exact g1, q O H z (Fm.refl _ _) rl g2⟩
        · exact q.elim
      · exact q.elim
    · rw [e3] at q; exact q.elim
/-- self.f = e -/
theorem ss_at (F : FldF X.K T cs g) (hf : T.fld g = f) (hm : mu i = true := by rfl) (s : Sl X i x) (hv : SE X T E mu io e ma) (hs : swapsWith e (some (.Attribute (.Name x p) f p')) pos.line X.env = pure false := by rfl) : SS X T E mu io (.Assign [.Attribute (.Name x p) f p'] e pos) (sAt cs g i ma) :=
  PS.imp (ps_fld s.pe hv hs) fun D σ H ⟨O, fr, rl, q⟩ => by
    subst hf
    unfold sAt at q
    refine ⟨O, fr, rl, ?_⟩
    cases h1 : ma fr with
    | bad => rw [h1] at q; exact q
    | exc e => rw [h1] at q; exact q
    | ok p =>
      obtain ⟨v, fr1⟩ := p
      rw [h1] at q
      intro O1 H1 y F1 R1 V1
      simp only [SK.R.bind_ok] at q
      split at q
      · rename_i c fs vs e2
        split at q
        · rename_i hc
          obtain ⟨x, hx, ow⟩ := R1.owned e2 hm hc.2.1
          have ow' : ∃ a dx fs' ws, x = .ref a ∧ O1 a = some (.sl i) ∧ H1 a = some (.ins (T.cl c) dx fs') ∧ FsR T fs ws fs' ∧ FRs X.K T O1 H1 c i fs vs ws := ow
          obtain ⟨a, dx, fs', ws, rfl, h3, h4, h5, h6⟩ := ow'
          obtain ⟨k1, k2⟩ := F.cl _ hc.1
          refine ⟨.ref a, hx, a, _, dx, fs', rfl, h4, k1, k2, by rw [h5.2.1]; exact hc.2.2, ?_⟩
          have Fw := wr_fm (H := H1) (o := .ins (T.cl c) dx (putF (T.fld g) y fs')) h3
          have hlen := h6.len
          refine q O1 _ σ (F1.trans Fw) (R1.wr hm h3 hx (lt_of_get e2) ⟨a, dx, _, (setF g y fs ws).2, rfl, h3, upd_same, ?_, ?_⟩)
          · have := h5.put F.ok F.lt y
            rw [setF_fst (g := g) (v := y) (u := v) hlen.2 hlen.1] at this
            exact this
          · have := (h6.put (F.ow _ hc.1) V1)
            refine this.monoB Fw.b fun b o g' e n => ⟨?_, n⟩
            rw [upd_ne (fun z => by rw [z, h3] at n; cases n)]
            exact e
        · exact q.elim
      · exact q.elim
end
end SK

set_option maxHeartbeats 1000000
/-! SK11: making instances, methods, isinstance, own ==. -/
noncomputable section
namespace SK
open PySem L2

def MK : Nat := 1000002
/-- a new instance of the class c: its __init__ is m -/
def eMk (c : Nat) (bop : List Nat) (m : FnM) (ar : List Val → List Val) (as : LM) (ks : AM) : EM := fun fr => (as fr).bind fun x => (ks x.2).bind fun z => if lentS x.1 = [] ∧ borOk bop [] 1 x.1 = true then (ofO (fillA z.2 x.1)).bind fun args => (m (.ins c [] [] :: (args ++ ar z.1))).bind fun r => (match r with
  | (.non, [s]) => .ok (s, z.2)
  | _ => .bad) else .bad
def isC (cs : List Nat) : Val → Bool
  | .ins c _ _ => cs.contains c && decide (c < EXC)
  | _ => false
def chk (cs : List Nat) (a : EM) : EM := fun fr => (a fr).bind fun x => if isC cs x.1 = true then .ok x else .bad
def chkS (cs : List Nat) (i : Nat) (b : LM) : LM := fun fr => (getS fr i).bind fun v => if isC cs v = true then b fr else .bad

theorem PE.impI {X : Cx} {e : Expr} {t t' : TE} (h : PE X e t) (w : ∀ pins s σ H Q, Inv X pins σ H s → t' σ H Q → t σ H Q) : PE X e t' := ⟨fun pins s σ H Q I q => h.run pins s σ H Q I (w pins s σ H Q I q)⟩
section
variable {K : PySem.W.Frag} {T : Tb} {E : XK} {mu : Nat → Bool} {io : List (Nat × V)}
theorem lentS_nil : ∀ {as : List Lt} {k : Nat}, lentS as = [] → lentP k as = []
  | [], _, _ => rfl
  | .inl i :: r, k, h => by unfold lentS at h; cases h
  | .inr a :: r, k, h => by unfold lentS at h; unfold lentP; exact lentS_nil h
theorem make_core {bop : List Nat} {n : Nat} {m : FnM} {c : Nat} {dv : List Val} {dx : List V} {O1 : Own} {H1 : Hp} {σ : St} {fr1 : Fr} {as : List Lt} {args : List Val} {xs : List V} {Q : VK} {x dz : Addr} (R1 : Rl K T mu io O1 fr1 σ H1) (hd : VRs K T O1 H1 dv dx) (hn : (xs ++ dx).length + 1 = n) (hfl : fr1.length ≤ MK)
    (hx : H1 x = none) (hz : H1 dz = none) (hne : dz ≠ x) (hB : borOk bop [] 1 as = true) (hl : lentS as = []) (hA : ArgL K T mu O1 H1 σ as xs) (hf : fillA fr1 as = some args)
    (h : match m (.ins c [] [] :: (args ++ dv)) with
      | .ok (.non, [s]) => ∀ O' H', Fm O1 H1 O' H' → Rl K T mu io O' fr1 σ H' → VR K T O' H' s (.ref x) → Q (.ref x) H'
      | .exc e => pEx K T E O1 H1 e
      | _ => False) : spG K T [0] bop false n m (.ref x :: (xs ++ dx)) (upd (upd H1 dz (.own x)) x (.ins (T.cl c) dz [])) (fun v H2 => v = .non ∧ Q (.ref x) H2) E := by
  have hx2 : (upd H1 dz (.own x)) x = none := by rw [upd_ne (fun z => hne z.symm)]; exact hx
  have R2 : Rl K T mu io (setOw O1 x (some (.sl MK))) fr1 σ (upd (upd H1 dz (.own x)) x (.ins (T.cl c) dz [])) := (R1.hx (Hx.upd hz)).laid hx2
  have X2 : Hx H1 (upd (upd H1 dz (.own x)) x (.ins (T.cl c) dz [])) := (Hx.upd hz).trans (Hx.upd hx2)
  have F2 : Fm O1 H1 (setOw O1 x (some (.sl MK))) (upd (upd H1 dz (.own x)) x (.ins (T.cl c) dz [])) :=
    ⟨fun a o e n' => ⟨X2.sm e, by rw [setOw_ne (ne_of_none e hx)]; exact n'⟩, fun a o e n' => ⟨X2 a o e, by rw [setOw_ne (ne_of_none e hx)]; exact n'⟩, fun a o e n' => ⟨X2 a o e, by rw [setOw_ne (ne_of_none e hx)]; exact n'⟩, fun a e => by
      by_cases z : a = x
      · rw [z, setOw_same] at e; cases e
      · rw [setOw_ne z] at e; exact e⟩
  have c0 : ∀ j, ([0] : List Nat).contains j = true → j = 0 := fun j hj => by simpa using hj
  refine spG_use (pj := fun _ => MK) (args := .ins c [] [] :: (args ++ dv)) R2.trk (fun j j' hj hj' _ => by rw [c0 j hj, c0 j' hj']) (by simpa using hn) ?_ ?_
  · refine ⟨?_, ?_⟩
    · rw [if_pos (by decide)]
      exact ⟨x, dz, [], [], rfl, setOw_same, upd_same, ⟨rfl, rfl, fun g hg => (by cases hg), fun nm => rfl⟩, trivial⟩
    · refine argsI_of (all := as) (k := 1) R2 (VRs.mono F2 _ _ hd) (fun i hi _ j hj z => ?_) (fun j hj hk => ?_) (fun j i e => ?_) (fun j v e => ?_) (by rw [hl]; exact hB) (hA.mono F2) hf
      · omega
      · have := c0 j (by simpa using hj); omega
      · have := lentP_mem (k := 0) e
        rw [lentS_nil hl] at this
        cases this
      · cases q : ([0] : List Nat).contains (1 + j) with
        | false => rfl
        | true => have := c0 _ q; omega
  · cases hm : m (.ins c [] [] :: (args ++ dv)) with
    | bad => rw [hm] at h; exact h
    | exc e => rw [hm] at h; exact pEx.back F2 h
    | ok p =>
      obtain ⟨v, outs⟩ := p
      rw [hm] at h
      intro O' H' z F' tr' keep oR vR
      have R3 : Rl K T mu io O' fr1 σ H' := by
        refine ⟨R2.len, fun i u e => ?_, tr', R2.io⟩
        obtain ⟨y, g1, g2⟩ := R2.sl i u e
        refine ⟨y, g1, g2.mono F' fun mi a o w e1 e2 e3 => keep i (fun j hj q => ?_) a o w e1 e2 e3⟩
        have := lt_of_get e
        omega
      split at h
      · rename_i s e0
        cases e0
        obtain ⟨⟨y, g1, g2⟩, _⟩ := oR
        simp at g1
        subst g1
        have Fz := freeSlot_fm O' H' MK
        have R4 : Rl K T mu io (freeSlot O' MK) (fr1.set MK none) σ H' := R3.freed
        rw [List.set_eq_of_length_le hfl] at R4
        unfold RtR at vR
        simp only [Bool.false_eq_true, if_false] at vR
        exact ⟨vR.non, h _ H' ((F2.trans F').trans Fz) R4 (OwR.freed Fz (fun a w e o => freeSlot_at e o) g2)⟩
      · rename_i e0; cases e0
      · exact h.elim
end
section
variable {X : Cx} {T : Tb} {E : XK} {mu : Nat → Bool} {io : List (Nat × V)} {e : Expr} {es : List Expr} {ma mb : EM} {ms : LM} {mk : AM} {pos : Pos} {i j : Nat} {x y : Str} {p p' apos : Pos} {cs : List Nat}
variable {CX : CXT} {k n : Nat} {f C : Addr} {fd : FuncData} {ps ks : List Str} {iop bop : List Nat} {ro : Bool} {r : Nat} {m : FnM} {dv : List Val} {dx : List V} {ds : List Value} {kws : List Keyword} {gv : List Value → List Value → List Value} {arV : List V → List V} {ar : List Val → List Val} {c : Nat}
/-- C(e, ..), no keywords -/
theorem se_mk (M : Mk X.K (T.cl c) f) (F : FnOk X.prog X.w X.K X.mg X.base CX k f fd ps (spG X.K T [0] bop false n m)) (hr : Room (k + 1) X.A) (hg : Gl X x := by rfl) (hm : X.mg x = some (.ref (T.cl c))) (hb : Binds X.K fd ps ds) (hd : Vals dx ds) (hdv : ∀ O H, VRs X.K T O H dv dx) (hx : Passes CX X E := by exact pass0) (hN : X.N.length ≤ MK := by decide)
    (ha : SL X T E mu io (e :: es) ms) (hl : ∀ fr as fr', ms fr = .ok (as, fr') → as.length + dv.length + 1 = n) (hdb : (x == ("__debug__" : Str)) = false := by decide) (he : starEach (e :: es) X.env = (false, eval e X.env) :: starEach es X.env := by rfl) (hpl : (backTo pos (starEach es X.env)).any (·.1) = false := by rfl) :
    SE X T E mu io (.Call (.Name x p) (e :: es) [] pos) (eMk c bop m (fun _ => dv) ms aN) :=
  PE.impI (pe_make M F hr hg hm hb hd hx ha hdb he hpl) fun pins s σ H Q I ⟨O, fr, rl, q⟩ => by
    unfold eMk at q
    refine ⟨O, fr, rl, ?_⟩
    cases h1 : ms fr with
    | bad => rw [h1] at q; exact q
    | exc e => rw [h1] at q; exact q
    | ok p =>
      obtain ⟨as, fr1⟩ := p
      rw [h1] at q
      intro O1 H1 xs F1 R1 A1
      simp only [aN, SK.R.bind_ok] at q
      by_cases hc : lentS as = [] ∧ borOk bop [] 1 as = true
      · rw [if_pos hc] at q
        cases h2 : fillA fr1 as with
        | none => rw [h2] at q; exact q.elim
        | some args =>
          rw [h2] at q
          simp only [ofO, SK.R.bind_ok] at q
          intro w dz hw hz hne
          have hlen : (xs ++ dx).length + 1 = n := by
            rw [List.length_append, ← A1.len, ← (hdv O1 H1).len, hl fr as fr1 h1]
          refine make_core R1 (hdv O1 H1) hlen (by rw [R1.len.trans I.len]; exact hN) hw hz hne hc.2 hc.1 A1 h2 ?_
          cases h3 : m (.ins c [] [] :: (args ++ dv)) with
          | bad => rw [h3] at q; exact q
          | exc e => rw [h3] at q; exact pEx.back F1 q
          | ok p =>
            obtain ⟨v, outs⟩ := p
            rw [h3] at q
            simp only [SK.R.bind_ok] at q
            split at q
            · rename_i s e0
              cases e0
              exact fun O' H' F' R' V' => q O' H' _ (F1.trans F') R' V'
            · exact q.elim
      · rw [if_neg hc] at q; exact q.elim
abbrev SKw (X : Cx) (T : Tb) (E : XK) (mu : Nat → Bool) (io : List (Nat × V)) (kws : List Keyword) (m : AM) : Prop := PK X kws (rA X.K T E mu io m)
/-- C(e, .., k = v, ..) -/
theorem se_mkK {np : Nat} (M : Mk X.K (T.cl c) f) (F : FnOk X.prog X.w X.K X.mg X.base CX k f fd ps (spG X.K T [0] bop false n m)) (hr : Room (k + 1) X.A) (hg : Gl X x := by rfl) (hm : X.mg x = some (.ref (T.cl c))) (hb : KBn X.K fd ps (np + 1) ks gv (fun vs zs => vs ++ arV zs)) (hx : Passes CX X E := by exact pass0) (hN : X.N.length ≤ MK := by decide)
    (har : ∀ O H zs zs', VRs X.K T O H zs zs' → zs.length = ks.length → VRs X.K T O H (ar zs) (arV zs') ∧ (ar zs).length + np + 1 = n)
    (ha : SL X T E mu io (e :: es) ms) (hk : SKw X T E mu io kws mk) (hl : ∀ fr as fr', ms fr = .ok (as, fr') → as.length = np) (hlk : ∀ fr zs fr', mk fr = .ok (zs, fr') → zs.length = ks.length)
    (hall : (backToKw pos (keywordEach kws X.env)).all (·.1.isSome) = true := by rfl) (hks : (backToKw pos (keywordEach kws X.env)).filterMap (·.1) = ks := by rfl) (hdb : (x == ("__debug__" : Str)) = false := by decide) (he : starEach (e :: es) X.env = (false, eval e X.env) :: starEach es X.env := by rfl)
    (hpl : ((backTo pos (starEach (e :: es) X.env)).any (·.1) || (backToKw pos (keywordEach kws X.env)).any (·.1.isNone)) = false := by rfl) :
    SE X T E mu io (.Call (.Name x p) (e :: es) kws pos) (eMk c bop m ar ms mk) :=
  PE.impI (pe_makeK M F hr hg hm hb hx ha hk hall hks hdb he hpl) fun pins s σ H Q I ⟨O, fr, rl, q⟩ => by
    unfold eMk at q
    refine ⟨O, fr, rl, ?_⟩
    cases h1 : ms fr with
    | bad => rw [h1] at q; exact q
    | exc e => rw [h1] at q; exact q
    | ok p =>
      obtain ⟨as, fr1⟩ := p
      rw [h1] at q
      intro O1 H1 xs F1 R1 A1
      simp only [SK.R.bind_ok] at q
      refine ⟨O1, fr1, R1, ?_⟩
      cases h4 : mk fr1 with
      | bad => rw [h4] at q; exact q
      | exc e => rw [h4] at q; exact pEx.back F1 q
      | ok p =>
        obtain ⟨zs, fr2⟩ := p
        rw [h4] at q
        intro O2 H2 zs' F2 R2 Z2
        simp only [SK.R.bind_ok] at q
        have A2 := A1.mono F2
        have lz := hlk fr1 zs fr2 h4
        obtain ⟨g1, g2⟩ := har O2 H2 zs zs' Z2 lz
        by_cases hc : lentS as = [] ∧ borOk bop [] 1 as = true
        · rw [if_pos hc] at q
          cases h2 : fillA fr2 as with
          | none => rw [h2] at q; exact q.elim
          | some args =>
            rw [h2] at q
            simp only [ofO, SK.R.bind_ok] at q
            refine ⟨by rw [← A1.len]; exact hl fr as fr1 h1, by rw [← Z2.len]; exact lz, fun w dz hw hz hne => ?_⟩
            have hlen : (xs ++ arV zs').length + 1 = n := by
              rw [List.length_append, ← A1.len, ← g1.len, hl fr as fr1 h1]; omega
            show spG X.K T [0] bop false n m (.ref w :: (xs ++ arV zs')) _ _ E
            refine make_core R2 g1 hlen (by rw [R2.len.trans I.len]; exact hN) hw hz hne hc.2 hc.1 A2 h2 ?_
            cases h3 : m (.ins c [] [] :: (args ++ ar zs)) with
            | bad => rw [h3] at q; exact q
            | exc e => rw [h3] at q; exact pEx.back (F1.trans F2) q
            | ok p =>
              obtain ⟨v, outs⟩ := p
              rw [h3] at q
              simp only [SK.R.bind_ok] at q
              split at q
              · rename_i s e0
                cases e0
                exact fun O' H' F' R' V' => q O' H' _ ((F1.trans F2).trans F') R' V'
              · exact q.elim
        · rw [if_neg hc] at q; exact q.elim
/-! ### methods -/
/-- what of the text the classes cs must have for the method x, the def f -/
structure MtF (K : PySem.W.Frag) (T : Tb) (cs : List Nat) (x : Str) (f : Addr) : Prop where
  nm : ∀ g, g < T.nf → T.fld g ≠ x
  cl : ∀ c, cs.contains c = true → Cls K (T.cl c) ∧ Meth K (T.cl c) x f
theorem FsR.no {x : Str} {fs : List Nat} {ws : List V} {fs' : List (Str × V)} (r : FsR T fs ws fs') (nm : ∀ g, g < T.nf → T.fld g ≠ x) : fs'.lookup x = none := by
  rw [r.2.2.2]
  have : ∀ {fs : List Nat} {ws : List V}, (∀ g ∈ fs, g < T.nf) → ((fs.map T.fld).zip ws).lookup x = none := by
    intro fs
    induction fs with
    | nil => intro ws _; rfl
    | cons f fs ih =>
      intro ws h
      cases ws with
      | nil => rfl
      | cons w ws =>
        have : (x == T.fld f) = false := by simpa using fun z => nm f (h f List.mem_cons_self) z.symm
        show List.lookup x ((T.fld f, w) :: (fs.map T.fld).zip ws) = none
        simp only [List.lookup, this]
        exact ih fun g hg => h g (List.mem_cons_of_mem _ hg)
  exact this r.2.2.1
/-- o.m(..): the object by value -/
theorem lC_imp {K : PySem.W.Frag} {σ : St} {H : Hp} {Q : List V → Hp → Prop} {c0 : Nat} (h0 : cs.contains c0 = true) (h : rL K T E mu io (lC (chk cs ma) ms) σ H Q) : ∃ c, cs.contains c = true ∧ rE K T E mu io ma σ H fun x H1 => (∃ a dx fs ws fs', x = .ref a ∧ H1 a = some (.ins (T.cl c) dx fs') ∧ FsR T fs ws fs') ∧ rL K T E mu io ms σ H1 fun ys H2 => Q (x :: ys) H2 := by
  obtain ⟨O, fr, rl, q⟩ := h
  unfold lC chk at q
  cases h1 : ma fr with
  | bad => rw [h1] at q; exact q.elim
  | exc e => rw [h1] at q; exact ⟨c0, h0, O, fr, rl, by rw [h1]; exact q⟩
  | ok p =>
    obtain ⟨v, fr1⟩ := p
    rw [h1] at q
    simp only [SK.R.bind_ok] at q
    by_cases hc : isC cs v = true
    · rw [if_pos hc] at q
      simp only [SK.R.bind_ok] at q
      cases v with
      | ins c fs vs =>
        refine ⟨c, cs_1 hc, O, fr, rl, ?_⟩
        rw [h1]
        intro O1 H1 x' F1 R1 V1
        obtain ⟨a, dx, fs', ws, rfl, h4, h5, h6, h7⟩ := V1.ins (cs_2 hc)
        refine ⟨⟨a, dx, fs, ws, fs', rfl, h4, h6⟩, O1, fr1, R1, ?_⟩
        cases h2 : ms fr1 with
        | bad => rw [h2] at q; exact q
        | exc e => rw [h2] at q; exact pEx.back F1 q
        | ok p =>
          obtain ⟨ys, fr2⟩ := p
          rw [h2] at q
          intro O2 H2 ys' F2 R2 A2
          exact q O2 H2 _ (F1.trans F2) R2 ⟨V1.mono F2, A2⟩
      | _ => cases hc
    · rw [if_neg hc] at q; exact q.elim
theorem tpi_of {K : PySem.W.Frag} {O : Own} {H : Hp} {c : Nat} {fs : List Nat} {vs : List Val} {x : V} (hc : c < EXC) (tp : TpR K T O H (.ins c fs vs) x) : ∃ a dx fs' ws, x = .ref a ∧ H a = some (.ins (T.cl c) dx fs') ∧ FsR T fs ws fs' ∧ TFs K T O H c fs vs ws := by
  rcases tp with (tp | ⟨w, tp⟩) | tp
  · obtain ⟨a, dx, fs', ws, e, h4, h5, h6, h7⟩ := tp.ins hc
    exact ⟨a, dx, fs', ws, e, h4, h6, h7.tf h6.1⟩
  · exact tp.elim
  · exact tp
/-- .. in a slot, lent -/
theorem lI_imp {K : PySem.W.Frag} {σ : St} {H : Hp} {Q : List V → Hp → Prop} (hm : mu i = true) (h : rL K T E mu io (chkS cs i (lI i ms)) σ H Q) : ∃ c, cs.contains c = true ∧ tVar i σ H fun x H1 => (∃ a dx fs ws fs', x = .ref a ∧ H1 a = some (.ins (T.cl c) dx fs') ∧ FsR T fs ws fs') ∧ rL K T E mu io ms σ H1 fun ys H2 => Q (x :: ys) H2 := by
  obtain ⟨O, fr, rl, q⟩ := h
  unfold chkS lI at q
  rcases getS_cases fr i with ⟨v, e2, e3⟩ | e3
  · rw [e3] at q
    simp only [SK.R.bind_ok] at q
    by_cases hc : isC cs v = true
    · obtain ⟨v0, e20, e21⟩ := id e2
      rw [if_pos hc, e20] at q
      obtain ⟨x, hx, tp⟩ := rl.tp e2
      cases v with
      | ins c fs vs =>
        obtain ⟨a, dx, fs', ws, rfl, h4, h6, h7⟩ := tpi_of (cs_2 hc) tp
        refine ⟨c, cs_1 hc, .ref a, hx, ⟨a, dx, fs, ws, fs', rfl, h4, h6⟩, O, fr, rl, ?_⟩
        cases h2 : ms fr with
        | bad => rw [h2] at q; exact q
        | exc e => rw [h2] at q; exact q
        | ok p =>
          obtain ⟨ys, fr2⟩ := p
          rw [h2] at q
          intro O2 H2 ys' F2 R2 A2
          exact q O2 H2 _ F2 R2 ⟨⟨hm, hx⟩, A2⟩
      | _ => cases hc
    · rw [if_neg hc] at q; exact q.elim
  · rw [e3] at q; exact q.elim
/-- .. in a slot, lent to be read -/
theorem lB_imp {K : PySem.W.Frag} {σ : St} {H : Hp} {Q : List V → Hp → Prop} (hm : mu i = true ∨ mu (BOR + i) = true) (h : rL K T E mu io (chkS cs i (lB i ms)) σ H Q) : ∃ c, cs.contains c = true ∧ tVar i σ H fun x H1 => (∃ a dx fs ws fs', x = .ref a ∧ H1 a = some (.ins (T.cl c) dx fs') ∧ FsR T fs ws fs') ∧ rL K T E mu io ms σ H1 fun ys H2 => Q (x :: ys) H2 := by
  obtain ⟨O, fr, rl, q⟩ := h
  unfold chkS lB at q
  rcases getS_cases fr i with ⟨v, e2, e3⟩ | e3
  · rw [e3] at q
    simp only [SK.R.bind_ok] at q
    by_cases hc : isC cs v = true
    · obtain ⟨v0, e20, e21⟩ := id e2
      rw [if_pos hc, e20] at q
      obtain ⟨x, hx, tp⟩ := rl.tp e2
      cases v with
      | ins c fs vs =>
        obtain ⟨a, dx, fs', ws, rfl, h4, h6, h7⟩ := tpi_of (cs_2 hc) tp
        refine ⟨c, cs_1 hc, .ref a, hx, ⟨a, dx, fs, ws, fs', rfl, h4, h6⟩, O, fr, rl, ?_⟩
        cases h2 : ms fr with
        | bad => rw [h2] at q; exact q
        | exc e => rw [h2] at q; exact q
        | ok p =>
          obtain ⟨ys, fr2⟩ := p
          rw [h2] at q
          intro O2 H2 ys' F2 R2 A2
          exact q O2 H2 _ F2 R2 ⟨⟨hm, hx⟩, A2⟩
      | _ => cases hc
    · rw [if_neg hc] at q; exact q.elim
  · rw [e3] at q; exact q.elim
variable {mn : Str} {o : Expr} {pl : Sem Bool} {c0 : Nat}
/-- what the two forms of a method call ask of the text -/
abbrev MtE (X : Cx) (o : Expr) (mn : Str) (es : List Expr) (apos pos : Pos) (pl : Sem Bool) : Prop := eval (.Call (.Attribute o mn apos) es [] pos) X.env = (do
      let ov ← eval o X.env
      standAt apos.atName
      let (f, first) ← holding [ov] (getMethod ov mn pl)
      callWith pos f first (backTo pos (starEach es X.env)) (backToKw pos (keywordEach [] X.env)))
theorem sx_mt (hM : MtF X.K T cs mn f) (h0 : cs.contains c0 = true) (F : FnOk X.prog X.w X.K X.mg X.base CX k f fd ps (spG X.K T iop bop ro n m)) (hr : Room k X.A) (hb : Binds X.K fd ps ds) (hd : Vals dx ds) (hdv : ∀ O H, VRs X.K T O H dv dx) (hRES : iop.contains RES = false := by rfl) (hx : Passes CX X E := by exact pass0)
    (ho : SE X T E mu io o ma) (ha : SL X T E mu io (e :: es) ms) (hl : ∀ fr as fr', lC (chk cs ma) ms fr = .ok (as, fr') → as.length + dv.length = n) (hst : starEach (e :: es) X.env = (false, eval e X.env) :: starEach es X.env := by rfl) (hpl : (backTo pos (starEach es X.env)).any (·.1) = false := by rfl) (ht : MtE X o mn (e :: es) apos pos pl := by rfl) :
    SX X T E mu io ro r (.Call (.Attribute o mn apos) (e :: es) [] pos) (callM iop bop m dv (lC (chk cs ma) ms)) := by
  refine ⟨fun pins s σ H Q I h => ?_⟩
  obtain ⟨c, hc, h3⟩ := lC_imp h0 (call_imp hdv hRES hl h)
  obtain ⟨k1, k2⟩ := hM.cl c hc
  refine (pe_meth (pl := pl) ho k1 k2 F hr hb hd hx ha hst hpl ht).run pins s σ H Q I ?_
  obtain ⟨O, fr, rl, q⟩ := h3
  refine ⟨O, fr, rl, ?_⟩
  cases h1 : ma fr with
  | bad => rw [h1] at q; exact q
  | exc e => rw [h1] at q; exact q
  | ok p =>
    obtain ⟨v, fr1⟩ := p
    rw [h1] at q
    intro O1 H1 x' F1 R1 V1
    obtain ⟨⟨a, dx, fs, ws, fs', rfl, h4, h6⟩, q2⟩ := q O1 H1 x' F1 R1 V1
    exact ⟨a, dx, fs', rfl, h4, h6.no hM.nm, q2⟩
theorem sx_mt0 (hM : MtF X.K T cs mn f) (h0 : cs.contains c0 = true) (F : FnOk X.prog X.w X.K X.mg X.base CX k f fd ps (spG X.K T iop bop ro n m)) (hr : Room k X.A) (hb : Binds X.K fd ps ds) (hd : Vals dx ds) (hdv : ∀ O H, VRs X.K T O H dv dx) (hRES : iop.contains RES = false := by rfl) (hx : Passes CX X E := by exact pass0)
    (ho : SE X T E mu io o ma) (hl : ∀ fr as fr', lC (chk cs ma) lN fr = .ok (as, fr') → as.length + dv.length = n) (ht : MtE X o mn [] apos pos pl := by rfl) :
    SX X T E mu io ro r (.Call (.Attribute o mn apos) [] [] pos) (callM iop bop m dv (lC (chk cs ma) lN)) := by
  refine ⟨fun pins s σ H Q I h => ?_⟩
  obtain ⟨c, hc, h3⟩ := lC_imp h0 (call_imp hdv hRES hl h)
  obtain ⟨k1, k2⟩ := hM.cl c hc
  refine (pe_meth0 (pl := pl) ho k1 k2 F hr hb hd hx ht).run pins s σ H Q I ?_
  obtain ⟨O, fr, rl, q⟩ := h3
  refine ⟨O, fr, rl, ?_⟩
  cases h1 : ma fr with
  | bad => rw [h1] at q; exact q
  | exc e => rw [h1] at q; exact q
  | ok p =>
    obtain ⟨v, fr1⟩ := p
    rw [h1] at q
    intro O1 H1 x' F1 R1 V1
    obtain ⟨⟨a, dx, fs, ws, fs', rfl, h4, h6⟩, q2⟩ := q O1 H1 x' F1 R1 V1
    exact ⟨a, dx, fs', rfl, h4, h6.no hM.nm, rL_nil q2⟩
theorem sx_mtS (lend : Bool) (hm : mu i = true ∨ (lend = false ∧ mu (BOR + i) = true) := by first | exact .inl rfl | exact .inr ⟨rfl, rfl⟩) (sl : Sl X i x) (hM : MtF X.K T cs mn f) (F : FnOk X.prog X.w X.K X.mg X.base CX k f fd ps (spG X.K T iop bop ro n m)) (hr : Room k X.A) (hb : Binds X.K fd ps ds) (hd : Vals dx ds) (hdv : ∀ O H, VRs X.K T O H dv dx) (hRES : iop.contains RES = false := by rfl) (hx : Passes CX X E := by exact pass0)
    (ha : SL X T E mu io (e :: es) ms) (hl : ∀ fr as fr', chkS cs i (if lend = true then lI i ms else lB i ms) fr = .ok (as, fr') → as.length + dv.length = n) (hst : starEach (e :: es) X.env = (false, eval e X.env) :: starEach es X.env := by rfl) (hpl : (backTo pos (starEach es X.env)).any (·.1) = false := by rfl) (ht : MtE X (.Name x p) mn (e :: es) apos pos pl := by rfl) :
    SX X T E mu io ro r (.Call (.Attribute (.Name x p) mn apos) (e :: es) [] pos) (callM iop bop m dv (chkS cs i (if lend = true then lI i ms else lB i ms))) := by
  refine ⟨fun pins s σ H Q I h => ?_⟩
  have h2 := call_imp hdv hRES hl h
  have h3 : ∃ c, cs.contains c = true ∧ tVar i σ H fun x H1 => (∃ a dx fs ws fs', x = .ref a ∧ H1 a = some (.ins (T.cl c) dx fs') ∧ FsR T fs ws fs') ∧ rL X.K T E mu io ms σ H1 fun ys H2 => spG X.K T iop bop ro n m (x :: ys ++ dx) H2 Q E := by
    cases lend with
    | true => exact lI_imp (hm.elim (fun z => z) fun z => by cases z.1) h2
    | false => exact lB_imp (hm.elim .inl fun z => .inr z.2) h2
  obtain ⟨c, hc, h3⟩ := h3
  obtain ⟨k1, k2⟩ := hM.cl c hc
  refine (pe_meth (pl := pl) sl.pe k1 k2 F hr hb hd hx ha hst hpl ht).run pins s σ H Q I ?_
  obtain ⟨v, hv, ⟨a, dx, fs, ws, fs', rfl, h4, h6⟩, q2⟩ := h3
  exact ⟨.ref a, hv, a, dx, fs', rfl, h4, h6.no hM.nm, q2⟩
theorem sx_mtS0 (lend : Bool) (hm : mu i = true ∨ (lend = false ∧ mu (BOR + i) = true) := by first | exact .inl rfl | exact .inr ⟨rfl, rfl⟩) (sl : Sl X i x) (hM : MtF X.K T cs mn f) (F : FnOk X.prog X.w X.K X.mg X.base CX k f fd ps (spG X.K T iop bop ro n m)) (hr : Room k X.A) (hb : Binds X.K fd ps ds) (hd : Vals dx ds) (hdv : ∀ O H, VRs X.K T O H dv dx) (hRES : iop.contains RES = false := by rfl) (hx : Passes CX X E := by exact pass0)
    (hl : ∀ fr as fr', chkS cs i (if lend = true then lI i lN else lB i lN) fr = .ok (as, fr') → as.length + dv.length = n) (ht : MtE X (.Name x p) mn [] apos pos pl := by rfl) :
    SX X T E mu io ro r (.Call (.Attribute (.Name x p) mn apos) [] [] pos) (callM iop bop m dv (chkS cs i (if lend = true then lI i lN else lB i lN))) := by
  refine ⟨fun pins s σ H Q I h => ?_⟩
  have h2 := call_imp hdv hRES hl h
  have h3 : ∃ c, cs.contains c = true ∧ tVar i σ H fun x H1 => (∃ a dx fs ws fs', x = .ref a ∧ H1 a = some (.ins (T.cl c) dx fs') ∧ FsR T fs ws fs') ∧ rL X.K T E mu io lN σ H1 fun ys H2 => spG X.K T iop bop ro n m (x :: ys ++ dx) H2 Q E := by
    cases lend with
    | true => exact lI_imp (hm.elim (fun z => z) fun z => by cases z.1) h2
    | false => exact lB_imp (hm.elim .inl fun z => .inr z.2) h2
  obtain ⟨c, hc, h3⟩ := h3
  obtain ⟨k1, k2⟩ := hM.cl c hc
  refine (pe_meth0 (pl := pl) sl.pe k1 k2 F hr hb hd hx ht).run pins s σ H Q I ?_
  obtain ⟨v, hv, ⟨a, dx, fs, ws, fs', rfl, h4, h6⟩, q2⟩ := h3
  exact ⟨.ref a, hv, a, dx, fs', rfl, h4, h6.no hM.nm, rL_nil q2⟩
end
end SK

set_option maxHeartbeats 1000000
/-! SK12: isinstance, own ==. -/
noncomputable section
namespace SK
open PySem L2

/-- a value's type -/
def tyV (T : Tb) : Val → Value
  | .non => .type "NoneType"
  | .bl _ => .type "bool"
  | .int _ => .type "int"
  | .str _ => .type "str"
  | .tup _ => .type "tuple"
  | .lst _ => .type "list"
  | .dic _ _ => .type "dict"
  | .ins c _ _ => .ref (T.cl c)
  | .scr _ => .type "list"
structure ClsI (K : PySem.W.Frag) (C : Addr) : Prop where
  cl : Cls K C
  ha : PySem.W.findIn K (.ref C) "__class__" = some (some (.builtin "object.__class__"))
  hm : PySem.W.mroIn K C (.type "object") = some true
structure InsI (K : PySem.W.Frag) (T : Tb) : Prop where
  hn : PySem.W.specialIn K (.builtin "object.__class__") "__get__" = some (some (.builtin "getset_descriptor.__get__"))
  htk : PySem.W.takesIn K (.builtin "object.__class__") = some true
  cl : ∀ c, c < EXC → ClsI K (T.cl c)
  kd : ∀ a kvs, T.kd a kvs → ∃ o, K.lookup a = some o ∧ o.cls = .type "dict"
section
variable {K : PySem.W.Frag} {T : Tb} {O : Own} {H : Hp}
/-- no exception -/
def noE : Val → Bool
  | .ins c _ _ => decide (c < EXC)
  | _ => true
theorem ty_of (W : InsI K T) : ∀ {v : Val} {x : V}, noE v = true → VR K T O H v x → TyX K H x (tyV T v)
  | .non, x, nx, h => by cases h.non; exact .base .non
  | .bl b, x, nx, h => by cases h.bl; exact .base (.bl b)
  | .int i, x, nx, h => by cases h.int; exact .base (.int i)
  | .str s, x, nx, h => by obtain ⟨z, rfl, _⟩ := h.str; exact .base (.str z)
  | .tup xs, x, nx, h => by
    obtain ⟨a, vs, rfl, t, r⟩ := h.tup
    rcases t with ⟨t, _⟩ | t
    · exact .base (.tup t)
    · rcases t H with (t | ⟨o, t⟩) | ⟨o, its, n, hk, hc, _⟩
      · exact .base (.tup t)
      · exact .fTuple t
      · exact .kTuple hk hc
  | .lst xs, x, nx, h => by
    obtain ⟨a, vs, rfl, t, r⟩ := h.lst
    exact .base (.lst t.1)
  | .dic ks vs, x, nx, h => by
    unfold VR at h
    obtain ⟨a, kvs, rfl, t, q, r⟩ := h
    rcases t with ⟨t, _⟩ | t
    · rcases t with t | ⟨_, _, e, t⟩
      · exact .base (.dK t)
      · exact .fDict t
    · obtain ⟨o, h1, h2⟩ := W.kd a kvs t
      exact .kDict h1 h2
  | .ins c fs vs, x, nx, h => by
    obtain ⟨a, dx, fs', ws, rfl, h4, h5, h6, h7⟩ := h.ins (of_decide_eq_true nx)
    exact .base (.ins h4 (W.cl c (of_decide_eq_true nx)).cl (W.cl c (of_decide_eq_true nx)).ha W.hn W.htk (W.cl c (of_decide_eq_true nx)).hm)
  | .scr ns, x, nx, h => by
    unfold VR at h
    obtain ⟨a, rfl, h | ⟨⟨o, h⟩, _⟩ | h⟩ := h
    · exact .base (.lst h.1)
    · exact .base (.frz h)
    · rcases h H with (t | ⟨o, t⟩) | ⟨o, its, n, hk, hc, _⟩
      · exact .base (.lst t)
      · exact .base (.frz t)
      · exact .kList hk hc
end
/-- isinstance(e, c): f answers by the value -/
def isG (f : Val → Option Bool) (v : Val) : Option Bool := if noE v = true then f v else none
def eIs (f : Val → Option Bool) (a : EM) : EM := fun fr => (a fr).bind fun x => (ofO (isG f x.1)).bind fun b => .ok (.bl b, x.2)
def eIsS (f : Val → Option Bool) (i : Nat) : EM := fun fr => (getS fr i).bind fun v => (ofO (isG f v)).bind fun b => .ok (.bl b, fr)
theorem isG_ok {f : Val → Option Bool} {v : Val} {b : Bool} (h : isG f v = some b) : noE v = true ∧ f v = some b := by
  unfold isG at h
  by_cases n : noE v = true
  · rw [if_pos n] at h; exact ⟨n, h⟩
  · rw [if_neg n] at h; cases h
section
variable {X : Cx} {T : Tb} {E : XK} {mu : Nat → Bool} {io : List (Nat × V)} {e c : Expr} {es : List Expr} {ma mb : EM} {pos : Pos} {i j : Nat} {x y g : Str} {p p' apos : Pos} {cs : List Nat} {cv : V} {cu : Value} {f : Val → Option Bool}
theorem se_is (W : InsI X.K T) (hf : ∀ v b, f v = some b → PySem.W.kitOne X.K (tyV T v) cu = some b) (hg : Gl X g := by rfl) (hm : X.mg g = none) (hv : bootBuiltins g = some (.builtin "isinstance") := by first | rfl | decide +kernel) (ha : SE X T E mu io e ma) (hc : PE X c (tC cv)) (hk : ClsV cv cu) (hn : g ≠ "__name__" := by decide) (hdb : (g == ("__debug__" : Str)) = false := by decide)
    (he : starEach [e, c] X.env = (false, eval e X.env) :: starEach [c] X.env := by rfl) (he2 : starEach [c] X.env = (false, eval c X.env) :: starEach [] X.env := by rfl) (hpl : (backTo pos (starEach [c] X.env)).any (·.1) = false := by rfl) : SE X T E mu io (.Call (.Name g p) [e, c] [] pos) (eIs f ma) :=
  PE.imp (pe_callB call_isi hg hm hv (pa_cons ha (pa_cons hc pa_nil he2) he) hn hdb he hpl) fun σ H Q ⟨O, fr, rl, q⟩ => by
    unfold eIs at q
    refine ⟨O, fr, rl, ?_⟩
    cases h1 : ma fr with
    | bad => rw [h1] at q; exact q
    | exc e => rw [h1] at q; exact q
    | ok p =>
      obtain ⟨v, fr1⟩ := p
      rw [h1] at q
      intro O1 H1 x' F1 R1 V1
      simp only [SK.R.bind_ok] at q
      cases h2 : isG f v with
      | none => rw [h2] at q; exact q.elim
      | some b =>
        rw [h2] at q
        exact ⟨x', cv, _, cu, b, rfl, hk, ty_of W (isG_ok h2).1 V1, hf v b (isG_ok h2).2, q O1 H1 _ F1 R1 vr_bl⟩
theorem se_isS (W : InsI X.K T) (hf : ∀ v b, f v = some b → PySem.W.kitOne X.K (tyV T v) cu = some b) (hg : Gl X g := by rfl) (hm : X.mg g = none) (hv : bootBuiltins g = some (.builtin "isinstance") := by first | rfl | decide +kernel) (s : Sl X i x) (hc : PE X c (tC cv)) (hk : ClsV cv cu) (hn : g ≠ "__name__" := by decide) (hdb : (g == ("__debug__" : Str)) = false := by decide)
    (he : starEach [.Name x p', c] X.env = (false, eval (.Name x p') X.env) :: starEach [c] X.env := by rfl) (he2 : starEach [c] X.env = (false, eval c X.env) :: starEach [] X.env := by rfl) (hpl : (backTo pos (starEach [c] X.env)).any (·.1) = false := by rfl) : SE X T E mu io (.Call (.Name g p) [.Name x p', c] [] pos) (eIsS f i) :=
  PE.imp (pe_callB call_isi hg hm hv (pa_cons s.pe (pa_cons hc pa_nil he2) he) hn hdb he hpl) fun σ H Q ⟨O, fr, rl, q⟩ => by
    unfold eIsS at q
    rcases getS_cases fr i with ⟨v, e2, e3⟩ | e3
    · rw [e3] at q
      obtain ⟨x, hx, tp⟩ := rl.tp e2
      simp only [SK.R.bind_ok] at q
      cases h2 : isG f v with
      | none => rw [h2] at q; exact q.elim
      | some b =>
        rw [h2] at q
        exact ⟨x, hx, x, cv, _, cu, b, rfl, hk, ty_of W (isG_ok h2).1 tp.on, hf v b (isG_ok h2).2, q O H _ (Fm.refl _ _) rl vr_bl⟩
    · rw [e3] at q; exact q.elim
/-- a tuple of classes -/
structure PCs (X : Cx) (es : List Expr) (cvs : List V) : Prop where
  pa : PA X es (fun σ H Q => Q cvs H)
theorem pcs_nil : PCs X [] [] := ⟨pa_nil⟩
theorem pcs_cons {cvs : List V} (h : PE X e (tC cv)) (r : PCs X es cvs) (hs : starEach (e :: es) X.env = (false, eval e X.env) :: starEach es X.env := by rfl) : PCs X (e :: es) (cv :: cvs) := ⟨pa_cons h r.pa hs⟩
theorem se_isT {es : List Expr} {cvs : List V} {cus : List Value} {kk : Nat} {pt : Pos} (W : InsI X.K T) (hf : ∀ v b, f v = some b → PySem.W.kitAny X.K (tyV T v) cus = some b) (hg : Gl X g := by rfl) (hm : X.mg g = none) (hv : bootBuiltins g = some (.builtin "isinstance") := by first | rfl | decide +kernel) (ha : SE X T E mu io e ma) (hc : PCs X es cvs) (hl : cvs.length ≤ 100) (hk : Paired ClsV cvs cus) (hn : g ≠ "__name__" := by decide) (hdb : (g == ("__debug__" : Str)) = false := by decide)
    (he : starEach [e, .Tuple es kk pt] X.env = (false, eval e X.env) :: starEach [.Tuple es kk pt] X.env := by rfl) (he2 : starEach [.Tuple es kk pt] X.env = (false, eval (.Tuple es kk pt) X.env) :: starEach [] X.env := by rfl) (hpl : (backTo pos (starEach [.Tuple es kk pt] X.env)).any (·.1) = false := by rfl) : SE X T E mu io (.Call (.Name g p) [e, .Tuple es kk pt] [] pos) (eIs f ma) :=
  PE.imp (pe_callB call_isiT hg hm hv (pa_cons ha (pa_cons (pe_tup hc.pa) pa_nil he2) he) hn hdb he hpl) fun σ H Q ⟨O, fr, rl, q⟩ => by
    unfold eIs at q
    refine ⟨O, fr, rl, ?_⟩
    cases h1 : ma fr with
    | bad => rw [h1] at q; exact q
    | exc e => rw [h1] at q; exact q
    | ok p =>
      obtain ⟨v, fr1⟩ := p
      rw [h1] at q
      intro O1 H1 x' F1 R1 V1
      simp only [SK.R.bind_ok] at q
      cases h2 : isG f v with
      | none => rw [h2] at q; exact q.elim
      | some b =>
        rw [h2] at q
        refine ⟨by have : sizeLine = 16777216 := rfl; omega, fun tp htp => ?_⟩
        have X2 : Hx H1 (upd H1 tp (.tup cvs)) := Hx.upd htp
        exact ⟨x', tp, cvs, _, cus, b, rfl, upd_same, hk, ty_of W (isG_ok h2).1 (V1.mono X2.fm), hf v b (isG_ok h2).2, q O1 _ _ (F1.trans X2.fm) (R1.hx X2) vr_bl⟩
theorem se_isTS {es : List Expr} {cvs : List V} {cus : List Value} {kk : Nat} {pt : Pos} (W : InsI X.K T) (hf : ∀ v b, f v = some b → PySem.W.kitAny X.K (tyV T v) cus = some b) (hg : Gl X g := by rfl) (hm : X.mg g = none) (hv : bootBuiltins g = some (.builtin "isinstance") := by first | rfl | decide +kernel) (s : Sl X i x) (hc : PCs X es cvs) (hl : cvs.length ≤ 100) (hk : Paired ClsV cvs cus) (hn : g ≠ "__name__" := by decide) (hdb : (g == ("__debug__" : Str)) = false := by decide)
    (he : starEach [.Name x p', .Tuple es kk pt] X.env = (false, eval (.Name x p') X.env) :: starEach [.Tuple es kk pt] X.env := by rfl) (he2 : starEach [.Tuple es kk pt] X.env = (false, eval (.Tuple es kk pt) X.env) :: starEach [] X.env := by rfl) (hpl : (backTo pos (starEach [.Tuple es kk pt] X.env)).any (·.1) = false := by rfl) : SE X T E mu io (.Call (.Name g p) [.Name x p', .Tuple es kk pt] [] pos) (eIsS f i) :=
  PE.imp (pe_callB call_isiT hg hm hv (pa_cons s.pe (pa_cons (pe_tup hc.pa) pa_nil he2) he) hn hdb he hpl) fun σ H Q ⟨O, fr, rl, q⟩ => by
    unfold eIsS at q
    rcases getS_cases fr i with ⟨v, e2, e3⟩ | e3
    · rw [e3] at q
      obtain ⟨x, hx, tp⟩ := rl.tp e2
      simp only [SK.R.bind_ok] at q
      cases h2 : isG f v with
      | none => rw [h2] at q; exact q.elim
      | some b =>
        rw [h2] at q
        refine ⟨x, hx, by have : sizeLine = 16777216 := rfl; omega, fun t htp => ?_⟩
        have X2 : Hx H (upd H t (.tup cvs)) := Hx.upd htp
        exact ⟨x, t, cvs, _, cus, b, rfl, upd_same, hk, ty_of W (isG_ok h2).1 ((tp.on).monoB X2.fm.b), hf v b (isG_ok h2).2, q O _ _ X2.fm (rl.hx X2) vr_bl⟩
    · rw [e3] at q; exact q.elim
/-! ### == by an own __eq__ -/
/-- x == y, x != y: x an instance of cs, whose __eq__ is m -/
def okE (cs : List Nat) (nf : Nat → Val → Bool) (a b : Val) : Bool := match a with
  | .ins c _ _ => (cs.contains c && decide (c < EXC)) && (noE b && nf c b)
  | _ => false
def eEqI (cs : List Nat) (nf : Nat → Val → Bool) (neg : Bool) (m : FnM) (a b : EM) : EM := fun fr => (a fr).bind fun x => (b x.2).bind fun y => if okE cs nf x.1 y.1 = true then (m [x.1, y.1]).bind fun r => (ofO (isB r.1)).bind fun k => .ok (.bl (if neg = true then !k else k), y.2) else .bad
/-- what of the text the classes cs must have for ==: __eq__ at g -/
structure EqF (K : PySem.W.Frag) (T : Tb) (cs : List Nat) (g : Addr) : Prop where
  eq : ∀ c, cs.contains c = true → PySem.W.findIn K (.ref (T.cl c)) "__eq__" = some (some (.ref g))
  ne : ∀ c, cs.contains c = true → PySem.W.findIn K (.ref (T.cl c)) "__ne__" = some (some (.builtin "object.__ne__"))
  mo : ∀ c, cs.contains c = true → PySem.W.mroIn K (T.cl c) (.type "object") = some true
  fn : PySem.W.isFn K (.ref g) = true
variable {CX : CXT} {k n : Nat} {gf : Addr} {fd : FuncData} {ps : List Str} {bop : List Nat} {m : FnM} {sp : Sp}
def rOwnE (K : PySem.W.Frag) (T : Tb) (cs : List Nat) (E : XK) (neg : Bool) (sp : Sp) : R2 := fun x y H Q => ∃ c a dx fs' t, cs.contains c = true ∧ x = .ref a ∧ H a = some (.ins (T.cl c) dx fs') ∧ TyX K H y t ∧ PySem.W.notFirst K (T.cl c) t = true ∧
  sp [x, y] H (fun z H' => ∃ k, z = .bl k ∧ Q (.bl (if neg = true then !k else k)) H') E
theorem run_fnAt {A : Around} {pins : List (Addr × Obj)} {σ : St} {H : Hp} {s : Shared} {Q : VK} {us : List Value} {vs : List V} {f : Addr} (F : FnOk X.prog X.w X.K X.mg X.base CX k f fd ps sp) (hr : Room k A) (e0 : Env0 X.prog X.w X.K X.mg X.base A X.stack s H) (hb : Binds X.K fd ps []) (hx : Passes CX X E) (I : Inv X pins σ H s) (r : Vals vs us) (h : sp vs H Q E) :
    wpAny (model X.prog X.w) A (call (.ref f) us) (EP X pins σ Q) X.xe s := by
  have hl : (us ++ []).length = ps.length := by rw [List.append_nil, ← r.length]; exact F.len _ _ _ _ h
  have hb' := hb s us I.kIn hl
  rw [List.append_nil] at hb'
  refine wpAny_call (codeAny_mono (F.run A X.stack s H ⟨us, []⟩ us vs Q E hr e0 hb' r h) fun r s' hq => ?_)
  cases r with
  | error e => exact hx pins σ H s e s' I hq
  | ok fl =>
    cases fl with
    | ret u => exact I.after hq
    | next => exact False.elim hq
    | brk => exact False.elim hq
    | cont => exact False.elim hq
theorem o_own (hE : EqF X.K T cs gf) (F : FnOk X.prog X.w X.K X.mg X.base CX k gf fd ps sp) (hr : Room k X.A) (hb : Binds X.K fd ps []) (hx : Passes CX X E) : OpR X (compareOp .Eq) (rOwnE X.K T cs E false sp) := by
  intro pins s σ H x y v u Q I rx ry ⟨c, a, dx, fs', t, hc, e1, h1, h2, h3, q⟩
  subst e1
  cases (show v = Value.ref a from rx)
  obtain ⟨mA, O, _⟩ := ins_get I.hok h1
  obtain ⟨od, J, _⟩ := O.look
  obtain ⟨P, Z, p, _⟩ := kit_of I ry h2
  obtain ⟨mm, hF⟩ := I.fr
  show wpAny (model X.prog X.w) X.A (richCompare .Eq (.ref a) u) (EP X pins σ Q) X.xe s
  refine PySem.W.cmp_K (op := .Eq) (tb := t) hr.units0 hF I.ok.mod.kin J (Z.ty _ _ I.kIn p) h3 (hE.eq c hc) hE.fn ?_
  refine wpAny_mono (run_fnAt (us := [.ref a, u]) (vs := [.ref a, y]) F hr I.env0 hb hx I (.cons rfl (.cons ry .nil)) q) (fun w s' z => ?_) fun _ _ x => x
  obtain ⟨z', H', I', rz, b, e, qz⟩ := z
  subst e
  cases (show w = Value.bool b from rz)
  exact ⟨.bl b, H', I', rfl, qz⟩
end
section
open PySem.W
variable {prog : Program} {w : World} {A : Around} {E : Value → Shared → Prop} {s : Shared} {K : Frag} {x C L f : Addr} {h₀ : Heap} {m : Str → Option Value} {ox : Obj} {od : Option Obj} {b tb : Value}
theorem one_ne : findIn K (.ref C) "__ne__" = some (some (.builtin "object.__ne__")) → ∀ self, bindSpecial (.builtin "object.__ne__") self = pure (.builtin "object.__ne__", [self]) := fun _ self =>
  (Slot.of (T := "object") (name := "__ne__") (owner := "object") (n := "__ne__") (by rw [typeLookup_type, builtinLookup_eq_fast]; kernel_rfl) (by decide +kernel) (by decide +kernel) (by decide +kernel)
    (.inl (by decide +kernel)) (by rw [isSubtype_type]; kernel_rfl)).bind self
/-- x != b by the own __eq__ -/
theorem ne_K {Q : Value → Shared → Prop} (hu : A.units + 1 < cLine) (F : PyProof.Rows.Fr h₀ L s.heap m) (X₀ : K.In h₀) (I : InstAt s.heap x ox C od) (hb : Looks (model prog w) s.heap (typeOf b) tb) (hn : notFirst K C tb = true)
    (hs : findIn K (.ref C) "__eq__" = some (some (.ref f))) (hf : isFn K (.ref f) = true) (hne : findIn K (.ref C) "__ne__" = some (some (.builtin "object.__ne__"))) (hmo : mroIn K C (.type "object") = some true)
    (h : wpAny (model prog w) A.in1 (call (.ref f) [.ref x, b]) (fun v s' => ∃ k, v = .bool k ∧ Q (.bool (!k)) s') E s) : wpAny (model prog w) A (richCompare .NotEq (.ref x) b) Q E s := by
  have X := X₀.keeps F.keep
  have body : wpAny (model prog w) A (call (.builtin "object.__ne__") [.ref x, b]) (fun v s' => ∃ k, v = .bool k ∧ Q (.bool k) s') E s := by
    refine wpAny_call (codeAny_call_builtin (Slot.of (T := "object") (name := "__ne__") (owner := "object") (n := "__ne__") (by rw [typeLookup_type, builtinLookup_eq_fast]; kernel_rfl) (by decide +kernel) (by decide +kernel) (by decide +kernel)
      (.inl (by decide +kernel)) (by rw [isSubtype_type]; kernel_rfl)).plain PySem.F.cmpEntry_ne (check_slot PySem.F.cmpKind_ne PySem.F.cmpSplit_ne (I.type.andThen (looks_mroIn X hmo)) (PySem.F.cmpArgs_ne _ _) ?_))
    show wpAny (model prog w) A.in1 (Builtin.«object.__ne__» ⟨[.ref x, b], []⟩) _ _ s
    unfold Builtin.«object.__ne__»
    have hu1 : A.in1.units < cLine := hu
    repeat (first | with_reducible refine wpAny_cRoomFor hu1 ?_ | with_reducible refine ifBound_K X I hs hf (wpAny_mono h (fun v s' h' => ?_) fun _ _ h' => h') | wp_step)
    obtain ⟨k, rfl, q⟩ := h'
    refine wpAny_bind (wpAny_truthy_bool ?_)
    exact wpAny_pure ⟨_, rfl, q⟩
  have one : wpAny (model prog w) A (tryCompare (.ref x) "__ne__" b) (fun r s' => ∃ v, r = some v ∧ Q v s') E s := by
    unfold tryCompare
    refine wpAny_bind ?_
    simp only [callSpecialIfBound?, bindSpecialIfBound?]
    refine wpAny_holding (wpAny_bind (wpAny_bind (wpAny_bind (I.type.here ((looks_findIn X hne).here ?_)))))
    refine wpAny_bind (wpAny_askSetting (wpAny_ite ?_))
    have fin : wpAny (model prog w) A (call (.builtin "object.__ne__") ([.ref x] ++ [b]) >>= fun v => pure (some v)) (fun r s' => wpAny (model prog w) A (match r with | some .notImplemented => pure none | none => pure none | some r => pure (some r)) (fun r s' => ∃ v, r = some v ∧ Q v s') E s') E s := by
      refine wpAny_bind (wpAny_mono body (fun v s' h' => wpAny_pure ?_) fun _ _ h' => h')
      obtain ⟨k, rfl, q⟩ := h'
      exact wpAny_pure ⟨_, rfl, q⟩
    split
    · exact wpAny_bind (wpAny_of_eq (one_ne hne _) (wpAny_pure fin))
    · exact wpAny_tryCatch (wpAny_bind (wpAny_of_eq (one_ne hne _) (wpAny_pure fin)))
  unfold richCompare
  simp only [oneThing_ref]
  refine wpAny_holding (wpAny_bind (wpAny_cRoomFor (by omega) ?_))
  refine wpAny_bind (I.type.here (wpAny_bind (hb.here ?_)))
  split
  · rename_i q
    have e : subIn K tb (.ref C) = some false := by
      rcases Bool.or_eq_true_iff.mp hn with e | e
      · rw [beq_iff_eq.mp e] at q; simp at q
      · exact beq_iff_eq.mp e
    refine wpAny_bind ((looks_subIn X e).here ?_)
    simp only [Bool.false_eq_true, if_false]
    refine wpAny_bind (wpAny_mono one (fun r s' z => ?_) fun _ _ e => e)
    obtain ⟨v, rfl, hq⟩ := z
    exact wpAny_pure hq
  · refine wpAny_bind (wpAny_pure ?_)
    simp only [Bool.false_eq_true, if_false]
    refine wpAny_bind (wpAny_mono one (fun r s' z => ?_) fun _ _ e => e)
    obtain ⟨v, rfl, hq⟩ := z
    exact wpAny_pure hq
end
section
variable {X : Cx} {T : Tb} {E : XK} {mu : Nat → Bool} {io : List (Nat × V)} {ma mb : EM} {pos : Pos} {cs : List Nat} {CX : CXT} {k n : Nat} {gf : Addr} {fd : FuncData} {ps : List Str} {bop : List Nat} {m : FnM} {sp : Sp} {a b : Expr} {nf : Nat → Val → Bool}
theorem o_ownN (hE : EqF X.K T cs gf) (F : FnOk X.prog X.w X.K X.mg X.base CX k gf fd ps sp) (hr : Room (k + 1) X.A) (hb : Binds X.K fd ps []) (hx : Passes CX X E) : OpR X (compareOp .NotEq) (rOwnE X.K T cs E true sp) := by
  intro pins s σ H x y v u Q I rx ry ⟨c, a, dx, fs', t, hc, e1, h1, h2, h3, q⟩
  subst e1
  cases (show v = Value.ref a from rx)
  obtain ⟨mA, O, _⟩ := ins_get I.hok h1
  obtain ⟨od, J, _⟩ := O.look
  obtain ⟨P, Z, p, _⟩ := kit_of I ry h2
  obtain ⟨mm, hF⟩ := I.fr
  show wpAny (model X.prog X.w) X.A (richCompare .NotEq (.ref a) u) (EP X pins σ Q) X.xe s
  refine ne_K (tb := t) (by have := hr.un; omega) hF I.ok.mod.kin J (Z.ty _ _ I.kIn p) h3 (hE.eq c hc) hE.fn (hE.ne c hc) (hE.mo c hc) ?_
  refine wpAny_mono (run_fnAt (us := [.ref a, u]) (vs := [.ref a, y]) F hr.in1 I.env0.in1 hb hx I (.cons rfl (.cons ry .nil)) q) (fun w s' z => ?_) fun _ _ x => x
  obtain ⟨z', H', I', rz, b, e, qz⟩ := z
  subst e
  cases (show w = Value.bool b from rz)
  exact ⟨b, rfl, .bl (!b), H', I', rfl, qz⟩
theorem eEqI_imp {K : PySem.W.Frag} {neg : Bool} (W : InsI K T) (hnf : ∀ c v, cs.contains c = true → nf c v = true → PySem.W.notFirst K (T.cl c) (tyV T v) = true) {σ : St} {H : Hp} {Q : VK} (h : rE K T E mu io (eEqI cs nf neg m ma mb) σ H Q) :
    tOp (rOwnE K T cs E neg (spG K T [] bop false 2 m)) (rE K T E mu io ma) (rE K T E mu io mb) σ H Q := by
  obtain ⟨O, fr, rl, q⟩ := h
  unfold eEqI at q
  refine ⟨O, fr, rl, ?_⟩
  cases h1 : ma fr with
  | bad => rw [h1] at q; exact q
  | exc e => rw [h1] at q; exact q
  | ok p =>
    obtain ⟨x, fr1⟩ := p
    rw [h1] at q
    intro O1 H1 x' F1 R1 V1
    refine ⟨O1, fr1, R1, ?_⟩
    simp only [SK.R.bind_ok] at q
    cases h2 : mb fr1 with
    | bad => rw [h2] at q; exact q
    | exc e => rw [h2] at q; exact pEx.back F1 q
    | ok p =>
      obtain ⟨y, fr2⟩ := p
      rw [h2] at q
      intro O2 H2 y' F2 R2 V2
      simp only [SK.R.bind_ok] at q
      by_cases hk : okE cs nf x y = true
      · rw [if_pos hk] at q
        cases x with
        | ins c fs vs =>
          have hk0 : ((cs.contains c && decide (c < EXC)) && (noE y && nf c y)) = true := hk
          obtain ⟨k1, k2⟩ := Bool.and_eq_true_iff.mp hk0
          obtain ⟨k3, k4⟩ := Bool.and_eq_true_iff.mp k2
          have hk' : cs.contains c = true ∧ nf c y = true := ⟨cs_1 k1, k4⟩
          have V1' := V1.mono F2
          obtain ⟨a, dx, fs', ws, rfl, h4, h5, h6, h7⟩ := V1'.ins (cs_2 k1)
          refine ⟨c, a, dx, fs', _, hk'.1, rfl, h4, ty_of W k3 V2, hnf c y hk'.1 hk'.2, ?_⟩
          have V1'' : VR K T O2 H2 (.ins c fs vs) (.ref a) := V1'
          refine call_core (r := 0) (iop := []) (bop := bop) (ro := false) (dv := []) (dx := []) (as := [.inr (.inl (.ins c fs vs)), .inr (.inl y)]) (args := [.ins c fs vs, y]) (xs := [.ref a, y']) R2 (fun _ _ => VRs.nil) rfl rfl rfl rfl rfl ⟨V1'', V2, trivial⟩ rfl ?_
          show match m [.ins c fs vs, y] with
            | .ok (v, outs) => _
            | .exc e => _
            | .bad => _
          cases h3 : m [.ins c fs vs, y] with
          | bad => rw [h3] at q; exact q
          | exc e => rw [h3] at q; exact pEx.back (F1.trans F2) q
          | ok p =>
            obtain ⟨v, outs⟩ := p
            rw [h3] at q
            simp only [SK.R.bind_ok] at q
            intro O3 H3 z F3 R3 V3
            unfold RtR at V3
            simp only [Bool.false_eq_true, if_false] at V3
            cases v with
            | bl k =>
              refine ⟨k, V3.bl, ?_⟩
              exact q O3 H3 _ ((F1.trans F2).trans F3) R3 vr_bl
            | _ => exact q.elim
        | _ => cases hk
      · rw [if_neg hk] at q; exact q.elim
theorem se_eqI (W : InsI X.K T) (hnf : ∀ c v, cs.contains c = true → nf c v = true → PySem.W.notFirst X.K (T.cl c) (tyV T v) = true) (hE : EqF X.K T cs gf) (F : FnOk X.prog X.w X.K X.mg X.base CX k gf fd ps (spG X.K T [] bop false 2 m)) (hr : Room k X.A) (hb : Binds X.K fd ps []) (hx : Passes CX X E := by exact pass0)
    (ha : SE X T E mu io a ma) (hb' : SE X T E mu io b mb) (hm : behindInMarks .Eq b = false := by first | exact nomark _ | with_unfolding_all rfl) : SE X T E mu io (.Compare a [.Eq] [b] pos) (eEqI cs nf false m ma mb) :=
  PE.imp (pe_cmpR (o_own hE F hr hb hx) ha hb' hm) fun σ H Q h => eEqI_imp W hnf h
theorem st_eqI (W : InsI X.K T) (hnf : ∀ c v, cs.contains c = true → nf c v = true → PySem.W.notFirst X.K (T.cl c) (tyV T v) = true) (hE : EqF X.K T cs gf) (F : FnOk X.prog X.w X.K X.mg X.base CX k gf fd ps (spG X.K T [] bop false 2 m)) (hr : Room k X.A) (hb : Binds X.K fd ps []) (hx : Passes CX X E := by exact pass0)
    (ha : SE X T E mu io a ma) (hb' : SE X T E mu io b mb) (hm : behindInMarks .Eq b = false := by first | exact nomark _ | with_unfolding_all rfl) : ST X T E mu io (.Compare a [.Eq] [b] pos) (tBl (eEqI cs nf false m ma mb)) :=
  PT.imp (pt_cmpR (o_own hE F hr hb hx) ha hb' hm) fun σ H Q h => tOp_tTest (fun _ _ _ => eEqI_imp W hnf) (tBl_imp h)
theorem se_neI (W : InsI X.K T) (hnf : ∀ c v, cs.contains c = true → nf c v = true → PySem.W.notFirst X.K (T.cl c) (tyV T v) = true) (hE : EqF X.K T cs gf) (F : FnOk X.prog X.w X.K X.mg X.base CX k gf fd ps (spG X.K T [] bop false 2 m)) (hr : Room (k + 1) X.A) (hb : Binds X.K fd ps []) (hx : Passes CX X E := by exact pass0)
    (ha : SE X T E mu io a ma) (hb' : SE X T E mu io b mb) (hm : behindInMarks .NotEq b = false := by first | exact nomark _ | with_unfolding_all rfl) : SE X T E mu io (.Compare a [.NotEq] [b] pos) (eEqI cs nf true m ma mb) :=
  PE.imp (pe_cmpR (o_ownN hE F hr hb hx) ha hb' hm) fun σ H Q h => eEqI_imp W hnf h
theorem st_neI (W : InsI X.K T) (hnf : ∀ c v, cs.contains c = true → nf c v = true → PySem.W.notFirst X.K (T.cl c) (tyV T v) = true) (hE : EqF X.K T cs gf) (F : FnOk X.prog X.w X.K X.mg X.base CX k gf fd ps (spG X.K T [] bop false 2 m)) (hr : Room (k + 1) X.A) (hb : Binds X.K fd ps []) (hx : Passes CX X E := by exact pass0)
    (ha : SE X T E mu io a ma) (hb' : SE X T E mu io b mb) (hm : behindInMarks .NotEq b = false := by first | exact nomark _ | with_unfolding_all rfl) : ST X T E mu io (.Compare a [.NotEq] [b] pos) (tBl (eEqI cs nf true m ma mb)) :=
  PT.imp (pt_cmpR (o_ownN hE F hr hb hx) ha hb' hm) fun σ H Q h => tOp_tTest (fun _ _ _ => eEqI_imp W hnf) (tBl_imp h)
end
end SK

set_option maxHeartbeats 1000000
/-! SK13: sorted texts; dicts. -/
noncomputable section
namespace SK
open PySem L2 PySem.Spec

/-! ### sorted(xs), xs a short list of texts -/
def insS (x : Sg) : List Sg → List Sg
  | [] => [x]
  | y :: r => if ltCps y x = true then y :: insS x r else x :: y :: r
def sortS : List Sg → List Sg
  | [] => []
  | x :: r => insS x (sortS r)
def txts : List Val → Option (List Sg)
  | [] => some []
  | .str s :: r => (txts r).map (s :: ·)
  | _ => none
def vSorted : List Val → Option Val
  | [.lst xs] => (txts xs).bind fun ss => if ss.length < 64 then some (.lst ((sortS ss).map .str)) else none
  | _ => none
def leS (a b : Sg) : Prop := ltCps b a = false
theorem leS_iff {a b : Sg} : leS a b ↔ a ≤ b := by
  unfold leS
  rw [PyProof.Rows.ltCps_eq, decide_eq_false_iff_not]
  exact List.not_lt
theorem leS_trans {a b c : Sg} (h : leS a b) (g : leS b c) : leS a c := leS_iff.mpr (List.le_trans (leS_iff.mp h) (leS_iff.mp g))
theorem leS_anti {a b : Sg} (h : leS a b) (g : leS b a) : a = b := List.le_antisymm (leS_iff.mp h) (leS_iff.mp g)
theorem leS_total {a b : Sg} (h : ltCps a b = true) : leS a b := by
  rw [leS_iff]
  rw [PyProof.Rows.ltCps_eq, decide_eq_true_iff] at h
  exact List.le_of_lt h
theorem insS_perm (x : Sg) : ∀ l, (insS x l).Perm (x :: l)
  | [] => .refl _
  | y :: r => by
    unfold insS
    split
    · exact ((insS_perm x r).cons y).trans (.swap _ _ _)
    · exact .refl _
theorem sortS_perm : ∀ l, (sortS l).Perm l
  | [] => .refl _
  | x :: r => (insS_perm x _).trans ((sortS_perm r).cons x)
theorem insS_sorted (x : Sg) : ∀ l, l.Pairwise leS → (insS x l).Pairwise leS
  | [], _ => by unfold insS; simp
  | y :: r, h => by
    unfold insS
    obtain ⟨h1, h2⟩ := List.pairwise_cons.mp h
    split
    · rename_i hl
      refine List.pairwise_cons.mpr ⟨fun z hz => ?_, insS_sorted x r h2⟩
      rcases List.mem_cons.mp ((insS_perm x r).mem_iff.mp hz) with rfl | hz
      · exact leS_total hl
      · exact h1 z hz
    · rename_i hl
      have hxy : leS x y := by unfold leS; simpa using hl
      refine List.pairwise_cons.mpr ⟨fun z hz => ?_, h⟩
      rcases List.mem_cons.mp hz with rfl | hz
      · exact hxy
      · exact leS_trans hxy (h1 z hz)
theorem sortS_sorted : ∀ l, (sortS l).Pairwise leS
  | [] => .nil
  | x :: r => insS_sorted x _ (sortS_sorted r)
theorem rising_pw : ∀ (l : List Str) (p : Str), PyProof.Rows.risingS p l = true → ((p :: l).map fun z => z.cps.toList).Pairwise leS
  | [], p, _ => by simp
  | x :: r, p, h => by
    have h' : (!ltCps x.cps.toList p.cps.toList && PyProof.Rows.risingS x r) = true := h
    rw [Bool.and_eq_true] at h'
    have ih := rising_pw r x h'.2
    have hpx : leS p.cps.toList x.cps.toList := by unfold leS; simpa using h'.1
    refine List.pairwise_cons.mpr ⟨fun z hz => ?_, ih⟩
    rcases List.mem_cons.mp hz with rfl | hz
    · exact hpx
    · exact leS_trans hpx ((List.pairwise_cons.mp ih).1 z hz)
theorem sorted_uniq {xs ys : List Str} (hp : ys.Perm xs) (hs : PyProof.Rows.sortedS ys = true) : ys.map (fun z => z.cps.toList) = sortS (xs.map fun z => z.cps.toList) := by
  refine List.Perm.eq_of_pairwise (le := leS) (fun a b _ _ => leS_anti) ?_ (sortS_sorted _) ((hp.map _).trans (sortS_perm _).symm)
  cases ys with
  | nil => exact .nil
  | cons y r => exact rising_pw r y hs
section
variable {X : Cx} {T : Tb} {E : XK} {mu : Nat → Bool} {io : List (Nat × V)}
theorem strs_ok {K : PySem.W.Frag} {O : Own} {H : Hp} : ∀ {xs : List Val} {ss : List Sg} {vs : List V}, txts xs = some ss → VRs K T O H xs vs → ∃ zs : List Str, vs = zs.map V.str ∧ zs.map (fun z => z.cps.toList) = ss
  | [], ss, vs, h, r => by cases h; rw [r.inv0]; exact ⟨[], rfl, rfl⟩
  | .str s :: xs, ss, vs, h, r => by
    unfold txts at h
    obtain ⟨y, q, rfl, h1, h2⟩ := r.inv
    cases e : txts xs with
    | none => rw [e] at h; cases h
    | some l =>
      rw [e] at h; cases h
      obtain ⟨z, rfl, hz⟩ := h1.str
      obtain ⟨zs, e1, e2⟩ := strs_ok e h2
      exact ⟨z :: zs, by rw [e1]; rfl, by rw [List.map_cons, hz, e2]⟩
  | .non :: _, _, _, h, _ => by cases h
  | .int _ :: _, _, _, h, _ => by cases h
  | .bl _ :: _, _, _, h, _ => by cases h
  | .tup _ :: _, _, _, h, _ => by cases h
  | .lst _ :: _, _, _, h, _ => by cases h
  | .dic _ _ :: _, _, _, h, _ => by cases h
  | .ins _ _ _ :: _, _, _, h, _ => by cases h
  | .scr _ :: _, _, _, h, _ => by cases h
theorem vrs_strs {K : PySem.W.Frag} {O : Own} {H : Hp} : ∀ (zs : List Str), VRs K T O H ((zs.map fun z => z.cps.toList).map Val.str) (zs.map V.str)
  | [] => VRs.nil
  | z :: zs => .cons (by unfold VR; exact ⟨z, rfl, rfl⟩) (vrs_strs zs)
theorem c_sorted : CallR X (.builtin "sorted") (rN X.K T vSorted) := by
  intro pins s σ H xs us Q I r ⟨O, as, tr, va, q⟩
  unfold vSorted at q
  split at q
  · rename_i ys
    cases e : txts ys with
    | none => rw [e] at q; exact q.elim
    | some ss =>
      rw [e] at q
      simp only [Option.bind_some] at q
      split at q
      · rename_i hl
        obtain ⟨x, rfl, h⟩ := va.one
        obtain ⟨p, vs, rfl, t, rr⟩ := h.lst
        obtain ⟨zs, rfl, hz⟩ := strs_ok e rr
        have hlen : zs.length = ss.length := by rw [← hz, List.length_map]
        refine cr_sortedS pins s σ H _ us Q I r ⟨p, zs, rfl, t.sq, by rw [hlen]; exact hl, fun ws l hp hs hn => ?_⟩
        have e2 := sorted_uniq hp hs
        rw [hz] at e2
        have rs : VRs X.K T O H ((sortS ss).map Val.str) (ws.map V.str) := by rw [← e2]; exact vrs_strs ws
        obtain ⟨a, b⟩ := vr_new tr hn rs
        exact q _ _ a b
      · exact q.elim
  · exact q.elim
end
/-! ### dicts -/
def kEq : Val → Val → Bool
  | .int a, .int b => a == b
  | .str a, .str b => a == b
  | _, _ => false
def isK : Val → Bool
  | .int _ => true
  | .str _ => true
  | _ => false
def dGet (k : Val) : List Val → List Val → Option Val
  | x :: ks, v :: vs => if kEq x k = true then some v else dGet k ks vs
  | _, _ => none
def dPut {α : Type} (k : Val) (v : α) : List Val → List α → List Val × List α
  | x :: ks, w :: vs => if kEq x k = true then (x :: ks, v :: vs) else (x :: (dPut k v ks vs).1, w :: (dPut k v ks vs).2)
  | _, _ => ([k], [v])
theorem kVal_inj {a b : Key} (h : kVal a = kVal b) : a = b := by
  cases a with
  | inl i => cases b with
    | inl j => injection h with h; rw [h]
    | inr y => cases h
  | inr x => cases b with
    | inl j => cases h
    | inr y =>
      injection h with h
      obtain ⟨x⟩ := x
      obtain ⟨y⟩ := y
      have : x = y := Array.toList_inj.mp h
      rw [this]
theorem kEq_iff {a b : Key} : kEq (kVal a) (kVal b) = true ↔ a = b := by
  constructor
  · intro h
    apply kVal_inj
    cases a <;> cases b <;> simp [kVal, kEq] at h ⊢ <;> exact h
  · rintro rfl
    cases a <;> simp [kVal, kEq]
theorem key_of {K : PySem.W.Frag} {T : Tb} {O : Own} {H : Hp} {k : Val} {y : V} (hk : isK k = true) (h : VR K T O H k y) : ∃ kk : Key, y = kV kk ∧ k = kVal kk := by
  cases k with
  | int i => exact ⟨.inl i, h.int, rfl⟩
  | str s => obtain ⟨z, rfl, hz⟩ := h.str; exact ⟨.inr z, rfl, by rw [← hz]; rfl⟩
  | _ => cases hk
section
variable {K : PySem.W.Frag} {T : Tb} {O : Own} {H : Hp}
theorem dGet_ok {kk : Key} : ∀ {kvs : List (Key × V)} {vs : List Val}, VRs K T O H vs (kvs.map (·.2)) →
    (∀ v, dGet (kVal kk) (kvs.map fun p => kVal p.1) vs = some v → ∃ y, valV kvs kk = some y ∧ VR K T O H v y) ∧ (dGet (kVal kk) (kvs.map fun p => kVal p.1) vs = none → valV kvs kk = none)
  | [], vs, r => ⟨fun v h => by cases vs <;> (simp [dGet] at h), fun _ => rfl⟩
  | p :: kvs, vs, r => by
    cases vs with
    | nil => have := r.len; simp at this
    | cons v vs =>
      obtain ⟨y, q, e, h1, h2⟩ := r.inv
      simp at e
      obtain ⟨e1, e2⟩ := e
      subst e1
      subst e2
      obtain ⟨g1, g2⟩ := dGet_ok (kk := kk) h2
      simp only [List.map_cons, dGet]
      by_cases hk : kEq (kVal p.1) (kVal kk) = true
      · rw [if_pos hk]
        have := kEq_iff.mp hk
        refine ⟨fun w hw => ?_, fun z => by cases z⟩
        cases hw
        exact ⟨p.2, by unfold valV; rw [List.find?_cons_of_pos (by simpa using this)]; rfl, h1⟩
      · rw [if_neg hk]
        have hne : ¬ p.1 = kk := fun z => hk (kEq_iff.mpr z)
        have e3 : valV (p :: kvs) kk = valV kvs kk := by unfold valV; rw [List.find?_cons_of_neg (by simpa using hne)]
        rw [e3]
        exact ⟨g1, g2⟩
theorem putK_cons (kk : Key) (x : V) (p : Key × V) (kvs : List (Key × V)) : putK (p :: kvs) kk x = if p.1 = kk then (p.1, x) :: kvs.map (fun kv => if kv.1 = kk then (kv.1, x) else kv) else p :: putK kvs kk x := by
  unfold putK
  by_cases h : p.1 = kk
  · rw [if_pos h, if_pos (by simp [h]), List.map_cons, if_pos h]
  · rw [if_neg h]
    have : ((p :: kvs).any fun kv => decide (kv.1 = kk)) = (kvs.any fun kv => decide (kv.1 = kk)) := by simp [h]
    rw [this]
    split
    · rw [List.map_cons, if_neg h]
    · rfl
/-- keys that differ -/
def nodupK : List Val → Bool
  | [] => true
  | k :: ks => !(ks.any fun x => kEq x k) && nodupK ks
theorem noKey {kk : Key} {kvs : List (Key × V)} (h : ((kvs.map fun p => kVal p.1).any fun x => kEq x (kVal kk)) = false) (x : V) : kvs.map (fun kv => if kv.1 = kk then (kv.1, x) else kv) = kvs := by
  induction kvs with
  | nil => rfl
  | cons p r ih =>
    simp only [List.map_cons, List.any_cons, Bool.or_eq_false_iff] at h
    have hne : ¬ p.1 = kk := fun z => by rw [kEq_iff.mpr z] at h; cases h.1
    rw [List.map_cons, if_neg hne, ih h.2]
theorem dPut_ok {kk : Key} {v : Val} {x : V} (hv : VR K T O H v x) : ∀ {kvs : List (Key × V)} {vs : List Val}, nodupK (kvs.map fun p => kVal p.1) = true → VRs K T O H vs (kvs.map (·.2)) →
    (dPut (kVal kk) v (kvs.map fun p => kVal p.1) vs).1 = (putK kvs kk x).map (fun p => kVal p.1) ∧ VRs K T O H (dPut (kVal kk) v (kvs.map fun p => kVal p.1) vs).2 ((putK kvs kk x).map (·.2))
  | [], vs, _, r => by
    have : vs = [] := by cases vs with
      | nil => rfl
      | cons v vs => have := r.len; simp at this
    subst this
    exact ⟨rfl, .cons hv .nil⟩
  | p :: kvs, vs, nd, r => by
    cases vs with
    | nil => have := r.len; simp at this
    | cons w vs =>
      obtain ⟨y, q, e, h1, h2⟩ := r.inv
      simp at e
      obtain ⟨e1, e2⟩ := e
      subst e1
      subst e2
      have nd' : (!((kvs.map fun p => kVal p.1).any fun x => kEq x (kVal p.1)) && nodupK (kvs.map fun p => kVal p.1)) = true := nd
      rw [Bool.and_eq_true] at nd'
      obtain ⟨g1, g2⟩ := dPut_ok (kk := kk) hv nd'.2 h2
      rw [putK_cons]
      simp only [List.map_cons, dPut]
      by_cases hk : kEq (kVal p.1) (kVal kk) = true
      · have hp := kEq_iff.mp hk
        rw [if_pos hk, if_pos hp, noKey (by rw [← hp]; simpa using nd'.1)]
        exact ⟨rfl, .cons hv h2⟩
      · have hne : ¬ p.1 = kk := fun z => hk (kEq_iff.mpr z)
        rw [if_neg hk, if_neg hne]
        exact ⟨by rw [List.map_cons, g1], .cons h1 g2⟩
end
end SK

set_option maxHeartbeats 1000000
/-! SK14: dicts: displays, subscripts, comprehensions. -/
noncomputable section
namespace SK
open PySem L2 PySem.Spec

abbrev DM := Fr → R (List (Val × Val) × Fr)
def dN : DM := fun fr => .ok ([], fr)
def dC (a b : EM) (r : DM) : DM := fun fr => (a fr).bind fun k => (b k.2).bind fun v => (r v.2).bind fun y => .ok ((k.1, v.1) :: y.1, y.2)
def mergeD : List (Val × Val) → List Val × List Val → List Val × List Val
  | [], d => d
  | (k, v) :: r, d => mergeD r (dPut k v d.1 d.2)
def allK : List (Val × Val) → Bool
  | [] => true
  | (k, _) :: r => isK k && allK r
/-- keys of a display stay apart -/
def okM : List (Val × Val) → List Val × List Val → Bool
  | [], _ => true
  | (k, v) :: r, d => nodupK d.1 && okM r (dPut k v d.1 d.2)
def eDisp (d : DM) : EM := fun fr => (d fr).bind fun x => if allK x.1 = true ∧ okM x.1 ([], []) = true ∧ x.1.length ≤ 15 then .ok (.dic (mergeD x.1 ([], [])).1 (mergeD x.1 ([], [])).2, x.2) else .bad
/-- slot[e], a dict -/
def eIxD (i : Nat) (b : EM) : EM := fun fr => (getS fr i).bind fun _ => (b fr).bind fun y => (getS y.2 i).bind fun v => match v with
  | .dic ks vs => if isK y.1 = true then (ofO (dGet y.1 ks vs)).bind fun w => .ok (w, y.2) else .bad
  | _ => .bad
/-- slot[e] = v, a dict that the slot owns -/
def sPutD (i : Nat) (v b : EM) : SM := fun fr => (v fr).bind fun x => (getS x.2 i).bind fun _ => (b x.2).bind fun y => match y.2[i]? with
  | some (some (.dic ks vs)) => if isK y.1 = true ∧ nodupK ks = true ∧ ks.length < 16777216 then .ok (.nx, y.2.set i (some (.dic (dPut y.1 x.1 ks vs).1 (dPut y.1 x.1 ks vs).2))) else .bad
  | _ => .bad
def vLenD : List Val → Option Val
  | [.dic ks _] => some (.int ks.length)
  | _ => none
/-- a dict comprehension: keys apart as they come -/
def dcL (own : List Nat) (g : GM) (t : TM) (ek ev : EM) : List Val → List Val × List Val → Fr → R ((List Val × List Val) × Fr)
  | [], d, fr => .ok (d, fr)
  | x :: xs, d, fr => (noX (g x (wipF fr own))).bind fun fr1 => (noX (t fr1)).bind fun k => if k.1 = true then (noX (ek k.2)).bind fun y => (noX (ev y.2)).bind fun v => if isK y.1 = true ∧ nodupK d.1 = true ∧ d.1.length < 16777216 then dcL own g t ek ev xs (dPut y.1 v.1 d.1 d.2) v.2 else .bad
    else dcL own g t ek ev xs d k.2
def eDc (own : List Nat) (i : IM) (g : GM) (t : TM) (ek ev : EM) : EM := fun fr => (i fr).bind fun x => (noX (dcL own g t ek ev x.1 ([], []) x.2)).bind fun r => .ok (.dic r.1.1 r.1.2, putF' x.2 r.2 own)

section
variable {X : Cx} {T : Tb} {E : XK} {mu : Nat → Bool} {io : List (Nat × V)} {e : Expr} {es : List Expr} {ma mb : EM} {ms : AM} {pos : Pos} {i j : Nat} {x y : Str} {p p' apos : Pos}
/-! ### displays -/
def VPs (K : PySem.W.Frag) (T : Tb) (O : Own) (H : Hp) : List (Val × Val) → List (V × V) → Prop
  | [], [] => True
  | a :: r, b :: s => (VR K T O H a.1 b.1 ∧ VR K T O H a.2 b.2) ∧ VPs K T O H r s
  | _, _ => False
theorem VPs.mono {K : PySem.W.Frag} {O O' : Own} {H H' : Hp} (f : Fm O H O' H') : ∀ {r s}, VPs K T O H r s → VPs K T O' H' r s
  | [], [], _ => trivial
  | a :: r, b :: s, ⟨h, t⟩ => ⟨⟨VR.mono f _ _ h.1, VR.mono f _ _ h.2⟩, t.mono f⟩
  | [], _ :: _, h => h.elim
  | _ :: _, [], h => h.elim
def pD (K : PySem.W.Frag) (T : Tb) (E : XK) (mu : Nat → Bool) (io : List (Nat × V)) (O : Own) (σ : St) (H : Hp) (Q : List (V × V) → Hp → Prop) : R (List (Val × Val) × Fr) → Prop
  | .ok (ps, fr') => ∀ O' H' xs, Fm O H O' H' → Rl K T mu io O' fr' σ H' → VPs K T O' H' ps xs → Q xs H'
  | .exc e => pEx K T E O H e
  | .bad => False
/-- the readings of a display's pairs -/
inductive SPs (X : Cx) (T : Tb) (E : XK) (mu : Nat → Bool) (io : List (Nat × V)) (pos : Pos) : List (Option Expr) → List Expr → DM → Prop
  | nil : SPs X T E mu io pos [] [] dN
  | cons {k v ks vs a b r} : SE X T E mu io k a → SE X T E mu io v b → SPs X T E mu io pos ks vs r → SPs X T E mu io pos (some k :: ks) (v :: vs) (dC a b r)
theorem SPs.pps {ks vs d} (h : SPs X T E mu io pos ks vs d) : ∃ trs, PPs X pos ks vs trs ∧ ∀ O fr σ H Q, Rl X.K T mu io O fr σ H → pD X.K T E mu io O σ H Q (d fr) → tPairs trs σ H Q := by
  induction h with
  | nil => exact ⟨[], pps_nil, fun O fr σ H Q rl q => q O H [] (Fm.refl _ _) rl trivial⟩
  | cons hk hv hr ih =>
    rename_i k v ks vs a b r
    obtain ⟨trs, h1, h2⟩ := ih
    refine ⟨(rE X.K T E mu io a, rE X.K T E mu io b) :: trs, pps_cons hk hv h1, fun O fr σ H Q rl q => ?_⟩
    refine ⟨O, fr, rl, ?_⟩
    unfold dC at q
    cases e1 : a fr with
    | bad => rw [e1] at q; exact q
    | exc e => rw [e1] at q; exact q
    | ok p =>
      obtain ⟨x, fr1⟩ := p
      rw [e1] at q
      intro O1 H1 x' F1 R1 V1
      refine ⟨O1, fr1, R1, ?_⟩
      simp only [SK.R.bind_ok] at q
      cases e2 : b fr1 with
      | bad => rw [e2] at q; exact q
      | exc e => rw [e2] at q; exact pEx.back F1 q
      | ok p =>
        obtain ⟨y, fr2⟩ := p
        rw [e2] at q
        intro O2 H2 y' F2 R2 V2
        simp only [SK.R.bind_ok] at q
        refine h2 O2 fr2 σ H2 _ R2 ?_
        cases e3 : r fr2 with
        | bad => rw [e3] at q; exact q
        | exc e => rw [e3] at q; exact pEx.back (F1.trans F2) q
        | ok p =>
          obtain ⟨ps, fr3⟩ := p
          rw [e3] at q
          intro O3 H3 ps' F3 R3 V3
          exact q O3 H3 _ ((F1.trans F2).trans F3) R3 ⟨⟨V1.mono (F2.trans F3), V2.mono F3⟩, V3⟩
theorem mergeD_ok {K : PySem.W.Frag} {O : Own} {H : Hp} : ∀ {ps : List (Val × Val)} {xs : List (V × V)} {kvs0 : List (Key × V)} {d : List Val × List Val}, allK ps = true → okM ps d = true → VPs K T O H ps xs → d.1 = kvs0.map (fun p => kVal p.1) → VRs K T O H d.2 (kvs0.map (·.2)) →
    ∃ kvs : List (Key × V), xs = kvs.map (fun kv => (kV kv.1, kv.2)) ∧ kvs.length = ps.length ∧ (mergeD ps d).1 = (mergeK kvs0 kvs).map (fun p => kVal p.1) ∧ VRs K T O H (mergeD ps d).2 ((mergeK kvs0 kvs).map (·.2))
  | [], [], kvs0, d, _, _, _, h1, h2 => ⟨[], rfl, rfl, h1, h2⟩
  | (k, v) :: r, (x, y) :: s, kvs0, d, ha, ho, ⟨⟨g1, g2⟩, g3⟩, h1, h2 => by
    have ha' : (isK k && allK r) = true := ha
    rw [Bool.and_eq_true] at ha'
    have ho' : (nodupK d.1 && okM r (dPut k v d.1 d.2)) = true := ho
    rw [Bool.and_eq_true] at ho'
    obtain ⟨kk, e1, e2⟩ := key_of ha'.1 g1
    subst e1
    obtain ⟨d1, d2⟩ := d
    dsimp only at h1 h2 ho'
    subst h1
    obtain ⟨p1, p2⟩ := dPut_ok (kk := kk) g2 (by exact ho'.1) h2
    rw [← e2] at p1 p2
    obtain ⟨kvs, q1, q2, q3, q4⟩ := mergeD_ok (kvs0 := putK kvs0 kk y) ha'.2 ho'.2 g3 p1 p2
    exact ⟨(kk, y) :: kvs, by rw [q1]; rfl, by rw [List.length_cons, q2, List.length_cons], q3, q4⟩
  | [], _ :: _, _, _, _, _, h, _, _ => h.elim
  | _ :: _, [], _, _, _, _, h, _, _ => h.elim
theorem disp_core {K : PySem.W.Frag} {d : DM} {O : Own} {fr : Fr} {σ : St} {H : Hp} {Q : VK} {ro : Bool} {r : Nat} {q0 : Addr} (hq0 : H q0 = none) (rl : Rl K T mu io O fr σ H)
    (q : match eDisp d fr with
      | .ok (v, fr') => ∀ O' H' x, Fm O H O' H' → Rl K T mu io O' fr' σ H' → RtR K T ro r O' H' v x → Q x H'
      | .exc e => pEx K T E O H e
      | .bad => False) :
    pD K T E mu io (setOw O q0 (some .tmp)) σ (upd H q0 (.dK [])) (fun ps H2 => H2 q0 = some (.dK []) ∧ ∃ kvs : List (Key × V), ps = kvs.map (fun kv => (kV kv.1, kv.2)) ∧ kvs.length ≤ 15 ∧ Q (.ref q0) (upd H2 q0 (.dK (mergeK [] kvs)))) (d fr) := by
  unfold eDisp at q
  have f0 : FmD q0 O H (setOw O q0 (some .tmp)) (upd H q0 (.dK [])) := FmD.begin hq0
  cases e1 : d fr with
  | bad => rw [e1] at q; exact q
  | exc e =>
    rw [e1] at q
    have F0 : Fm O H (setOw O q0 (some .tmp)) (upd H q0 (.dK [])) := by
      have := f0.fin (w := some .tmp) hq0 (fun z => nomatch z)
      rw [show setOw (setOw O q0 (some .tmp)) q0 (some .tmp) = setOw O q0 (some .tmp) from funext fun a => by unfold setOw; split <;> rfl] at this
      exact this
    exact pEx.back F0 q
  | ok p =>
    obtain ⟨ps, fr1⟩ := p
    rw [e1] at q
    simp only [SK.R.bind_ok] at q
    intro O2 H2 xs F2 R2 V2
    by_cases hc : allK ps = true ∧ okM ps ([], []) = true ∧ ps.length ≤ 15
    · rw [if_pos hc] at q
      obtain ⟨hD, oD⟩ := F2.tmp q0 _ upd_same setOw_same
      refine ⟨hD, ?_⟩
      obtain ⟨kvs, g1, g2, g3, g4⟩ := mergeD_ok (kvs0 := []) (d := ([], [])) hc.1 hc.2.1 V2 rfl .nil
      refine ⟨kvs, g1, by rw [g2]; exact hc.2.2, ?_⟩
      have f1 : FmD q0 O H O2 (upd H2 q0 (.dK (mergeK [] kvs))) := (f0.step F2).put hq0 _
      have R3 : Rl K T mu io O2 fr1 σ (upd H2 q0 (.dK (mergeK [] kvs))) := R2.putOut oD
      have mono : Fb O2 H2 O2 (upd H2 q0 (.dK (mergeK [] kvs))) := fun a u e n => ⟨by rw [upd_ne (fun z => by rw [z, oD] at n; cases n)]; exact e, n⟩
      have V4 := VRs.monoB mono _ _ g4
      cases ro with
      | true =>
        refine q (setOw O2 q0 (some (.sl r))) _ _ (f1.fin hq0 fun z => nomatch z) (R3.outTo oD) ?_
        unfold RtR
        rw [if_pos rfl]
        refine ⟨q0, _, rfl, setOw_same, upd_same, g3, VRs.monoB (fun a u e n => ⟨e, ?_⟩) _ _ V4⟩
        rw [setOw_ne (fun z => by rw [z, oD] at n; cases n)]
        exact n
      | false =>
        refine q (setOw O2 q0 none) _ _ (f1.fin hq0 fun z => nomatch z) (R3.outTo oD) ?_
        unfold RtR
        rw [if_neg Bool.false_ne_true]
        unfold VR
        refine ⟨q0, _, rfl, .inl ⟨.inl upd_same, setOw_same⟩, g3, VRs.monoB (fun a u e n => ⟨e, ?_⟩) _ _ V4⟩
        rw [setOw_ne (fun z => by rw [z, oD] at n; cases n)]
        exact n
    · rw [if_neg hc] at q; exact q.elim
theorem sx_disp {ks : List (Option Expr)} {vs : List Expr} {d : DM} {ro : Bool} {r : Nat} (h : SPs X T E mu io pos ks vs d) (hall : ks.all (·.isSome) = true) (hl : ks.length = vs.length) (h0 : ks ≠ []) (h15 : ks.length ≤ 15) : SX X T E mu io ro r (.Dict ks vs pos) (eDisp d) := by
  obtain ⟨trs, h1, h2⟩ := h.pps
  exact PE.imp (pe_disp h1 hall hl h0 h15) fun σ H Q ⟨O, fr, rl, q⟩ p hp => h2 _ fr σ _ _ (rl.laid hp) (disp_core hp rl q)
/-! ### subscripts -/
theorem se_ixD {b : Expr} (nokd : ∀ a kvs, ¬ T.kd a kvs) (hu : X.A.units + 1 < cLine) (s : Sl X i x) (hb : SE X T E mu io b mb) (hs : NoSl b := by intro _ _; rfl) : SE X T E mu io (.Subscript (.Name x p) b pos) (eIxD i mb) :=
  PE.imp (pe_dget hu s.pe hb hs) fun σ H Q ⟨O, fr, rl, q⟩ => by
    unfold eIxD at q
    rcases getS_cases fr i with ⟨v0, e0, e1⟩ | e1
    · rw [e1] at q
      obtain ⟨x, hx, _⟩ := rl.tp e0
      refine ⟨x, hx, O, fr, rl, ?_⟩
      simp only [SK.R.bind_ok] at q
      cases h2 : mb fr with
      | bad => rw [h2] at q; exact q
      | exc e => rw [h2] at q; exact q
      | ok p =>
        obtain ⟨y, fr2⟩ := p
        rw [h2] at q
        intro O2 H2 y' F2 R2 V2
        simp only [SK.R.bind_ok] at q
        rcases getS_cases fr2 i with ⟨v, e2, e3⟩ | e3
        · rw [e3] at q
          obtain ⟨x', hx', tp⟩ := R2.tp e2
          rw [hx] at hx'
          cases hx'
          simp only [SK.R.bind_ok] at q
          split at q
          · rename_i ks vs
            split at q
            · rename_i hk
              obtain ⟨kk, e4, e5⟩ := key_of hk V2
              obtain ⟨a, kvs, rfl, h3, h4, h5⟩ := tp.dic
              rcases h3 with h3 | h3
              · subst h4
                subst e5
                cases h6 : dGet (kVal kk) (kvs.map fun p => kVal p.1) vs with
                | none => rw [h6] at q; exact q.elim
                | some w =>
                  rw [h6] at q
                  obtain ⟨z, g1, g2⟩ := (dGet_ok h5).1 w h6
                  refine ⟨a, z, rfl, ?_, q O2 H2 z F2 R2 g2⟩
                  rw [← g1, e4]
                  exact .inl ⟨_, _, h3.rd, rfl, rfl⟩
              · exact absurd h3 (nokd _ _)
            · exact q.elim
          · exact q.elim
        · rw [e3] at q; exact q.elim
    · rw [e1] at q; exact q.elim
theorem Rl.dicW {K : PySem.W.Frag} {O : Own} {H : Hp} {fr : Fr} {σ : St} {i : Nat} {a : Addr} {ks vs : List Val} {kvs : List (Key × V)} (rl : Rl K T mu io O fr σ H) (hm : mu i = true) (hs : σ[i]? = some (some (.ref a))) (ho : O a = some (.sl i)) (hi : i < fr.length) (hk : ks = kvs.map (fun p => kVal p.1)) (r : VRs K T O H vs (kvs.map (·.2))) : Rl K T mu io O (fr.set i (some (.dic ks vs))) σ (upd H a (.dK kvs)) :=
  rl.wr hm ho hs hi (show OwL K T O _ (.sl i) (.dic ks vs) (.ref a) from ⟨a, kvs, rfl, ho, upd_same, hk, r.mono (wr_fm ho)⟩)
theorem ss_putD {b v : Expr} {mv : EM} (hu : X.A.units + 1 < cLine) (hm : mu i = true := by rfl) (s : Sl X i x) (hv : SE X T E mu io v mv) (hb : SE X T E mu io b mb)
    (hs : swapsWith v (some (.Subscript (.Name x p) b p')) pos.line X.env = pure false := by rfl) : SS X T E mu io (.Assign [.Subscript (.Name x p) b p'] v pos) (sPutD i mv mb) :=
  PS.imp (ps_dput hu s.pe hb hv hs) fun D σ H ⟨O, fr, rl, q⟩ => by
    unfold sPutD at q
    refine ⟨O, fr, rl, ?_⟩
    cases h2 : mv fr with
    | bad => rw [h2] at q; exact q
    | exc e => rw [h2] at q; exact q
    | ok p =>
      obtain ⟨y, fr2⟩ := p
      rw [h2] at q
      intro O2 H2 y' F2 R2 V2
      simp only [SK.R.bind_ok] at q
      rcases getS_cases fr2 i with ⟨v0, e0, e1⟩ | e1
      · rw [e1] at q
        obtain ⟨x, hx, _⟩ := R2.tp e0
        refine ⟨x, hx, O2, fr2, R2, ?_⟩
        simp only [SK.R.bind_ok] at q
        cases h3 : mb fr2 with
        | bad => rw [h3] at q; exact q
        | exc e => rw [h3] at q; exact pEx.back F2 q
        | ok p =>
          obtain ⟨z, fr3⟩ := p
          rw [h3] at q
          intro O3 H3 z' F3 R3 V3
          simp only [SK.R.bind_ok] at q
          split at q
          · rename_i ks vs e3
            split at q
            · rename_i hc
              obtain ⟨x', g1, g2⟩ := R3.owned e3 hm rfl
              have g2' : ∃ a kvs, x' = .ref a ∧ O3 a = some (.sl i) ∧ H3 a = some (.dK kvs) ∧ ks = kvs.map (fun p => kVal p.1) ∧ VRs X.K T O3 H3 vs (kvs.map (·.2)) := g2
              obtain ⟨a, kvs, rfl, g3, g4, g5, g6⟩ := g2'
              rw [hx] at g1
              cases g1
              obtain ⟨kk, e4, e5⟩ := key_of hc.1 V3
              subst g5
              subst e5
              obtain ⟨p1, p2⟩ := dPut_ok (kk := kk) (V2.mono F3) hc.2.1 g6
              refine ⟨a, _, rfl, ?_, q O3 _ σ ((F2.trans F3).trans (wr_fm g3)) (R3.dicW hm hx g3 (lt_of_get e3) p1 p2)⟩
              rw [e4]
              exact DPut.k g4 (by have := hc.2.2; rw [List.length_map] at this; exact this)
            · exact q.elim
          · exact q.elim
      · rw [e1] at q; exact q.elim
theorem c_lenD (nokd : ∀ a kvs, ¬ T.kd a kvs) : CallR X (.builtin "len") (rN X.K T vLenD) := by
  intro pins s σ H xs us Q I r ⟨O, as, tr, va, q⟩
  unfold vLenD at q
  split at q
  · rename_i ks vs
    obtain ⟨x, rfl, h⟩ := va.one
    unfold VR at h
    obtain ⟨a, kvs, rfl, t, e, rr⟩ := h
    rcases t with t | t
    · obtain ⟨u, rfl, ru⟩ := vals1 r
      cases ru
      exact d_len I t.1.rd fun tk s' I' => ⟨.int kvs.length, H, I', ⟨tk, rfl⟩, by rw [show kvs.length = ks.length by rw [e, List.length_map]]; exact q H _ (Hx.refl _) vr_int⟩
    · exact absurd t (nokd _ _)
  · exact q.elim
/-! ### comprehensions -/
section
variable {K : PySem.W.Frag} {g : GM} {t : TM} {ek ev : EM} {own : List Nat} {ts : List Nat} {σ : St} {H : Hp} {Q : VK}
theorem wipe_wipe (own : List Nat) (σ : St) : wipe (wipe σ own) own = wipe σ own := by
  apply List.ext_getElem?
  intro q
  have key : ∀ (own : List Nat) (τ : St) (q : Nat), (L2.wipe τ own)[q]? = if q ∈ own then (if q < τ.length then some none else none) else τ[q]? := by
    intro own
    induction own with
    | nil => intro τ q; simp [L2.wipe]
    | cons w vs ih =>
      intro τ q
      show ((L2.wipe τ vs).set w none)[q]? = _
      by_cases e : q = w
      · subst e
        rw [List.getElem?_set, if_pos rfl, wipe_length, if_pos List.mem_cons_self]
      · rw [List.getElem?_set_ne (fun z => e z.symm), ih]
        by_cases h : q ∈ vs
        · rw [if_pos h, if_pos (List.mem_cons_of_mem _ h)]
        · rw [if_neg h, if_neg (fun z => by rcases List.mem_cons.mp z with z | z; exact e z; exact h z)]
  rw [key, key, wipe_length]
  split <;> rfl
theorem dc_core' (hio : ∀ p ∈ io, p.1 ∉ own) (hmu : ∀ i ∈ own, mu i = false) (hts : ∀ i ∈ ts, i ∈ own) {O1 : Own} {fr1 : Fr} {H1 : Hp} {J : It} {xs : List Val} {d : List Val × List Val} {frE : Fr} (R1 : Rl K T mu io O1 fr1 σ H1) (W1 : Walks K T J xs O1 H1)
    (hz : dcL own g t ek ev xs ([], []) fr1 = .ok (d, frE)) (D : Addr) (hD : H1 D = none)
    (fin : ∀ O' H' kvs, FmD D O1 H1 O' H' → O' D = some .tmp → H' D = some (.dK kvs) → d.1 = kvs.map (fun p => kVal p.1) → VRs K T O' H' d.2 (kvs.map (·.2)) → Rl K T mu io O' (putF' fr1 frE own) σ H' → Q (.ref D) H') :
    ∃ W : Nat → Nat → Hp → Prop, (∃ m, W 0 m (upd H1 D (.dK []))) ∧ ∀ i m H, W i m H →
      (J.stop i H ∧ Q (.ref D) H) ∨ (J.go i H ∧ ∃ Nx : Hp → Prop, (∀ H', Nx H' → ∃ m', m' < m ∧ W (i + 1) m' H') ∧ ∀ x H', J.yld i H x H' → rG K T mu io ts g x (wipe σ own) H' fun σ2 H2 => wipe σ2 own = wipe σ own ∧ rT K T L2.E0 mu io t σ2 H2 fun b H3 =>
        if b = true then rE K T L2.E0 mu io ek σ2 H3 fun y H4 => rE K T L2.E0 mu io ev σ2 H4 fun z H5 => ∃ kvs k, y = kV k ∧ H5 D = some (.dK kvs) ∧ kvs.length < sizeLine ∧ Nx (upd H5 D (.dK (putK kvs k z))) else Nx H3) := by
  refine ⟨fun j k H' => k = xs.length - j ∧ ∃ O' fr' σ' acc kvs, wipe σ' own = wipe σ own ∧ Rl K T mu io O' fr' σ' H' ∧ FmD D O1 H1 O' H' ∧ O' D = some .tmp ∧ H' D = some (.dK kvs) ∧ acc.1 = kvs.map (fun p => kVal p.1) ∧ VRs K T O' H' acc.2 (kvs.map (·.2)) ∧ dcL own g t ek ev (xs.drop j) acc fr' = .ok (d, frE),
    ⟨_, rfl, setOw O1 D (some .tmp), fr1, σ, ([], []), [], rfl, R1.laid hD, FmD.begin hD, setOw_same, upd_same, rfl, VRs.nil, by simpa using hz⟩, ?_⟩
  rintro j k H' ⟨rfl, O', fr', σ', acc, kvs, hw, R', F', oD, hHD, hk, V', hq⟩
  obtain ⟨hstop, hgo⟩ := W1 O' H' F'.byv F'.out R'.trk j
  by_cases hj : j < xs.length
  · right
    have hx : xs[j]? = some xs[j] := List.getElem?_eq_getElem hj
    obtain ⟨h1, h2⟩ := hgo _ hx
    refine ⟨h1, fun H2 => ∃ O2 fr2 σ2 acc kvs, wipe σ2 own = wipe σ own ∧ Rl K T mu io O2 fr2 σ2 H2 ∧ FmD D O1 H1 O2 H2 ∧ O2 D = some .tmp ∧ H2 D = some (.dK kvs) ∧ acc.1 = kvs.map (fun p => kVal p.1) ∧ VRs K T O2 H2 acc.2 (kvs.map (·.2)) ∧ dcL own g t ek ev (xs.drop (j + 1)) acc fr2 = .ok (d, frE),
      fun H2 hN => ⟨_, by omega, rfl, hN⟩, fun x H2 hy => ?_⟩
    obtain ⟨X2, V2⟩ := h2 x H2 hy
    have Rw : Rl K T mu io O' (wipF fr' own) (wipe σ own) H2 := by rw [← hw]; exact (R'.hx X2).wip own hio
    refine ⟨O', wipF fr' own, xs[j], Rw, V2, ?_⟩
    rw [List.drop_eq_getElem_cons hj] at hq
    unfold dcL at hq
    cases h3 : g xs[j] (wipF fr' own) with
    | bad => rw [h3] at hq; cases hq
    | exc e => rw [h3] at hq; cases hq
    | ok fr3 =>
      rw [h3] at hq
      intro O3 H3 σ3 F3 R3 x3
      have hw3 : wipe σ3 own = wipe σ own := (x3.wipe hts).trans (wipe_wipe own σ)
      refine ⟨hw3, O3, fr3, R3, ?_⟩
      have F03 := X2.fm.trans F3
      simp only [noX, SK.R.bind_ok] at hq
      cases h4 : t fr3 with
      | bad => rw [h4] at hq; cases hq
      | exc e => rw [h4] at hq; cases hq
      | ok p =>
        obtain ⟨b, fr4⟩ := p
        rw [h4] at hq
        intro O4 H4 F4 R4
        have F04 := F03.trans F4
        simp only [SK.R.bind_ok] at hq
        cases b with
        | false =>
          have ⟨hD4, oD4⟩ := F04.tmp D _ hHD oD
          exact ⟨O4, fr4, σ3, acc, kvs, hw3, R4, F'.step F04, oD4, hD4, hk, V'.mono F04, by simpa using hq⟩
        | true =>
          simp only [if_true] at hq ⊢
          refine ⟨O4, fr4, R4, ?_⟩
          cases h5 : ek fr4 with
          | bad => rw [h5] at hq; cases hq
          | exc e => rw [h5] at hq; cases hq
          | ok p =>
            obtain ⟨y, fr5⟩ := p
            rw [h5] at hq
            intro O5 H5 y' F5 R5 V5
            refine ⟨O5, fr5, R5, ?_⟩
            simp only [SK.R.bind_ok] at hq
            cases h6 : ev fr5 with
            | bad => rw [h6] at hq; cases hq
            | exc e => rw [h6] at hq; cases hq
            | ok p =>
              obtain ⟨z, fr6⟩ := p
              rw [h6] at hq
              intro O6 H6 z' F6 R6 V6
              simp only [SK.R.bind_ok] at hq
              by_cases hc : isK y = true ∧ nodupK acc.1 = true ∧ acc.1.length < 16777216
              · rw [if_pos hc] at hq
                have F06 := (F04.trans F5).trans F6
                have ⟨hD6, oD6⟩ := F06.tmp D _ hHD oD
                obtain ⟨kk, e1, e2⟩ := key_of hc.1 (V5.mono F6)
                obtain ⟨a1, a2⟩ := acc
                dsimp only at hk hc V' hq
                subst hk
                subst e2
                obtain ⟨p1, p2⟩ := dPut_ok (kk := kk) V6 hc.2.1 (V'.mono F06)
                refine ⟨kvs, kk, e1, hD6, by have := hc.2.2; rw [List.length_map] at this; exact this, O6, fr6, σ3, _, _, hw3, R6.putOut oD6, (F'.step F06).put hD _, oD6, upd_same, p1, ?_, hq⟩
                refine VRs.monoB (fun a u e n => ⟨?_, n⟩) _ _ p2
                rw [upd_ne (fun z => by rw [z, oD6] at n; cases n)]
                exact e
              · rw [if_neg hc] at hq; cases hq
  · left
    rw [List.drop_of_length_le (by omega)] at hq
    cases hq
    exact ⟨hstop (by omega), fin O' H' kvs F' oD hHD hk V' (Rl.unwip (H0 := H1) (O0 := O1) own R1 F'.byv F'.out hmu hw R')⟩
end
theorem sx_dc {ro : Bool} {r : Nat} {kx vx tg iter : Expr} {ifs : List Expr} {scope : Scope} {own : List (Str × Nat)} {ts : List Nat} {i : IM} {g : GM} {t : TM} {ek ev : EM} (hc : X.calm = true := by rfl) (hN : X.N.Nodup) (hi : SI X T E mu io tg iter i) (ok : BlkOk X.N X.env.scope scope own)
    (hio : ∀ p ∈ io, p.1 ∉ own.map (·.2) := by exact io_own rfl) (hmu : ∀ i ∈ own.map (·.2), mu i = false := by decide) (hts : ∀ i ∈ ts, i ∈ own.map (·.2) := by decide)
    (hg : ∀ (s : Shared) (H : Hp) (C : Addr) (cl : List (Str × Addr)) (fp : List Addr), SG (X.blk s H scope (compEnvC scope cl C X.env) fp) T mu io ts tg g) (ht : ∀ (s : Shared) (H : Hp) (C : Addr) (cl : List (Str × Addr)) (fp : List Addr), STs (X.blk s H scope (compEnvC scope cl C X.env) fp) T L2.E0 mu io ifs t)
    (hk : ∀ (s : Shared) (H : Hp) (C : Addr) (cl : List (Str × Addr)) (fp : List Addr), SE (X.blk s H scope (compEnvC scope cl C X.env) fp) T L2.E0 mu io kx ek) (he : ∀ (s : Shared) (H : Hp) (C : Addr) (cl : List (Str × Addr)) (fp : List Addr), SE (X.blk s H scope (compEnvC scope cl C X.env) fp) T L2.E0 mu io vx ev) (hs : ∀ x, foldedSetIterable iter X.env x = pure x := by intro _; rfl) :
    SX X T E mu io ro r (.DictComp kx vx [⟨tg, iter, ifs, 0⟩] scope pos) (eDc (own.map (·.2)) i g t ek ev) :=
  PE.imp (pe_dc hc hN hi ok hg ht hk he hs) fun σ H Q ⟨O, fr, rl, q⟩ => by
    unfold eDc at q
    refine ⟨O, fr, rl, ?_⟩
    cases h : i fr with
    | bad => rw [h] at q; exact q
    | exc e => rw [h] at q; exact q
    | ok p =>
      obtain ⟨xs, fr1⟩ := p
      rw [h] at q
      intro O1 H1 J F1 R1 W1 D hD
      simp only [SK.R.bind_ok] at q
      cases hz : dcL (own.map (·.2)) g t ek ev xs ([], []) fr1 with
      | bad => rw [hz] at q; exact q.elim
      | exc e => rw [hz] at q; exact q.elim
      | ok p =>
        obtain ⟨d, frE⟩ := p
        rw [hz] at q
        simp only [noX, SK.R.bind_ok] at q
        refine dc_core' hio hmu hts R1 W1 hz D hD fun O' H' kvs F' oD hHD hk' V' R' => ?_
        cases ro with
        | true =>
          refine q (setOw O' D (some (.sl r))) H' _ (F1.trans (F'.fin hD fun z => nomatch z)) (R'.outTo oD) ?_
          unfold RtR
          rw [if_pos rfl]
          refine ⟨D, kvs, rfl, setOw_same, hHD, hk', VRs.monoB (fun a u e n => ⟨e, ?_⟩) _ _ V'⟩
          rw [setOw_ne (fun z => by rw [z, oD] at n; cases n)]
          exact n
        | false =>
          refine q (setOw O' D none) H' _ (F1.trans (F'.fin hD fun z => nomatch z)) (R'.outTo oD) ?_
          unfold RtR
          rw [if_neg Bool.false_ne_true]
          unfold VR
          refine ⟨D, kvs, rfl, .inl ⟨.inl hHD, setOw_same⟩, hk', VRs.monoB (fun a u e n => ⟨e, ?_⟩) _ _ V'⟩
          rw [setOw_ne (fun z => by rw [z, oD] at n; cases n)]
          exact n
end
end SK

set_option maxHeartbeats 1000000
/-! SK15: super().__init__(..) of a class's own __init__, as its last statement. -/
noncomputable section
namespace SK
open PySem L2 PySem.Spec

/-- statements of a body, said where the body runs -/
structure PSa (X : Cx) (body : List Stmt) (st : List Stmt) (t : TS) : Prop where
  run : ∀ (s : Shared) (σ : St) (H : Hp) (D : Ends), Inv X [] σ H s → t D σ H → _root_.PySem.wpAt (model X.prog X.w) X.A (.func body X.env) (execs st X.env) (SP X [] D) X.xe s
abbrev SSa (X : Cx) (T : Tb) (E : XK) (mu : Nat → Bool) (io : List (Nat × V)) (body st : List Stmt) (m : SM) : Prop := PSa X body st (rS X.K T E mu io m)
/-- what super() asks of the text: D the class of the text, C that of the instance, f the def, f2 the def that is meant -/
structure SupF (X : Cx) (mn : Str) (C D f f2 cc cda : Addr) : Prop where
  hks : X.env.kindOf "super" = some .globalImplicit
  hkc : X.env.kindOf "__class__" = some .free
  hk : X.env.scope.kind = .function
  fu : X.env.func = some f
  fd : ∃ (of : Obj) (fd : FuncData) (ar : Arg), X.K.lookup f = some of ∧ of.data = .func fd ∧ (fd.params.posonlyargs ++ fd.params.args).head? = some ar ∧ X.N[0]? = some ar.arg ∧ X.env.kindOf ar.arg = some .local
  co : X.env.code = .ref cda
  cda : ∃ (oc : Obj) (vs : Array Value) (file : Str) (tf : Tok), X.K.lookup cda = some oc ∧ oc.data = .fields vs ∧ vs[2]? = some (.str file tf) ∧ ((X.prog.main.file : Str) == file) = true
  cl : X.env.cells.lookup ("__class__" : Str) = some cc
  cc : ∃ (oc : Obj), X.K.lookup cc = some oc ∧ oc.data = .cell (some (.ref D))
  cD : (PySem.W.clsIn X.K D).isSome = true
  cC : (PySem.W.clsIn X.K C).isSome = true
  sub : PySem.W.mroIn X.K C (.ref D) = some true
  ho : PySem.W.nsIn X.K cStatics "thirdparty.any" = some none
  hm : PySem.W.ks_superIn X.K C D mn = some (some (.ref f2))
  ty : PySem.W.typeIn X.K (.ref f2) = some (.type "function")
  fi : PySem.W.fnIn X.K f2 = true
  mg : X.mg "super" = none
  top : (X.prog.main.scope.names.lookup ("super" : Str)).isSome = false
section
variable {X : Cx} {T : Tb} {E : XK} {mu : Nat → Bool} {io : List (Nat × V)} {body st : List Stmt} {stm : Stmt} {m m2 : SM}
theorem ssa_cons (h1 : SS X T E mu io stm m) (h2 : SSa X T E mu io body st m2) : SSa X T E mu io body (stm :: st) (sSeq m m2) := by
  refine ⟨fun s σ H D I ⟨O, fr, rl, q⟩ => ?_⟩
  refine ks_wpAt_execs_cons (wpAt_of_wpAny (wpAny_mono (h1.run [] s σ H { D with nx := fun σ' H' => rS X.K T E mu io m2 D σ' H' } I ⟨O, fr, rl, ?_⟩) (fun f s' hs => ?_) fun _ _ x => x))
  · unfold sSeq at q
    cases h : m fr with
    | bad => rw [h] at q; exact q
    | exc e => rw [h] at q; exact q
    | ok p =>
      obtain ⟨f, fr1⟩ := p
      rw [h] at q
      simp only [SK.R.bind_ok] at q
      cases f with
      | nx => exact fun O1 H1 σ1 F1 R1 => ⟨O1, fr1, R1, pS.back F1 q⟩
      | rt v => exact q
      | bk => exact q
      | ct => exact q
  · cases f with
    | next =>
      obtain ⟨σ', H', J, q'⟩ := hs
      exact h2.run s' σ' H' D J q'
    | ret u => exact hs
    | brk => exact hs
    | cont => exact hs
theorem super_base {mn : Str} {C D f f2 cc cda : Addr} (S : SupF X mn C D f f2 cc cda) {σ : St} {H : Hp} {s : Shared} {a dx : Addr} {fs : List (Str × V)} {p0 p1 : Pos} {whole : Sem Value} {Q : Value → Shared → Prop} (hat : (mn == ("__class__" : Str)) = false) (I : Inv X [] σ H s) (hs : σ[0]? = some (some (.ref a))) (hH : H a = some (.ins C dx fs))
    (h : ∀ so s', s'.heap.get? so = some (PySem.W.ks_superObj D a C) → Inv X [] σ H s' → Q (.ref so) s') :
    _root_.PySem.wpAt (model X.prog X.w) X.A (.func body X.env) (attributeBase (.Call (.Name "super" p0) [] [] p1) mn X.env whole) Q X.xe s := by
  obtain ⟨of, fd, ar, k1, k2, k3, k4, k5⟩ := S.fd
  obtain ⟨oc, vs, file, tf, k6, k7, k8, k9⟩ := S.cda
  obtain ⟨oc2, k10, k11⟩ := S.cc
  have KX := I.kIn
  obtain ⟨cdD, hcD⟩ := Option.isSome_iff_exists.mp S.cD
  obtain ⟨oD, hD1, hD2⟩ : ∃ oD, s.heap.get? D = some oD ∧ oD.data = .cls cdD := by
    unfold PySem.W.clsIn at hcD
    split at hcD
    · rename_i c d cd' sl ho
      cases hcD
      exact ⟨_, KX _ _ ho, rfl⟩
    · cases hcD
  obtain ⟨mA, O, _⟩ := ins_get I.hok hH
  obtain ⟨od, J, _⟩ := O.look
  refine ks_wpAt_super_base S.hks S.hkc hat S.fu (KX _ _ k1) k2 k3 S.co (KX _ _ k6) k7 k8 k9 S.top ?_
  obtain ⟨mb, h1, h2⟩ := I.mod.blt
  refine PySem.W.ks_loadName_global S.hk S.hks (Calls.loadGlobal_builtin (by rw [I.ok.glob]; exact I.mod.glob.keeps I.bk) S.mg (by rw [I.ok.blt]; exact h1.keeps I.bk) ((h2 _ (by decide)).trans (by first | rfl | decide +kernel)) ⟨rfl, ?_⟩)
  refine wpAny_loadName_free S.hk S.hkc S.cl ⟨_, KX _ _ k10, k11⟩ ?_
  obtain ⟨m, hn, hl⟩ := I.loc
  obtain ⟨u, ru, lk⟩ := hl 0 ar.arg (.ref a) k4 hs (.inl k5)
  cases (show u = Value.ref a from ru)
  have hm : m ar.arg = some (.ref a) := by
    rcases lk with ⟨_, z⟩ | ⟨z, _⟩
    · exact z
    · rw [k5] at z; rcases z with z | z <;> cases z
  refine wpAny_loadName_local S.hk k5 hn hm ?_
  refine ks_wpAny_isType_cls hD1 hD2 ⟨rfl, ?_⟩
  obtain ⟨hh, g, d, t, os⟩ := s
  refine ks_wpAny_call_super hD1 hD2 J.at_ J.cls (fun c e => ?_) (PySem.W.looks_mroIn KX S.sub) (fun h' e k => ?_)
  · have := J.no
    unfold PySem.W.notCls at this
    rw [e] at this
    exact Bool.noConfusion this
  · exact h _ _ e (I.kept (t' := t) k)
theorem super_meth {mn : Str} {C D f f2 cc cda : Addr} (S : SupF X mn C D f f2 cc cda) {σ : St} {H : Hp} {s : Shared} {a dx so : Addr} {fs : List (Str × V)} {pl : Sem Bool} {Q : Value × List Value → Shared → Prop} {E' : Value → Shared → Prop} (hat : (mn == ("__class__" : Str)) = false) (I : Inv X [] σ H s) (hH : H a = some (.ins C dx fs))
    (hso : s.heap.get? so = some (PySem.W.ks_superObj D a C))
    (h : ∀ q s', X.base.get? q = none → Inv X [(q, PySem.W.methodObj (.ref f2) (.ref a))] σ H s' → Q (.ref q, []) s') : wpAny (model X.prog X.w) X.A (getMethod (.ref so) mn pl) Q E' s := by
  have KX := I.kIn
  obtain ⟨mA, O, _⟩ := ins_get I.hok hH
  obtain ⟨od, J, _⟩ := O.look
  obtain ⟨cd, hc⟩ := Option.isSome_iff_exists.mp S.cC
  have hm := S.hm
  unfold PySem.W.ks_superIn at hm
  rw [hc] at hm
  obtain ⟨of, hof, hofc⟩ : ∃ of, s.heap.get? f2 = some of ∧ of.cls = .type "function" := by
    have ht' : (X.K.lookup f2).map (·.cls) = some (.type "function") := S.ty
    cases z : X.K.lookup f2 with
    | none => rw [z] at ht'; cases ht'
    | some of => rw [z] at ht'; exact ⟨of, KX _ _ z, Option.some.inj ht'⟩
  have hb := ClX.base_none I (Nat.le_refl _)
  obtain ⟨hh, g, d, t, os⟩ := s
  refine ks_wpAny_getMethod_super hso (PySem.W.looks_opaque KX S.ho) (l₀ := cd.mro) ?_ rfl KX hm hof hofc (PySem.W.ks_ne KX J hc) hat ?_
  · exact fun A Q E s k q => wpAny_bind ((PySem.W.looks_clsIn KX hc) A _ E s k (wpAny_pure q))
  · exact h _ _ hb (ClX.pin_new (s := ⟨hh, g, d, t, os⟩) I (fun _ _ z => Heap.get?_push_of_some _ z) (Nat.le_refl _) (Heap.get?_push_size hh rfl) (fun v z => nomatch z))
/-- self, lent, of the class c -/
def sSup (c : Nat) (iop bop : List Nat) (m : FnM) (dv : List Val) (ms : LM) : SM := fun fr => (callM iop bop m dv (chkS [c] 0 (lI 0 ms)) fr).bind fun x => .ok (.nx, x.2)
theorem ssa_super {CX : CXT} {k n : Nat} {f f2 D cc cda : Addr} {fd : FuncData} {ps : List Str} {iop bop : List Nat} {mf : FnM} {dv : List Val} {dx : List V} {ds : List Value} {ms : LM} {mn : Str} {c : Nat} {e : Expr} {es : List Expr} {p0 p1 ap pos pos' : Pos} {pl : Sem Bool}
    (S : SupF X mn (T.cl c) D f f2 cc cda) (hat : (mn == ("__class__" : Str)) = false := by decide) (hm : mu 0 = true := by rfl) (F : FnOk X.prog X.w X.K X.mg X.base CX k f2 fd ps (spG X.K T iop bop false n mf)) (hr : Room k X.A) (hb : Binds X.K fd ps ds) (hd : Vals dx ds) (hdv : ∀ O H, VRs X.K T O H dv dx) (hRES : iop.contains RES = false := by rfl) (hx : Passes CX X E := by exact pass0)
    (ha : SL X T E mu io (e :: es) ms) (hl : ∀ fr as fr', chkS [c] 0 (lI 0 ms) fr = .ok (as, fr') → as.length + dv.length = n) (he : starEach (e :: es) X.env = (false, eval e X.env) :: starEach es X.env := by rfl) (hpl : (backTo pos (starEach es X.env)).any (·.1) = false := by rfl)
    (hi : interactive X.env = false := by rfl) (hsw : swapsWith (.Call (.Attribute (.Call (.Name "super" p0) [] [] p1) mn ap) (e :: es) [] pos) none pos'.line X.env = pure false := by rfl)
    (ht : eval (.Call (.Attribute (.Call (.Name "super" p0) [] [] p1) mn ap) (e :: es) [] pos) X.env = (do
      let ov ← attributeBase (.Call (.Name "super" p0) [] [] p1) mn X.env (eval (.Call (.Name "super" p0) [] [] p1) X.env)
      standAt ap.atName
      let (f, first) ← holding [ov] (getMethod ov mn pl)
      callWith pos f first (backTo pos (starEach (e :: es) X.env)) []) := by rfl) :
    SSa X T E mu io body [.Expr (.Call (.Attribute (.Call (.Name "super" p0) [] [] p1) mn ap) (e :: es) [] pos) pos'] (sSup c iop bop mf dv ms) := by
  refine ⟨fun s σ H Dd I ⟨O, fr, rl, q⟩ => ?_⟩
  have h0 : rX X.K T E mu io false 0 (callM iop bop mf dv (chkS [c] 0 (lI 0 ms))) σ H (fun _ H' => Dd.nx σ H') := by
    refine ⟨O, fr, rl, ?_⟩
    unfold sSup at q
    cases h : callM iop bop mf dv (chkS [c] 0 (lI 0 ms)) fr with
    | bad => rw [h] at q; exact q
    | exc e => rw [h] at q; exact q
    | ok p => obtain ⟨v, fr1⟩ := p; rw [h] at q; exact fun O1 H1 x F1 R1 V1 => q O1 H1 σ F1 R1
  obtain ⟨c', hc', y, hy, ⟨a, dx', fs, ws, fs', rfl, h4, h6⟩, q2⟩ := lI_imp hm (call_imp hdv hRES hl h0)
  have ec : c' = c := by simpa using hc'
  subst ec
  refine ks_wpAt_execs_cons (ks_wpAt_Expr_any (ks_wpAt_MethodCall (pl := pl) (super_base S hat I hy h4 fun so s1 hso I1 => ?_) ht) hi hsw)
  refine super_meth S hat I1 h4 hso fun qq s2 hbq I2 => ?_
  have hL : qq ≠ X.env.locals := (I2.pin _ (List.mem_append_right _ List.mem_cons_self)).2.2.1
  refine PySem.W.callWith_M (K := X.K) (h₀ := X.base) (first := []) I2.ok.mod.kin (news_at hL hbq (ClX.pin_at I2)) List.mem_cons_self S.fi (thn (ha.run pos _ s2 σ H _ I2 q2) fun us s3 ⟨vs, H2, I3, rv, q3⟩ => ⟨⟨ClX.pin_at I3, I3.kIn⟩, ?_⟩) he hpl
  have z : wpAny (model X.prog X.w) X.A (call (.ref qq) us) (EP X [(qq, PySem.W.methodObj (.ref f2) (.ref a))] σ fun _ H' => Dd.nx σ H') X.xe s3 := by
    have r2 : Vals ((V.ref a :: vs) ++ dx) ((Value.ref a :: us) ++ ds) := Vals.append (.cons rfl rv) hd
    have hlen : ((Value.ref a :: us) ++ ds).length = ps.length := by rw [← r2.length]; exact F.len _ _ _ _ q3
    refine wpAny_call (PySem.W.method_call (ClX.pin_at I3) (codeAny_mono (F.run X.A X.stack s3 H2 ⟨.ref a :: us, []⟩ ((Value.ref a :: us) ++ ds) _ _ E hr I3.env0 (hb s3 (.ref a :: us) I3.kIn hlen) r2 q3) fun r s' hq => ?_))
    cases r with
    | error e => exact hx _ σ H2 s3 e s' I3 hq
    | ok fl =>
      cases fl with
      | ret u => exact I3.after hq
      | next => exact False.elim hq
      | brk => exact False.elim hq
      | cont => exact False.elim hq
  refine thn z fun v s4 hv => ?_
  obtain ⟨v', H', I4, rv', q4⟩ := ClX.unpinE hv
  refine wpAt_of_wpAny ?_
  have := (pss_nil (X := X)).run [] s4 σ H' Dd I4 q4
  exact this
end
/-! ### a def whose text says super() -/
structure FnScopeS (N P : List Str) (sc : Scope) : Prop where
  kind : sc.kind = .function
  co : sc.isCoroutine = false
  gen : sc.isGenerator = false
  nd : N.Nodup
  pre : N.take P.length = P
  par : ∀ x ∈ P, sc.names.lookup x = some .local
  nocell : ∀ y ∈ sc.names, y.2 ≠ .cell
  free : ∀ y, sc.names.lookup y = some .free → y = ("__class__" : Str)
/-- a def as it stands behind the top, its cell at cc -/
structure FunDS (K : PySem.W.Frag) (x qual : Str) (params : Arguments) (body : List Stmt) (scope : Scope) (dvs : List V) (kws : List (Str × V)) (cc f : Addr) (fd : FuncData) : Prop where
  ex : ∃ (oc : Value) (od : Option Addr) (dV kV doc pm : Value) (an : Option Addr) (cdv ct : Value) (osl : Array (Option Value)),
    fd = PySem.W.ksFn x qual params body scope dV kV doc pm an cdv ct cc ∧ K.lookup f = some ⟨oc, od, .func fd, osl⟩ ∧ PySem.W.codeIn K cdv qual = true ∧ DflV K dV dvs ∧ KwdV K kV kws
  kp : PySem.W.keepIn K (.ref f) = true
  ce : ∃ (o : Obj) (v : Option Value), K.lookup cc = some o ∧ o.data = .cell v
def cxS (CX : CXT) (P : Program) (w : World) (K : PySem.W.Frag) (mg : Str → Option Value) (base : Heap) (N : List Str) (qual : Str) (scope : Scope) (f : Addr) (cd : Value) (cc : Addr) (A : Around) (outer : List Env) (s : Shared) (H : Hp) (E : XK) : Cx where
  prog := P
  w := w
  K := K
  mg := mg
  base := base
  A := A.deeper (PySem.W.ksEnv qual scope s.heap.objs.size f cd cc)
  N := N
  s_0 := s
  H_0 := H
  env := PySem.W.ksEnv qual scope s.heap.objs.size f cd cc
  outer := outer
  stack := PySem.W.ksEnv qual scope s.heap.objs.size f cd cc :: outer
  ex := []
  calm := true
  fn := fun y => y != ("__class__" : Str)
  pn := []
  xe := fun e s' => wpAny (model P w) (A.deeper (PySem.W.ksEnv qual scope s.heap.objs.size f cd cc)) (leaving (PySem.W.ksEnv qual scope s.heap.objs.size f cd cc) e) (fun _ s'' => CX outer H s E e s'') (fun e' s'' => CX outer H s E e' s'') s'
theorem lookup_of_mem {l : List (Str × Value)} {x : Str} {u : Value} (h : (x, u) ∈ l) (hu : ∀ v, (x, v) ∈ l → v = u) : l.lookup x = some u := by
  induction l with
  | nil => cases h
  | cons p r ih =>
    obtain ⟨y, v⟩ := p
    by_cases e : x = y
    · subst e
      rw [List.lookup_cons_self, hu v List.mem_cons_self]
    · have : (x == y) = false := by simpa using e
      show (match x == y with | true => some v | false => r.lookup x) = _
      rw [this]
      refine ih ?_ fun w hw => hu w (List.mem_cons_of_mem _ hw)
      rcases List.mem_cons.mp h with z | z
      · cases z; exact absurd rfl e
      · exact z
theorem zip_uniq {ps : List Str} (nd : ps.Nodup) : ∀ {us : List Value} {i : Nat} {x : Str} {u v : Value}, ps[i]? = some x → us[i]? = some u → (x, v) ∈ ps.zip us → v = u := fun {us i x u v} h1 h2 hm => by
  obtain ⟨j, hj⟩ := List.getElem?_of_mem hm
  have hz := List.getElem?_zip_eq_some.mp hj
  obtain ⟨z1, z2⟩ := hz
  have hi := (List.getElem?_eq_some_iff.mp h1)
  have hj' := (List.getElem?_eq_some_iff.mp z1)
  have : i = j := by
    have := List.getElem_inj (h₀ := hi.1) (h₁ := hj'.1) nd
    exact this.mp (hi.2.trans hj'.2.symm)
  subst this
  rw [h2] at z2
  exact (Option.some.inj z2).symm
theorem fn_okS {CX : CXT} {P : Program} {w : World} {K : PySem.W.Frag} {mg : Str → Option Value} {base : Heap} {x qual : Str} {params : Arguments} {body : List Stmt} {scope : Scope} {dvs : List V} {kws : List (Str × V)} {f cc : Addr} {fd : FuncData} {N ps : List Str} {k : Nat} {T : Tb} {mu : Nat → Bool} {iop bop : List Nat} {ro : Bool} {m : SM}
    (F : FunDS K x qual params body scope dvs kws cc f fd) (S : FnScopeS N ps scope) (hl : ps.length ≤ N.length) (hmu : ∀ i, i < ps.length → mu i = iop.contains i) (hio : ∀ j ∈ iop, j < ps.length) (hbo : ∀ i, i < ps.length → mu (BOR + i) = bop.contains i) (hro : mu RES = ro)
    (hbody : ∀ (cdv : Value) (A : Around) (outer : List Env) (s : Shared) (H : Hp) (vs : List V) (E : XK), (∃ (oc : Value) (od : Option Addr) (dV kV doc pm : Value) (an : Option Addr) (ct : Value) (osl : Array (Option Value)), K.lookup f = some ⟨oc, od, .func (PySem.W.ksFn x qual params body scope dV kV doc pm an cdv ct cc), osl⟩) → PySem.W.codeIn K cdv qual = true → Room k (A.deeper (PySem.W.ksEnv qual scope s.heap.objs.size f cdv cc)) →
      SSa (cxS CX P w K mg base N qual scope f cdv cc A outer s H E) T E mu (iop.map fun j => (j, vs.getD j .non)) body body m) :
    FnOk P w K mg base CX (k + 1) f fd ps (spG K T iop bop ro ps.length (runF N.length iop ro m)) := by
  obtain ⟨oc, od, dV, kV, doc, pm, an, cdv, ct, osl, rfl, lk, hcd, _, _⟩ := F.ex
  refine ⟨fun vs H Q E h => h.1, fun A outer s H args us vs Q E hr e0 hb r hsp => ?_⟩
  have hvl : vs.length = ps.length := hsp.1
  obtain ⟨_, O, vals, tr, hA, q⟩ := hsp
  have KX : K.In s.heap := e0.mod.kin.keeps fun b o e => (e0.bs b o e).1
  have lim : s.heap.NoLimit := e0.mod.nolimit.keeps fun b o e => (e0.bs b o e).1
  have pp : (ps.zip us).length = ps.length := by rw [List.length_zip, ← r.length, hvl, Nat.min_self]
  refine ks_codeAny_call_defAt (fd := PySem.W.ksFn x qual params body scope dV kV doc pm an cdv ct cc) (body := body) (binds := ps.zip us) hr.depth (KX _ _ lk) rfl lim (PySem.W.codeRec_of KX hcd) rfl hb S.nocell (fun y hy => S.par _ (List.of_mem_zip hy).1) (fun h₁ hns hk => ?_) S.co S.gen S.kind
  have e0c := e0
  obtain ⟨oce, ve, hce, hced⟩ := F.ce
  have hccb : base.get? cc = some oce := e0.mod.kin cc oce hce
  have noA : ∀ b : Addr, b ∉ (cxS CX P w K mg base N qual scope f cdv cc A outer s H E).ex := fun b z => absurd (show b ∈ ([] : List Addr) from z) (by simp)
  have I : Inv (cxS CX P w K mg base N qual scope f cdv cc A outer s H E) [] (start N vs) H { s with heap := h₁, toks := s.toks + (ps.zip us).length } := by
    refine ⟨⟨e0.mod, S.kind, rfl, rfl, Nat.le_refl _, fun y z c h1 h2 => ?_, fun y hy => ?_, fun y c hf h => ?_, fun _ => hr.hd, Around.frames_deeper e0.frames, .inr ⟨rfl, rfl⟩, fun b z => absurd z (noA b), e0.bs, e0.bsz, fun b _ _ => noA b, fun b z => absurd z (noA b), e0.funs, e0.frf⟩,
      rfl, e0.bare, Un.kept hk, ⟨_, hns, fun i y v h1 h2 h3 => ?_⟩, fun y c h => ?_, e0.hok.fresh (Nat.le_refl _), fun y c h => ?_, fun p hp => absurd (show p ∈ ([] : List (Addr × Obj)) from hp) (by simp), e0.hok.kept hk, ?_⟩
    · have a1 : y = ("__class__" : Str) := by
        have h1' : List.lookup y [(("__class__" : Str), cc)] = some c := h1
        by_cases e : y = ("__class__" : Str)
        · exact e
        · have : (y == ("__class__" : Str)) = false := by simpa using e
          simp [List.lookup, this] at h1'
      have a2 : z = ("__class__" : Str) := by
        have h1' : List.lookup z [(("__class__" : Str), cc)] = some c := h2
        by_cases e : z = ("__class__" : Str)
        · exact e
        · have : (z == ("__class__" : Str)) = false := by simpa using e
          simp [List.lookup, this] at h1'
      rw [a1, a2]
    · have hy : scope.names.lookup y = some .cell ∨ scope.names.lookup y = some .free := hy
      rcases hy with hy | hy
      · exact absurd rfl (S.nocell _ (PySem.mem_of_lookup hy))
      · rw [S.free y hy]
        exact ⟨cc, List.lookup_cons_self⟩
    · exfalso
      have hf : (y != ("__class__" : Str)) = true := hf
      have h1' : List.lookup y [(("__class__" : Str), cc)] = some c := h
      have : (y == ("__class__" : Str)) = false := by simpa using hf
      simp [List.lookup, this] at h1'
    · have hi : i < vs.length := by
        unfold L2.start at h2
        by_cases hi : i < vs.length
        · exact hi
        · rw [List.getElem?_append_right (by simpa using hi)] at h2
          rw [List.getElem?_replicate] at h2
          split at h2 <;> cases h2
      have ha : vs[i]? = some v := by
        unfold L2.start at h2
        rw [List.getElem?_append_left (by simpa using hi), List.getElem?_map] at h2
        cases e : vs[i]? with
        | none => rw [e] at h2; cases h2
        | some a => rw [e] at h2; cases h2; rfl
      obtain ⟨u, hu, rv⟩ := r.get ha
      have hp : ps[i]? = some y := by
        rw [← S.pre, List.getElem?_take_of_lt (by omega)]; exact h1
      have ndP : ps.Nodup := by rw [← S.pre]; exact S.nd.sublist (List.take_sublist _ _)
      refine ⟨u, rv, .inl ⟨S.par y (List.mem_of_getElem? hp), ?_⟩⟩
      refine lookup_of_mem (List.mem_reverse.mpr (List.mem_of_getElem? (i := i) (List.getElem?_zip_eq_some.mpr ⟨hp, hu⟩))) fun v' hv' => ?_
      exact zip_uniq ndP hp hu (List.mem_reverse.mp hv')
    · have h1' : List.lookup y [(("__class__" : Str), cc)] = some c := h
      by_cases e : y = ("__class__" : Str)
      · subst e
        rw [List.lookup_cons_self] at h1'
        cases h1'
        exact ⟨ve, oce, hk _ _ (e0.bs _ _ hccb).1, hced⟩
      · have : (y == ("__class__" : Str)) = false := by simpa using e
        simp [List.lookup, this] at h1'
    · have h1' : List.lookup y [(("__class__" : Str), cc)] = some c := h
      by_cases e : y = ("__class__" : Str)
      · subst e
        rw [List.lookup_cons_self] at h1'
        cases h1'
        exact (e0.bs _ _ hccb).2
      · have : (y == ("__class__" : Str)) = false := by simpa using e
        simp [List.lookup, this] at h1'
    · unfold L2.start
      show _ = N.length
      rw [List.length_append, List.length_map, List.length_replicate]
      omega
  have hmu' : ∀ i, iop.contains i = true → mu i = true := fun i hi => by
    rw [hmu i (hio i (by simpa using hi))]; exact hi
  have hrun := (hbody cdv A outer s H vs E ⟨oc, od, dV, kV, doc, pm, an, ct, osl, lk⟩ hcd (hr.deeper _)).run _ (start N vs) H { nx := fun _ H' => Q .non H', rt := Q } I ⟨O, initF N.length vals, Rl.start tr hA (by omega) (fun i hi => hmu i (by omega)) (fun i hi => hbo i (by omega)) (fun j hj => by have := hio j hj; omega), ?_⟩
  · refine ks_wpAt_mono hrun (fun fl s' hs => ?_) fun e s' hs => hs
    have fin : ∀ {σ' : St} {H' : Hp} {v : V} {u : Value}, Inv (cxS CX P w K mg base N qual scope f cdv cc A outer s H E) [] σ' H' s' → RelV v u → Q v H' → CE outer P w H s Q u s' :=
      fun {σ' H' v u} J rv q => ⟨v, H', J.os, J.bare, J.base, J.hok, rv, q⟩
    cases fl with
    | ret u =>
      obtain ⟨v, σ', H', J, rv, q⟩ := hs
      exact fin J rv q
    | next =>
      obtain ⟨σ', H', J, q⟩ := hs
      exact fin (v := V.non) (u := Value.none) J rfl q
    | brk =>
      obtain ⟨_, _, _, q⟩ := hs
      exact False.elim q
    | cont =>
      obtain ⟨_, _, _, q⟩ := hs
      exact False.elim q
  · unfold runF at q
    cases hm : m (initF N.length vals) with
    | bad => rw [hm] at q; exact q
    | exc e => rw [hm] at q; exact q
    | ok p =>
      obtain ⟨fl, fr'⟩ := p
      rw [hm] at q
      simp only [SK.R.bind_ok] at q
      have fin : ∀ (v : Val) (x : V) (O' : Own) (H' : Hp) (σ' : St) (outs : List Val), outsOf fr' iop = some outs → Fm O H O' H' → Rl K T mu (iop.map fun j => (j, vs.getD j .non)) O' fr' σ' H' → RsR K T O' H' mu v x →
          (∀ O' H' x, Fm O H O' H' → (∀ a, O' a ≠ none → H' a ≠ none) → OutsR K T O' H' vs iop outs → RtR K T ro RES O' H' v x → Q x H') → Q x H' := fun v x O' H' σ' outs ho F' R' V' g =>
        g O' H' x F' R'.trk (outs_ok hmu' (fun j hj => by have := hio j hj; omega) R' (fun j h => h) ho) (by
          unfold RtR; rw [← hro]; exact V')
      cases fl with
      | bk => exact q.elim
      | ct => exact q.elim
      | nx =>
        cases ro with
        | true => exact q.elim
        | false =>
          simp only [Bool.false_eq_true, if_false] at q
          cases ho : outsOf fr' iop with
          | none => rw [ho] at q; exact q.elim
          | some outs =>
            rw [ho] at q
            exact fun O' H' σ' F' R' => fin .non .non O' H' σ' outs ho F' R' (rsr_val hro (by unfold VR; rfl)) q
      | rt v =>
        cases ho : outsOf fr' iop with
        | none => rw [ho] at q; exact q.elim
        | some outs =>
          rw [ho] at q
          exact fun O' H' σ' x F' R' V' => fin v x O' H' σ' outs ho F' R' V' q
end SK

set_option maxHeartbeats 1000000
/-! SK16: what the kernel sees of the text behind the top: defs with their defaults, facts about classes. -/
noncomputable section
namespace SK
open PySem L2 PySem.Spec He

/-! ### values that stand in the text -/
mutual
def vrB (K : PySem.W.Frag) : Val → Value → Bool
  | .non, u => (match u with
    | .none => true
    | _ => false)
  | .bl b, u => (match u with
    | .bool c => b == c
    | _ => false)
  | .int i, u => (match u with
    | .int j _ => i == j
    | _ => false)
  | .str s, u => (match u with
    | .str z _ => z.cps.toList == s
    | _ => false)
  | .tup xs, u => (match u with
    | .ref a => (match K.lookup a with
      | some ⟨.type c, _, .seq its _, _⟩ => decide (c = "tuple") && (decide (its.size ≤ sizeLine) && vrsB K xs its.toList)
      | _ => false)
    | _ => false)
  | _, _ => false
def vrsB (K : PySem.W.Frag) : List Val → List Value → Bool
  | [], us => us.isEmpty
  | v :: vs, us => (match us with
    | u :: us => vrB K v u && vrsB K vs us
    | [] => false)
end
mutual
theorem vrB_ok {K : PySem.W.Frag} : ∀ (v : Val) (u : Value), vrB K v u = true → ∃ x : V, RelV x u ∧ ∀ T O H, VR K T O H v x
  | .non, u, h => by
    unfold vrB at h
    split at h
    · exact ⟨.non, rfl, fun _ _ _ => vr_non⟩
    · cases h
  | .bl b, u, h => by
    unfold vrB at h
    split at h
    · rw [eq_of_beq h]; exact ⟨.bl _, rfl, fun _ _ _ => vr_bl⟩
    · cases h
  | .int b, u, h => by
    unfold vrB at h
    split at h
    · rw [eq_of_beq h]; exact ⟨.int _, ⟨_, rfl⟩, fun _ _ _ => vr_int⟩
    · cases h
  | .str b, u, h => by
    unfold vrB at h
    split at h
    · rw [← eq_of_beq h]; exact ⟨.str _, ⟨_, rfl⟩, fun _ _ _ => vr_str⟩
    · cases h
  | .tup xs, u, h => by
    unfold vrB at h
    split at h
    · rename_i a
      split at h
      · rename_i c od its n sl hk
        rw [Bool.and_eq_true, Bool.and_eq_true] at h
        obtain ⟨h1, h2, h3⟩ := h
        obtain ⟨vs, r, q⟩ := vrsB_ok xs its.toList h3
        refine ⟨.ref a, rfl, fun T O H => ?_⟩
        unfold VR
        exact ⟨a, vs, rfl, .inr fun H' => .inr ⟨_, its, n, hk, congrArg Value.type (of_decide_eq_true h1), rfl, of_decide_eq_true h2, r⟩, q T O H⟩
      · cases h
    · cases h
  | .lst _, u, h => by unfold vrB at h; cases h
  | .dic _ _, u, h => by unfold vrB at h; cases h
  | .ins _ _ _, u, h => by unfold vrB at h; cases h
  | .scr _, u, h => by unfold vrB at h; cases h
theorem vrsB_ok {K : PySem.W.Frag} : ∀ (vs : List Val) (us : List Value), vrsB K vs us = true → ∃ xs : List V, Vals xs us ∧ ∀ T O H, VRs K T O H vs xs
  | [], us, h => by
    unfold vrsB at h
    cases us with
    | nil => exact ⟨[], .nil, fun _ _ _ => .nil⟩
    | cons u us => cases h
  | v :: vs, us, h => by
    unfold vrsB at h
    split at h
    · rename_i u us
      rw [Bool.and_eq_true] at h
      obtain ⟨x, r, q⟩ := vrB_ok v u h.1
      obtain ⟨xs, rs, qs⟩ := vrsB_ok vs us h.2
      exact ⟨x :: xs, .cons r rs, fun T O H => .cons (q T O H) (qs T O H)⟩
    · cases h
end
/-! ### defs -/
def dflX (K : PySem.W.Frag) (dV : Value) (dfl : List Val) : Bool := match dfl with
  | [] => (match dV with
    | .none => true
    | _ => false)
  | v :: vs => (match dV with
    | .ref T => (match K.lookup T with
      | some ⟨_, _, .seq its _, _⟩ => vrsB K (v :: vs) its.toList
      | _ => false)
    | _ => false)
theorem dflX_ok {K : PySem.W.Frag} {dV : Value} {dfl : List Val} (h : dflX K dV dfl = true) : ∃ dvs, DflV K dV dvs ∧ ∀ T O H, VRs K T O H dfl dvs := by
  unfold dflX at h
  split at h
  · split at h
    · exact ⟨[], .inl ⟨rfl, rfl⟩, fun _ _ _ => .nil⟩
    · cases h
  · rename_i v vs
    split at h
    · rename_i T
      split at h
      · rename_i oc od its n osl hk
        obtain ⟨xs, r, q⟩ := vrsB_ok _ _ h
        refine ⟨xs, .inr ⟨?_, T, _, its.toList, n, rfl, hk, by simp, r⟩, q⟩
        intro e
        have := (q ⟨fun _ => 0, 0, fun _ => "", fun _ _ => false, fun _ _ => False⟩ ON (fun _ => none)).len
        rw [e] at this
        simp at this
      · cases h
    · cases h
def kwdX (K : PySem.W.Frag) (kV : Value) (kwd : List (Str × Val)) : Bool := match kwd with
  | [] => true
  | q :: qs => (match kV with
    | .ref D => (q :: qs).all fun q => (match PySem.W.nsIn K D q.1 with
      | some (some u) => vrB K q.2 u
      | _ => false)
    | _ => false)
theorem kwdX_ok {K : PySem.W.Frag} {kV : Value} {kwd : List (Str × Val)} (h : kwdX K kV kwd = true) : ∃ kws, KwdV K kV kws ∧ kws.map (·.1) = kwd.map (·.1) ∧ ∀ T O H, VRs K T O H (kwd.map (·.2)) (kws.map (·.2)) := by
  unfold kwdX at h
  split at h
  · exact ⟨[], .inl rfl, rfl, fun _ _ _ => .nil⟩
  · rename_i q qs
    split at h
    · rename_i D
      have key : ∀ l : List (Str × Val), (l.all fun q => (match PySem.W.nsIn K D q.1 with
          | some (some u) => vrB K q.2 u
          | _ => false)) = true → ∃ kws : List (Str × V), (∀ q ∈ kws, ∃ u, PySem.W.nsIn K D q.1 = some (some u) ∧ RelV q.2 u) ∧ kws.map (·.1) = l.map (·.1) ∧ ∀ T O H, VRs K T O H (l.map (·.2)) (kws.map (·.2)) := by
        intro l
        induction l with
        | nil => intro _; exact ⟨[], fun q hq => (by cases hq), rfl, fun _ _ _ => VRs.nil⟩
        | cons p r ih =>
          intro h
          rw [List.all_cons, Bool.and_eq_true] at h
          obtain ⟨kws, a, b, c⟩ := ih h.2
          have h1 := h.1
          split at h1
          · rename_i u hu
            obtain ⟨x, rx, vx⟩ := vrB_ok _ _ h1
            refine ⟨(p.1, x) :: kws, fun q hq => ?_, by rw [List.map_cons, List.map_cons, b], fun T O H => .cons (vx T O H) (c T O H)⟩
            rcases List.mem_cons.mp hq with rfl | hq
            · exact ⟨u, hu, rx⟩
            · exact a q hq
          · cases h1
      obtain ⟨kws, a, b, c⟩ := key _ h
      exact ⟨kws, .inr ⟨D, rfl, a⟩, b, c⟩
    · cases h
/-- how a def's function object is made up, for binding -/
structure FunB (K : PySem.W.Frag) (params : Arguments) (dvs : List V) (kws : List (Str × V)) (fd : FuncData) : Prop where
  ex : ∃ (x qual : Str) (body : List Stmt) (scope : Scope) (cl : List (Str × Addr)) (dV kV doc pm : Value) (an : Option Addr) (cdv ct : Value), fd = PySem.W.fnX x qual params body scope cl dV kV doc pm an cdv ct ∧ DflV K dV dvs ∧ KwdV K kV kws
section
variable {K : PySem.W.Frag} {params : Arguments} {dvs : List V} {kws : List (Str × V)} {fd : FuncData} {ps : List Str}
theorem FunD.b {x qual : Str} {body : List Stmt} {scope : Scope} {f : Addr} (F : FunD K x qual params body scope dvs kws f fd) : FunB K params dvs kws fd := by
  obtain ⟨oc, od, dV, kV, doc, pm, an, cdv, ct, osl, e, lk, hcd, hD, hK⟩ := F.ex
  exact ⟨x, qual, body, scope, [], dV, kV, doc, pm, an, cdv, ct, e, hD, hK⟩
theorem FunDS.b {x qual : Str} {body : List Stmt} {scope : Scope} {f cc : Addr} (F : FunDS K x qual params body scope dvs kws cc f fd) : FunB K params dvs kws fd := by
  obtain ⟨oc, od, dV, kV, doc, pm, an, cdv, ct, osl, e, lk, hcd, hD, hK⟩ := F.ex
  exact ⟨x, qual, body, scope, _, dV, kV, doc, pm, an, cdv, ct, e, hD, hK⟩
/-- no defaults in the text -/
theorem FunB.n0 (F : FunB K params [] kws fd) (h : ∀ (x qual : Str) (body : List Stmt) (scope : Scope) (cl : List (Str × Addr)) (kV doc pm : Value) (an : Option Addr) (cdv ct : Value) (us : List Value), us.length = ps.length → bindArgs (PySem.W.fnX x qual params body scope cl .none kV doc pm an cdv ct) ⟨us, []⟩ = pure (ps.zip us)) : Binds K fd ps [] := by
  obtain ⟨x, qual, body, scope, cl, dV, kV, doc, pm, an, cdv, ct, rfl, hD, hK⟩ := F.ex
  rcases hD with ⟨_, rfl⟩ | ⟨e, _⟩
  · exact .all (h x qual body scope cl kV doc pm an cdv ct)
  · exact absurd rfl e
/-- defaults for places; n values, keywords ks; no keyword-only parameter lacks -/
theorem FunB.n1 (F : FunB K params dvs kws fd) (hd : dvs ≠ []) (n : Nat) (ks : List Str) (g : {α : Type} → List α → List α → List α → List α) (hrel : ∀ {vs ds zs : List V} {us its ws : List Value}, Vals vs us → Vals ds its → Vals zs ws → Vals (g vs ds zs) (g us its ws))
    (h : ∀ (x qual : Str) (body : List Stmt) (scope : Scope) (cl : List (Str × Addr)) (T : Addr) (kV doc pm : Value) (an : Option Addr) (cdv ct : Value) (us its ws : List Value), us.length = n → its.length = dvs.length → ws.length = ks.length →
      ∃ k, bindArgs (PySem.W.fnX x qual params body scope cl (.ref T) kV doc pm an cdv ct) ⟨us, ks.zip ws⟩ = seqItems? (.ref T) >>= k ∧ k (some its.toArray) = pure (ps.zip (g us its ws))) :
    ∃ its : List Value, Vals dvs its ∧ KBn K fd ps n ks (fun us ws => g us its ws) (fun vs zs => g vs dvs zs) := by
  obtain ⟨x, qual, body, scope, cl, dV, kV, doc, pm, an, cdv, ct, rfl, hD, hK⟩ := F.ex
  rcases hD with ⟨e, _⟩ | ⟨_, T, o, its, m, rfl, lT, oT, rT⟩
  · exact absurd e hd
  · refine ⟨its, rT, ⟨fun s us ws X l1 l2 => ?_, fun r1 r2 => hrel r1 rT r2⟩⟩
    obtain ⟨k, e1, e2⟩ := h x qual body scope cl T kV doc pm an cdv ct us its ws l1 rT.length.symm l2
    refine BindsTo.of_looks fun M => ?_
    rw [e1]
    exact looks_items X lT oT (.of_pure e2)
/-- defaults for places and for keyword-only parameters (all of these lack) -/
theorem FunB.n2 (F : FunB K params dvs kws fd) (hd : dvs ≠ []) (hk : kws ≠ []) (n : Nat) (g : {α : Type} → List α → List α → List α → List α) (hrel : ∀ {vs ds zs : List V} {us its ws : List Value}, Vals vs us → Vals ds its → Vals zs ws → Vals (g vs ds zs) (g us its ws))
    (h : ∀ (x qual : Str) (body : List Stmt) (scope : Scope) (cl : List (Str × Addr)) (T D : Addr) (doc pm : Value) (an : Option Addr) (cdv ct : Value) (us its mv : List Value), us.length = n → its.length = dvs.length → mv.length = kws.length →
      ∃ k, bindArgs (PySem.W.fnX x qual params body scope cl (.ref T) (.ref D) doc pm an cdv ct) ⟨us, []⟩ = seqItems? (.ref T) >>= k ∧ KwChain D ((kws.map (·.1)).zip mv) (k (some its.toArray)) (ps.zip (g us its mv))) :
    ∃ its mv : List Value, Vals dvs its ∧ Vals (kws.map (·.2)) mv ∧ KBn K fd ps n [] (fun us ws => g us its mv) (fun vs zs => g vs dvs (kws.map (·.2))) := by
  obtain ⟨x, qual, body, scope, cl, dV, kV, doc, pm, an, cdv, ct, rfl, hD, hK⟩ := F.ex
  rcases hD with ⟨e, _⟩ | ⟨_, T, o, its, m, rfl, lT, oT, rT⟩
  · exact absurd e hd
  · rcases hK with e | ⟨D, rfl, hq⟩
    · exact absurd e hk
    · obtain ⟨mv, hl, rk, hks⟩ := kwd_vals hq
      refine ⟨its, mv, rT, rk, ⟨fun s us ws X l1 l2 => ?_, fun r1 r2 => hrel r1 rT rk⟩⟩
      obtain ⟨k, e1, e2⟩ := h x qual body scope cl T D doc pm an cdv ct us its mv l1 rT.length.symm hl
      have ew : ws = [] := List.eq_nil_of_length_eq_zero l2
      subst ew
      refine BindsTo.of_looks fun M => ?_
      show PySem.W.Looks M s.heap (bindArgs _ ⟨us, []⟩) _
      rw [e1]
      exact looks_items X lT oT (KwChain.looks X hks e2)
theorem KBn.binds {n : Nat} {g : List Value → List Value → List Value} {gV : List V → List V → List V} {ds : List Value} (b : KBn K fd ps n [] g gV) (hg : ∀ us, us.length = n → g us [] = us ++ ds) (hl : n + ds.length = ps.length) : Binds K fd ps ds := fun s us X h => by
  have h1 : us.length = n := by rw [List.length_append] at h; omega
  have := b.to s us [] X h1 rfl
  rw [hg us h1] at this
  exact this
end
/-! ### the defs of a text, as the kernel sees them -/
abbrev FnX : Type := Option (Str × Str × Arguments × FuncBody × Scope × Addr × List Str × Addr)
def fnO (K : PySem.W.Frag) (a : Addr) : FnX := match K.lookup a with
  | some ⟨_, _, .func fd, _⟩ => some (fd.name, fd.qualname, fd.params, fd.body, fd.scope, fd.globals, fd.closure.map (·.1), fd.builtins)
  | _ => none
/-- the def within a staticmethod -/
def smA (K : PySem.W.Frag) (C : Addr) (m : Str) : Addr := match PySem.W.recIn K (ma K C m) "staticmethod" with
  | some (.ref f :: _) => f
  | _ => 0
/-- where it stands, its name, qualified name, parameters, body, scope; whether it says super(); its defaults -/
structure DefX where
  at_ : Str × Option Str
  name : Str
  qual : Str
  params : Arguments
  body : List Stmt
  scope : Scope
  sup : Bool := false
  stat : Bool := false
  dfl : List Val := []
  kwd : List (Str × Val) := []
def DefX.ad (K : PySem.W.Frag) (d : DefX) : Addr := match d.stat with
  | true => smA K (ga K d.at_.1) (d.at_.2.getD "")
  | false => fAd K d.at_
def DefX.val (d : DefX) : FnX := some (d.name, d.qual, d.params, .stmts d.body, d.scope, mainGlobals, if d.sup = true then [("__class__" : Str)] else [], builtinsNs)
/-- its cell -/
def ccOf (K : PySem.W.Frag) (p : Str × Option Str) : Addr := match K.lookup (fAd K p) with
  | some ⟨_, _, .func fd, _⟩ => (match fd.closure with
    | q :: _ => q.2
    | [] => 0)
  | _ => 0
def isCell (K : PySem.W.Frag) (c : Addr) : Bool := match K.lookup c with
  | some o => (match o.data with
    | .cell _ => true
    | _ => false)
  | none => false
def DefX.ok (K : PySem.W.Frag) (d : DefX) : Bool := PySem.W.keepIn K (.ref (d.ad K)) && (match K.lookup (d.ad K) with
  | some ⟨_, _, .func fd, _⟩ => PySem.W.codeIn K fd.code d.qual && (dflX K fd.defaults d.dfl && kwdX K fd.kwdefaults d.kwd)
  | _ => false) && (!d.sup || isCell K (ccOf K d.at_))
/-- its function object's data -/
def fdO (K : PySem.W.Frag) (a : Addr) : FuncData := match K.lookup a with
  | some ⟨_, _, .func fd, _⟩ => fd
  | _ => PySem.W.fnOf "" "" { posonlyargs := [], args := [], vararg := none, kwonlyargs := [], kw_defaults := [], kwarg := none, defaults := [] } [] { kind := .function, names := [], isGenerator := false, isCoroutine := false } .none .none .none .none none .none .none
def fdA (K : PySem.W.Frag) (p : Str × Option Str) : FuncData := fdO K (fAd K p)
theorem DefX.funD {K : PySem.W.Frag} {d : DefX} (hs : d.sup = false) (e : fnO K (d.ad K) = d.val) (c : d.ok K = true) :
    ∃ dvs kws, FunD K d.name d.qual d.params d.body d.scope dvs kws (d.ad K) (fdO K (d.ad K)) ∧ (∀ T O H, VRs K T O H d.dfl dvs) ∧ kws.map (·.1) = d.kwd.map (·.1) ∧ ∀ T O H, VRs K T O H (d.kwd.map (·.2)) (kws.map (·.2)) := by
  obtain ⟨c1, _⟩ := ba c
  obtain ⟨kp, c2⟩ := ba c1
  unfold fnO at e
  cases q : K.lookup (d.ad K) with
  | none => rw [q] at c2; cases c2
  | some o =>
    obtain ⟨oc, od, dt, osl⟩ := o
    rw [q] at c2 e
    cases dt with
    | func fd =>
      have efd : fdO K (d.ad K) = fd := by unfold fdO; rw [q]
      rw [efd]
      obtain ⟨n1, n2, n3, n4, n5, n6, n7, n8, n9, n10, n11, n12, n13, n14, n15⟩ := fd
      have e2 : (some (n1, n2, n3, n4, n5, n6, n7.map (·.1), n15) : FnX) = some (d.name, d.qual, d.params, .stmts d.body, d.scope, mainGlobals, if d.sup = true then [("__class__" : Str)] else [], builtinsNs) := e
      rw [hs] at e2
      simp only [Option.some.injEq, Prod.mk.injEq, Bool.false_eq_true, if_false] at e2
      obtain ⟨h1, h2, h3, h4, h5, h6, h7, h8⟩ := e2
      have h7 : n7 = [] := List.map_eq_nil_iff.mp h7
      subst h1 h2 h3 h4 h5 h6 h7 h8
      obtain ⟨k1, k2⟩ := ba (show (PySem.W.codeIn K n13 d.qual && (dflX K n8 d.dfl && kwdX K n9 d.kwd)) = true from c2)
      obtain ⟨k3, k4⟩ := ba k2
      obtain ⟨dvs, g1, g2⟩ := dflX_ok k3
      obtain ⟨kws, g3, g4, g5⟩ := kwdX_ok k4
      exact ⟨dvs, kws, ⟨⟨oc, od, n8, n9, n10, n11, n12, n13, n14, osl, rfl, q, k1, g1, g3⟩, kp⟩, g2, g4, g5⟩
    | _ => cases c2
theorem DefX.funDS {K : PySem.W.Frag} {d : DefX} (hs : d.sup = true) (ht : d.stat = false) (e : fnO K (d.ad K) = d.val) (c : d.ok K = true) :
    ∃ dvs kws, FunDS K d.name d.qual d.params d.body d.scope dvs kws (ccOf K d.at_) (fAd K d.at_) (fdA K d.at_) ∧ (∀ T O H, VRs K T O H d.dfl dvs) ∧ kws.map (·.1) = d.kwd.map (·.1) ∧ ∀ T O H, VRs K T O H (d.kwd.map (·.2)) (kws.map (·.2)) := by
  have had : d.ad K = fAd K d.at_ := by unfold DefX.ad; rw [ht]
  unfold DefX.ok at c
  rw [had] at e c
  obtain ⟨c1, cc⟩ := ba c
  obtain ⟨kp, c2⟩ := ba c1
  rw [hs] at cc
  have cc : isCell K (ccOf K d.at_) = true := cc
  have hce : ∃ (o : Obj) (v : Option Value), K.lookup (ccOf K d.at_) = some o ∧ o.data = .cell v := by
    unfold isCell at cc
    split at cc
    · rename_i o ho
      split at cc
      · rename_i v hv; exact ⟨o, v, ho, hv⟩
      · cases cc
    · cases cc
  unfold fnO at e
  cases q : K.lookup (fAd K d.at_) with
  | none => rw [q] at c2; cases c2
  | some o =>
    obtain ⟨oc, od, dt, osl⟩ := o
    rw [q] at c2 e
    cases dt with
    | func fd =>
      have efd : fdA K d.at_ = fd := by unfold fdA fdO; rw [q]
      rw [efd]
      have ecc : ccOf K d.at_ = (match fd.closure with
        | q :: _ => q.2
        | [] => 0) := by unfold ccOf; rw [q]
      obtain ⟨n1, n2, n3, n4, n5, n6, n7, n8, n9, n10, n11, n12, n13, n14, n15⟩ := fd
      have e2 : (some (n1, n2, n3, n4, n5, n6, n7.map (·.1), n15) : FnX) = some (d.name, d.qual, d.params, .stmts d.body, d.scope, mainGlobals, if d.sup = true then [("__class__" : Str)] else [], builtinsNs) := e
      rw [hs] at e2
      simp only [Option.some.injEq, Prod.mk.injEq, if_true] at e2
      obtain ⟨h1, h2, h3, h4, h5, h6, h7, h8⟩ := e2
      cases n7 with
      | nil => cases h7
      | cons p r =>
        cases r with
        | cons _ _ => simp at h7
        | nil =>
          obtain ⟨pn, pc⟩ := p
          have hp : pn = ("__class__" : Str) := by simpa using h7
          have ecc : ccOf K d.at_ = pc := ecc
          rw [ecc] at hce ⊢
          subst h1 h2 h3 h4 h5 h6 hp h8
          obtain ⟨k1, k2⟩ := ba (show (PySem.W.codeIn K n13 d.qual && (dflX K n8 d.dfl && kwdX K n9 d.kwd)) = true from c2)
          obtain ⟨k3, k4⟩ := ba k2
          obtain ⟨dvs, g1, g2⟩ := dflX_ok k3
          obtain ⟨kws, g3, g4, g5⟩ := kwdX_ok k4
          exact ⟨dvs, kws, ⟨⟨oc, od, n8, n9, n10, n11, n12, n13, n14, osl, rfl, q, k1, g1, g3⟩, kp, hce⟩, g2, g4, g5⟩
    | _ => cases c2
/-! ### the Hook -/
abbrev AlX : Type := Bool × List FnX
def obsX (ck : List (PySem.W.Frag → Bool)) (fn : List DefX) (K : PySem.W.Frag) : AlX := ((ck.all fun f => f K) && fn.all fun d => d.ok K, fn.map fun d => fnO K (d.ad K))
def valX (fn : List DefX) : AlX := (true, fn.map DefX.val)
def SaysX (ck : List (PySem.W.Frag → Bool)) (fn : List DefX) (K : PySem.W.Frag) : Prop := obsX ck fn K = valX fn
def obsXG (n : Nat) (ck : List (PySem.W.Frag → Bool)) (fn : List DefX) (g : Addr → Option Obj) : AlX := obsX ck fn (frG g (cStatics :: asD g n))
def hookX (n : Nat) (ck : List (PySem.W.Frag → Bool)) (fn : List DefX) : PySem.W.Hook where
  α := AlX
  obs := fun s => obsXG n ck fn s.heap.get?
  val := fun _ => valX fn
  says := fun _ h => ∃ K : PySem.W.Frag, K.In h ∧ SaysX ck fn K
  of := fun _ _ e => ⟨_, frG_in, e⟩
  keeps := fun _ _ _ ⟨K, hK, c⟩ k => ⟨K, PySem.W.Frag.In.keeps hK k, c⟩
theorem obsXG_eq {n : Nat} {ck : List (PySem.W.Frag → Bool)} {fn : List DefX} {g : Addr → Option Obj} {s : Shared} (h : ∀ a, g a = s.heap.get? a) : obsXG n ck fn g = (hookX n ck fn).obs s := by
  have e : g = s.heap.get? := funext h
  rw [e] <;> rfl
section
variable {ck : List (PySem.W.Frag → Bool)} {fn : List DefX} {K : PySem.W.Frag}
theorem SaysX.fact (c : SaysX ck fn K) (i : Nat) {f : PySem.W.Frag → Bool} (h : ck[i]? = some f := by rfl) : f K = true := by
  have c1 := (ba (show ((ck.all fun f => f K) && fn.all fun d => d.ok K) = true from congrArg (fun z : AlX => z.1) c)).1
  exact List.all_eq_true.mp c1 f (List.mem_of_getElem? h)
theorem SaysX.def0 (c : SaysX ck fn K) (i : Nat) {d : DefX} (h : fn[i]? = some d) : fnO K (d.ad K) = d.val ∧ d.ok K = true := by
  have c2 := (ba (show ((ck.all fun f => f K) && fn.all fun d => d.ok K) = true from congrArg (fun z : AlX => z.1) c)).2
  have e : fn.map (fun d => fnO K (d.ad K)) = fn.map DefX.val := congrArg (fun z : AlX => z.2) c
  have e2 : (fn.map fun d => fnO K (d.ad K))[i]? = (fn.map DefX.val)[i]? := by rw [e]
  rw [List.getElem?_map, List.getElem?_map, h] at e2
  exact ⟨Option.some.inj e2, List.all_eq_true.mp c2 d (List.mem_of_getElem? h)⟩
theorem SaysX.def_ (c : SaysX ck fn K) (i : Nat) {d : DefX} (h : fn[i]? = some d := by rfl) (hs : d.sup = false := by rfl) :
    ∃ dvs kws, FunD K d.name d.qual d.params d.body d.scope dvs kws (d.ad K) (fdO K (d.ad K)) ∧ (∀ T O H, VRs K T O H d.dfl dvs) ∧ kws.map (·.1) = d.kwd.map (·.1) ∧ ∀ T O H, VRs K T O H (d.kwd.map (·.2)) (kws.map (·.2)) := DefX.funD hs (c.def0 i h).1 (c.def0 i h).2
theorem SaysX.defS (c : SaysX ck fn K) (i : Nat) {d : DefX} (h : fn[i]? = some d := by rfl) (hs : d.sup = true := by rfl) (ht : d.stat = false := by rfl) :
    ∃ dvs kws, FunDS K d.name d.qual d.params d.body d.scope dvs kws (ccOf K d.at_) (fAd K d.at_) (fdA K d.at_) ∧ (∀ T O H, VRs K T O H d.dfl dvs) ∧ kws.map (·.1) = d.kwd.map (·.1) ∧ ∀ T O H, VRs K T O H (d.kwd.map (·.2)) (kws.map (·.2)) := DefX.funDS hs ht (c.def0 i h).1 (c.def0 i h).2
end
/-! ### facts about names and classes -/
def gloB (x : Str) (K : PySem.W.Frag) : Bool := (Fa.glo x).ok K
def freeB (x : Str) (K : PySem.W.Frag) : Bool := (Fa.free x).ok K
/-- a module's constant, as a value -/
def conB (x : Str) (v : Val) (K : PySem.W.Frag) : Bool := match PySem.W.nsIn K mainGlobals x with
  | some (some u) => vrB K v u
  | _ => false
theorem conB_ok {K : PySem.W.Frag} {h : Heap} {mg : Str → Option Value} (X : K.In h) (G : h.Ns mainGlobals mg) {x : Str} {v : Val} (c : conB x v K = true) : ∃ (u : Value) (y : V), mg x = some u ∧ RelV y u ∧ ∀ T O H, VR K T O H v y := by
  unfold conB at c
  split at c
  · rename_i u hu
    obtain ⟨y, r, q⟩ := vrB_ok _ _ c
    exact ⟨u, y, PySem.W.mg_of X G hu, r, q⟩
  · cases c
theorem se_con {X : Cx} {T : Tb} {E : XK} {mu : Nat → Bool} {io : List (Nat × V)} {x : Str} {v : Val} {pos : Pos} (hg : Gl X x := by rfl) (hm : ∃ (u : Value) (y : V), X.mg x = some u ∧ RelV y u ∧ ∀ T O H, VR X.K T O H v y) (hd : (x == ("__debug__" : Str)) = false := by decide) : SE X T E mu io (.Name x pos) (eC v) := by
  obtain ⟨u, y, h1, h2, h3⟩ := hm
  exact PE.imp (pe_glob hg h1 h2 hd) fun σ H Q ⟨O, fr, R, q⟩ => q O H _ (Fm.refl _ _) R (h3 _ _ _)
def clsB (K : PySem.W.Frag) (C : Addr) : Bool := PySem.W.plainGet K C Str.empty && (PySem.W.hasDictIn K C && (PySem.W.plainOver K C && eqO (PySem.W.findIn K (.ref C) "__setattr__") (some (some (.builtin "object.__setattr__")))))
theorem clsB_ok {K : PySem.W.Frag} {C : Addr} (c : clsB K C = true) : Cls K C := by
  obtain ⟨c1, c⟩ := ba c
  obtain ⟨c2, c⟩ := ba c
  obtain ⟨c3, c4⟩ := ba c
  exact ⟨c1, c2, c3, eqO_ok c4⟩
section
variable {K : PySem.W.Frag} {T : Tb}
def allC (cs : List Nat) (p : Nat → Bool) : Bool := cs.all p
theorem allC_ok {cs : List Nat} {p : Nat → Bool} (h : allC cs p = true) {c : Nat} (hc : cs.contains c = true) : p c = true := List.all_eq_true.mp h c (by simpa using hc)
/-- the exceptions of the program -/
def XN : List Str := ["LidError", "NoThing", "NoBox", "NoName", "NoDeed", "NoStand", "NoManual", "NoSetting", "NoMove", "NothingBack", "NoFault", "NoPlace", "NoNumber", "NoSeen", "NoNote", "TooMany"]
/-- the table of a text: its classes, its field names -/
def tb (cn : List Str) (fn : List Str) (K : PySem.W.Frag) : Tb := ⟨fun c => ga K (if c < EXC then cn.getD c (cn.headD "") else XN.getD (c - EXC) ""), fn.length, fun g => fn.getD g "", fun _ _ => false, fun _ _ => False⟩
theorem fld_ok {cn fn : List Str} (h : fn.Nodup) : FldOk (tb cn fn K) := fun g g' hg hg' e => by
  have hg : g < fn.length := hg
  have hg' : g' < fn.length := hg'
  have e : fn.getD g "" = fn.getD g' "" := e
  rw [List.getD_eq_getElem?_getD, List.getD_eq_getElem?_getD, List.getElem?_eq_getElem hg, List.getElem?_eq_getElem hg'] at e
  exact (List.getElem_inj (h₀ := hg) (h₁ := hg') h).mp e
variable {cn fn : List Str}
def fldB (cn fn : List Str) (cs : List Nat) (g : Nat) (K : PySem.W.Frag) : Bool := allC cs fun c => clsB K ((tb cn fn K).cl c) && eqO (PySem.W.findIn K (.ref ((tb cn fn K).cl c)) ((tb cn fn K).fld g)) (some none)
theorem fldB_ok {cs : List Nat} {g : Nat} (nd : fn.Nodup) (hg : g < fn.length) (h : fldB cn fn cs g K = true) : FldF K (tb cn fn K) cs g :=
  ⟨fld_ok nd, hg, fun c hc => let z := ba (allC_ok h hc); ⟨clsB_ok z.1, eqO_ok z.2⟩, fun _ _ => rfl⟩
/-- the method m of the classes cs, as the first of them has it -/
def mtA (cn : List Str) (cs : List Nat) (m : Str) (K : PySem.W.Frag) : Addr := ma K (ga K (cn.getD (cs.headD 0) (cn.headD ""))) m
def mtB (cn fn : List Str) (cs : List Nat) (m : Str) (K : PySem.W.Frag) : Bool := allC cs fun c => clsB K ((tb cn fn K).cl c) && (eqO (PySem.W.findIn K (.ref ((tb cn fn K).cl c)) m) (some (some (.ref (mtA cn cs m K)))) && (PySem.W.isFn K (.ref (mtA cn cs m K)) && PySem.W.keepIn K (.ref (mtA cn cs m K))))
theorem mtB_ok {cs : List Nat} {m : Str} (hn : (fn.all fun x => x != m) = true) (h : mtB cn fn cs m K = true) : MtF K (tb cn fn K) cs m (mtA cn cs m K) :=
  ⟨fun g hg e => by
    have hg : g < fn.length := hg
    have e : fn.getD g "" = m := e
    rw [List.getD_eq_getElem?_getD, List.getElem?_eq_getElem hg] at e
    have := List.all_eq_true.mp hn _ (List.getElem_mem hg)
    rw [show fn[g] = m from e] at this
    simp at this, fun c hc => by
    obtain ⟨z1, z⟩ := ba (allC_ok h hc)
    obtain ⟨z2, z⟩ := ba z
    obtain ⟨z3, z4⟩ := ba z
    exact ⟨clsB_ok z1, eqO_ok z2, z3, z4⟩⟩
def eqB (cn fn : List Str) (cs : List Nat) (K : PySem.W.Frag) : Bool := PySem.W.isFn K (.ref (mtA cn cs "__eq__" K)) && allC cs fun c => eqO (PySem.W.findIn K (.ref ((tb cn fn K).cl c)) "__eq__") (some (some (.ref (mtA cn cs "__eq__" K)))) &&
  (eqO (PySem.W.findIn K (.ref ((tb cn fn K).cl c)) "__ne__") (some (some (.builtin "object.__ne__"))) && decide (PySem.W.mroIn K ((tb cn fn K).cl c) (.type "object") = some true))
theorem eqB_ok {cs : List Nat} (h : eqB cn fn cs K = true) : EqF K (tb cn fn K) cs (mtA cn cs "__eq__" K) := by
  obtain ⟨h1, h2⟩ := ba h
  exact ⟨fun c hc => eqO_ok (ba (allC_ok h2 hc)).1, fun c hc => eqO_ok (ba (ba (allC_ok h2 hc)).2).1, fun c hc => of_decide_eq_true (ba (ba (allC_ok h2 hc)).2).2, h1⟩
def insB (cn fn : List Str) (K : PySem.W.Frag) : Bool := eqO (PySem.W.specialIn K (.builtin "object.__class__") "__get__") (some (some (.builtin "getset_descriptor.__get__"))) && (decide (PySem.W.takesIn K (.builtin "object.__class__") = some true) &&
  cn.all fun x => clsB K (ga K x) && (eqO (PySem.W.findIn K (.ref (ga K x)) "__class__") (some (some (.builtin "object.__class__"))) && decide (PySem.W.mroIn K (ga K x) (.type "object") = some true)))
theorem cl_mem (hn : cn ≠ []) (c : Nat) (hc : c < EXC) : ∃ x ∈ cn, (tb cn fn K).cl c = ga K x := by
  show ∃ x ∈ cn, ga K (if c < EXC then cn.getD c (cn.headD "") else XN.getD (c - EXC) "") = ga K x
  rw [if_pos hc]
  rw [List.getD_eq_getElem?_getD]
  by_cases h : c < cn.length
  · rw [List.getElem?_eq_getElem h]; exact ⟨_, List.getElem_mem h, rfl⟩
  · rw [List.getElem?_eq_none (by omega)]
    cases cn with
    | nil => exact absurd rfl hn
    | cons y r => exact ⟨y, List.mem_cons_self, rfl⟩
theorem insB_ok (hn : cn ≠ []) (h : insB cn fn K = true) : InsI K (tb cn fn K) := by
  obtain ⟨h1, h⟩ := ba h
  obtain ⟨h2, h⟩ := ba h
  refine ⟨eqO_ok h1, of_decide_eq_true h2, fun c hc => ?_, fun _ _ z => z.elim⟩
  obtain ⟨x, hx, e⟩ := cl_mem (fn := fn) (K := K) hn c hc
  rw [e]
  obtain ⟨z1, z⟩ := ba (List.all_eq_true.mp h x hx)
  obtain ⟨z2, z3⟩ := ba z
  exact ⟨clsB_ok z1, eqO_ok z2, of_decide_eq_true z3⟩
/-- the names of built-in types that values have -/
def tyNs : List String := ["NoneType", "bool", "int", "str", "tuple", "list", "dict"]
/-- an answer by the type: bt for the built-in ones, ct for the classes -/
def byT {α : Type} (bt : String → α) (ct : Nat → α) : Val → α
  | .non => bt "NoneType"
  | .bl _ => bt "bool"
  | .int _ => bt "int"
  | .str _ => bt "str"
  | .tup _ => bt "tuple"
  | .lst _ => bt "list"
  | .dic _ _ => bt "dict"
  | .ins c _ _ => ct c
  | .scr _ => bt "list"
theorem byT_ok {α : Type} {bt : String → α} {ct : Nat → α} {P : Value → α → Prop} (h1 : ∀ t ∈ tyNs, P (.type t) (bt t)) (h2 : ∀ c, P (.ref (T.cl c)) (ct c)) : ∀ v, P (tyV T v) (byT bt ct v) := fun v => by
  cases v <;> first | exact h1 _ (by decide) | exact h2 _
/-- isinstance: the types in ts and the classes in ds are it, no others -/
def isA (ts : List String) (ds : List Nat) (n : Nat) : Val → Option Bool := byT (fun t => some (ts.contains t)) fun c => if c < n then some (ds.contains c) else none
def isAB (cn fn : List Str) (us : List (PySem.W.Frag → Value)) (ts : List String) (ds : List Nat) (K : PySem.W.Frag) : Bool := (tyNs.all fun t => decide (PySem.W.kitAny K (.type t) (us.map fun u => u K) = some (ts.contains t))) &&
  (List.range cn.length).all fun c => decide (PySem.W.kitAny K (.ref ((tb cn fn K).cl c)) (us.map fun u => u K) = some (ds.contains c))
theorem isAB_ok {us : List (PySem.W.Frag → Value)} {ts : List String} {ds : List Nat} (h : isAB cn fn us ts ds K = true) : ∀ v b, isA ts ds cn.length v = some b → PySem.W.kitAny K (tyV (tb cn fn K) v) (us.map fun u => u K) = some b := by
  obtain ⟨h1, h2⟩ := ba h
  refine fun v => byT_ok (P := fun u o => ∀ b, o = some b → PySem.W.kitAny K u (us.map fun u => u K) = some b) (fun t ht b e => ?_) (fun c b e => ?_) v
  · rw [← e]; exact of_decide_eq_true (List.all_eq_true.mp h1 t ht)
  · split at e
    · rename_i hc
      rw [← e]; exact of_decide_eq_true (List.all_eq_true.mp h2 c (by simpa using hc))
    · cases e
theorem kit_one {t u : Value} {b : Bool} (h : PySem.W.kitAny K t [u] = some b) : PySem.W.kitOne K t u = some b := by
  unfold PySem.W.kitAny at h
  split at h
  · rename_i e; rw [e]; exact h
  · rename_i e; rw [e]; exact h
  · cases h
theorem isAB_one {u : PySem.W.Frag → Value} {ts : List String} {ds : List Nat} (h : isAB cn fn [u] ts ds K = true) : ∀ v b, isA ts ds cn.length v = some b → PySem.W.kitOne K (tyV (tb cn fn K) v) (u K) = some b := fun v b e => kit_one (isAB_ok h v b e)
/-- what may stand on the right of an own ==: no class below the left one's -/
def nfA (n : Nat) (bad : List (Nat × Nat)) (c : Nat) : Val → Bool := byT (fun _ => true) fun d => decide (d < n) && !bad.contains (c, d)
def nfB (cn fn : List Str) (bad : List (Nat × Nat)) (cs : List Nat) (K : PySem.W.Frag) : Bool := allC cs fun c => (tyNs.all fun t => PySem.W.notFirst K ((tb cn fn K).cl c) (.type t)) && (List.range cn.length).all fun d => bad.contains (c, d) || PySem.W.notFirst K ((tb cn fn K).cl c) (.ref ((tb cn fn K).cl d))
theorem nfB_ok {bad : List (Nat × Nat)} {cs : List Nat} (h : nfB cn fn bad cs K = true) : ∀ c v, cs.contains c = true → nfA cn.length bad c v = true → PySem.W.notFirst K ((tb cn fn K).cl c) (tyV (tb cn fn K) v) = true := fun c v hc => by
  obtain ⟨h1, h2⟩ := ba (allC_ok h hc)
  refine byT_ok (P := fun u o => o = true → PySem.W.notFirst K ((tb cn fn K).cl c) u = true) (fun t ht _ => List.all_eq_true.mp h1 t ht) (fun d e => ?_) v
  rw [Bool.and_eq_true] at e
  have := List.all_eq_true.mp h2 d (by simpa using e.1)
  rcases Bool.or_eq_true_iff.mp this with z | z
  · rw [z] at e; cases e.2
  · exact z
def mkB (x : Str) (K : PySem.W.Frag) : Bool := (Fa.mkr x).ok K
end
/-- super() in the def at p, an __init__ of the class D's text, for instances of C; the def that is meant stands at q -/
def supB (file : Str) (mn : Str) (p q : Str × Option Str) (D C : Str) (K : PySem.W.Frag) : Bool := (match K.lookup (fAd K p) with
    | some ⟨_, _, .func fd, _⟩ => (match fd.code with
      | .ref cda => (match K.lookup cda with
        | some o => (match o.data with
          | .fields vs => (match (vs[2]? : Option Value) with
            | some (.str z _) => (file == z)
            | _ => false)
          | _ => false)
        | none => false)
      | _ => false)
    | _ => false) && ((match K.lookup (ccOf K p) with
    | some o => (match o.data with
      | .cell (some (.ref d)) => decide (d = ga K D)
      | _ => false)
    | none => false) && ((PySem.W.clsIn K (ga K D)).isSome && ((PySem.W.clsIn K (ga K C)).isSome && (decide (PySem.W.mroIn K (ga K C) (.ref (ga K D)) = some true) && (eqO (PySem.W.nsIn K cStatics "thirdparty.any") (some none) &&
    (eqO (PySem.W.ks_superIn K (ga K C) (ga K D) mn) (some (some (.ref (fAd K q)))) && (decide (PySem.W.typeIn K (.ref (fAd K q)) = some (.type "function")) && (PySem.W.fnIn K (fAd K q) && eqO (PySem.W.nsIn K mainGlobals "super") (some none)))))))))
end SK

set_option maxHeartbeats 1000000
/-! SK17: a lent list walked, copied; small helpers for printed texts. -/
noncomputable section
namespace SK
open PySem L2 PySem.Spec

def iItB (i : Nat) : IM := fun fr => (getS fr i).bind fun v => (ofO (itOf v)).bind fun xs => .ok (xs, fr)
def eTpS (i : Nat) : EM := fun fr => (getS fr i).bind fun v => match v with
  | .lst xs => .ok (.tup xs, fr)
  | .tup xs => .ok (.tup xs, fr)
  | _ => .bad
def eLsS (i : Nat) : EM := fun fr => (getS fr i).bind fun v => match v with
  | .lst xs => .ok (.lst xs, fr)
  | .tup xs => .ok (.lst xs, fr)
  | _ => .bad
theorem walks_lstO {K : PySem.W.Frag} {T : Tb} {O : Own} {H : Hp} {a : Addr} {vs xs} (h : H a = some (.lst vs)) (o : O a = some .out) (r : VRs K T O H xs vs) : Walks K T (Itl K a) xs O H := fun O' H' f f2 tr i => by
  have h' : SqL K H' a vs := SqL.of (f2 a _ h o).1
  exact ⟨fun hl => ⟨vs, h', by rw [← r.len]; exact hl⟩, fun v hv => by
    obtain ⟨x, h1, h2⟩ := r.get hv
    refine ⟨⟨vs, x, h', h1⟩, fun y H'' ⟨e, hy⟩ => ?_⟩
    subst e
    have := hy vs h'
    rw [h1] at this
    cases this
    exact ⟨Hx.refl _, VR.monoB f _ _ h2⟩⟩
section
variable {X : Cx} {T : Tb} {E : XK} {mu : Nat → Bool} {io : List (Nat × V)} {e : Expr} {es : List Expr} {ma mb : EM} {ms : AM} {pos : Pos} {i j : Nat} {x y : Str} {p p' apos : Pos}
theorem si_bo {tg : Expr} (hm : mu i = false := by rfl) (hb : mu (BOR + i) = true := by rfl) (s : Sl X i x) : SI X T E mu io tg (.Name x p) (iItB i) := by
  refine ⟨fun pins s' σ H Q I ⟨O, fr, rl, q⟩ => ?_⟩
  unfold iItB at q
  rcases getS_cases fr i with ⟨v, e2, e3⟩ | e3
  · rw [e3] at q
    simp only [SK.R.bind_ok] at q
    obtain ⟨v0, e20, e21⟩ := e2
    obtain ⟨x', hx, bo⟩ := rl.sl i v0 e20
    unfold SlR at bo
    rw [if_neg (by rw [hm]; exact Bool.false_ne_true), if_pos hb] at bo
    rw [unfz_not (BoR.nf bo)] at e21
    subst e21
    cases v0 with
    | lst xs =>
      rcases bo with (bo | ⟨a, vs, e1, o, h, r⟩) | bo
      · obtain ⟨a, vs, e1, t, r⟩ := bo.lst
        exact (pi_list s.pe).run pins s' σ H Q I ⟨x', hx, a, e1, ⟨vs, SqL.fm t (Fb.refl _ _)⟩, q O H _ (Fm.refl _ _) rl (walks_lst t r)⟩
      · exact (pi_list s.pe).run pins s' σ H Q I ⟨x', hx, a, e1, ⟨vs, SqL.of h⟩, q O H _ (Fm.refl _ _) rl (walks_lstO h o r)⟩
      · exact bo.elim
    | tup xs =>
      rcases bo with (bo | bo) | bo
      · obtain ⟨a, vs, e1, t, r⟩ := bo.tup
        exact (pi_tup s.pe).run pins s' σ H Q I ⟨x', hx, a, e1, ⟨vs, SqT.fm t (Fb.refl _ _)⟩, q O H _ (Fm.refl _ _) rl (walks_tup t r)⟩
      · exact bo.elim
      · exact bo.elim
    | str xs =>
      rcases bo with (bo | bo) | bo
      · obtain ⟨z, rfl, hz⟩ := bo.str
        subst hz
        exact (pi_str s.pe).run pins s' σ H Q I ⟨_, hx, z, rfl, q O H _ (Fm.refl _ _) rl walks_str⟩
      · exact bo.elim
      · exact bo.elim
    | _ => exact q.elim
  · rw [e3] at q; exact q.elim
theorem eTpS_imp {K : PySem.W.Frag} {σ : St} {H : Hp} {Q : VK} (h : rE K T E mu io (eTpS i) σ H Q) : ∃ x, σ[i]? = some (some x) ∧ ∃ p ys, [x] = [V.ref p] ∧ ((SqL K H p ys ∧ ∀ l, H l = none → Q (.ref l) (upd H l (.tup ys))) ∨ (SqT K H p ys ∧ Q (.ref p) H)) := by
  obtain ⟨O, fr, rl, q⟩ := h
  unfold eTpS at q
  rcases getS_cases fr i with ⟨v, e2, e3⟩ | e3
  · rw [e3] at q
    obtain ⟨x, hx, tp⟩ := rl.tp e2
    simp only [SK.R.bind_ok] at q
    cases v with
    | lst xs =>
      obtain ⟨a, vs, rfl, h, r⟩ := tp.lst
      exact ⟨_, hx, a, vs, rfl, .inl ⟨SqL.of h, fun l hl => by obtain ⟨z1, z2⟩ := vr_newT rl.trk hl r; exact q O _ _ z1.fm (rl.hx z1) z2⟩⟩
    | tup xs =>
      have V1 := tp.val trivial
      obtain ⟨a, vs, rfl, t, r⟩ := V1.tup
      exact ⟨_, hx, a, vs, rfl, .inr ⟨t.sq, q O H _ (Fm.refl _ _) rl V1⟩⟩
    | _ => exact q.elim
  · rw [e3] at q; exact q.elim
theorem eLsS_imp {K : PySem.W.Frag} {σ : St} {H : Hp} {Q : VK} (h : rE K T E mu io (eLsS i) σ H Q) : ∃ x, σ[i]? = some (some x) ∧ ∃ p ys, [x] = [V.ref p] ∧ (SqL K H p ys ∨ SqT K H p ys) ∧ ∀ l, H l = none → Q (.ref l) (upd H l (.lst ys)) := by
  obtain ⟨O, fr, rl, q⟩ := h
  unfold eLsS at q
  rcases getS_cases fr i with ⟨v, e2, e3⟩ | e3
  · rw [e3] at q
    obtain ⟨x, hx, tp⟩ := rl.tp e2
    simp only [SK.R.bind_ok] at q
    cases v with
    | lst xs =>
      obtain ⟨a, vs, rfl, h, r⟩ := tp.lst
      exact ⟨_, hx, a, vs, rfl, .inl (SqL.of h), fun l hl => by obtain ⟨z1, z2⟩ := vr_new rl.trk hl r; exact q O _ _ z1.fm (rl.hx z1) z2⟩
    | tup xs =>
      obtain ⟨a, vs, rfl, t, r⟩ := (tp.val trivial).tup
      exact ⟨_, hx, a, vs, rfl, .inr t.sq, fun l hl => by obtain ⟨z1, z2⟩ := vr_new rl.trk hl r; exact q O _ _ z1.fm (rl.hx z1) z2⟩
    | _ => exact q.elim
  · rw [e3] at q; exact q.elim
theorem se_tpS {g : Str} {pf : Pos} (hg : Gl X g := by rfl) (hm : X.mg g = none) (hv : bootBuiltins g = some (.type "tuple") := by first | rfl | decide +kernel) (s : Sl X i x) (hn : g ≠ "__name__" := by decide) (hdb : (g == ("__debug__" : Str)) = false := by decide)
    (he : starEach [.Name x p] X.env = (false, eval (.Name x p) X.env) :: starEach [] X.env := by rfl) (hpl : (backTo pos (starEach [] X.env)).any (·.1) = false := by rfl) : SE X T E mu io (.Call (.Name g pf) [.Name x p] [] pos) (eTpS i) :=
  PE.imp (pe_callTy call_tuple_of hg hm hv (pa_cons s.pe pa_nil he) hn hdb he hpl) fun σ H Q h => by
    obtain ⟨x, hx, q⟩ := eTpS_imp h
    exact ⟨x, hx, q⟩
theorem se_lsS {g : Str} {pf : Pos} (hg : Gl X g := by rfl) (hm : X.mg g = none) (hv : bootBuiltins g = some (.type "list") := by first | rfl | decide +kernel) (s : Sl X i x) (hn : g ≠ "__name__" := by decide) (hdb : (g == ("__debug__" : Str)) = false := by decide)
    (he : starEach [.Name x p] X.env = (false, eval (.Name x p) X.env) :: starEach [] X.env := by rfl) (hpl : (backTo pos (starEach [] X.env)).any (·.1) = false := by rfl) : SE X T E mu io (.Call (.Name g pf) [.Name x p] [] pos) (eLsS i) :=
  PE.imp (pe_callTy call_list_of hg hm hv (pa_cons s.pe pa_nil he) hn hdb he hpl) fun σ H Q h => by
    obtain ⟨x, hx, q⟩ := eLsS_imp h
    exact ⟨x, hx, q⟩
end
/-! ### how many arguments -/
def LenL (m : LM) (k : Nat) : Prop := ∀ fr as fr', m fr = .ok (as, fr') → as.length = k
theorem lnN : LenL lN 0 := fun fr as fr' e => by cases e; rfl
theorem lnC {a : EM} {b : LM} {k : Nat} (h : LenL b k) : LenL (lC a b) (k + 1) := fun fr as fr' e => by
  unfold lC at e
  cases h1 : a fr with
  | bad => rw [h1] at e; cases e
  | exc x => rw [h1] at e; cases e
  | ok p =>
    rw [h1] at e
    simp only [SK.R.bind_ok] at e
    cases h2 : b p.2 with
    | bad => rw [h2] at e; cases e
    | exc x => rw [h2] at e; cases e
    | ok q => rw [h2] at e; cases e; rw [List.length_cons, h _ _ _ h2]
theorem lnI {i : Nat} {b : LM} {k : Nat} (h : LenL b k) : LenL (lI i b) (k + 1) := fun fr as fr' e => by
  unfold lI at e
  split at e
  · cases h2 : b fr with
    | bad => rw [h2] at e; cases e
    | exc x => rw [h2] at e; cases e
    | ok q => rw [h2] at e; cases e; rw [List.length_cons, h _ _ _ h2]
  · cases e
theorem lnB {i : Nat} {b : LM} {k : Nat} (h : LenL b k) : LenL (lB i b) (k + 1) := fun fr as fr' e => by
  unfold lB at e
  split at e
  · cases h2 : b fr with
    | bad => rw [h2] at e; cases e
    | exc x => rw [h2] at e; cases e
    | ok q => rw [h2] at e; cases e; rw [List.length_cons, h _ _ _ h2]
  · cases e
theorem lnK {cs : List Nat} {i : Nat} {b : LM} {k : Nat} (h : LenL b k) : LenL (chkS cs i b) k := fun fr as fr' e => by
  unfold chkS at e
  cases h1 : getS fr i with
  | bad => rw [h1] at e; cases e
  | exc x => rw [h1] at e; cases e
  | ok v =>
    rw [h1] at e
    simp only [SK.R.bind_ok] at e
    split at e
    · exact h _ _ _ e
    · cases e
theorem hlo {m : LM} {k n : Nat} {dv : List Val} (h : LenL m k) (e : k + dv.length = n) : ∀ fr as fr', m fr = .ok (as, fr') → as.length + dv.length = n := fun fr as fr' z => by rw [h _ _ _ z]; exact e
theorem hlo1 {m : LM} {k n : Nat} {dv : List Val} (h : LenL m k) (e : k + dv.length + 1 = n) : ∀ fr as fr', m fr = .ok (as, fr') → as.length + dv.length + 1 = n := fun fr as fr' z => by rw [h _ _ _ z]; exact e
def LenA (m : AM) (k : Nat) : Prop := ∀ fr as fr', m fr = .ok (as, fr') → as.length = k
theorem laN : LenA aN 0 := fun fr as fr' e => by cases e; rfl
theorem laC {a : EM} {b : AM} {k : Nat} (h : LenA b k) : LenA (aC a b) (k + 1) := fun fr as fr' e => by
  unfold aC at e
  cases h1 : a fr with
  | bad => rw [h1] at e; cases e
  | exc x => rw [h1] at e; cases e
  | ok p =>
    rw [h1] at e
    simp only [SK.R.bind_ok] at e
    cases h2 : b p.2 with
    | bad => rw [h2] at e; cases e
    | exc x => rw [h2] at e; cases e
    | ok q => rw [h2] at e; cases e; rw [List.length_cons, h _ _ _ h2]
/-! ### what is known of a text behind its top -/
structure FK (ck : List (PySem.W.Frag → Bool)) (fn : List DefX) (K : PySem.W.Frag) (mg : Str → Option Value) : Prop where
  ns : ∃ h : Heap, K.In h ∧ h.Ns mainGlobals mg
  c : SaysX ck fn K
section
variable {ck : List (PySem.W.Frag → Bool)} {fn : List DefX} {K : PySem.W.Frag} {mg : Str → Option Value}
theorem FK.glo (F : FK ck fn K mg) (i : Nat) {x : Str} (h : ck[i]? = some (gloB x) := by rfl) : mg x = some (.ref (He.ga K x)) := let ⟨_, X, G⟩ := F.ns; He.glo_ok X G (F.c.fact i h)
theorem FK.free (F : FK ck fn K mg) (i : Nat) {x : Str} (h : ck[i]? = some (freeB x) := by rfl) : mg x = none := let ⟨_, X, G⟩ := F.ns; He.free_ok X G (F.c.fact i h)
theorem FK.con (F : FK ck fn K mg) (i : Nat) {x : Str} {v : Val} (h : ck[i]? = some (conB x v) := by rfl) : ∃ (u : Value) (y : V), mg x = some u ∧ RelV y u ∧ ∀ T O H, VR K T O H v y := let ⟨_, X, G⟩ := F.ns; conB_ok X G (F.c.fact i h)
end
end SK

set_option maxHeartbeats 1000000
/-! SK18: binding with defaults in the forms that printed texts use; what is never reached. -/
noncomputable section
namespace SK
open PySem L2 PySem.Spec

def sBad : SM := fun _ => .bad
theorem ss_bad {X : Cx} {T : Tb} {E : XK} {mu : Nat → Bool} {io : List (Nat × V)} {st : Stmt} : SS X T E mu io st sBad := ⟨fun _ _ _ _ _ _ ⟨O, fr, rl, q⟩ => q.elim⟩
section
variable {K : PySem.W.Frag} {params : Arguments} {dvs : List V} {kws : List (Str × V)} {fd : FuncData} {ps : List Str}
/-- n values are written, the defaults behind the first j fill up -/
theorem FunB.pos1 (F : FunB K params dvs kws fd) (n m j : Nat) (hm : dvs.length = m) (m0 : m ≠ 0) (hp : n + (m - j) = ps.length)
    (h : ∀ (x qual : Str) (body : List Stmt) (scope : Scope) (cl : List (Str × Addr)) (T : Addr) (kV doc pm : Value) (an : Option Addr) (cdv ct : Value) (us its : List Value), us.length = n → its.length = m →
      ∃ k, bindArgs (PySem.W.fnX x qual params body scope cl (.ref T) kV doc pm an cdv ct) ⟨us, []⟩ = seqItems? (.ref T) >>= k ∧ k (some its.toArray) = pure (ps.zip (us ++ its.drop j))) :
    ∃ ds, Vals (dvs.drop j) ds ∧ Binds K fd ps ds := by
  obtain ⟨its, r, B⟩ := F.n1 (ps := ps) (fun e => by rw [e] at hm; exact m0 hm.symm) n [] (fun us ds ws => us ++ ds.drop j) (fun r1 r2 _ => r1.append (r2.drop j)) fun x qual body scope cl T kV doc pm an cdv ct us its ws h1 h2 h3 => h x qual body scope cl T kV doc pm an cdv ct us its h1 (h2.trans hm)
  refine ⟨its.drop j, r.drop j, KBn.binds B (fun us _ => rfl) ?_⟩
  rw [List.length_drop, ← r.length, hm]
  exact hp
/-- .. the keywords ks stand last -/
theorem FunB.key1 (F : FunB K params dvs kws fd) (n m j : Nat) (ks : List Str) (hm : dvs.length = m) (m0 : m ≠ 0)
    (h : ∀ (x qual : Str) (body : List Stmt) (scope : Scope) (cl : List (Str × Addr)) (T : Addr) (kV doc pm : Value) (an : Option Addr) (cdv ct : Value) (us its ws : List Value), us.length = n → its.length = m → ws.length = ks.length →
      ∃ k, bindArgs (PySem.W.fnX x qual params body scope cl (.ref T) kV doc pm an cdv ct) ⟨us, ks.zip ws⟩ = seqItems? (.ref T) >>= k ∧ k (some its.toArray) = pure (ps.zip (us ++ (its.drop j ++ ws)))) :
    ∃ its : List Value, KBn K fd ps n ks (fun us ws => us ++ (its.drop j ++ ws)) (fun vs zs => vs ++ (dvs.drop j ++ zs)) := by
  obtain ⟨its, r, B⟩ := F.n1 (ps := ps) (fun e => by rw [e] at hm; exact m0 hm.symm) n ks (fun us ds ws => us ++ (ds.drop j ++ ws)) (fun r1 r2 r3 => r1.append ((r2.drop j).append r3)) fun x qual body scope cl T kV doc pm an cdv ct us its ws h1 h2 h3 => h x qual body scope cl T kV doc pm an cdv ct us its ws h1 (h2.trans hm) h3
  exact ⟨its, B⟩
/-- n values; defaults; the keyword-only ones lack -/
theorem FunB.pos2 (F : FunB K params dvs kws fd) (n m j q : Nat) (kn : List Str) (hk : kws.map (·.1) = kn) (hm : dvs.length = m) (m0 : m ≠ 0) (q0 : kn ≠ []) (hq : kn.length = q) (hp : n + ((m - j) + q) = ps.length)
    (h : ∀ (x qual : Str) (body : List Stmt) (scope : Scope) (cl : List (Str × Addr)) (T D : Addr) (doc pm : Value) (an : Option Addr) (cdv ct : Value) (us its mv : List Value), us.length = n → its.length = m → mv.length = q →
      ∃ k, bindArgs (PySem.W.fnX x qual params body scope cl (.ref T) (.ref D) doc pm an cdv ct) ⟨us, []⟩ = seqItems? (.ref T) >>= k ∧ KwChain D (kn.zip mv) (k (some its.toArray)) (ps.zip (us ++ (its.drop j ++ mv)))) :
    ∃ ds, Vals (dvs.drop j ++ kws.map (·.2)) ds ∧ Binds K fd ps ds := by
  have hkl : kws.length = q := by rw [← hq, ← hk, List.length_map]
  obtain ⟨its, mv, r, r2, B⟩ := F.n2 (ps := ps) (fun e => by rw [e] at hm; exact m0 hm.symm) (fun e => q0 (by rw [← hk, e]; rfl)) n (fun us ds ws => us ++ (ds.drop j ++ ws)) (fun r1 r2 r3 => r1.append ((r2.drop j).append r3)) fun x qual body scope cl T D doc pm an cdv ct us its mv h1 h2 h3 => by
    rw [hk]
    exact h x qual body scope cl T D doc pm an cdv ct us its mv h1 (h2.trans hm) (h3.trans hkl)
  refine ⟨its.drop j ++ mv, (r.drop j).append r2, KBn.binds B (fun us _ => rfl) ?_⟩
  rw [List.length_append, List.length_drop, ← r.length, hm, ← r2.length, List.length_map, hkl]
  exact hp
end
/-! ### owned results -/
section
variable {X : Cx} {T : Tb} {E : XK} {mu : Nat → Bool} {io : List (Nat × V)} {e a b : Expr} {es : List Expr} {ma mb : EM} {ms : AM} {pos : Pos} {i r : Nat} {x : Str} {p : Pos}
theorem own_lay {K : PySem.W.Frag} {O1 : Own} {fr1 : Fr} {σ : St} {H1 : Hp} {D : Addr} {xs : List Val} {ys : List V} {Q : VK} (R1 : Rl K T mu io O1 fr1 σ H1) (hp : H1 D = none) (V1 : VRs K T O1 H1 xs ys) (q : ∀ O' H' x, Fm O1 H1 O' H' → Rl K T mu io O' fr1 σ H' → OwR K T O' H' r (.lst xs) x → Q x H') : Q (.ref D) (upd H1 D (.lst ys)) := by
  have f0 : FmD D O1 H1 (setOw O1 D (some .tmp)) (upd H1 D (.lst ys)) := FmD.begin hp
  have f1 : Fm O1 H1 (setOw O1 D (some (.sl r))) (upd H1 D (.lst ys)) := by
    have := f0.fin (w := some (.sl r)) hp (fun z => nomatch z)
    rw [show setOw (setOw O1 D (some .tmp)) D (some (.sl r)) = setOw O1 D (some (.sl r)) from funext fun a => by unfold setOw; split <;> rfl] at this
    exact this
  exact q _ _ _ f1 (R1.laid hp) ⟨D, ys, rfl, setOw_same, upd_same, V1.mono f1⟩
theorem so_list {g : Str} {pf : Pos} (hg : Gl X g := by rfl) (hm : X.mg g = none) (hv : bootBuiltins g = some (.type "list") := by first | rfl | decide +kernel) (ha : SA X T E mu io [e] ms) (hn : g ≠ "__name__" := by decide) (hdb : (g == ("__debug__" : Str)) = false := by decide)
    (he : starEach [e] X.env = (false, eval e X.env) :: starEach [] X.env := by rfl) (hpl : (backTo pos (starEach [] X.env)).any (·.1) = false := by rfl) : SO X T E mu io r (.Call (.Name g pf) [e] [] pos) (eN vList ms) :=
  PE.imp (pe_callTy call_list_of hg hm hv ha hn hdb he hpl) fun σ H Q ⟨O, fr, rl, q⟩ => by
    unfold eN at q
    refine ⟨O, fr, rl, ?_⟩
    cases h1 : ms fr with
    | bad => rw [h1] at q; exact q
    | exc e => rw [h1] at q; exact q
    | ok p =>
      obtain ⟨xs, fr1⟩ := p
      rw [h1] at q
      intro O1 H1 xs' F1 R1 V1
      simp only [SK.R.bind_ok] at q
      unfold vList at q
      split at q
      · obtain ⟨x, rfl, h⟩ := V1.one
        obtain ⟨p, vs, rfl, t, rr⟩ := h.lst
        exact ⟨p, vs, rfl, .inl t.sq, fun l hl => own_lay R1 hl rr fun O' H' x g => q O' H' x (F1.trans g)⟩
      · obtain ⟨x, rfl, h⟩ := V1.one
        obtain ⟨p, vs, rfl, t, rr⟩ := h.tup
        exact ⟨p, vs, rfl, .inr t.sq, fun l hl => own_lay R1 hl rr fun O' H' x g => q O' H' x (F1.trans g)⟩
      · exact q.elim
theorem so_listS {g : Str} {pf : Pos} (hg : Gl X g := by rfl) (hm : X.mg g = none) (hv : bootBuiltins g = some (.type "list") := by first | rfl | decide +kernel) (s : Sl X i x) (hn : g ≠ "__name__" := by decide) (hdb : (g == ("__debug__" : Str)) = false := by decide)
    (he : starEach [.Name x p] X.env = (false, eval (.Name x p) X.env) :: starEach [] X.env := by rfl) (hpl : (backTo pos (starEach [] X.env)).any (·.1) = false := by rfl) : SO X T E mu io r (.Call (.Name g pf) [.Name x p] [] pos) (eLsS i) :=
  PE.imp (pe_callTy call_list_of hg hm hv (pa_cons s.pe pa_nil he) hn hdb he hpl) fun σ H Q ⟨O, fr, rl, q⟩ => by
    unfold eLsS at q
    rcases getS_cases fr i with ⟨v, e2, e3⟩ | e3
    · rw [e3] at q
      obtain ⟨x, hx, tp⟩ := rl.tp e2
      simp only [SK.R.bind_ok] at q
      cases v with
      | lst xs =>
        obtain ⟨a, vs, rfl, h, rr⟩ := tp.lst
        exact ⟨_, hx, a, vs, rfl, .inl (SqL.of h), fun l hl => own_lay rl hl rr q⟩
      | tup xs =>
        obtain ⟨a, vs, rfl, t, rr⟩ := (tp.val trivial).tup
        exact ⟨_, hx, a, vs, rfl, .inr t.sq, fun l hl => own_lay rl hl rr q⟩
      | _ => exact q.elim
    · rw [e3] at q; exact q.elim
def vCat : Val → Val → Option Val
  | .lst xs, .lst ys => if xs.length + ys.length ≤ 16777216 then some (.lst (xs ++ ys)) else none
  | _, _ => none
theorem so_add (ha : SE X T E mu io a ma) (hb : SE X T E mu io b mb) : SO X T E mu io r (.BinOp a .Add b pos) (e2 vCat ma mb) :=
  PE.imp (pe_op op_cat ha hb) fun σ H Q ⟨O, fr, rl, q⟩ => by
    unfold e2 at q
    refine ⟨O, fr, rl, ?_⟩
    cases h1 : ma fr with
    | bad => rw [h1] at q; exact q
    | exc e => rw [h1] at q; exact q
    | ok p =>
      obtain ⟨x, fr1⟩ := p
      rw [h1] at q
      intro O1 H1 x' F1 R1 V1
      refine ⟨O1, fr1, R1, ?_⟩
      simp only [SK.R.bind_ok] at q
      cases h2 : mb fr1 with
      | bad => rw [h2] at q; exact q
      | exc e => rw [h2] at q; exact pEx.back F1 q
      | ok p =>
        obtain ⟨y, fr2⟩ := p
        rw [h2] at q
        intro O2 H2 y' F2 R2 V2
        simp only [SK.R.bind_ok] at q
        have V1' := VR.mono F2 _ _ V1
        unfold vCat at q
        split at q
        · split at q
          · rename_i hl
            obtain ⟨p, vs, rfl, t, rr⟩ := V1'.lst
            obtain ⟨p', vs', rfl, t', rr'⟩ := V2.lst
            exact ⟨p, p', vs, vs', rfl, rfl, t.1, t'.1, by rw [← rr.len, ← rr'.len]; exact hl, fun l hl => own_lay R2 hl (rr.app rr') fun O' H' x g => q O' H' x ((F1.trans F2).trans g)⟩
          · exact q.elim
        · exact q.elim
end
/-! ### short words for printed texts -/
theorem slm {X : Cx} (i : Nat) {x : Str} (hN : X.N[i]? = some x := by rfl) (hv : Vis X.env.scope x := by first | exact .inl rfl | exact .inr (.inl rfl) | exact .inr (.inr rfl)) (hd : (x == ("__debug__" : Str)) = false := by decide) (hcd : (x == ("__classdict__" : Str)) = false := by decide) : Sl X i x := ⟨hN, hv, hd, hcd⟩
theorem hu20 {A : Around} {k : Nat} (hr : Room k A) : A.units + 20 < cLine := by have := hr.un; omega
theorem hu21 {A : Around} {k : Nat} (hr : Room k A) : A.units + 21 < cLine := by have := hr.un; omega
theorem hu1 {A : Around} {k : Nat} (hr : Room k A) : A.units + 1 < cLine := by have := hr.un; omega
end SK

set_option maxHeartbeats 1000000
/-! SK19: super() in a printed text. -/
noncomputable section
namespace SK
open PySem L2 PySem.Spec He

theorem ccOf_eq {K : PySem.W.Frag} {p : Str × Option Str} {oc : Value} {od : Option Addr} {fd : FuncData} {osl : Array (Option Value)} {y : Str} {cc : Addr} {r : List (Str × Addr)} (lk : K.lookup (fAd K p) = some ⟨oc, od, .func fd, osl⟩) (h : fd.closure = (y, cc) :: r) : ccOf K p = cc := by
  unfold ccOf
  rw [lk]
  show (match fd.closure with
    | q :: _ => q.2
    | [] => 0) = cc
  rw [h]
theorem sup_ok {CX : CXT} {P : Program} {w : World} {K : PySem.W.Frag} {mg : Str → Option Value} {base : Heap} {N : List Str} {x qual : Str} {params : Arguments} {body : List Stmt} {scope : Scope} {A : Around} {outer : List Env} {s : Shared} {H : Hp} {E : XK} {mn C D : Str} {p q : Str × Option Str} {oc : Value} {od : Option Addr} {dV kV doc pm cdv ct : Value} {an : Option Addr} {osl : Array (Option Value)} {cc : Addr} {ar : Arg}
    (ns : ∃ h : Heap, K.In h ∧ h.Ns mainGlobals mg) (h : supB P.main.file mn p q D C K = true) (lk : K.lookup (fAd K p) = some ⟨oc, od, .func (PySem.W.ksFn x qual params body scope dV kV doc pm an cdv ct cc), osl⟩)
    (h1 : scope.names.lookup ("super" : Str) = some .globalImplicit) (h2 : scope.names.lookup ("__class__" : Str) = some .free) (h3 : scope.kind = .function) (h4 : (params.posonlyargs ++ params.args).head? = some ar) (h5 : N[0]? = some ar.arg) (h6 : scope.names.lookup ar.arg = some .local)
    (h7 : (P.main.scope.names.lookup ("super" : Str)).isSome = false) : ∃ cda, SupF (cxS CX P w K mg base N qual scope (fAd K p) cdv cc A outer s H E) mn (ga K C) (ga K D) (fAd K p) (fAd K q) cc cda := by
  have ecc : ccOf K p = cc := ccOf_eq lk rfl
  unfold supB at h
  rw [lk, ecc] at h
  obtain ⟨g1, h⟩ := ba h
  obtain ⟨g2, h⟩ := ba h
  obtain ⟨g3, h⟩ := ba h
  obtain ⟨g4, h⟩ := ba h
  obtain ⟨g5, h⟩ := ba h
  obtain ⟨g6, h⟩ := ba h
  obtain ⟨g7, h⟩ := ba h
  obtain ⟨g8, h⟩ := ba h
  obtain ⟨g9, g10⟩ := ba h
  cases cdv with
  | ref cda =>
    have g1 : (match K.lookup cda with
        | some o => (match o.data with
          | .fields vs => (match (vs[2]? : Option Value) with
            | some (.str z _) => (P.main.file == z)
            | _ => false)
          | _ => false)
        | none => false) = true := g1
    split at g1
    · rename_i o ho
      split at g1
      · rename_i vs hvs
        split at g1
        · rename_i z tf hz
          split at g2
          · rename_i o2 ho2
            split at g2
            · rename_i d hd
              obtain ⟨hh, X, G⟩ := ns
              have ed : d = ga K D := of_decide_eq_true g2
              subst ed
              exact ⟨cda, ⟨h1, h2, h3, rfl, ⟨_, _, ar, lk, rfl, h4, h5, h6⟩, rfl, ⟨o, vs, z, tf, ho, hvs, hz, g1⟩, rfl, ⟨o2, ho2, hd⟩, g3, g4, of_decide_eq_true g5, eqO_ok g6, eqO_ok g7, of_decide_eq_true g8, g9, PySem.W.mg_none_of X G (eqO_ok g10), h7⟩⟩
            · cases g2
          · cases g2
        · cases g1
      · cases g1
    · cases g1
  | _ => cases g1
/-! ### keywords -/
section
variable {X : Cx} {T : Tb} {E : XK} {mu : Nat → Bool} {io : List (Nat × V)} {e : Expr} {kws : List Keyword} {ma : EM} {mk : AM} {nm : Option Str} {kpos : Pos}
theorem pk_nil0 : SKw X T E mu io [] aN := ⟨fun pos pins s σ H Q I ⟨O, fr, rl, q⟩ => pk_nil.run pos pins s σ H Q I (q O H [] (Fm.refl _ _) rl VRs.nil)⟩
theorem skw_cons (ha : SE X T E mu io e ma) (hr : SKw X T E mu io kws mk) : SKw X T E mu io (⟨nm, e, kpos⟩ :: kws) (aC ma mk) := ⟨fun pos pins s σ H Q I h => (pk_cons ha hr).run pos pins s σ H Q I (aC_imp h)⟩
end
theorem free_of {ns : List (Str × NameKind)} (h : ∀ p ∈ ns, p.2 = .free → p.1 = ("__class__" : Str)) : ∀ y, ns.lookup y = some .free → y = ("__class__" : Str) := fun y e => h (y, .free) (PySem.mem_of_lookup e) rfl
end SK

set_option maxHeartbeats 1000000
/-! SK20: the end of a law: what its def promises, at the script. -/
noncomputable section
namespace SK
open PySem L2
theorem spG_law {K : PySem.W.Frag} {T : Tb} {H : Hp} {a : Addr} {ns : List Int} {m : FnM} {E : XK} (hS : SqL K H a (ns.map V.int)) {o : List Val} (h : m [.scr ns] = .ok (.bl true, o)) : spG K T [] [] false 1 m [.ref a] H (fun v _ => v = .bl true) E := by
  refine ⟨rfl, fun _ => none, [.scr ns], fun _ q => absurd rfl q, ⟨?_, trivial⟩, ?_⟩
  · show VR K T _ H (.scr ns) (.ref a)
    unfold VR
    refine ⟨a, rfl, ?_⟩
    rcases hS with (h1 | ⟨o, h1⟩) | h1
    · exact .inl ⟨h1, rfl⟩
    · exact .inr (.inl ⟨⟨o, h1⟩, rfl⟩)
    · exact .inr (.inr fun _ => .inr h1)
  · rw [h]
    intro O' H' x _ _ _ r
    have r : VR K T O' H' (.bl true) x := r
    unfold VR at r
    exact r
end SK

set_option maxHeartbeats 1000000
/-! SK21: dicts by value: subscript, in, get, copy, the list of the keys; methods of built-in types on values. -/
noncomputable section
namespace SK
open PySem L2 PySem.Spec

/-! ### the functions -/
def vGetD : Val → Val → Option Val
  | .dic ks vs, k => if isK k = true then dGet k ks vs else none
  | _, _ => none
def vInD : Val → Val → Option Val
  | k, .dic ks vs => if isK k = true then some (.bl (dGet k ks vs).isSome) else none
  | _, _ => none
def vNotInD : Val → Val → Option Val
  | k, .dic ks vs => if isK k = true then some (.bl (!(dGet k ks vs).isSome)) else none
  | _, _ => none
def vDictD : List Val → Option Val
  | [.dic ks vs] => some (.dic ks vs)
  | _ => none
def vListD : List Val → Option Val
  | [.dic ks _] => some (.lst ks)
  | _ => none
/-- a method of a built-in type, on a value -/
def eMt (p : Val → Bool) (f : Val → List Val → Option Val) (a : EM) (as : AM) : EM := fun fr => (a fr).bind fun x => if p x.1 = true then (as x.2).bind fun y => (ofO (f x.1 y.1)).bind fun v => .ok (v, y.2) else .bad
def isDic : Val → Bool
  | .dic _ _ => true
  | _ => false
def isLst : Val → Bool
  | .lst _ => true
  | _ => false
def mGet : Val → List Val → Option Val
  | .dic ks vs, [k] => if isK k = true then some ((dGet k ks vs).getD .non) else none
  | .dic ks vs, [k, z] => if isK k = true then some ((dGet k ks vs).getD z) else none
  | _, _ => none

/-- the value is of the built-in type ty (a dict may be locked) -/
def tyW (K : PySem.W.Frag) (ty : String) (x : V) (H : Hp) : Prop := L2.tyV K ty x H ∨ (ty = "dict" ∧ ∃ p kvs, x = .ref p ∧ Rd H p (.dK kvs))
theorem tyW_is {X : Cx} {pins : List (Addr × Obj)} {σ : St} {H : Hp} {s : Shared} {T : String} {x : V} {v : Value} (I : Inv X pins σ H s) (r : RelV x v) (ty : tyW X.K T x H) :
    s.TypeIs v T ∧ ∀ a, v = .ref a → ∃ ob, s.heap.get? a = some ob ∧ ob.dict = none := by
  rcases ty with ty | ⟨rfl, p, kvs, rfl, h⟩
  · exact tyV_is I r ty
  · obtain rfl : v = Value.ref p := r
    obtain ⟨_, _, vs, _, dd⟩ := dk_rd I.hok h
    obtain ⟨ep, hat⟩ := dd.dictAt
    exact ⟨hat.dictOf.typeIs, fun a e => by cases e; exact hat.dictOf.mapOf.noDict _ rfl⟩
def tBW (K : PySem.W.Frag) (T : String) (r : V → List V → Hp → VK → Prop) (to : TE) (t : TA) : TE := fun σ H Q => to σ H fun x H1 => tyW K T x H1 ∧ t σ H1 fun xs H2 => r x xs H2 Q
open PySem.Spec PyProof.Rows in
theorem pe_bw {X : Cx} {o e : Expr} {es : List Expr} {to : TE} {t : TA} {name : Str} {apos cpos : Pos} {T id : String} {r : V → List V → Hp → VK → Prop} (pa : PlainAttrs T) (slot : Slot T name id) (hty : typeOf (.builtin id) = pure (.type "method_descriptor")) (hm : MtR X id r) (ho : PE X o to) (ha : PA X (e :: es) t)
    (hbase : attributeBase o name X.env (eval o X.env) = eval o X.env := by rfl)
    (hfew : ((backTo cpos (starEach (e :: es) X.env)).all (fun x => !x.1) && (backToKw cpos (keywordEach [] X.env)).all (fun x => x.1.isSome)
      && decide ((e :: es).length + ([] : List Keyword).length + (if ([] : List Keyword).isEmpty then 0 else 1) < 30)) = true := by rfl)
    (hline : (apos.endLine == cpos.line) = true := by rfl) (hs : starEach (e :: es) X.env = (false, eval e X.env) :: starEach es X.env := by rfl) (hplain : (backTo cpos (starEach es X.env)).any (·.1) = false := by rfl) :
    PE X (.Call (.Attribute o name apos) (e :: es) [] cpos) (tBW X.K T r to t) := by
  refine ⟨fun pins s σ H Q I h => ?_⟩
  refine wpAny_Call_method_late hbase hfew hline rfl (thn (ho.run pins s σ H _ I h) fun v s1 ⟨x, H1, I1, r1, ty, q1⟩ => ?_)
  obtain ⟨h1, h2⟩ := tyW_is I1 r1 ty
  refine ⟨T, id, pa, slot, hty, h1, h2, ?_⟩
  have hA := ha.run cpos pins s1 σ H1 _ I1 q1
  rw [hs] at hA ⊢
  refine Calls.callWith_builtin (by show (false || (backTo cpos (starEach es X.env)).any (·.1)) = false; rw [hplain] <;> rfl) (Calls.evalArgs_plain ?_)
  exact thn hA fun us s2 ⟨vs, H2, I2, r2, q2⟩ => hm pins s2 σ H2 x vs v us Q I2 r1 r2 q2
theorem _root_.L2.DGet.r {H : Hp} {a : Addr} {kvs : List (Key × V)} {k : Key} (e : Sm (.dK kvs) (H a)) : DGet H a (kV k) (valV kvs k) := .inl ⟨kvs, k, e.rd, rfl, rfl⟩
section
variable {X : Cx} {T : Tb} {E : XK} {mu : Nat → Bool} {io : List (Nat × V)} {e : Expr} {es : List Expr} {ma mb : EM} {ms : AM} {pos : Pos} {i j : Nat} {x y : Str} {p p' apos : Pos}
theorem VR.dicH {K : PySem.W.Frag} {O : Own} {H : Hp} (nokd : ∀ a kvs, ¬ T.kd a kvs) {ks vs : List Val} {x : V} (h : VR K T O H (.dic ks vs) x) : ∃ a kvs, x = .ref a ∧ Sm (.dK kvs) (H a) ∧ O a = none ∧ ks = kvs.map (fun p => kVal p.1) ∧ VRs K T O H vs (kvs.map (·.2)) := by
  unfold VR at h
  obtain ⟨a, kvs, e, t, e2, r⟩ := h
  rcases t with t | t
  · exact ⟨a, kvs, e, t.1, t.2, e2, r⟩
  · exact absurd t (nokd _ _)
/-- what a dict tells of a key -/
theorem dGet_rel {K : PySem.W.Frag} {O : Own} {H : Hp} {kk : Key} {kvs : List (Key × V)} {vs : List Val} (r : VRs K T O H vs (kvs.map (·.2))) :
    (∃ v y, dGet (kVal kk) (kvs.map fun p => kVal p.1) vs = some v ∧ valV kvs kk = some y ∧ VR K T O H v y) ∨ (dGet (kVal kk) (kvs.map fun p => kVal p.1) vs = none ∧ valV kvs kk = none) := by
  obtain ⟨g1, g2⟩ := dGet_ok (kk := kk) r
  cases h : dGet (kVal kk) (kvs.map fun p => kVal p.1) vs with
  | none => exact .inr ⟨rfl, g2 h⟩
  | some v =>
    obtain ⟨y, a, b⟩ := g1 v h
    exact .inl ⟨v, y, rfl, a, b⟩
theorem ix_dic (nokd : ∀ a kvs, ¬ T.kd a kvs) (hu : X.A.units + 1 < cLine) : IxR X (r2 X.K T vGetD) := by
  intro value slice pins s σ H x y v u Q I rx ry ⟨O, a, b, tr, va, vb, q⟩ hs
  unfold vGetD at q
  split at q
  · rename_i ks vs
    split at q
    · rename_i hk
      obtain ⟨kk, e4, e5⟩ := key_of hk vb
      obtain ⟨d, kvs, rfl, hd, _, e1, rr⟩ := va.dicH nokd
      subst e1
      subst e5
      subst e4
      rcases dGet_rel (kk := kk) rr with ⟨w, z, g1, g2, g3⟩ | ⟨g1, g2⟩
      · rw [g1] at q
        obtain rfl : v = Value.ref d := rx
        have g : DGet H d (kV kk) (some z) := by rw [← g2]; exact DGet.r hd
        exact PyProof.Rows.tail_any (dict_typeIs I g) PySem.slot_dict_getitem.lookup (d_getItem hu I g ry fun w' s' I' r' => ⟨z, H, I', r', q H z (Hx.refl _) g3⟩) hs
      · rw [g1] at q; exact q.elim
    · exact q.elim
  · exact q.elim
theorem se_getD {a b : Expr} (nokd : ∀ a kvs, ¬ T.kd a kvs) (hu : X.A.units + 1 < cLine) (ha : SE X T E mu io a ma) (hb : SE X T E mu io b mb) (hs : PlainIx b := by intro _ _; rfl) : SE X T E mu io (.Subscript a b pos) (e2 vGetD ma mb) :=
  PE.imp (pe_ix (ix_dic nokd hu) ha hb hs) fun σ H Q h => e2_imp h
theorem o_inD (nokd : ∀ a kvs, ¬ T.kd a kvs) (hu : X.A.units + 1 < cLine) : OpR X (compareOp .In) (r2 X.K T vInD) := by
  intro pins s σ H x y v u Q I rx ry ⟨O, a, b, tr, va, vb, q⟩
  unfold vInD at q
  split at q
  · rename_i k ks vs
    split at q
    · rename_i hk
      obtain ⟨kk, e4, e5⟩ := key_of hk va
      obtain ⟨d, kvs, rfl, hd, _, e1, rr⟩ := vb.dicH nokd
      subst e1
      subst e5
      subst e4
      obtain rfl : u = Value.ref d := ry
      rcases dGet_rel (kk := kk) rr with ⟨w, z, g1, g2, g3⟩ | ⟨g1, g2⟩
      · rw [g1] at q
        exact d_in hu I (o := some z) (by rw [← g2]; exact DGet.r hd) rx fun s' I' => ⟨.bl true, H, I', rfl, q H _ (Hx.refl _) vr_bl⟩
      · rw [g1] at q
        exact d_in hu I (o := none) (by rw [← g2]; exact DGet.r hd) rx fun s' I' => ⟨.bl false, H, I', rfl, q H _ (Hx.refl _) vr_bl⟩
    · exact q.elim
  · exact q.elim
theorem o_notInD (nokd : ∀ a kvs, ¬ T.kd a kvs) (hu : X.A.units + 1 < cLine) : OpR X (compareOp .NotIn) (r2 X.K T vNotInD) := by
  intro pins s σ H x y v u Q I rx ry ⟨O, a, b, tr, va, vb, q⟩
  unfold vNotInD at q
  split at q
  · rename_i k ks vs
    split at q
    · rename_i hk
      obtain ⟨kk, e4, e5⟩ := key_of hk va
      obtain ⟨d, kvs, rfl, hd, _, e1, rr⟩ := vb.dicH nokd
      subst e1
      subst e5
      subst e4
      obtain rfl : u = Value.ref d := ry
      rcases dGet_rel (kk := kk) rr with ⟨w, z, g1, g2, g3⟩ | ⟨g1, g2⟩
      · rw [g1] at q
        exact d_notIn hu I (o := some z) (by rw [← g2]; exact DGet.r hd) rx fun s' I' => ⟨.bl false, H, I', rfl, q H _ (Hx.refl _) vr_bl⟩
      · rw [g1] at q
        exact d_notIn hu I (o := none) (by rw [← g2]; exact DGet.r hd) rx fun s' I' => ⟨.bl true, H, I', rfl, q H _ (Hx.refl _) vr_bl⟩
    · exact q.elim
  · exact q.elim
/-! ### methods of built-in types, on values -/
def rM (K : PySem.W.Frag) (T : Tb) (f : Val → List Val → Option Val) : V → List V → Hp → VK → Prop := fun x xs H Q => ∃ O a as, (∀ p, O p ≠ none → H p ≠ none) ∧ VR K T O H a x ∧ VRs K T O H as xs ∧ rV K T O H Q (f a as)
theorem se_mt {f : Val → List Val → Option Val} {q : Val → Bool} {o : Expr} {ty id : String} {name : Str} (pa : PlainAttrs ty) (slot : Slot ty name id) (hty : typeOf (.builtin id) = pure (.type "method_descriptor")) (hm : MtR X id (rM X.K T f))
    (hq : ∀ O H v x, VR X.K T O H v x → q v = true → tyW X.K ty x H) (ho : SE X T E mu io o ma) (ha : SA X T E mu io (e :: es) ms)
    (hbase : attributeBase o name X.env (eval o X.env) = eval o X.env := by rfl)
    (hfew : ((backTo pos (starEach (e :: es) X.env)).all (fun x => !x.1) && (backToKw pos (keywordEach [] X.env)).all (fun x => x.1.isSome)
      && decide ((e :: es).length + ([] : List Keyword).length + (if ([] : List Keyword).isEmpty then 0 else 1) < 30)) = true := by rfl)
    (hline : (apos.endLine == pos.line) = true := by rfl) (hs : starEach (e :: es) X.env = (false, eval e X.env) :: starEach es X.env := by rfl) (hplain : (backTo pos (starEach es X.env)).any (·.1) = false := by rfl) :
    SE X T E mu io (.Call (.Attribute o name apos) (e :: es) [] pos) (eMt q f ma ms) :=
  PE.imp (pe_bw pa slot hty hm ho ha hbase hfew hline hs hplain) fun σ H Q ⟨O, fr, rl, g⟩ => by
    unfold eMt at g
    refine ⟨O, fr, rl, ?_⟩
    cases h1 : ma fr with
    | bad => rw [h1] at g; exact g
    | exc e => rw [h1] at g; exact g
    | ok z =>
      obtain ⟨a, fr1⟩ := z
      rw [h1] at g
      intro O1 H1 x F1 R1 V1
      simp only [SK.R.bind_ok] at g
      split at g
      · rename_i hqa
        refine ⟨hq _ _ _ _ V1 hqa, O1, fr1, R1, ?_⟩
        cases h2 : ms fr1 with
        | bad => rw [h2] at g; exact g
        | exc e => rw [h2] at g; exact pEx.back F1 g
        | ok z =>
          obtain ⟨as, fr2⟩ := z
          rw [h2] at g
          intro O2 H2 xs F2 R2 V2
          simp only [SK.R.bind_ok] at g
          refine ⟨O2, a, as, R2.trk, VR.mono F2 _ _ V1, V2, ?_⟩
          cases h3 : f a as with
          | none => rw [h3] at g; exact g
          | some v =>
            rw [h3] at g
            intro H3 z X3 V3
            exact g O2 H3 z ((F1.trans F2).trans X3.fm) (R2.hx X3) V3
      · exact g.elim
theorem ty_dic (nokd : ∀ a kvs, ¬ T.kd a kvs) : ∀ O H v x, VR X.K T O H v x → isDic v = true → tyW X.K "dict" x H := fun O H v x h e => by
  cases v with
  | dic ks vs =>
    obtain ⟨d, kvs, rfl, hd, _⟩ := h.dicH nokd
    exact .inr ⟨rfl, d, kvs, rfl, hd.rd⟩
  | _ => cases e
theorem ty_lst : ∀ O H v x, VR X.K T O H v x → isLst v = true → tyW X.K "list" x H := fun O H v x h e => by
  cases v with
  | lst xs =>
    obtain ⟨p, vs, rfl, t, _⟩ := h.lst
    exact .inl (.inl ⟨rfl, vs, t.sq⟩)
  | _ => cases e
theorem mt_dget (nokd : ∀ a kvs, ¬ T.kd a kvs) (hu : X.A.units + 1 < cLine) : MtR X "dict.get" (rM X.K T mGet) := by
  intro pins s σ H x xs v us Q I rx rs ⟨O, a, as, tr, va, vas, q⟩
  unfold mGet at q
  split at q
  · rename_i ks vs k
    split at q
    · rename_i hk
      obtain ⟨y, rfl, vb⟩ := vas.one
      obtain ⟨kk, e4, e5⟩ := key_of hk vb
      obtain ⟨d, kvs, rfl, hd, _, e1, rr⟩ := va.dicH nokd
      subst e1
      subst e5
      subst e4
      obtain rfl : v = Value.ref d := rx
      obtain ⟨u, rfl, ru⟩ : ∃ u, us = [u] ∧ RelV (kV kk) u := by
        cases rs with
        | cons r1 r2 => cases r2; exact ⟨_, rfl, r1⟩
      rcases dGet_rel (kk := kk) rr with ⟨w, z, g1, g2, g3⟩ | ⟨g1, g2⟩
      · rw [g1] at q
        exact d_get1 hu I (o := some z) (by rw [← g2]; exact DGet.r hd) ru fun w' s' I' r' => ⟨z, H, I', r', q H z (Hx.refl _) g3⟩
      · rw [g1] at q
        exact d_get1 hu I (o := none) (by rw [← g2]; exact DGet.r hd) ru fun w' s' I' r' => ⟨.non, H, I', r', q H _ (Hx.refl _) vr_non⟩
    · exact q.elim
  · rename_i ks vs k z0
    split at q
    · rename_i hk
      obtain ⟨y, y2, rfl, vb, vz⟩ := vas.two
      obtain ⟨kk, e4, e5⟩ := key_of hk vb
      obtain ⟨d, kvs, rfl, hd, _, e1, rr⟩ := va.dicH nokd
      subst e1
      subst e5
      subst e4
      obtain rfl : v = Value.ref d := rx
      obtain ⟨u, u2, rfl, ru, ru2⟩ : ∃ u u2, us = [u, u2] ∧ RelV (kV kk) u ∧ RelV y2 u2 := by
        cases rs with
        | cons r1 r2 => cases r2 with
          | cons r2 r3 => cases r3; exact ⟨_, _, rfl, r1, r2⟩
      rcases dGet_rel (kk := kk) rr with ⟨w, z, g1, g2, g3⟩ | ⟨g1, g2⟩
      · rw [g1] at q
        exact d_get2 hu I (o := some z) (by rw [← g2]; exact DGet.r hd) ru ru2 fun w' s' I' r' => ⟨z, H, I', r', q H z (Hx.refl _) g3⟩
      · rw [g1] at q
        exact d_get2 hu I (o := none) (by rw [← g2]; exact DGet.r hd) ru ru2 fun w' s' I' r' => ⟨y2, H, I', r', q H _ (Hx.refl _) vz⟩
    · exact q.elim
  · exact q.elim
/-! ### dict(d), list(d) -/
theorem vr_newD {K : PySem.W.Frag} {O : Own} {H : Hp} (tr : ∀ p, O p ≠ none → H p ≠ none) {p : Addr} (hp : H p = none) {ks vs : List Val} {kvs : List (Key × V)} (e : ks = kvs.map fun p => kVal p.1) (r : VRs K T O H vs (kvs.map (·.2))) : Hx H (upd H p (.dK kvs)) ∧ VR K T O (upd H p (.dK kvs)) (.dic ks vs) (.ref p) := by
  have hx : Hx H (upd H p (.dK kvs)) := Hx.upd hp
  refine ⟨hx, ?_⟩
  have ho : O p = none := Classical.byContradiction fun z => tr p z hp
  unfold VR
  exact ⟨p, kvs, rfl, .inl ⟨.inl upd_same, ho⟩, e, r.mono hx.fm⟩
theorem c_dictD (nokd : ∀ a kvs, ¬ T.kd a kvs) : CallR X (.type "dict") (rN X.K T vDictD) := by
  intro pins s σ H xs us Q I r ⟨O, as, tr, va, q⟩
  unfold vDictD at q
  split at q
  · obtain ⟨x, rfl, h⟩ := va.one
    obtain ⟨d, kvs, rfl, hd, _, e1, rr⟩ := h.dicH nokd
    refine call_dictD pins s σ H _ us Q I r ⟨d, kvs, rfl, hd.rd, fun p hp => ?_⟩
    obtain ⟨a, b⟩ := vr_newD tr hp e1 rr
    exact q _ _ a b
  · exact q.elim
theorem vrs_keys {K : PySem.W.Frag} {O : Own} {H : Hp} : ∀ kvs : List (Key × V), VRs K T O H (kvs.map fun p => kVal p.1) (kvs.map fun kv => kV kv.1)
  | [] => VRs.nil
  | p :: r => .cons (by
      obtain ⟨k, v⟩ := p
      cases k with
      | inl i => exact vr_int
      | inr z => unfold VR; exact ⟨z, rfl, rfl⟩) (vrs_keys r)
theorem c_listD (nokd : ∀ a kvs, ¬ T.kd a kvs) (hc : X.calm = true) : CallR X (.type "list") (rN X.K T vListD) := by
  intro pins s σ H xs us Q I r ⟨O, as, tr, va, q⟩
  unfold vListD at q
  split at q
  · obtain ⟨x, rfl, h⟩ := va.one
    obtain ⟨d, kvs, rfl, hd, _, e1, rr⟩ := h.dicH nokd
    refine call_listD hc pins s σ H _ us Q I r ⟨d, kvs, rfl, hd.rd, fun p hp => ?_⟩
    subst e1
    obtain ⟨a, b⟩ := vr_new tr hp (vrs_keys kvs)
    exact q _ _ a b
  · exact q.elim
end
end SK

set_option maxHeartbeats 1000000
/-! SK22: list.index, tuple.index of texts; constant tuples and dicts of the module. -/
noncomputable section
namespace SK
open PySem L2 PySem.Spec

/-! ### the functions -/
def idxS (x : Sg) : List Sg → Option Nat
  | [] => none
  | y :: r => if y = x then some 0 else (idxS x r).map (· + 1)
def mIdx : Val → List Val → Option Val
  | .lst ys, [.str x] => (txts ys).bind fun ss => (idxS x ss).map fun j => .int (j : Nat)
  | .tup ys, [.str x] => (txts ys).bind fun ss => (idxS x ss).map fun j => .int (j : Nat)
  | _, _ => none
def anyV : Val → Bool := fun _ => true
/-- a written dict with text keys at a key -/
def cGet : List (Sg × Val) → Val → Option Val
  | [], _ => none
  | (k, v) :: r, .str x => if k = x then some v else cGet r (.str x)
  | _, _ => none
theorem idxS_ok {x : Sg} : ∀ {ss : List Sg} {j : Nat}, idxS x ss = some j → ss[j]? = some x ∧ ∀ m, m < j → ss[m]? ≠ some x
  | [], j, h => by cases h
  | y :: r, j, h => by
    unfold idxS at h
    split at h
    · rename_i e
      cases h
      exact ⟨by rw [e]; rfl, fun m hm => absurd hm (Nat.not_lt_zero _)⟩
    · rename_i e
      cases q : idxS x r with
      | none => rw [q] at h; cases h
      | some i =>
        rw [q] at h
        cases h
        obtain ⟨h1, h2⟩ := idxS_ok q
        refine ⟨by simpa using h1, fun m hm => ?_⟩
        cases m with
        | zero => intro z; exact e (by simpa using z)
        | succ m => intro z; exact h2 m (Nat.lt_of_succ_lt_succ hm) (by simpa using z)
theorem str_of_list {a b : Str} (h : a.cps.toList = b.cps.toList) : a = b := by
  obtain ⟨c⟩ := a
  obtain ⟨c'⟩ := b
  have : c = c' := Array.toList_inj.mp h
  rw [this]
section
variable {X : Cx} {T : Tb} {E : XK} {mu : Nat → Bool} {io : List (Nat × V)} {e : Expr} {es : List Expr} {ma mb : EM} {ms : AM} {pos : Pos} {i j : Nat} {x y : Str} {p p' apos : Pos}
theorem idx_zs {z : Str} {zs : List Str} {j : Nat} (h : idxS z.cps.toList (zs.map fun z => z.cps.toList) = some j) : zs[j]? = some z ∧ ∀ m, m < j → zs[m]? ≠ some z := by
  obtain ⟨h1, h2⟩ := idxS_ok h
  rw [List.getElem?_map] at h1
  refine ⟨?_, fun m hm e => h2 m hm (by rw [List.getElem?_map, e]; rfl)⟩
  cases q : zs[j]? with
  | none => rw [q] at h1; cases h1
  | some w =>
    rw [q] at h1
    rw [str_of_list (Option.some.inj h1)]
theorem mt_idxL : MtR X "list.index" (rM X.K T fun a as => if isLst a = true then mIdx a as else none) := by
  intro pins s σ H x xs v us Q I rx rs ⟨O, a, as, tr, va, vas, q⟩
  cases a with
  | lst ys =>
    simp only [isLst, if_true] at q
    unfold mIdx at q
    split at q
    · rename_i ys' z e0
      cases e0
      obtain ⟨y, rfl, vb⟩ := vas.one
      obtain ⟨z, rfl, rfl⟩ := vb.str
      obtain ⟨d, vs, rfl, t, rr⟩ := va.lst
      cases h1 : txts ys with
      | none => rw [h1] at q; exact q.elim
      | some ss =>
        rw [h1] at q
        simp only [Option.bind_some] at q
        obtain ⟨zs, rfl, rfl⟩ := strs_ok h1 rr
        cases h2 : idxS z.cps.toList (zs.map fun z => z.cps.toList) with
        | none => rw [h2] at q; exact q.elim
        | some j =>
          rw [h2] at q
          obtain ⟨g1, g2⟩ := idx_zs h2
          refine mt_index pins s σ H _ _ v us Q I rx rs ⟨d, zs.map V.str, .str z, j, .str z, rfl, rfl, t.sq, rfl, ?_, by rw [List.getElem?_map, g1]; rfl, by simp [eqV], fun m z' hm hz => ?_, q H _ (Hx.refl _) vr_int⟩
          · rw [List.all_map]; exact List.all_eq_true.mpr fun _ _ => rfl
          · rw [List.getElem?_map] at hz
            cases h3 : zs[m]? with
            | none => rw [h3] at hz; cases hz
            | some w =>
              rw [h3] at hz
              cases hz
              have : w ≠ z := fun e => g2 m hm (by rw [h3, e])
              simpa [eqV] using this
    · rename_i e0
      cases e0
    · exact q.elim
  | _ => exact q.elim
theorem mt_idxT : MtR X "tuple.index" (rM X.K T fun a as => if isLst a = true then none else mIdx a as) := by
  intro pins s σ H x xs v us Q I rx rs ⟨O, a, as, tr, va, vas, q⟩
  dsimp only at q
  split at q
  · exact q.elim
  · rename_i hn
    unfold mIdx at q
    split at q
    · exact absurd rfl hn
    · rename_i ys z
      obtain ⟨y, rfl, vb⟩ := vas.one
      obtain ⟨z, rfl, rfl⟩ := vb.str
      obtain ⟨d, vs, rfl, t, rr⟩ := va.tup
      cases h1 : txts ys with
      | none => rw [h1] at q; exact q.elim
      | some ss =>
        rw [h1] at q
        simp only [Option.bind_some] at q
        obtain ⟨zs, rfl, rfl⟩ := strs_ok h1 rr
        cases h2 : idxS z.cps.toList (zs.map fun z => z.cps.toList) with
        | none => rw [h2] at q; exact q.elim
        | some j =>
          rw [h2] at q
          obtain ⟨g1, g2⟩ := idx_zs h2
          exact mt_tup_index pins s σ H _ _ v us Q I rx rs ⟨d, zs, z, j, rfl, rfl, t.sq, g1, g2, q H _ (Hx.refl _) vr_int⟩
    · exact q.elim
/-! ### a constant of the module that is written, as the receiver -/
structure ConW (X : Cx) (T : Tb) (ty : String) (g : Str) (v : Val) : Prop where
  ok : ∃ (u : Value) (y : V), X.mg g = some u ∧ RelV y u ∧ (∀ O H, VR X.K T O H v y) ∧ ∀ H, L2.tyV X.K ty y H
theorem se_mtC {f : Val → List Val → Option Val} {ty id : String} {name g : Str} {v : Val} (pa : PlainAttrs ty) (slot : Slot ty name id) (hty : typeOf (.builtin id) = pure (.type "method_descriptor")) (hm : MtR X id (rM X.K T f))
    (hc : ConW X T ty g v) (ha : SA X T E mu io (e :: es) ms) (hg : Gl X g := by rfl) (hd : (g == ("__debug__" : Str)) = false := by decide)
    (hbase : attributeBase (.Name g p) name X.env (eval (.Name g p) X.env) = eval (.Name g p) X.env := by rfl)
    (hfew : ((backTo pos (starEach (e :: es) X.env)).all (fun x => !x.1) && (backToKw pos (keywordEach [] X.env)).all (fun x => x.1.isSome)
      && decide ((e :: es).length + ([] : List Keyword).length + (if ([] : List Keyword).isEmpty then 0 else 1) < 30)) = true := by rfl)
    (hline : (apos.endLine == pos.line) = true := by rfl) (hs : starEach (e :: es) X.env = (false, eval e X.env) :: starEach es X.env := by rfl) (hplain : (backTo pos (starEach es X.env)).any (·.1) = false := by rfl) :
    SE X T E mu io (.Call (.Attribute (.Name g p) name apos) (e :: es) [] pos) (eMt anyV f (eC v) ms) := by
  obtain ⟨u, y, h1, h2, h3, h4⟩ := hc.ok
  exact PE.imp (pe_bm pa slot hty hm (pe_glob hg h1 h2 hd) ha hbase hfew hline hs hplain) fun σ H Q ⟨O, fr, rl, g⟩ => by
    unfold eMt eC at g
    simp only [SK.R.bind_ok, anyV, if_true] at g
    refine ⟨h4 H, O, fr, rl, ?_⟩
    cases h2 : ms fr with
    | bad => rw [h2] at g; exact g
    | exc e => rw [h2] at g; exact g
    | ok z =>
      obtain ⟨as, fr2⟩ := z
      rw [h2] at g
      intro O2 H2 xs F2 R2 V2
      simp only [SK.R.bind_ok] at g
      refine ⟨O2, v, as, R2.trk, h3 _ _, V2, ?_⟩
      cases h5 : f v as with
      | none => rw [h5] at g; exact g
      | some w =>
        rw [h5] at g
        intro H3 z X3 V3
        exact g O2 H3 z (F2.trans X3.fm) (R2.hx X3) V3
/-! ### a written dict with text keys -/
structure CDict (X : Cx) (T : Tb) (g : Str) (kvs : List (Sg × Val)) : Prop where
  ok : ∃ d es n, X.mg g = some (.ref d) ∧ KDict X.K X.w d es n ∧ ∀ z : Str, ∀ v, cGet kvs (.str z.cps.toList) = some v → ∃ (u : Value) (y : V), PySem.W.nsIn X.K d z = some (some u) ∧ RelV y u ∧ ∀ O H, VR X.K T O H v y
theorem se_cdx {g : Str} {b : Expr} {kvs : List (Sg × Val)} (hc : CDict X T g kvs) (hb : SE X T E mu io b mb) (hg : Gl X g := by rfl) (hd : (g == ("__debug__" : Str)) = false := by decide) (hs : PlainIx b := by intro _ _; rfl) :
    SE X T E mu io (.Subscript (.Name g p) b pos) (e1 (cGet kvs) mb) := by
  obtain ⟨d, es, n, h1, D, h3⟩ := hc.ok
  exact PE.imp (pe_ix ix_kdict (pe_glob (v := .ref d) hg h1 rfl hd) hb hs) fun σ H Q ⟨O, fr, rl, q⟩ => by
    unfold e1 at q
    refine ⟨O, fr, rl, ?_⟩
    cases h4 : mb fr with
    | bad => rw [h4] at q; exact q
    | exc e => rw [h4] at q; exact q
    | ok z =>
      obtain ⟨k, fr1⟩ := z
      rw [h4] at q
      intro O1 H1 y F1 R1 V1
      simp only [SK.R.bind_ok] at q
      cases h5 : cGet kvs k with
      | none => rw [h5] at q; exact q.elim
      | some v =>
        rw [h5] at q
        obtain ⟨z, rfl⟩ : ∃ z, k = .str z := by
          cases k with
          | str z => exact ⟨z, rfl⟩
          | _ => cases kvs <;> cases h5
        obtain ⟨w, rfl, rfl⟩ := V1.str
        obtain ⟨u, y, g1, g2, g3⟩ := h3 w v h5
        exact ⟨d, w, y, rfl, rfl, ⟨es, n, u, D.at_, D.lit, g1, g2⟩, q O1 H1 y F1 R1 (g3 _ _)⟩
end
end SK

set_option maxHeartbeats 1000000
/-! SK23: own subscripts, own in, own len. -/
noncomputable section
namespace SK
open PySem L2 PySem.Spec

/-! ### the functions -/
def eGetI (cs : List Nat) (m : FnM) (a b : EM) : EM := fun fr => (a fr).bind fun x => (b x.2).bind fun y => if isC cs x.1 = true then (m [x.1, y.1]).bind fun r => .ok (r.1, y.2) else .bad
/-- a in b: the own method of b -/
def eInI (cs : List Nat) (neg : Bool) (m : FnM) (a b : EM) : EM := fun fr => (a fr).bind fun x => (b x.2).bind fun y => if isC cs y.1 = true then (m [y.1, x.1]).bind fun r => (ofO (isB r.1)).bind fun k => .ok (.bl (if neg = true then !k else k), y.2) else .bad
def natI : Val → Option Int
  | .int i => if 0 ≤ i ∧ i < 2 ^ 62 then some i else none
  | _ => none
def eLenI (cs : List Nat) (m : FnM) (a : EM) : EM := fun fr => (a fr).bind fun x => if isC cs x.1 = true then (m [x.1]).bind fun r => (ofO (natI r.1)).bind fun i => .ok (.int i, x.2) else .bad
/-- what of the text the classes cs must have for the special method x, the def g -/
structure SpF (K : PySem.W.Frag) (T : Tb) (cs : List Nat) (x : Str) (g : Addr) : Prop where
  at_ : ∀ c, cs.contains c = true → PySem.W.findIn K (.ref (T.cl c)) x = some (some (.ref g))
  fn : PySem.W.isFn K (.ref g) = true
  fi : PySem.W.fnIn K g = true
section
variable {X : Cx} {T : Tb} {E : XK} {mu : Nat → Bool} {io : List (Nat × V)} {ma mb : EM} {pos : Pos} {cs : List Nat} {CX : CXT} {k n : Nat} {gf : Addr} {fd : FuncData} {ps : List Str} {bop : List Nat} {m : FnM} {sp : Sp} {a b : Expr} {nf : Nat → Val → Bool}
def rOwn2 (K : PySem.W.Frag) (T : Tb) (cs : List Nat) (E : XK) (sp : Sp) : R2 := fun x y H Q => ∃ c a dx fs', cs.contains c = true ∧ x = .ref a ∧ H a = some (.ins (T.cl c) dx fs') ∧ sp [x, y] H Q E
theorem pe_own2 {ta tb : TE} (hS : SpF X.K T cs "__getitem__" gf) (F : FnOk X.prog X.w X.K X.mg X.base CX k gf fd ps sp) (hr : Room (k + 1) X.A) (hb : Binds X.K fd ps []) (hx : Passes CX X E) (ha : PE X a ta) (hb' : PE X b tb)
    (hsl : ∀ o i, subscripted b true o i = runValue (.builtin "lifetime.subscript" ⟨[o, i], []⟩)) : PE X (.Subscript a b pos) (tOp (rOwn2 X.K T cs E sp) ta tb) := by
  refine ⟨fun pins s σ H Q I h => ?_⟩
  refine PyProof.Rows.Subscript_ (binT ha hb' I h fun v u s2 x y H2 I2 rx ry q => ?_)
  obtain ⟨c, p, dx, fs', hc, e1, h1, q⟩ := q
  subst e1
  cases (show v = Value.ref p from rx)
  obtain ⟨mA, O, _⟩ := ins_get I2.hok h1
  obtain ⟨od, J, _⟩ := O.look
  obtain ⟨mm, hF⟩ := I2.fr
  exact PySem.W.sub_K hF I2.ok.mod.kin J (hS.at_ c hc) hS.fi hS.fn (run_fnAt (us := [.ref p, u]) (vs := [.ref p, y]) F hr.in1 I2.env0.in1 hb hx I2 (.cons rfl (.cons ry .nil)) q) (hsl _ _)
theorem spG_mono {K : PySem.W.Frag} {iop bop : List Nat} {ro : Bool} {n : Nat} {m : FnM} {vs : List V} {H : Hp} {Q Q' : VK} {E : XK} (h : spG K T iop bop ro n m vs H Q E) (i : ∀ z H', Q z H' → Q' z H') : spG K T iop bop ro n m vs H Q' E := by
  obtain ⟨h1, O, args, h2, h3, h4⟩ := h
  refine ⟨h1, O, args, h2, h3, ?_⟩
  cases e : m args with
  | ok p =>
    rw [e] at h4
    exact fun O' H' x a b c d => i _ _ (h4 O' H' x a b c d)
  | exc x => rw [e] at h4; exact h4
  | bad => rw [e] at h4; exact h4
/-- the common part: x and y by value, the method called -/
theorem own2_imp {K : PySem.W.Frag} {O : Own} {O1 O2 : Own} {fr fr1 fr2 : Fr} {σ : St} {H H1 H2 : Hp} {Q : VK} {c : Nat} {fs : List Nat} {vs : List Val} {y : Val} {a : Addr} {y' : V} (F1 : Fm O H O1 H1) (F2 : Fm O1 H1 O2 H2) (R2 : Rl K T mu io O2 fr2 σ H2)
    (V1 : VR K T O2 H2 (.ins c fs vs) (.ref a)) (V2 : VR K T O2 H2 y y') {P : Val → Option Val}
    (q : match (m [.ins c fs vs, y]).bind fun r => (ofO (P r.1)).bind fun v => (.ok (v, fr2) : R (Val × Fr)) with
      | .ok (v, fr') => ∀ O' H' x, Fm O H O' H' → Rl K T mu io O' fr' σ H' → VR K T O' H' v x → Q x H'
      | .exc e => pEx K T E O H e
      | .bad => False) :
    spG K T [] bop false 2 m [.ref a, y'] H2 (fun z H' => ∃ v v', P v = some v' ∧ ∃ O', VR K T O' H' v z ∧ ∀ x, VR K T O' H' v' x → Q x H') E := by
  refine call_core (r := 0) (iop := []) (bop := bop) (ro := false) (dv := []) (dx := []) (as := [.inr (.inl (.ins c fs vs)), .inr (.inl y)]) (args := [.ins c fs vs, y]) (xs := [.ref a, y']) R2 (fun _ _ => VRs.nil) rfl rfl rfl rfl rfl ⟨V1, V2, trivial⟩ rfl ?_
  show match m [.ins c fs vs, y] with
    | .ok (v, outs) => _
    | .exc e => _
    | .bad => _
  cases h3 : m [.ins c fs vs, y] with
  | bad => rw [h3] at q; exact q
  | exc e => rw [h3] at q; exact pEx.back (F1.trans F2) q
  | ok p =>
    obtain ⟨v, outs⟩ := p
    rw [h3] at q
    simp only [SK.R.bind_ok] at q
    intro O3 H3 z F3 R3 V3
    unfold RtR at V3
    simp only [Bool.false_eq_true, if_false] at V3
    cases h4 : P v with
    | none => rw [h4] at q; exact q.elim
    | some v' =>
      rw [h4] at q
      exact ⟨v, v', h4, O3, V3, fun x hx => q O3 H3 _ ((F1.trans F2).trans F3) R3 hx⟩
theorem se_getI (W : ∀ c, cs.contains c = true → True) (hS : SpF X.K T cs "__getitem__" gf) (F : FnOk X.prog X.w X.K X.mg X.base CX k gf fd ps (spG X.K T [] bop false 2 m)) (hr : Room (k + 1) X.A) (hb : Binds X.K fd ps []) (hx : Passes CX X E := by exact pass0)
    (ha : SE X T E mu io a ma) (hb' : SE X T E mu io b mb) (hsl : ∀ o i, subscripted b true o i = runValue (.builtin "lifetime.subscript" ⟨[o, i], []⟩) := by intro _ _; rfl) : SE X T E mu io (.Subscript a b pos) (eGetI cs m ma mb) :=
  PE.imp (pe_own2 hS F hr hb hx ha hb' hsl) fun σ H Q ⟨O, fr, rl, q⟩ => by
    unfold eGetI at q
    refine ⟨O, fr, rl, ?_⟩
    cases h1 : ma fr with
    | bad => rw [h1] at q; exact q
    | exc e => rw [h1] at q; exact q
    | ok p =>
      obtain ⟨x, fr1⟩ := p
      rw [h1] at q
      intro O1 H1 x' F1 R1 V1
      refine ⟨O1, fr1, R1, ?_⟩
      simp only [SK.R.bind_ok] at q
      cases h2 : mb fr1 with
      | bad => rw [h2] at q; exact q
      | exc e => rw [h2] at q; exact pEx.back F1 q
      | ok p =>
        obtain ⟨y, fr2⟩ := p
        rw [h2] at q
        intro O2 H2 y' F2 R2 V2
        simp only [SK.R.bind_ok] at q
        by_cases hk : isC cs x = true
        · rw [if_pos hk] at q
          cases x with
          | ins c fs vs =>
            have V1' := V1.mono F2
            have V1'' := V1'
            obtain ⟨p, dx, fs', ws, rfl, h4, h5, h6, h7⟩ := V1''.ins (cs_2 hk)
            refine ⟨c, p, dx, fs', cs_1 hk, rfl, h4, ?_⟩
            have g := own2_imp (E := E) (bop := bop) (m := m) (P := some) F1 F2 R2 V1' V2 (Q := Q) (fr := fr) (fr1 := fr1) (by
              cases h3 : m [.ins c fs vs, y] with
              | bad => rw [h3] at q; exact q
              | exc e => rw [h3] at q; exact q
              | ok p => rw [h3] at q; exact q)
            exact spG_mono g fun z H' ⟨v, v', e, O', hv, hq⟩ => by
              cases e
              exact hq _ hv
          | _ => cases hk
        · rw [if_neg hk] at q; exact q.elim
end
end SK

set_option maxHeartbeats 1000000
/-! SK24: own in, not in; own len. -/
noncomputable section
namespace SK
open PySem L2 PySem.Spec
section
variable {X : Cx} {T : Tb} {E : XK} {mu : Nat → Bool} {io : List (Nat × V)} {ma mb : EM} {pos : Pos} {cs : List Nat} {CX : CXT} {k n : Nat} {gf : Addr} {fd : FuncData} {ps : List Str} {bop : List Nat} {m : FnM} {sp : Sp} {a b : Expr} {nf : Nat → Val → Bool}
def rOwnIn (K : PySem.W.Frag) (T : Tb) (cs : List Nat) (E : XK) (neg : Bool) (sp : Sp) : R2 := fun x y H Q => ∃ c a dx fs', cs.contains c = true ∧ y = .ref a ∧ H a = some (.ins (T.cl c) dx fs') ∧ sp [y, x] H (fun z H' => ∃ k, z = .bl k ∧ Q (.bl (if neg = true then !k else k)) H') E
theorem o_ownIn (hS : SpF X.K T cs "__contains__" gf) (F : FnOk X.prog X.w X.K X.mg X.base CX k gf fd ps sp) (hr : Room k X.A) (hb : Binds X.K fd ps []) (hx : Passes CX X E) : OpR X (compareOp .In) (rOwnIn X.K T cs E false sp) := by
  intro pins s σ H x y v u Q I rx ry ⟨c, a, dx, fs', hc, e1, h1, q⟩
  subst e1
  cases (show u = Value.ref a from ry)
  obtain ⟨mA, O, _⟩ := ins_get I.hok h1
  obtain ⟨od, J, _⟩ := O.look
  obtain ⟨mm, hF⟩ := I.fr
  refine PySem.W.in_K hF I.ok.mod.kin J (hS.at_ c hc) hS.fn ?_
  refine wpAny_mono (run_fnAt (us := [.ref a, v]) (vs := [.ref a, x]) F hr I.env0 hb hx I (.cons rfl (.cons rx .nil)) q) (fun w s' z => ?_) fun _ _ x => x
  obtain ⟨z', H', I', rz, b, e, qz⟩ := z
  subst e
  cases (show w = Value.bool b from rz)
  exact _root_.PySem.wpAny_truthy_bool ⟨.bl b, H', I', rfl, qz⟩
theorem o_ownNotIn (hS : SpF X.K T cs "__contains__" gf) (F : FnOk X.prog X.w X.K X.mg X.base CX k gf fd ps sp) (hr : Room k X.A) (hb : Binds X.K fd ps []) (hx : Passes CX X E) : OpR X (compareOp .NotIn) (rOwnIn X.K T cs E true sp) := by
  intro pins s σ H x y v u Q I rx ry ⟨c, a, dx, fs', hc, e1, h1, q⟩
  subst e1
  cases (show u = Value.ref a from ry)
  obtain ⟨mA, O, _⟩ := ins_get I.hok h1
  obtain ⟨od, J, _⟩ := O.look
  obtain ⟨mm, hF⟩ := I.fr
  refine PySem.W.notIn_K hF I.ok.mod.kin J (hS.at_ c hc) hS.fn ?_
  refine wpAny_mono (run_fnAt (us := [.ref a, v]) (vs := [.ref a, x]) F hr I.env0 hb hx I (.cons rfl (.cons rx .nil)) q) (fun w s' z => ?_) fun _ _ x => x
  obtain ⟨z', H', I', rz, b, e, qz⟩ := z
  subst e
  cases (show w = Value.bool b from rz)
  exact _root_.PySem.wpAny_truthy_bool ⟨.bl (!b), H', I', rfl, qz⟩
theorem eInI_imp {K : PySem.W.Frag} {neg : Bool} {σ : St} {H : Hp} {Q : VK} (h : rE K T E mu io (eInI cs neg m ma mb) σ H Q) : tOp (rOwnIn K T cs E neg (spG K T [] bop false 2 m)) (rE K T E mu io ma) (rE K T E mu io mb) σ H Q := by
  obtain ⟨O, fr, rl, q⟩ := h
  unfold eInI at q
  refine ⟨O, fr, rl, ?_⟩
  cases h1 : ma fr with
  | bad => rw [h1] at q; exact q
  | exc e => rw [h1] at q; exact q
  | ok p =>
    obtain ⟨x, fr1⟩ := p
    rw [h1] at q
    intro O1 H1 x' F1 R1 V1
    refine ⟨O1, fr1, R1, ?_⟩
    simp only [SK.R.bind_ok] at q
    cases h2 : mb fr1 with
    | bad => rw [h2] at q; exact q
    | exc e => rw [h2] at q; exact pEx.back F1 q
    | ok p =>
      obtain ⟨y, fr2⟩ := p
      rw [h2] at q
      intro O2 H2 y' F2 R2 V2
      simp only [SK.R.bind_ok] at q
      by_cases hk : isC cs y = true
      · rw [if_pos hk] at q
        cases y with
        | ins c fs vs =>
          have V1' := V1.mono F2
          have V2'' := V2
          obtain ⟨p, dx, fs', ws, rfl, h4, h5, h6, h7⟩ := V2''.ins (cs_2 hk)
          refine ⟨c, p, dx, fs', cs_1 hk, rfl, h4, ?_⟩
          have g := own2_imp (E := E) (bop := bop) (m := m) (P := fun v => (isB v).map fun k => .bl (if neg = true then !k else k)) F1 F2 R2 V2 V1' (Q := Q) (fr := fr) (fr1 := fr1) (by
            cases h3 : m [.ins c fs vs, x] with
            | bad => rw [h3] at q; exact q
            | exc e => rw [h3] at q; exact q
            | ok p =>
              obtain ⟨v, o⟩ := p
              rw [h3] at q
              simp only [SK.R.bind_ok] at q ⊢
              cases h5 : isB v with
              | none => rw [h5] at q; exact q
              | some k => rw [h5] at q; exact q)
          exact spG_mono g fun z H' ⟨v, v', e, O', hv, hq⟩ => by
            cases v with
            | bl k =>
              cases e
              exact ⟨k, hv.bl, hq _ vr_bl⟩
            | _ => cases e
        | _ => cases hk
      · rw [if_neg hk] at q; exact q.elim
theorem se_inI (hS : SpF X.K T cs "__contains__" gf) (F : FnOk X.prog X.w X.K X.mg X.base CX k gf fd ps (spG X.K T [] bop false 2 m)) (hr : Room k X.A) (hb : Binds X.K fd ps []) (hx : Passes CX X E := by exact pass0)
    (ha : SE X T E mu io a ma) (hb' : SE X T E mu io b mb) (hm : behindInMarks .In b = false := by first | exact nomark _ | with_unfolding_all rfl) : SE X T E mu io (.Compare a [.In] [b] pos) (eInI cs false m ma mb) :=
  PE.imp (pe_cmpR (o_ownIn hS F hr hb hx) ha hb' hm) fun σ H Q h => eInI_imp h
theorem st_inI (hS : SpF X.K T cs "__contains__" gf) (F : FnOk X.prog X.w X.K X.mg X.base CX k gf fd ps (spG X.K T [] bop false 2 m)) (hr : Room k X.A) (hb : Binds X.K fd ps []) (hx : Passes CX X E := by exact pass0)
    (ha : SE X T E mu io a ma) (hb' : SE X T E mu io b mb) (hm : behindInMarks .In b = false := by first | exact nomark _ | with_unfolding_all rfl) : ST X T E mu io (.Compare a [.In] [b] pos) (tBl (eInI cs false m ma mb)) :=
  PT.imp (pt_cmpR (o_ownIn hS F hr hb hx) ha hb' hm) fun σ H Q h => tOp_tTest (fun _ _ _ => eInI_imp) (tBl_imp h)
theorem se_notInI (hS : SpF X.K T cs "__contains__" gf) (F : FnOk X.prog X.w X.K X.mg X.base CX k gf fd ps (spG X.K T [] bop false 2 m)) (hr : Room k X.A) (hb : Binds X.K fd ps []) (hx : Passes CX X E := by exact pass0)
    (ha : SE X T E mu io a ma) (hb' : SE X T E mu io b mb) (hm : behindInMarks .NotIn b = false := by first | exact nomark _ | with_unfolding_all rfl) : SE X T E mu io (.Compare a [.NotIn] [b] pos) (eInI cs true m ma mb) :=
  PE.imp (pe_cmpR (o_ownNotIn hS F hr hb hx) ha hb' hm) fun σ H Q h => eInI_imp h
theorem st_notInI (hS : SpF X.K T cs "__contains__" gf) (F : FnOk X.prog X.w X.K X.mg X.base CX k gf fd ps (spG X.K T [] bop false 2 m)) (hr : Room k X.A) (hb : Binds X.K fd ps []) (hx : Passes CX X E := by exact pass0)
    (ha : SE X T E mu io a ma) (hb' : SE X T E mu io b mb) (hm : behindInMarks .NotIn b = false := by first | exact nomark _ | with_unfolding_all rfl) : ST X T E mu io (.Compare a [.NotIn] [b] pos) (tBl (eInI cs true m ma mb)) :=
  PT.imp (pt_cmpR (o_ownNotIn hS F hr hb hx) ha hb' hm) fun σ H Q h => tOp_tTest (fun _ _ _ => eInI_imp) (tBl_imp h)
/-! ### len(o) by the own method -/
def rOwnLen (K : PySem.W.Frag) (T : Tb) (cs : List Nat) (E : XK) (sp : Sp) : List V → Hp → VK → Prop := fun xs H Q => ∃ c a dx fs', cs.contains c = true ∧ xs = [.ref a] ∧ H a = some (.ins (T.cl c) dx fs') ∧ sp [.ref a] H (fun z H' => ∃ i : Int, z = .int i ∧ (0 ≤ i ∧ i < 2 ^ 63) ∧ Q (.int i) H') E
theorem c_ownLen (hS : SpF X.K T cs "__len__" gf) (F : FnOk X.prog X.w X.K X.mg X.base CX k gf fd ps sp) (hr : Room (k + 1) X.A) (hb : Binds X.K fd ps []) (hx : Passes CX X E) : CallR X (.builtin "len") (rOwnLen X.K T cs E sp) := by
  intro pins s σ H xs us Q I r ⟨c, a, dx, fs', hc, e1, h1, q⟩
  subst e1
  obtain ⟨u, rfl, ru⟩ : ∃ u, us = [u] ∧ RelV (.ref a) u := by
    cases r with
    | cons r1 r2 => cases r2; exact ⟨_, rfl, r1⟩
  cases (show u = Value.ref a from ru)
  obtain ⟨mA, O, _⟩ := ins_get I.hok h1
  obtain ⟨od, J, _⟩ := O.look
  obtain ⟨mm, hF⟩ := I.fr
  refine PySem.W.len_K hF I.ok.mod.kin J (hS.at_ c hc) hS.fn ?_
  refine wpAny_mono (run_fnAt (us := [.ref a]) (vs := [.ref a]) F hr.in1 I.env0.in1 hb hx I (.cons rfl .nil) q) (fun w s' z => ?_) fun _ _ x => x
  obtain ⟨z', H', I', rz, i, e, hi, qz⟩ := z
  subst e
  obtain ⟨t, rfl⟩ := rz
  exact ⟨hi, .int i, H', I'.tok _, ⟨_, rfl⟩, qz⟩
theorem se_lenI {x : Str} {p : Pos} (hS : SpF X.K T cs "__len__" gf) (F : FnOk X.prog X.w X.K X.mg X.base CX k gf fd ps (spG X.K T [] bop false 1 m)) (hr : Room (k + 1) X.A) (hb : Binds X.K fd ps []) (hx : Passes CX X E := by exact pass0)
    (ha : SE X T E mu io a ma) (hg : Gl X x := by rfl) (hm : X.mg x = none) (hv : bootBuiltins x = some (.builtin "len") := by first | rfl | decide +kernel) (hn : x ≠ "__name__" := by decide) (hdb : (x == ("__debug__" : Str)) = false := by decide)
    (he : starEach [a] X.env = (false, eval a X.env) :: starEach [] X.env := by rfl) (hpl : (backTo pos (starEach [] X.env)).any (·.1) = false := by rfl) : SE X T E mu io (.Call (.Name x p) [a] [] pos) (eLenI cs m ma) :=
  PE.imp (pe_callB (c_ownLen hS F hr hb hx) hg hm hv (pa_cons ha pa_nil he) hn hdb he hpl) fun σ H Q ⟨O, fr, rl, q⟩ => by
    unfold eLenI at q
    refine ⟨O, fr, rl, ?_⟩
    cases h1 : ma fr with
    | bad => rw [h1] at q; exact q
    | exc e => rw [h1] at q; exact q
    | ok p =>
      obtain ⟨y, fr1⟩ := p
      rw [h1] at q
      intro O1 H1 x' F1 R1 V1
      simp only [SK.R.bind_ok] at q
      by_cases hk : isC cs y = true
      · rw [if_pos hk] at q
        cases y with
        | ins c fs vs =>
          have V1' := V1
          obtain ⟨p, dx, fs', ws, rfl, h4, h5, h6, h7⟩ := V1'.ins (cs_2 hk)
          refine ⟨c, p, dx, fs', cs_1 hk, rfl, h4, ?_⟩
          refine call_core (r := 0) (iop := []) (bop := bop) (ro := false) (dv := []) (dx := []) (as := [.inr (.inl (.ins c fs vs))]) (args := [.ins c fs vs]) (xs := [.ref p]) R1 (fun _ _ => VRs.nil) rfl rfl rfl rfl rfl ⟨V1, trivial⟩ rfl ?_
          show match m [.ins c fs vs] with
            | .ok (v, outs) => _
            | .exc e => _
            | .bad => _
          cases h3 : m [.ins c fs vs] with
          | bad => rw [h3] at q; exact q
          | exc e => rw [h3] at q; exact pEx.back F1 q
          | ok p =>
            obtain ⟨v, outs⟩ := p
            rw [h3] at q
            simp only [SK.R.bind_ok] at q
            intro O3 H3 z F3 R3 V3
            unfold RtR at V3
            simp only [Bool.false_eq_true, if_false] at V3
            cases v with
            | int i =>
              simp only [natI] at q
              split at q
              · rename_i hi
                exact ⟨i, V3.int, ⟨hi.1, by omega⟩, q O3 H3 _ (F1.trans F3) R3 vr_int⟩
              · exact q.elim
            | _ => exact q.elim
        | _ => cases hk
      · rw [if_neg hk] at q; exact q.elim
end
end SK

set_option maxHeartbeats 1000000
/-! SK40: the loops of comprehensions by what they gather; list comprehensions with two clauses. -/
noncomputable section
namespace SK
open PySem L2
/-- the turns of a clause: what is gathered goes through st -/
def cmL {α : Type} (own : List Nat) (g : GM) (t : TM) (st : α → Fr → R (α × Fr)) : List Val → α → Fr → R (α × Fr)
  | [], a, fr => .ok (a, fr)
  | x :: xs, a, fr => (noX (g x (wipF fr own))).bind fun fr1 => (noX (t fr1)).bind fun k => if k.1 = true then (noX (st a k.2)).bind fun r => cmL own g t st xs r.1 r.2 else cmL own g t st xs a k.2
/-- an inner clause -/
def cmI {α : Type} (own : List Nat) (i : IM) (g : GM) (t : TM) (st : α → Fr → R (α × Fr)) : α → Fr → R (α × Fr) := fun a fr => (noX (i fr)).bind fun ys => cmL own g t st ys.1 a ys.2
def stL (e : EM) : List Val → Fr → R (List Val × Fr) := fun acc fr => (noX (e fr)).bind fun y => if acc.length < 16777216 then .ok (acc ++ [y.1], y.2) else .bad
def eLc2 (own own1 : List Nat) (i : IM) (g : GM) (t : TM) (i1 : IM) (g1 : GM) (t1 : TM) (e : EM) : EM := fun fr => (i fr).bind fun x => (noX (cmL own g t (cmI own1 i1 g1 t1 (stL e)) x.1 [] x.2)).bind fun r => .ok (.lst r.1, putF' x.2 r.2 own)
section
variable {T : Tb} {mu : Nat → Bool} {io : List (Nat × V)} {K : PySem.W.Frag}
theorem noX_ok {α : Type} {r : R α} {x : α} (h : noX r = .ok x) : r = .ok x := by
  cases r with
  | ok a => exact h
  | exc e => cases h
  | bad => cases h
theorem cm_loop {α : Type} {own ts : List Nat} {g : GM} {t : TM} {st : α → Fr → R (α × Fr)} {D : Addr} (AR : Own → Hp → α → Prop) (hAR : ∀ O H O' H' a, Fm O H O' H' → AR O H a → AR O' H' a) (hio : ∀ p ∈ io, p.1 ∉ own) (hts : ∀ i ∈ ts, i ∈ own)
    {Ob O1 : Own} {Hb H1 : Hp} {fr1 frE : Fr} {σ1 : St} {J : It} {xs : List Val} {a0 aE : α} (R1 : Rl K T mu io O1 fr1 σ1 H1) (F1 : FmD D Ob Hb O1 H1) (A1 : AR O1 H1 a0) (W1 : Walks K T J xs O1 H1) (hz : cmL own g t st xs a0 fr1 = .ok (aE, frE))
    {Act : St → Hp → (Hp → Prop) → Prop} {Fin : Hp → Prop}
    (hact : ∀ σ O fr H a a' fr' Nx, Rl K T mu io O fr σ H → FmD D Ob Hb O H → AR O H a → L2.wipe σ own = L2.wipe σ1 own → st a fr = .ok (a', fr') →
      (∀ O' H' σ', L2.wipe σ' own = L2.wipe σ1 own → Rl K T mu io O' fr' σ' H' → FmD D Ob Hb O' H' → Fb O H O' H' → Fo O H O' H' → AR O' H' a' → Nx H') → Act σ H Nx)
    (fin : ∀ O' H' σ', L2.wipe σ' own = L2.wipe σ1 own → Rl K T mu io O' frE σ' H' → FmD D Ob Hb O' H' → Fb O1 H1 O' H' → Fo O1 H1 O' H' → AR O' H' aE → Fin H') :
    ∃ W : Nat → Nat → Hp → Prop, (∃ m, W 0 m H1) ∧ ∀ i m H, W i m H →
      (J.stop i H ∧ Fin H) ∨ (J.go i H ∧ ∃ Nx : Hp → Prop, (∀ H', Nx H' → ∃ m', m' < m ∧ W (i + 1) m' H') ∧ ∀ x H', J.yld i H x H' → rG K T mu io ts g x (L2.wipe σ1 own) H' fun σ2 H2 => L2.wipe σ2 own = L2.wipe σ1 own ∧ rT K T L2.E0 mu io t σ2 H2 fun b H3 =>
        if b = true then Act σ2 H3 Nx else Nx H3) := by
  let St0 : Nat → Hp → Prop := fun j H' => ∃ O' fr' σ' a, L2.wipe σ' own = L2.wipe σ1 own ∧ Rl K T mu io O' fr' σ' H' ∧ FmD D Ob Hb O' H' ∧ Fb O1 H1 O' H' ∧ Fo O1 H1 O' H' ∧ AR O' H' a ∧ cmL own g t st (xs.drop j) a fr' = .ok (aE, frE)
  refine ⟨fun j k H' => k = xs.length - j ∧ St0 j H', ⟨_, rfl, O1, fr1, σ1, a0, rfl, R1, F1, Fb.refl _ _, fun a o e n => ⟨e, n⟩, A1, by simpa using hz⟩, ?_⟩
  rintro j k H' ⟨rfl, O', fr', σ', a, hw, R', F', fb, fo, A', hq⟩
  obtain ⟨hstop, hgo⟩ := W1 O' H' fb fo R'.trk j
  by_cases hj : j < xs.length
  · right
    have hx : xs[j]? = some xs[j] := List.getElem?_eq_getElem hj
    obtain ⟨h1, h2⟩ := hgo _ hx
    refine ⟨h1, fun H2 => St0 (j + 1) H2, fun H2 hN => ⟨_, by omega, rfl, hN⟩, fun x H2 hy => ?_⟩
    obtain ⟨X2, V2⟩ := h2 x H2 hy
    have Rw : Rl K T mu io O' (wipF fr' own) (L2.wipe σ1 own) H2 := by rw [← hw]; exact (R'.hx X2).wip own hio
    refine ⟨O', wipF fr' own, xs[j], Rw, V2, ?_⟩
    rw [List.drop_eq_getElem_cons hj] at hq
    unfold cmL at hq
    cases h3 : g xs[j] (wipF fr' own) with
    | bad => rw [h3] at hq; cases hq
    | exc e => rw [h3] at hq; cases hq
    | ok fr3 =>
      rw [h3] at hq
      intro O3 H3 σ3 F3 R3 x3
      have hw3 : L2.wipe σ3 own = L2.wipe σ1 own := (x3.wipe hts).trans (wipe_wipe own σ1)
      refine ⟨hw3, O3, fr3, R3, ?_⟩
      have F03 := X2.fm.trans F3
      simp only [noX, SK.R.bind_ok] at hq
      cases h4 : t fr3 with
      | bad => rw [h4] at hq; cases hq
      | exc e => rw [h4] at hq; cases hq
      | ok p =>
        obtain ⟨b, fr4⟩ := p
        rw [h4] at hq
        intro O4 H4 F4 R4
        have F04 := F03.trans F4
        have fb4 : Fb O1 H1 O4 H4 := fb.trans F04.b
        have fo4 : Fo O1 H1 O4 H4 := fun a o e n => let ⟨g1, g2⟩ := fo a o e n; F04.out a o g1 g2
        simp only [SK.R.bind_ok] at hq
        cases b with
        | false => exact ⟨O4, fr4, σ3, a, hw3, R4, F'.step F04, fb4, fo4, hAR _ _ _ _ _ F04 A', by simpa using hq⟩
        | true =>
          simp only [if_true] at hq ⊢
          obtain ⟨r, e6, e7⟩ := R.bind_eq hq
          obtain ⟨a', fr5⟩ := r
          exact hact σ3 O4 fr4 H4 a a' fr5 _ R4 (F'.step F04) (hAR _ _ _ _ _ F04 A') hw3 (noX_ok e6) fun O5 H5 σ5 hw5 R5 F5 fb5 fo5 A5 =>
            ⟨O5, fr5, σ5, a', hw5, R5, F5, fb4.trans fb5, (fun a o e n => let ⟨g1, g2⟩ := fo4 a o e n; fo5 a o g1 g2), A5, e7⟩
  · left
    rw [List.drop_of_length_le (by omega)] at hq
    cases hq
    exact ⟨hstop (by omega), fin O' H' σ' hw R' F' fb fo A'⟩
/-- the list that is gathered -/
def LAR (K : PySem.W.Frag) (T : Tb) (D : Addr) (O : Own) (H : Hp) (a : List Val) : Prop := O D = some .tmp ∧ ∃ ws, H D = some (.lst ws) ∧ VRs K T O H a ws
theorem LAR.mono {D : Addr} (O : Own) (H : Hp) (O' : Own) (H' : Hp) (a : List Val) (f : Fm O H O' H') (h : LAR K T D O H a) : LAR K T D O' H' a := by
  obtain ⟨h1, ws, h2, h3⟩ := h
  obtain ⟨g1, g2⟩ := f.tmp D _ h2 h1
  exact ⟨g2, ws, g1, h3.mono f⟩
/-- one element -/
theorem stL_act {own : List Nat} {e : EM} {D : Addr} {Ob : Own} {Hb : Hp} {σ1 : St} (hbD : Hb D = none) : ∀ σ O fr H a a' fr' (Nx : Hp → Prop), Rl K T mu io O fr σ H → FmD D Ob Hb O H → LAR K T D O H a → L2.wipe σ own = L2.wipe σ1 own → stL e a fr = .ok (a', fr') →
      (∀ O' H' σ', L2.wipe σ' own = L2.wipe σ1 own → Rl K T mu io O' fr' σ' H' → FmD D Ob Hb O' H' → Fb O H O' H' → Fo O H O' H' → LAR K T D O' H' a' → Nx H') →
      rE K T L2.E0 mu io e σ H fun y H7 => ∃ acc, H7 D = some (.lst acc) ∧ acc.length < sizeLine ∧ Nx (upd H7 D (.lst (acc ++ [y]))) := by
  intro σ O fr H a a' fr' Nx R F A hw hs hN
  refine ⟨O, fr, R, ?_⟩
  unfold stL at hs
  cases h : e fr with
  | bad => rw [h] at hs; cases hs
  | exc x => rw [h] at hs; cases hs
  | ok p =>
    obtain ⟨y, fr2⟩ := p
    rw [h] at hs
    simp only [noX, SK.R.bind_ok] at hs
    intro O2 H2 y' F2 R2 V2
    obtain ⟨oD, ws, hD, V⟩ := LAR.mono _ _ _ _ _ F2 A
    by_cases hl : a.length < 16777216
    · rw [if_pos hl] at hs
      cases hs
      have keep : ∀ {b o}, H2 b = some o → O2 b ≠ some .tmp → upd H2 D (.lst (ws ++ [y'])) b = some o := fun {b o} e n => by
        rw [upd_ne (fun z => n (by rw [z]; exact oD))]; exact e
      have keepS : ∀ {b o}, Sm o (H2 b) → O2 b ≠ some .tmp → Sm o (upd H2 D (.lst (ws ++ [y'])) b) := fun {b o} e n => by
        rw [upd_ne (fun z => n (by rw [z]; exact oD))]; exact e
      refine ⟨ws, hD, by rw [← V.len]; exact hl, hN O2 _ σ hw (R2.putOut oD) ((F.step F2).put hbD _) (fun b o e n => let ⟨g1, g2⟩ := F2.b b o e n; ⟨keepS g1 (by rw [g2]; exact fun z => nomatch z), g2⟩) (fun b o e n => let ⟨g1, g2⟩ := F2.out b o e n; ⟨keep g1 (by rw [g2]; exact fun z => nomatch z), g2⟩) ⟨oD, _, upd_same, ?_⟩⟩
      exact VRs.monoB (fun b u e n => ⟨keepS e (by rw [n]; exact fun z => nomatch z), n⟩) _ _ (V.app (.cons V2 .nil))
    · rw [if_neg hl] at hs; cases hs
theorem wipe_sub {own own1 : List Nat} (hs : ∀ i ∈ own1, i ∈ own) {σ τ : St} (h : L2.wipe σ own1 = L2.wipe τ own1) : L2.wipe σ own = L2.wipe τ own := by
  have hl : σ.length = τ.length := by rw [← wipe_length σ own1, h, wipe_length]
  apply List.ext_getElem?
  intro q
  by_cases hq : q ∈ own
  · have key : ∀ (own : List Nat) (τ : St) (q : Nat), q ∈ own → (L2.wipe τ own)[q]? = if q < τ.length then some none else none := by
      intro own
      induction own with
      | nil => intro τ q hq; cases hq
      | cons w vs ih =>
        intro τ q hq
        show ((L2.wipe τ vs).set w none)[q]? = _
        by_cases e : q = w
        · subst e
          rw [List.getElem?_set, if_pos rfl, wipe_length]
        · rw [List.getElem?_set_ne (fun z => e z.symm)]
          exact ih τ q (by rcases List.mem_cons.mp hq with z | z; exact absurd z e; exact z)
    rw [key own σ q hq, key own τ q hq, hl]
  · rw [wipe_out hq, wipe_out hq]
    have h1 : q ∉ own1 := fun z => hq (hs q z)
    have := congrArg (fun l => l[q]?) h
    simp only [wipe_out h1] at this
    exact this
/-- a second clause as the first one's element -/
theorem cmI_act {α : Type} {own own1 ts1 : List Nat} {i1 : IM} {g1 : GM} {t1 : TM} {st : α → Fr → R (α × Fr)} {D : Addr} {Ob : Own} {Hb : Hp} {σ1 : St} (AR : Own → Hp → α → Prop) (hAR : ∀ O H O' H' a, Fm O H O' H' → AR O H a → AR O' H' a) (hio1 : ∀ p ∈ io, p.1 ∉ own1) (hts1 : ∀ i ∈ ts1, i ∈ own1) (hsub : ∀ i ∈ own1, i ∈ own)
    {Act : St → Hp → (Hp → Prop) → Prop}
    (hact : ∀ τ, L2.wipe τ own = L2.wipe σ1 own → ∀ σ O fr H a a' fr' Nx, Rl K T mu io O fr σ H → FmD D Ob Hb O H → AR O H a → L2.wipe σ own1 = L2.wipe τ own1 → st a fr = .ok (a', fr') →
      (∀ O' H' σ', L2.wipe σ' own1 = L2.wipe τ own1 → Rl K T mu io O' fr' σ' H' → FmD D Ob Hb O' H' → Fb O H O' H' → Fo O H O' H' → AR O' H' a' → Nx H') → Act σ H Nx) :
    ∀ σ O fr H a a' fr' (Nx : Hp → Prop), Rl K T mu io O fr σ H → FmD D Ob Hb O H → AR O H a → L2.wipe σ own = L2.wipe σ1 own → cmI own1 i1 g1 t1 st a fr = .ok (a', fr') →
      (∀ O' H' σ', L2.wipe σ' own = L2.wipe σ1 own → Rl K T mu io O' fr' σ' H' → FmD D Ob Hb O' H' → Fb O H O' H' → Fo O H O' H' → AR O' H' a' → Nx H') →
      SK.rI K T L2.E0 mu io i1 σ H fun J1 H4 => ∃ W1 : Nat → Nat → Hp → Prop, (∃ m, W1 0 m H4) ∧ ∀ j k H, W1 j k H →
        (J1.stop j H ∧ Nx H) ∨ (J1.go j H ∧ ∃ Nx1 : Hp → Prop, (∀ H', Nx1 H' → ∃ k', k' < k ∧ W1 (j + 1) k' H') ∧ ∀ x H', J1.yld j H x H' → rG K T mu io ts1 g1 x (L2.wipe σ own1) H' fun σ3 H5 => L2.wipe σ3 own1 = L2.wipe σ own1 ∧ rT K T L2.E0 mu io t1 σ3 H5 fun b H6 =>
          if b = true then Act σ3 H6 Nx1 else Nx1 H6) := by
  intro σ O fr H a a' fr' Nx R F A hw hs hN
  refine ⟨O, fr, R, ?_⟩
  unfold cmI at hs
  cases h : i1 fr with
  | bad => rw [h] at hs; cases hs
  | exc x => rw [h] at hs; cases hs
  | ok p =>
    obtain ⟨ys, fr2⟩ := p
    rw [h] at hs
    simp only [noX, SK.R.bind_ok] at hs
    intro O2 H2 J F2 R2 W2
    refine cm_loop AR hAR hio1 hts1 R2 (F.step F2) (hAR _ _ _ _ _ F2 A) W2 hs (hact σ hw) fun O' H' σ' hw' R' F' fb fo A' => ?_
    exact hN O' H' σ' ((wipe_sub hsub hw').trans hw) R' F' (F2.b.trans fb) (fun b o e n => let ⟨z1, z2⟩ := F2.out b o e n; fo b o z1 z2) A'
variable {X : Cx} {E : XK} {pos : Pos}
theorem eLc2_imp {ro : Bool} {r : Nat} {own ts own1 ts1 : List Nat} {i i1 : IM} {g g1 : GM} {t t1 : TM} {me : EM} (hio : ∀ p ∈ io, p.1 ∉ own) (hmu : ∀ i ∈ own, mu i = false) (hts : ∀ i ∈ ts, i ∈ own) (hts1 : ∀ i ∈ ts1, i ∈ own1) (hsub : ∀ i ∈ own1, i ∈ own) {σ : St} {H : Hp} {Q : VK} (h : rX K T E mu io ro r (eLc2 own own1 i g t i1 g1 t1 me) σ H Q) :
    tLc2 (SK.rI K T E mu io i) (rG K T mu io ts g) (rT K T L2.E0 mu io t) (SK.rI K T L2.E0 mu io i1) (rG K T mu io ts1 g1) (rT K T L2.E0 mu io t1) (rE K T L2.E0 mu io me) own own1 σ H Q := by
  obtain ⟨O, fr, rl, q⟩ := h
  unfold eLc2 at q
  refine ⟨O, fr, rl, ?_⟩
  cases h : i fr with
  | bad => rw [h] at q; exact q
  | exc e => rw [h] at q; exact q
  | ok p =>
    obtain ⟨xs, fr1⟩ := p
    rw [h] at q
    intro O1 H1 J F1 R1 W1 D hD
    simp only [SK.R.bind_ok] at q
    cases hz : cmL own g t (cmI own1 i1 g1 t1 (stL me)) xs [] fr1 with
    | bad => rw [hz] at q; exact q.elim
    | exc e => rw [hz] at q; exact q.elim
    | ok p =>
      obtain ⟨vs, frE⟩ := p
      rw [hz] at q
      simp only [noX, SK.R.bind_ok] at q
      have W1' : Walks K T J xs (setOw O1 D (some .tmp)) (upd H1 D (.lst [])) := W1.monoB (FmD.begin hD).byv (FmD.begin hD).out
      refine cm_loop (LAR K T D) LAR.mono hio hts (R1.laid hD) (FmD.begin hD) ⟨setOw_same, [], upd_same, VRs.nil⟩ W1' hz
        (Act := fun σ2 H3 Nx => SK.rI K T L2.E0 mu io i1 σ2 H3 fun J1 H4 => ∃ W1 : Nat → Nat → Hp → Prop, (∃ m, W1 0 m H4) ∧ ∀ j k H, W1 j k H →
          (J1.stop j H ∧ Nx H) ∨ (J1.go j H ∧ ∃ Nx1 : Hp → Prop, (∀ H', Nx1 H' → ∃ k', k' < k ∧ W1 (j + 1) k' H') ∧ ∀ x H', J1.yld j H x H' → rG K T mu io ts1 g1 x (L2.wipe σ2 own1) H' fun σ3 H5 => L2.wipe σ3 own1 = L2.wipe σ2 own1 ∧ rT K T L2.E0 mu io t1 σ3 H5 fun b H6 =>
            if b = true then rE K T L2.E0 mu io me σ3 H6 fun y H7 => ∃ acc, H7 D = some (.lst acc) ∧ acc.length < sizeLine ∧ Nx1 (upd H7 D (.lst (acc ++ [y]))) else Nx1 H6))
        (cmI_act (LAR K T D) LAR.mono (fun p hp z => hio p hp (hsub _ z)) hts1 hsub fun τ hτ => stL_act (own := own1) hD) fun O' H' σ' hw R' F' _ _ A' => ?_
      obtain ⟨oD, ws, hHD, V'⟩ := A'
      have R2 := Rl.unwip (H0 := H1) (O0 := O1) own R1 F'.byv F'.out hmu hw R'
      cases ro with
      | true =>
        refine q (setOw O' D (some (.sl r))) H' _ (F1.trans (F'.fin hD fun z => nomatch z)) (R2.outTo oD) ?_
        unfold RtR
        rw [if_pos rfl]
        refine ⟨D, ws, rfl, setOw_same, hHD, VRs.monoB (fun a u e n => ⟨e, ?_⟩) _ _ V'⟩
        rw [setOw_ne (fun z => by rw [z, oD] at n; cases n)]
        exact n
      | false =>
        refine q (setOw O' D none) H' _ (F1.trans (F'.fin hD fun z => nomatch z)) (R2.outTo oD) ?_
        unfold RtR
        rw [if_neg Bool.false_ne_true]
        unfold VR
        refine ⟨D, ws, rfl, ⟨hHD, setOw_same⟩, VRs.monoB (fun a u e n => ⟨e, ?_⟩) _ _ V'⟩
        rw [setOw_ne (fun z => by rw [z, oD] at n; cases n)]
        exact n
/-- what a block's parts are -/
abbrev BB (X : Cx) (scope : Scope) (p : Cx → Prop) : Prop := ∀ (s : Shared) (H : Hp) (C : Addr) (cl : List (Str × Addr)) (fp : List Addr), p (X.blk s H scope (compEnvC scope cl C X.env) fp)
theorem sx_lc2 {ro : Bool} {r : Nat} {elt tg iter tg1 iter1 : Expr} {ifs ifs1 : List Expr} {scope : Scope} {own : List (Str × Nat)} {ts own1 ts1 : List Nat} {i i1 : IM} {g g1 : GM} {t t1 : TM} {me : EM} (hc : X.calm = true := by rfl) (hN : X.N.Nodup) (hi : SI X T E mu io tg iter i) (ok : BlkOk X.N X.env.scope scope own)
    (hio : ∀ p ∈ io, p.1 ∉ own.map (·.2) := by exact io_own rfl) (hmu : ∀ i ∈ own.map (·.2), mu i = false := by decide) (hts : ∀ i ∈ ts, i ∈ own.map (·.2) := by decide) (hts1 : ∀ i ∈ ts1, i ∈ own1 := by decide) (hsub : ∀ i ∈ own1, i ∈ own.map (·.2) := by decide)
    (hg : BB X scope fun Y => SG Y T mu io ts tg g) (ht : BB X scope fun Y => STs Y T L2.E0 mu io ifs t) (hi1 : BB X scope fun Y => SI Y T L2.E0 mu io tg1 iter1 i1) (hg1 : BB X scope fun Y => SG Y T mu io ts1 tg1 g1) (ht1 : BB X scope fun Y => STs Y T L2.E0 mu io ifs1 t1) (he : BB X scope fun Y => SE Y T L2.E0 mu io elt me)
    (hs : ∀ x, foldedSetIterable iter X.env x = pure x := by intro _; rfl) (hs1 : ∀ env x, foldedSetIterable iter1 env x = pure x := by intro _ _; rfl) :
    SX X T E mu io ro r (.ListComp elt [⟨tg, iter, ifs, 0⟩, ⟨tg1, iter1, ifs1, 0⟩] scope pos) (eLc2 (own.map (·.2)) own1 i g t i1 g1 t1 me) :=
  PE.imp (pe_lc2 hc hN hi ok hsub hg ht hi1 hg1 ht1 he hs hs1) fun σ H Q h => eLc2_imp hio hmu hts hts1 hsub h
theorem ss_setLc2 {i0 : Nat} {y : Str} {py spos : Pos} {elt tg iter tg1 iter1 : Expr} {ifs ifs1 : List Expr} {scope : Scope} {own : List (Str × Nat)} {ts own1 ts1 : List Nat} {i i1 : IM} {g g1 : GM} {t t1 : TM} {me : EM} (hc : X.calm = true := by rfl) (hN : X.N.Nodup) (hy : X.N[i0]? = some y := by rfl) (hyl : X.env.scope.names.lookup y = some .local := by rfl) (hm : mu i0 = false := by rfl) (hio0 : ∀ p ∈ io, p.1 ≠ i0 := by exact io_ne rfl)
    (hk : X.env.scope.kind = .function := by rfl) (hln : (py.line == pos.line) = true := by rfl) (hna : (scope.names.any fun (n, k) => n == y && (k == .local || k == .cell)) = false := by rfl) (hi : SI X T E mu io tg iter i) (ok : BlkOk X.N X.env.scope scope own)
    (hio : ∀ p ∈ io, p.1 ∉ own.map (·.2) := by exact io_own rfl) (hmu : ∀ i ∈ own.map (·.2), mu i = false := by decide) (hts : ∀ i ∈ ts, i ∈ own.map (·.2) := by decide) (hts1 : ∀ i ∈ ts1, i ∈ own1 := by decide) (hsub : ∀ i ∈ own1, i ∈ own.map (·.2) := by decide)
    (hg : BB X scope fun Y => SG Y T mu io ts tg g) (ht : BB X scope fun Y => STs Y T L2.E0 mu io ifs t) (hi1 : BB X scope fun Y => SI Y T L2.E0 mu io tg1 iter1 i1) (hg1 : BB X scope fun Y => SG Y T mu io ts1 tg1 g1) (ht1 : BB X scope fun Y => STs Y T L2.E0 mu io ifs1 t1) (he : BB X scope fun Y => SE Y T L2.E0 mu io elt me)
    (hs : ∀ x, foldedSetIterable iter X.env x = pure x := by intro _; rfl) (hs1 : ∀ env x, foldedSetIterable iter1 env x = pure x := by intro _ _; rfl) :
    SS X T E mu io (.Assign [.Name y py] (.ListComp elt [⟨tg, iter, ifs, 0⟩, ⟨tg1, iter1, ifs1, 0⟩] scope pos) spos) (sSet i0 (eLc2 (own.map (·.2)) own1 i g t i1 g1 t1 me)) :=
  PS.imp (ps_setLc2 hc hN hy hyl (sw_true hk hyl hln hna) hi ok hsub hg ht hi1 hg1 ht1 he hs hs1) fun D σ H ⟨O, fr, rl, q⟩ => by
    unfold sSet at q
    simp only [sF_eq] at q
    refine eLc2_imp (ro := false) (r := 0) (g := g) (t := t) (i1 := i1) (g1 := g1) (t1 := t1) (me := me) hio hmu hts hts1 hsub ⟨O, fr, rl, ?_⟩
    cases h : eLc2 (own.map (·.2)) own1 i g t i1 g1 t1 me fr with
    | bad => rw [h] at q; exact q
    | exc e => rw [h] at q; exact q
    | ok p =>
      obtain ⟨v, fr1⟩ := p
      rw [h] at q
      exact fun O1 H1 x F1 R1 V1 => q O1 H1 (σ.set i0 (some x)) F1 (R1.set hm hio0 (by unfold RtR at V1; simpa using V1))
end
end SK

set_option maxHeartbeats 1000000
/-! SK41: the loops of dict comprehensions, one clause or two, whatever is laid into the dict. -/
noncomputable section
namespace SK
open PySem L2 PySem.Spec PyProof.Rows
/-- a turn of a clause: inner is what stands behind its tests -/
def turnT (ps : Pos) (tg : Expr) (ifs : List Expr) (it : Value) (env : Env) (inner : Sem Unit) (nxt : Sem PySem.Fin) : Sem PySem.Fin := do
  standAt ps
  match ← pyNext it with
  | none => pure (.done .next)
  | some v =>
    letOwnedTupleGo tg it v
    assign tg env v
    let mut ok := true
    for c in ifs do
      if ok then ok ← isTrue c env (eval c env)
    if ok then inner
    nxt
def emitD (kx vx : Expr) (env : Env) (D : Addr) : Sem Unit := do
  let kv ← eval kx env
  let vv ← holding [kv] (eval vx env)
  standAt { kx.pos with endLine := vx.pos.endLine, endCol := vx.pos.endCol }
  holding [kv, vv] (dictSet D kv vv)
def innerC (e : Expr) (d : Nat) (i1 : Expr) (acc : Value) (env : Env) : Sem Unit := do
  let x ← eval i1 env
  standAt i1.pos
  let x ← foldedSetIterable i1 env x
  let _ ← runOwn (.compStart e d (← holding [x] (pyIter x)) acc env) env
theorem turn_d1 (kx vx t0 i0 : Expr) (ifs0 : List Expr) (scope : Scope) (pos : Pos) (it : Value) (D : Addr) (env : Env) :
    compTurn (.DictComp kx vx [⟨t0, i0, ifs0, 0⟩] scope pos) 0 it (.ref D) env = turnT i0.pos t0 ifs0 it env (emitD kx vx env D) (again (.compLoop (.DictComp kx vx [⟨t0, i0, ifs0, 0⟩] scope pos) 0 it (.ref D) env)) := by rfl
theorem turn_d2o (kx vx t0 i0 t1 i1 : Expr) (ifs0 ifs1 : List Expr) (scope : Scope) (pos : Pos) (it : Value) (D : Addr) (env : Env) :
    compTurn (.DictComp kx vx [⟨t0, i0, ifs0, 0⟩, ⟨t1, i1, ifs1, 0⟩] scope pos) 0 it (.ref D) env = turnT i0.pos t0 ifs0 it env (innerC (.DictComp kx vx [⟨t0, i0, ifs0, 0⟩, ⟨t1, i1, ifs1, 0⟩] scope pos) 1 i1 (.ref D) env) (again (.compLoop (.DictComp kx vx [⟨t0, i0, ifs0, 0⟩, ⟨t1, i1, ifs1, 0⟩] scope pos) 0 it (.ref D) env)) := by
  unfold turnT innerC
  simp only [bind_assoc]
  rfl
theorem turn_d2i (kx vx t0 i0 t1 i1 : Expr) (ifs0 ifs1 : List Expr) (scope : Scope) (pos : Pos) (it : Value) (D : Addr) (env : Env) :
    compTurn (.DictComp kx vx [⟨t0, i0, ifs0, 0⟩, ⟨t1, i1, ifs1, 0⟩] scope pos) 1 it (.ref D) env = turnT i1.pos t1 ifs1 it env (emitD kx vx env D) (again (.compLoop (.DictComp kx vx [⟨t0, i0, ifs0, 0⟩, ⟨t1, i1, ifs1, 0⟩] scope pos) 1 it (.ref D) env)) := by rfl
/-- what stands behind a clause's tests: the slots outside own stay -/
def PD (Y : Cx) (own : List Nat) (em : Sem Unit) (ta : L2.St → Hp → (Hp → Prop) → Prop) : Prop :=
  ∀ (pins : List (Addr × Obj)) (s : Shared) (σ : L2.St) (H : Hp) (Nx : Hp → Prop), Inv Y pins σ H s → ta σ H Nx →
    wpAny (model Y.prog Y.w) Y.A em (fun _ s' => ∃ σ' H', Inv Y pins σ' H' s' ∧ σ'.length = σ.length ∧ (∀ (j : Nat) v, (L2.wipe σ own)[j]? = some (some v) → σ'[j]? = some (some v)) ∧ Nx H') Y.xe s
section
variable {Y : Cx} {pins : List (Addr × Obj)} {own fp : List Nat} {tn : Nat → Heap → Prop} {J : It} {kx vx : Expr} {gens : List Comprehension} {csc : Scope} {cpos : Pos} {d : Nat} {it : Addr} {acc : Value} {tg : Expr} {ifs : List Expr} {ps : Pos} {inner : Sem Unit} {g : TG} {tt : L2.TT} {ta : L2.St → Hp → (Hp → Prop) → Prop} {Fin : Hp → Prop} {R : Result → Shared → Prop}
theorem loop_gen {σ0 : L2.St} (hturn : compTurn (.DictComp kx vx gens csc cpos) d (.ref it) acc Y.env = turnT ps tg ifs (.ref it) Y.env inner (again (.compLoop (.DictComp kx vx gens csc cpos) d (.ref it) acc Y.env))) (hc : Y.calm = true) (hxe : Y.xe = fun _ _ => False)
    (T : Turn Y.prog Y.w Y.K tg J fp it tn) (pg : PG Y tg g) (pt : PTs Y ifs tt) (pa : PD Y own inner ta) (hstat : ∀ H' : Hp, (∀ b ∈ fp, H' b = none) → ∀ b ∈ fp, FpOk Y pins H' b)
    {W : Nat → Nat → Hp → Prop} (turn : ∀ i m H, W i m H → (J.stop i H ∧ Fin H) ∨ (J.go i H ∧ ∃ Nx : Hp → Prop, (∀ H', Nx H' → ∃ m', m' < m ∧ W (i + 1) m' H') ∧ ∀ x H', J.yld i H x H' → g x (L2.wipe σ0 own) H' fun σ2 H2 => L2.wipe σ2 own = L2.wipe σ0 own ∧ tt σ2 H2 fun b H3 =>
      if b = true then ta σ2 H3 Nx else Nx H3))
    (hR : ∀ s' H', Inv Y pins (L2.wipe σ0 own) H' s' → Fin H' → R (.ok .next) s') {s : Shared} {H : Hp} {m : Nat} (I : Inv Y pins (L2.wipe σ0 own) H s) (st : tn 0 s.heap) (nf : ∀ b ∈ fp, H b = none) (w : W 0 m H) :
    codeAny (model Y.prog Y.w) Y.A (.compLoop (.DictComp kx vx gens csc cpos) d (.ref it) acc Y.env) R s := by
  refine codeAny_loop rfl (fun n s' => ∃ i H', Inv Y pins (L2.wipe σ0 own) H' s' ∧ tn i s'.heap ∧ (∀ b ∈ fp, H' b = none) ∧ W i n H') (fun n s1 ⟨i, H1, I1, st1, n1, w1⟩ => ?_) m ⟨0, H, I, st, nf, w⟩
  show wpAny _ Y.A ((compTurn (.DictComp kx vx gens csc cpos) d (.ref it) acc Y.env).onRaise (fun x => do noteFrame x Y.env; theTreesLotGoes x)) _ _ s1
  refine wpAny_noted ?_
  rw [hturn]
  unfold turnT
  refine wpAny_bind (wpAny_standAt (wpAny_bind ?_))
  rcases turn i n H1 w1 with ⟨stop, q⟩ | ⟨go, Nx, hNx, step⟩
  · refine thnF (T.done Y rfl rfl rfl hc i pins s1 _ H1 (fun _ _ => False) I1 (hstat H1 n1) st1 stop) fun r s2 ⟨hr, I2⟩ => ?_
    subst hr
    exact wpAny_pure (hR s2 H1 I2 q)
  · refine thnF (T.item Y rfl rfl rfl hc i pins s1 _ H1 (fun _ _ => False) I1 (hstat H1 n1) st1 go) fun r s2 ⟨u, hr, h2⟩ => ?_
    subst hr
    refine wpAny_bind (thnF h2 fun _ s3 ⟨x, H3, I3, r3, y3, st3, n3⟩ => ?_)
    have I3' := I3.pinned (hstat H3 n3) (T.obj _ _ st3)
    have cast : ∀ {α : Type} {t : Sem α} {Q : α → Shared → Prop} {s : Shared} {E' : Value → Shared → Prop}, wpAny (model Y.prog Y.w) Y.A t Q Y.xe s → wpAny (model Y.prog Y.w) Y.A t Q E' s := fun h => wpAny_mono h (fun _ _ q => q) fun _ _ z => by rw [hxe] at z; exact z.elim
    refine wpAny_bind (thn (cast (pg.run _ s3 _ H3 x u _ I3' r3 (step x H3 y3))) fun _ s4 ⟨σ4, H4, I4, hw4, q4⟩ => ?_)
    refine wpAny_bind (thn (cast (pt.run _ s4 σ4 H4 _ I4 q4)) fun b s5 ⟨H5, I5, q5⟩ => ?_)
    have fin : ∀ {σ9 : L2.St} {s' : Shared} {H' : Hp}, Inv Y (pins ++ pinsAt fp s3.heap) σ9 H' s' → σ9.length = σ4.length → (∀ (j : Nat) v, (L2.wipe σ4 own)[j]? = some (some v) → σ9[j]? = some (some v)) → Nx H' →
        ∃ m, m < n ∧ ∃ i H', Inv Y pins (L2.wipe σ0 own) H' s' ∧ tn i s'.heap ∧ (∀ b ∈ fp, H' b = none) ∧ W i m H' := fun {σ9 s' H'} I' hl hk nx => by
      obtain ⟨m', hm, w'⟩ := hNx H' nx
      have pin' : ∀ b ∈ fp, ∀ o, s3.heap.get? b = some o → s'.heap.get? b = some o ∧ H' b = none := fun b hb o eo =>
        let z := I'.pin (b, o) (List.mem_append_right _ (List.mem_append_right _ (mem_pinsAt hb eo)))
        ⟨z.1, z.2.1⟩
      refine ⟨m', hm, i + 1, H', I'.unpinned.weak (by rw [← hw4, wipe_length, hl]) (fun j v ev => by rw [← hw4] at ev; exact hk j v ev), T.keep _ _ _ st3 fun b hb o eo => (pin' b hb o eo).1, fun b hb => ?_, w'⟩
      obtain ⟨o, eo, _⟩ := T.obj _ _ st3 b hb
      exact (pin' b hb o eo).2
    cases b with
    | false =>
      simp only [Bool.false_eq_true, if_false] at q5 ⊢
      exact wpAny_pure ⟨rfl, fin I5 rfl (fun j v ev => (wipe_some ev).1) q5⟩
    | true =>
      simp only [if_true] at q5 ⊢
      exact wpAny_bind (thn (cast (pa _ s5 σ4 H5 Nx I5 q5)) fun _ s6 ⟨σ6, H6, I6, hl6, hk6, nx⟩ => wpAny_pure ⟨rfl, fin I6 hl6 hk6 nx⟩)
/-- a later clause starts -/
theorem cstart_ok {prog : Program} {w : World} {A : Around} {s : Shared} {itv : Value} {env : Env} (h0 : codeAny (model prog w) A (.compLoop (.DictComp kx vx gens csc cpos) d itv acc env) R s)
    (hcl : ((clausesOf (.DictComp kx vx gens csc cpos))[d]?).elim false (·.is_async != 0) = false) (h : ∀ E', wpAny (model prog w) A (pyIter itv) (fun it' s' => codeAny (model prog w) A (.compLoop (.DictComp kx vx gens csc cpos) d it' acc env) R s') E' s) :
    codeAny (model prog w) A (.compStart (.DictComp kx vx gens csc cpos) d itv acc env) R s := by
  refine codeAny_of_tree ?_
  show wpAny _ _ ((compStart (.DictComp kx vx gens csc cpos) d itv acc env).onRaise (fun x => do noteFrame x env; standAt theWindowsPlace)) _ _ s
  refine wpAny_notedAt ?_
  unfold compStart
  rw [hcl]
  simp only [Bool.false_eq_true, if_false]
  show wpAny _ _ (ask >>= _) _ _ s
  refine wpAny_bind (wpAny_askSetting (wpAny_ite ?_))
  have again_ok : ∀ {A' : Around} {s' : Shared} {it' : Value} {E' : Value → Shared → Prop}, codeAny (model prog w) A (.compLoop (.DictComp kx vx gens csc cpos) d it' acc env) R s' →
      wpAny (model prog w) A' (again (.compLoop (.DictComp kx vx gens csc cpos) d it' acc env)) (fun fin s' => match fin with | .done f => R (.ok f) s' | .again c' => c'.quiet = true ∧ codeAny (model prog w) A c' R s') E' s' := fun hh => wpAny_pure ⟨rfl, hh⟩
  split
  · first
      | exact again_ok h0
      | exact wpAny_bind (again_ok h0)
      | exact wpAny_bind (wpAny_pure (again_ok h0))
  · refine wpAny_bind (wpAny_rule ?_)
    split
    · exact wpAny_bind (wpAny_standAt (wpAny_bind (thn (h _) fun it' s' hh => again_ok hh)))
    · exact wpAny_bind (thn (h _) fun it' s' hh => again_ok hh)
end
end SK

set_option maxHeartbeats 1000000
/-! SK42: dict comprehensions of one clause or two, whatever is laid into the dict. -/
noncomputable section
namespace SK
open PySem L2 PySem.Spec PyProof.Rows
section
variable {X : Cx}
/-- the question of a dict comprehension: o0 the empty dict, ta what is behind the tests -/
def tDg (o0 : Addr → HO) (wi : TI) (g : TG) (tt : L2.TT) (ta : Addr → L2.St → Hp → (Hp → Prop) → Prop) (vs : List Nat) : TE := fun σ H Q => wi σ H fun J H1 => ∀ D, H1 D = none → ∃ W : Nat → Nat → Hp → Prop, (∃ m, W 0 m (upd H1 D (o0 D))) ∧ ∀ i m H, W i m H →
  (J.stop i H ∧ Q (.ref D) H) ∨ (J.go i H ∧ ∃ Nx : Hp → Prop, (∀ H', Nx H' → ∃ m', m' < m ∧ W (i + 1) m' H') ∧ ∀ x H', J.yld i H x H' → g x (L2.wipe σ vs) H' fun σ2 H2 => L2.wipe σ2 vs = L2.wipe σ vs ∧ tt σ2 H2 fun b H3 =>
    if b = true then ta D σ2 H3 Nx else Nx H3)
theorem pe_dg {kx vx tg iter : Expr} {ifs : List Expr} {gs : List Comprehension} {scope : Scope} {own : List (Str × Nat)} {pos : Pos} {wi : TI} {g : TG} {tt : L2.TT} {ta : Addr → L2.St → Hp → (Hp → Prop) → Prop} {o0 : Addr → HO} {inner : Env → Addr → Sem Unit}
    (hturn : ∀ it D env, compTurn (.DictComp kx vx (⟨tg, iter, ifs, 0⟩ :: gs) scope pos) 0 it (.ref D) env = turnT iter.pos tg ifs it env (inner env D) (again (.compLoop (.DictComp kx vx (⟨tg, iter, ifs, 0⟩ :: gs) scope pos) 0 it (.ref D) env)))
    (hc : X.calm = true) (hN : X.N.Nodup) (hi : PI X tg iter wi) (ok : BlkOk X.N X.env.scope scope own) (hg : BB X scope fun Y => PG Y tg g) (ht : BB X scope fun Y => PTs Y ifs tt) (ha : BB X scope fun Y => ∀ D, PD Y (own.map (·.2)) (inner Y.env D) (ta D))
    (h0 : ∀ (H : Hp) (h : Heap), sysModules < h.objs.size → ObjOk X.prog X.w H (h.push { cls := .type "dict", data := .dict #[] }) h.objs.size (o0 h.objs.size)) (hs : ∀ x, foldedSetIterable iter X.env x = pure x) :
    PE X (.DictComp kx vx (⟨tg, iter, ifs, 0⟩ :: gs) scope pos) (tDg o0 wi g tt ta (own.map (·.2))) := by
  refine ⟨fun pins s σ H Q I h => ?_⟩
  rw [arm_eval_DictComp]
  have hfree : ∀ y ∈ scope.names, y.2 = .free → ∃ c, X.env.cells.lookup y.1 = some c := fun y hy e => (ok.free y hy e).elim (fun k => I.ok.has _ (.inl k)) fun k => I.ok.has _ (.inr k)
  refine wpAny_comprehension_free (use := none) rfl hs (closure_ok hfree) ok.kind (fun y hy e => by rw [ok.uniq y hy, e]) (thn (hi.run pins s σ H _ I h) fun xv s1 hx => thn hx fun itv s2 h2 => ?_)
  obtain ⟨it, fp, tn, J, H2, rfl, I2, T, st2, f2, q⟩ := h2
  refine wpAny_newObj_type (newEnv_comp ?_)
  obtain ⟨D, hD⟩ : ∃ D, s2.heap.objs.size = D := ⟨_, rfl⟩
  rw [hD]
  obtain ⟨W, ⟨m0, w0⟩, turn⟩ := q D (I2.hok.fresh (Nat.le_of_eq hD))
  obtain ⟨s3, hs3⟩ : ∃ s3 : Shared, ({ s2 with heap := s2.heap.push { cls := .type "dict", data := .dict #[] } } : Shared) = s3 := ⟨_, rfl⟩
  have h3 : s3.heap = s2.heap.push { cls := .type "dict", data := .dict #[] } := by rw [← hs3]
  have I3 : Inv X pins σ (upd H2 D (o0 D)) s3 := by
    rw [← hs3]
    refine I2.laid (t' := s2.toks) (fun b o e => Heap.get?_push_of_some _ e) (Nat.le_of_eq hD) ?_
    rw [← hD]
    exact h0 _ s2.heap I2.big
  have f3 : ∀ b ∈ fp, FpOk X pins (upd H2 D (o0 D)) b ∧ b < s3.heap.objs.size := fun b hb => by
    obtain ⟨o, e, _⟩ := T.obj _ _ st2 b hb
    have hlt := Heap.lt_size e
    refine ⟨⟨?_, (f2 b hb).2⟩, by rw [h3, Heap.size_push]; exact Nat.lt_succ_of_lt hlt⟩
    rw [upd_ne (by rw [← hD]; exact Nat.ne_of_lt hlt)]
    exact (f2 b hb).1
  have st3 : tn 0 s3.heap := T.keep _ _ _ st2 fun b _ o e => by rw [h3]; exact Heap.get?_push_of_some _ e
  have I4 := block_start I3 ok hN f3
  have pg := hg s3 (upd H2 D (o0 D)) s3.heap.objs.size (cellsFrom (s3.heap.objs.size + 1) scope.names (cloFrom X.env.cells scope.names [])) fp
  have pt := ht s3 (upd H2 D (o0 D)) s3.heap.objs.size (cellsFrom (s3.heap.objs.size + 1) scope.names (cloFrom X.env.cells scope.names [])) fp
  have pa := ha s3 (upd H2 D (o0 D)) s3.heap.objs.size (cellsFrom (s3.heap.objs.size + 1) scope.names (cloFrom X.env.cells scope.names [])) fp D
  have L1 := fun R => loop_gen (Y := X.blk s3 (upd H2 D (o0 D)) scope (compEnvC scope (cellsFrom (s3.heap.objs.size + 1) scope.names (cloFrom X.env.cells scope.names [])) s3.heap.objs.size X.env) fp) (pins := []) (R := R) (Fin := Q (.ref D)) (σ0 := σ) (hturn (.ref it) D _) hc rfl T pg pt pa (fun H' hn b hb => ⟨hn b hb, (I4.ok.exf b hb).1, I4.ok.exfs b hb, .inl hb, fun x c e => (I4.ok.exf b hb).2 x c e, fun p hp => absurd (show p ∈ ([] : List (Addr × Obj)) ++ [] from hp) (by simp)⟩) turn
  rw [hs3]
  obtain ⟨s4, hs4⟩ : ∃ s4 : Shared, ({ s3 with heap := pushCells (s3.heap.push { cls := .type "dict", data := .dict #[] }) scope.names } : Shared) = s4 := ⟨_, rfl⟩
  rw [hs4] at I4
  have st4 : tn 0 s4.heap := T.keep _ _ _ st3 fun b _ o e => by rw [← hs4]; exact pushCells_keeps _ _ _ _ (Heap.get?_push_of_some _ e)
  have loop := L1 (compPost (model X.prog X.w) X.A X.xe none (EP X pins σ Q) (.ref D) s3.heap.objs.size) (fun s' H' I6 hq => by
    have I7 : Inv X pins σ H' s' := I3.call' (ch := fp) I6.os I6.base I6.hok I6.bare fun b hb => ⟨(f3 b hb).1.2.2.2.1, (f3 b hb).1.2.1, (f3 b hb).1.2.2.2.2.1, (f3 b hb).1.2.2.2.2.2⟩
    have nC : H' s3.heap.objs.size = none := I6.free
    obtain ⟨m, hn, _⟩ := I6.loc
    obtain ⟨k0, k1, k2, k3, k4, k5⟩ := I3.fpOk (Nat.le_refl _) nC
    exact ⟨m, hn, fun h'' sb => ⟨.ref D, H', I7.turned (t' := s'.toks) (fun b o hb e => (sb.2 b hb).trans e) k0 k1 k3 k4 k5, rfl, hq⟩⟩) I4 st4 (fun b hb => (f3 b hb).1.1) w0
  have fin := codeAny_compStart_dict loop (T.self X.A 0 _ _ _ st4 loop)
  subst hs3 hs4
  exact fin
variable {Y : Cx} {own : List Nat}
theorem pd_emit {kx vx : Expr} {D : Addr} {tk tv : TE} {ts : V → V → Hp → (Hp → Prop) → Prop} (hk : PE Y kx tk) (hv : PE Y vx tv)
    (hs : ∀ pins s σ H y z uy uz (Nx : Hp → Prop), Inv Y pins σ H s → RelV y uy → RelV z uz → ts y z H Nx → wpAny (model Y.prog Y.w) Y.A (dictSet D uy uz) (fun _ s' => ∃ H', Inv Y pins σ H' s' ∧ Nx H') Y.xe s) :
    PD Y own (emitD kx vx Y.env D) (fun σ H Nx => tk σ H fun y H4 => tv σ H4 fun z H5 => ts y z H5 Nx) := by
  intro pins s σ H Nx I h
  unfold emitD
  refine wpAny_bind (thn (hk.run pins s σ H _ I h) fun uy s1 ⟨y, H1, I1, r1, q1⟩ => ?_)
  refine wpAny_bind (wpAny_holding (thn (hv.run pins s1 σ H1 _ I1 q1) fun uz s2 ⟨z, H2, I2, r2, q2⟩ => ?_))
  refine wpAny_bind (wpAny_standAt (wpAny_holding (thn (hs pins s2 σ H2 y z uy uz Nx I2 r1 r2 q2) fun _ s3 ⟨H3, I3, nx⟩ => ?_)))
  exact ⟨σ, H3, I3, rfl, fun j v e => (wipe_some e).1, nx⟩
/-- the second clause -/
def tIn2 (wi1 : TI) (g1 : TG) (tt1 : L2.TT) (ta : L2.St → Hp → (Hp → Prop) → Prop) (vs1 : List Nat) : L2.St → Hp → (Hp → Prop) → Prop := fun σ2 H3 Nx => wi1 σ2 H3 fun J1 H4 => ∃ W1 : Nat → Nat → Hp → Prop, (∃ m, W1 0 m H4) ∧ ∀ j k H, W1 j k H →
  (J1.stop j H ∧ Nx H) ∨ (J1.go j H ∧ ∃ Nx1 : Hp → Prop, (∀ H', Nx1 H' → ∃ k', k' < k ∧ W1 (j + 1) k' H') ∧ ∀ x H', J1.yld j H x H' → g1 x (L2.wipe σ2 vs1) H' fun σ3 H5 => L2.wipe σ3 vs1 = L2.wipe σ2 vs1 ∧ tt1 σ3 H5 fun b H6 =>
    if b = true then ta σ3 H6 Nx1 else Nx1 H6)
theorem pd_in2 {kx vx tg iter tg1 iter1 : Expr} {ifs ifs1 : List Expr} {scope : Scope} {pos : Pos} {D : Addr} {wi1 : TI} {g1 : TG} {tt1 : L2.TT} {ta : L2.St → Hp → (Hp → Prop) → Prop} {vs1 : List Nat} (hsub : ∀ i ∈ vs1, i ∈ own) (hc : Y.calm = true) (hxe : Y.xe = fun _ _ => False)
    (hi : PI Y tg1 iter1 wi1) (pg : PG Y tg1 g1) (pt : PTs Y ifs1 tt1) (pa : PD Y vs1 (emitD kx vx Y.env D) ta) (hs1 : ∀ env x, foldedSetIterable iter1 env x = pure x) :
    PD Y own (innerC (.DictComp kx vx [⟨tg, iter, ifs, 0⟩, ⟨tg1, iter1, ifs1, 0⟩] scope pos) 1 iter1 (.ref D) Y.env) (tIn2 wi1 g1 tt1 ta vs1) := by
  intro pins s σ H Nx I h
  unfold innerC
  refine wpAny_bind (thn (hi.run pins s σ H _ I h) fun xv s1 hx => ?_)
  refine wpAny_bind (wpAny_standAt (wpAny_bind (wpAny_of_eq (hs1 _ xv) (wpAny_bind (wpAny_holding (thn hx fun itv s2 h2 => ?_))))))
  obtain ⟨it, fp, tn, J, H2, rfl, I2, T, st2, f2, W, ⟨m0, w0⟩, turn⟩ := h2
  refine wpAny_bind (wpAny_runOwn ?_)
  rw [Around.mark_none]
  have wk : Inv Y pins (L2.wipe σ vs1) H2 s2 := I2.weak (wipe_length _ _) fun j v e => (wipe_some e).1
  have loop := loop_gen (Y := Y) (pins := pins) (σ0 := σ) (own := vs1) (Fin := Nx) (R := fun r s' => match r with
      | .ok _ => ∃ σ' H', Inv Y pins σ' H' s' ∧ σ'.length = σ.length ∧ (∀ (j : Nat) v, (L2.wipe σ own)[j]? = some (some v) → σ'[j]? = some (some v)) ∧ Nx H'
      | .error _ => False) (turn_d2i kx vx tg iter tg1 iter1 ifs ifs1 scope pos (.ref it) D Y.env) hc hxe T pg pt pa (fun H' hn b hb => ⟨hn b hb, (f2 b hb).2⟩) turn
    (fun s' H' I' nx => ⟨_, H', I', wipe_length _ _, fun j v e => by
      obtain ⟨e1, e2⟩ := wipe_some e
      rw [wipe_out fun z => e2 (hsub j z)]
      exact e1, nx⟩) wk st2 (fun b hb => (f2 b hb).1) w0
  refine codeAny_mono (cstart_ok loop rfl fun E' => T.self Y.A 0 _ _ E' st2 loop) fun r s' hr => ?_
  cases r with
  | ok f => exact wpAny_pure hr
  | error e => exact hr.elim
end
end SK

set_option maxHeartbeats 1000000
/-! SK43: dict comprehensions with two clauses as values; len of one whose keys are nested tuples. -/
noncomputable section
namespace SK
open PySem L2 PySem.Spec PyProof.Rows
def stD (ek ev : EM) : List Val × List Val → Fr → R ((List Val × List Val) × Fr) := fun d fr => (noX (ek fr)).bind fun y => (noX (ev y.2)).bind fun v => if isK y.1 = true ∧ nodupK d.1 = true ∧ d.1.length < 16777216 then .ok (dPut y.1 v.1 d.1 d.2, v.2) else .bad
def eDc2 (own own1 : List Nat) (i : IM) (g : GM) (t : TM) (i1 : IM) (g1 : GM) (t1 : TM) (ek ev : EM) : EM := fun fr => (i fr).bind fun x => (noX (cmL own g t (cmI own1 i1 g1 t1 (stD ek ev)) x.1 ([], []) x.2)).bind fun r => .ok (.dic r.1.1 r.1.2, putF' x.2 r.2 own)
section
variable {T : Tb} {mu : Nat → Bool} {io : List (Nat × V)} {K : PySem.W.Frag}
def DAR (K : PySem.W.Frag) (T : Tb) (D : Addr) (O : Own) (H : Hp) (a : List Val × List Val) : Prop := O D = some .tmp ∧ ∃ kvs, H D = some (.dK kvs) ∧ a.1 = kvs.map (fun p => kVal p.1) ∧ VRs K T O H a.2 (kvs.map (·.2))
theorem DAR.mono {D : Addr} (O : Own) (H : Hp) (O' : Own) (H' : Hp) (a : List Val × List Val) (f : Fm O H O' H') (h : DAR K T D O H a) : DAR K T D O' H' a := by
  obtain ⟨h1, kvs, h2, h3, h4⟩ := h
  obtain ⟨g1, g2⟩ := f.tmp D _ h2 h1
  exact ⟨g2, kvs, g1, h3, h4.mono f⟩
/-- D is written: the rest stays -/
theorem tmp_keep {O : Own} {H : Hp} {O2 : Own} {H2 : Hp} {D : Addr} {o : HO} (F2 : Fm O H O2 H2) (oD : O2 D = some .tmp) : Fb O H O2 (upd H2 D o) ∧ Fo O H O2 (upd H2 D o) ∧ Fb O2 H2 O2 (upd H2 D o) := by
  have keep : ∀ {b u}, H2 b = some u → O2 b ≠ some .tmp → upd H2 D o b = some u := fun {b u} e n => by
    rw [upd_ne (fun z => n (by rw [z]; exact oD))]; exact e
  have keepS : ∀ {b u}, Sm u (H2 b) → O2 b ≠ some .tmp → Sm u (upd H2 D o b) := fun {b u} e n => by
    rw [upd_ne (fun z => n (by rw [z]; exact oD))]; exact e
  exact ⟨fun b u e n => let ⟨g1, g2⟩ := F2.b b u e n; ⟨keepS g1 (by rw [g2]; exact fun z => nomatch z), g2⟩, fun b u e n => let ⟨g1, g2⟩ := F2.out b u e n; ⟨keep g1 (by rw [g2]; exact fun z => nomatch z), g2⟩, fun b u e n => ⟨keepS e (by rw [n]; exact fun z => nomatch z), n⟩⟩
theorem stD_act {own : List Nat} {ek ev : EM} {D : Addr} {Ob : SK.Own} {Hb : Hp} {σ1 : L2.St} (hbD : Hb D = none) : ∀ σ O fr H a a' fr' (Nx : Hp → Prop), Rl K T mu io O fr σ H → FmD D Ob Hb O H → DAR K T D O H a → L2.wipe σ own = L2.wipe σ1 own → stD ek ev a fr = .ok (a', fr') →
      (∀ O' H' σ', L2.wipe σ' own = L2.wipe σ1 own → Rl K T mu io O' fr' σ' H' → FmD D Ob Hb O' H' → Fb O H O' H' → Fo O H O' H' → DAR K T D O' H' a' → Nx H') →
      rE K T L2.E0 mu io ek σ H fun y H4 => rE K T L2.E0 mu io ev σ H4 fun z H5 => ∃ kvs k, y = kV k ∧ H5 D = some (.dK kvs) ∧ kvs.length < sizeLine ∧ Nx (upd H5 D (.dK (putK kvs k z))) := by
  intro σ O fr H a a' fr' Nx R F A hw hs hN
  refine ⟨O, fr, R, ?_⟩
  unfold stD at hs
  cases h : ek fr with
  | bad => rw [h] at hs; cases hs
  | exc x => rw [h] at hs; cases hs
  | ok p =>
    obtain ⟨y, fr2⟩ := p
    rw [h] at hs
    simp only [noX, SK.R.bind_ok] at hs
    intro O2 H2 y' F2 R2 V2
    refine ⟨O2, fr2, R2, ?_⟩
    cases h2 : ev fr2 with
    | bad => rw [h2] at hs; cases hs
    | exc x => rw [h2] at hs; cases hs
    | ok p =>
      obtain ⟨z, fr3⟩ := p
      rw [h2] at hs
      simp only [noX, SK.R.bind_ok] at hs
      intro O3 H3 z' F3 R3 V3
      have F13 := F2.trans F3
      obtain ⟨oD, kvs, hD, hk, V⟩ := DAR.mono _ _ _ _ _ F13 A
      by_cases hc : isK y = true ∧ nodupK a.1 = true ∧ a.1.length < 16777216
      · rw [if_pos hc] at hs
        cases hs
        obtain ⟨kk, e1, e2⟩ := key_of hc.1 (V2.mono F3)
        obtain ⟨a1, a2⟩ := a
        dsimp only at hk hc V
        subst hk
        subst e2
        obtain ⟨p1, p2⟩ := dPut_ok (kk := kk) V3 hc.2.1 V
        obtain ⟨k1, k2, k3⟩ := tmp_keep (o := .dK (putK kvs kk z')) F13 oD
        exact ⟨kvs, kk, e1, hD, by have := hc.2.2; rw [List.length_map] at this; exact this, hN O3 _ σ hw (R3.putOut oD) ((F.step F13).put hbD _) k1 k2 ⟨oD, _, upd_same, p1, VRs.monoB k3 _ _ p2⟩⟩
      · rw [if_neg hc] at hs; cases hs
variable {X : Cx} {E : XK} {pos : Pos}
theorem sx_dc2 {ro : Bool} {r : Nat} {kx vx tg iter tg1 iter1 : Expr} {ifs ifs1 : List Expr} {scope : Scope} {own : List (Str × Nat)} {ts own1 ts1 : List Nat} {i i1 : IM} {g g1 : GM} {t t1 : TM} {ek ev : EM} (hc : X.calm = true := by rfl) (hN : X.N.Nodup) (hi : SI X T E mu io tg iter i) (ok : BlkOk X.N X.env.scope scope own)
    (hio : ∀ p ∈ io, p.1 ∉ own.map (·.2) := by exact io_own rfl) (hmu : ∀ i ∈ own.map (·.2), mu i = false := by decide) (hts : ∀ i ∈ ts, i ∈ own.map (·.2) := by decide) (hts1 : ∀ i ∈ ts1, i ∈ own1 := by decide) (hsub : ∀ i ∈ own1, i ∈ own.map (·.2) := by decide)
    (hg : BB X scope fun Y => SG Y T mu io ts tg g) (ht : BB X scope fun Y => STs Y T L2.E0 mu io ifs t) (hi1 : BB X scope fun Y => SI Y T L2.E0 mu io tg1 iter1 i1) (hg1 : BB X scope fun Y => SG Y T mu io ts1 tg1 g1) (ht1 : BB X scope fun Y => STs Y T L2.E0 mu io ifs1 t1) (hk : BB X scope fun Y => SE Y T L2.E0 mu io kx ek) (he : BB X scope fun Y => SE Y T L2.E0 mu io vx ev)
    (hs : ∀ x, foldedSetIterable iter X.env x = pure x := by intro _; rfl) (hs1 : ∀ env x, foldedSetIterable iter1 env x = pure x := by intro _ _; rfl) :
    SX X T E mu io ro r (.DictComp kx vx [⟨tg, iter, ifs, 0⟩, ⟨tg1, iter1, ifs1, 0⟩] scope pos) (eDc2 (own.map (·.2)) own1 i g t i1 g1 t1 ek ev) := by
  have PEd := pe_dg (X := X) (o0 := fun _ => .dK []) (wi := SK.rI X.K T E mu io i) (g := rG X.K T mu io ts g) (tt := rT X.K T L2.E0 mu io t) (ta := fun D => tIn2 (SK.rI X.K T L2.E0 mu io i1) (rG X.K T mu io ts1 g1) (rT X.K T L2.E0 mu io t1) (fun σ H Nx => rE X.K T L2.E0 mu io ek σ H fun y H4 => rE X.K T L2.E0 mu io ev σ H4 fun z H5 => ∃ kvs k, y = kV k ∧ H5 D = some (.dK kvs) ∧ kvs.length < sizeLine ∧ Nx (upd H5 D (.dK (putK kvs k z)))) own1)
    (turn_d2o kx vx tg iter tg1 iter1 ifs ifs1 scope pos) hc hN hi ok hg ht
    (fun s H C cl fp D => pd_in2 hsub hc rfl (hi1 s H C cl fp) (hg1 s H C cl fp) (ht1 s H C cl fp) (pd_emit (ts := fun y z H5 Nx => ∃ kvs k, y = kV k ∧ H5 D = some (.dK kvs) ∧ kvs.length < sizeLine ∧ Nx (upd H5 D (.dK (putK kvs k z)))) (hk s H C cl fp) (he s H C cl fp) fun pins s' σ' H' y z uy uz Nx I ry rz ⟨kvs, k, e, hD, hl, nx⟩ => by
      subst e
      exact d_dictSet I hD hl ry rz fun s'' I'' => ⟨_, I'', nx⟩) hs1) (fun H h hb => dk_empty h hb) hs
  refine PE.imp PEd fun σ H Q ⟨O, fr, rl, q⟩ => ?_
  unfold eDc2 at q
  refine ⟨O, fr, rl, ?_⟩
  cases h : i fr with
  | bad => rw [h] at q; exact q
  | exc e => rw [h] at q; exact q
  | ok p =>
    obtain ⟨xs, fr1⟩ := p
    rw [h] at q
    intro O1 H1 J F1 R1 W1 D hD
    simp only [SK.R.bind_ok] at q
    cases hz : cmL (own.map (·.2)) g t (cmI own1 i1 g1 t1 (stD ek ev)) xs ([], []) fr1 with
    | bad => rw [hz] at q; exact q.elim
    | exc e => rw [hz] at q; exact q.elim
    | ok p =>
      obtain ⟨vs, frE⟩ := p
      rw [hz] at q
      simp only [noX, SK.R.bind_ok] at q
      have W1' : Walks X.K T J xs (setOw O1 D (some .tmp)) (upd H1 D (.dK [])) := W1.monoB (FmD.begin hD).byv (FmD.begin hD).out
      refine cm_loop (DAR X.K T D) DAR.mono hio hts (R1.laid hD) (FmD.begin hD) ⟨setOw_same, [], upd_same, rfl, VRs.nil⟩ W1' hz
        (cmI_act (DAR X.K T D) DAR.mono (fun p hp z => hio p hp (hsub _ z)) hts1 hsub fun τ hτ => stD_act (own := own1) hD) fun O' H' σ' hw R' F' _ _ A' => ?_
      obtain ⟨oD, kvs, hHD, hk', V'⟩ := A'
      have R2 := Rl.unwip (H0 := H1) (O0 := O1) (own.map (·.2)) R1 F'.byv F'.out hmu hw R'
      cases ro with
      | true =>
        refine q (setOw O' D (some (.sl r))) H' _ (F1.trans (F'.fin hD fun z => nomatch z)) (R2.outTo oD) ?_
        unfold RtR
        rw [if_pos rfl]
        refine ⟨D, kvs, rfl, setOw_same, hHD, hk', VRs.monoB (fun a u e n => ⟨e, ?_⟩) _ _ V'⟩
        rw [setOw_ne (fun z => by rw [z, oD] at n; cases n)]
        exact n
      | false =>
        refine q (setOw O' D none) H' _ (F1.trans (F'.fin hD fun z => nomatch z)) (R2.outTo oD) ?_
        unfold RtR
        rw [if_neg Bool.false_ne_true]
        unfold VR
        refine ⟨D, kvs, rfl, .inl ⟨.inl hHD, setOw_same⟩, hk', VRs.monoB (fun a u e n => ⟨e, ?_⟩) _ _ V'⟩
        rw [setOw_ne (fun z => by rw [z, oD] at n; cases n)]
        exact n
end
/-! ### keys that are nested tuples -/
mutual
def isN : Nat → Val → Bool
  | _, .non => true
  | _, .int _ => true
  | _, .str _ => true
  | n + 1, .tup vs => isNs n vs
  | _, _ => false
def isNs : Nat → List Val → Bool
  | _, [] => true
  | n, v :: vs => isN n v && isNs n vs
end
mutual
def nEq : Val → Val → Bool
  | .non, .non => true
  | .int i, .int j => decide (i = j)
  | .str a, .str b => decide (a = b)
  | .tup a, .tup b => nEqs a b
  | _, _ => false
def nEqs : List Val → List Val → Bool
  | [], [] => true
  | a :: as, b :: bs => nEq a b && nEqs as bs
  | _, _ => false
end
mutual
def NkR : Val → NestedKey → Prop
  | .non, k => k = .none
  | .int i, k => k = .num i
  | .str s, k => ∃ z : Str, z.cps.toList = s ∧ k = .text z
  | .tup vs, k => ∃ ks, k = .tup ks ∧ NkRs vs ks
  | _, _ => False
def NkRs : List Val → List NestedKey → Prop
  | [], ks => ks = []
  | v :: vs, ks => ∃ k r, ks = k :: r ∧ NkR v k ∧ NkRs vs r
end
section
variable {K : PySem.W.Frag} {T : Tb}
mutual
theorem nkr_depth : ∀ (n : Nat) (v : Val) (k : NestedKey), isN n v = true → NkR v k → k.depth ≤ n
  | n, .non, k, _, h => by unfold NkR at h; subst h; exact Nat.zero_le _
  | n, .int _, k, _, h => by unfold NkR at h; subst h; exact Nat.zero_le _
  | n, .str _, k, _, h => by unfold NkR at h; obtain ⟨z, _, rfl⟩ := h; exact Nat.zero_le _
  | n + 1, .tup vs, k, hn, h => by
    unfold NkR at h
    obtain ⟨ks, rfl, r⟩ := h
    unfold isN at hn
    have := nkrs_depth n vs ks hn r
    simp only [NestedKey.depth]
    omega
  | 0, .tup _, _, hn, _ => by simp [isN] at hn
  | 0, .bl _, _, hn, _ => by simp [isN] at hn
  | _ + 1, .bl _, _, hn, _ => by simp [isN] at hn
  | 0, .lst _, _, hn, _ => by simp [isN] at hn
  | _ + 1, .lst _, _, hn, _ => by simp [isN] at hn
  | 0, .dic _ _, _, hn, _ => by simp [isN] at hn
  | _ + 1, .dic _ _, _, hn, _ => by simp [isN] at hn
  | 0, .ins _ _ _, _, hn, _ => by simp [isN] at hn
  | _ + 1, .ins _ _ _, _, hn, _ => by simp [isN] at hn
  | 0, .scr _, _, hn, _ => by simp [isN] at hn
  | _ + 1, .scr _, _, hn, _ => by simp [isN] at hn
theorem nkrs_depth : ∀ (n : Nat) (vs : List Val) (ks : List NestedKey), isNs n vs = true → NkRs vs ks → NestedKey.depthAll ks ≤ n
  | n, [], ks, _, h => by unfold NkRs at h; subst h; exact Nat.zero_le _
  | n, v :: vs, ks, hn, h => by
    unfold NkRs at h
    obtain ⟨k, r, rfl, h1, h2⟩ := h
    unfold isNs at hn
    rw [Bool.and_eq_true] at hn
    have a := nkr_depth n v k hn.1 h1
    have b := nkrs_depth n vs r hn.2 h2
    simp only [NestedKey.depthAll]
    omega
end
mutual
theorem nkr_of {O : Own} {H : Hp} : ∀ (n : Nat) (v : Val) (x : V), isN n v = true → VR K T O H v x → ∃ k, NkR v k
  | n, .non, x, _, h => ⟨.none, by unfold NkR; rfl⟩
  | n, .int i, x, _, h => ⟨.num i, by unfold NkR; rfl⟩
  | n, .str s, x, _, h => by
    obtain ⟨z, _, hz⟩ := h.str
    exact ⟨.text z, by unfold NkR; exact ⟨z, hz, rfl⟩⟩
  | n + 1, .tup vs, x, hn, h => by
    unfold VR at h
    obtain ⟨a, ws, _, _, r⟩ := h
    unfold isN at hn
    obtain ⟨ks, q⟩ := nkrs_of n vs ws hn r
    exact ⟨.tup ks, by unfold NkR; exact ⟨ks, rfl, q⟩⟩
  | 0, .tup _, _, hn, _ => by simp [isN] at hn
  | 0, .bl _, _, hn, _ => by simp [isN] at hn
  | _ + 1, .bl _, _, hn, _ => by simp [isN] at hn
  | 0, .lst _, _, hn, _ => by simp [isN] at hn
  | _ + 1, .lst _, _, hn, _ => by simp [isN] at hn
  | 0, .dic _ _, _, hn, _ => by simp [isN] at hn
  | _ + 1, .dic _ _, _, hn, _ => by simp [isN] at hn
  | 0, .ins _ _ _, _, hn, _ => by simp [isN] at hn
  | _ + 1, .ins _ _ _, _, hn, _ => by simp [isN] at hn
  | 0, .scr _, _, hn, _ => by simp [isN] at hn
  | _ + 1, .scr _, _, hn, _ => by simp [isN] at hn
theorem nkrs_of {O : Own} {H : Hp} : ∀ (n : Nat) (vs : List Val) (xs : List V), isNs n vs = true → VRs K T O H vs xs → ∃ ks, NkRs vs ks
  | n, [], xs, _, h => ⟨[], by unfold NkRs; rfl⟩
  | n, v :: vs, xs, hn, h => by
    obtain ⟨y, r, rfl, h1, h2⟩ := h.inv
    unfold isNs at hn
    rw [Bool.and_eq_true] at hn
    obtain ⟨k, a⟩ := nkr_of n v y hn.1 h1
    obtain ⟨ks, b⟩ := nkrs_of n vs r hn.2 h2
    exact ⟨k :: ks, by unfold NkRs; exact ⟨k, ks, rfl, a, b⟩⟩
end
mutual
theorem nkr_is {Y : Cx} {pins : List (Addr × Obj)} {σ : L2.St} {O : Own} {H : Hp} {s : Shared} (I : Inv Y pins σ H s) : ∀ (v : Val) (k : NestedKey) (x : V) (u : Value), NkR v k → VR Y.K T O H v x → RelV x u → NestedIs s.heap k u
  | .non, k, x, u, hk, h, r => by
    unfold NkR at hk; subst hk
    unfold VR at h; subst h
    have r : u = .none := r
    subst r; exact .none
  | .int i, k, x, u, hk, h, r => by
    unfold NkR at hk; subst hk
    unfold VR at h; subst h
    obtain ⟨t, rfl⟩ := (show ∃ t, u = .int i t from r)
    exact .int _ _
  | .str s, k, x, u, hk, h, r => by
    unfold NkR at hk
    obtain ⟨z, hz, rfl⟩ := hk
    obtain ⟨z', rfl, hz'⟩ := h.str
    obtain ⟨t, rfl⟩ := (show ∃ t, u = .str z' t from r)
    have e : z = z' := str_of_list (hz.trans hz'.symm)
    subst e
    exact .text _ _
  | .tup vs, k, x, u, hk, h, r => by
    unfold NkR at hk
    obtain ⟨ks, rfl, q⟩ := hk
    unfold VR at h
    obtain ⟨a, ws, rfl, t, rr⟩ := h
    have r : u = .ref a := r
    subst r
    obtain ⟨its, rv, ⟨o, ho, hc, n, hd⟩, _⟩ := I.tuple (SqT.fm t (Fb.refl _ _))
    exact .tup ho hc hd (by simpa using nkrs_is I vs ks ws its q rr rv)
  | .bl _, _, _, _, hk, _, _ => by unfold NkR at hk; exact hk.elim
  | .lst _, _, _, _, hk, _, _ => by unfold NkR at hk; exact hk.elim
  | .dic _ _, _, _, _, hk, _, _ => by unfold NkR at hk; exact hk.elim
  | .ins _ _ _, _, _, _, hk, _, _ => by unfold NkR at hk; exact hk.elim
  | .scr _, _, _, _, hk, _, _ => by unfold NkR at hk; exact hk.elim
theorem nkrs_is {Y : Cx} {pins : List (Addr × Obj)} {σ : L2.St} {O : Own} {H : Hp} {s : Shared} (I : Inv Y pins σ H s) : ∀ (vs : List Val) (ks : List NestedKey) (xs : List V) (us : List Value), NkRs vs ks → VRs Y.K T O H vs xs → Vals xs us → NestedAll s.heap ks us
  | [], ks, xs, us, hk, h, r => by
    unfold NkRs at hk; subst hk
    rw [h.inv0] at r
    cases r
    exact .nil
  | v :: vs, ks, xs, us, hk, h, r => by
    unfold NkRs at hk
    obtain ⟨k, q, rfl, k1, k2⟩ := hk
    obtain ⟨y, w, rfl, h1, h2⟩ := h.inv
    cases r with
    | cons r1 r2 => exact .cons (nkr_is I v k y _ k1 h1 r1) (nkrs_is I vs q w _ k2 h2 r2)
end
mutual
theorem nEq_iff : ∀ (a b : Val) (j k : NestedKey), NkR a j → NkR b k → (nEq a b = true ↔ j = k)
  | .non, b, j, k, ha, hb => by
    unfold NkR at ha; subst ha
    cases b <;> unfold NkR at hb <;> simp only [nEq] <;> first | exact hb.elim | (subst hb; simp) | (obtain ⟨_, _, rfl⟩ := hb; simp) | (obtain ⟨_, rfl, _⟩ := hb; simp)
  | .int i, b, j, k, ha, hb => by
    unfold NkR at ha; subst ha
    cases b <;> unfold NkR at hb <;> simp only [nEq] <;> first | exact hb.elim | (subst hb; simp) | (obtain ⟨_, _, rfl⟩ := hb; simp) | (obtain ⟨_, rfl, _⟩ := hb; simp)
  | .str s, b, j, k, ha, hb => by
    unfold NkR at ha; obtain ⟨z, rfl, rfl⟩ := ha
    cases b <;> unfold NkR at hb <;> simp only [nEq]
    case str t =>
      obtain ⟨z', rfl, rfl⟩ := hb
      rw [decide_eq_true_iff]
      exact ⟨fun e => by rw [str_of_list e], fun e => by injection e with e; rw [e]⟩
    all_goals first | exact hb.elim | (subst hb; simp) | (obtain ⟨_, rfl, _⟩ := hb; simp)
  | .tup as, b, j, k, ha, hb => by
    unfold NkR at ha; obtain ⟨js, rfl, ra⟩ := ha
    cases b <;> unfold NkR at hb <;> simp only [nEq]
    case tup bs =>
      obtain ⟨ks, rfl, rb⟩ := hb
      rw [nEqs_iff as bs js ks ra rb]
      exact ⟨fun e => by rw [e], fun e => by injection e⟩
    all_goals first | exact hb.elim | (subst hb; simp) | (obtain ⟨_, _, rfl⟩ := hb; simp)
  | .bl _, _, _, _, ha, _ => by unfold NkR at ha; exact ha.elim
  | .lst _, _, _, _, ha, _ => by unfold NkR at ha; exact ha.elim
  | .dic _ _, _, _, _, ha, _ => by unfold NkR at ha; exact ha.elim
  | .ins _ _ _, _, _, _, ha, _ => by unfold NkR at ha; exact ha.elim
  | .scr _, _, _, _, ha, _ => by unfold NkR at ha; exact ha.elim
theorem nEqs_iff : ∀ (a b : List Val) (j k : List NestedKey), NkRs a j → NkRs b k → (nEqs a b = true ↔ j = k)
  | [], [], j, k, ha, hb => by unfold NkRs at ha hb; subst ha; subst hb; simp [nEqs]
  | [], _ :: _, j, k, ha, hb => by unfold NkRs at ha hb; subst ha; obtain ⟨_, _, rfl, _⟩ := hb; simp [nEqs]
  | _ :: _, [], j, k, ha, hb => by unfold NkRs at ha hb; subst hb; obtain ⟨_, _, rfl, _⟩ := ha; simp [nEqs]
  | a :: as, b :: bs, j, k, ha, hb => by
    unfold NkRs at ha hb
    obtain ⟨j1, jr, rfl, a1, a2⟩ := ha
    obtain ⟨k1, kr, rfl, b1, b2⟩ := hb
    simp only [nEqs, Bool.and_eq_true]
    rw [nEq_iff a b j1 k1 a1 b1, nEqs_iff as bs jr kr a2 b2]
    exact ⟨fun ⟨x, y⟩ => by rw [x, y], fun e => by injection e with x y; exact ⟨x, y⟩⟩
end
end
end SK

set_option maxHeartbeats 1000000
/-! SK44: len({k: v for ..}), the keys nested tuples. -/
noncomputable section
namespace SK
open PySem L2 PySem.Spec PyProof.Rows
/-- a dict whose keys are nested tuples: the keys, where they lie -/
def nestO (P : Program) (w : World) (D : Addr) (ks : List (NestedKey × Addr)) : HO := .ext fun h => (D == sysModules) = false ∧ ks.length ≤ sizeLine ∧ ∃ (xs : List (NestedKey × Addr × Value)) (o : Obj) (es : Array DictEntry) (ep : Nat), xs.map (fun x => (x.1, x.2.1)) = ks ∧ h.get? D = some o ∧ o.ExactDict ∧ o.data = .dict es ep ∧ es.toList = xs.map (entryOfKey (nestedKind P w)) ∧ (xs.map (·.1)).Nodup
theorem nestO_new {P : Program} {w : World} (H : Hp) (h : Heap) (hb : sysModules < h.objs.size) : ObjOk P w H (h.push { cls := .type "dict", data := .dict #[] }) h.objs.size (nestO P w h.objs.size []) :=
  ⟨⟨beq_eq_false_iff_ne.mpr (Ne.symm (Nat.ne_of_lt hb)), Nat.zero_le _, [], _, #[], 0, rfl, Heap.get?_push_size _ rfl, ⟨rfl, rfl, rfl⟩, rfl, rfl, List.nodup_nil⟩, ⟨_, Heap.get?_push_size _ rfl⟩,
    fun h1 h2 ⟨a, b, xs, o, es, ep, e1, e2, e3⟩ st => ⟨a, b, xs, o, es, ep, e1, st _ e2, e3⟩⟩
theorem nestO_get {P : Program} {w : World} {H : Hp} {h : Heap} {D : Addr} {ks : List (NestedKey × Addr)} (hok : HOk P w H h) (e : H D = some (nestO P w D ks)) : (D == sysModules) = false ∧ ks.length ≤ sizeLine ∧ ∃ (xs : List (NestedKey × Addr × Value)) (o : Obj) (es : Array DictEntry) (ep : Nat), xs.map (fun x => (x.1, x.2.1)) = ks ∧ h.get? D = some o ∧ o.ExactDict ∧ o.data = .dict es ep ∧ es.toList = xs.map (entryOfKey (nestedKind P w)) ∧ (xs.map (·.1)).Nodup :=
  (hok D _ e).1
/-- the key k at b is laid in -/
def putN (ks : List (NestedKey × Addr)) (k : NestedKey) (b : Addr) : List (NestedKey × Addr) := if (ks.any fun x => decide (x.1 = k)) = true then ks else ks ++ [(k, b)]
theorem storedH_keys {xs : List (NestedKey × Addr × Value)} {k : NestedKey} {b : Addr} {v : Value} : (storedH xs k b v).map (fun x => (x.1, x.2.1)) = putN (xs.map fun x => (x.1, x.2.1)) k b := by
  have e : (atKey xs k).isSome = ((xs.map fun x => (x.1, x.2.1)).any fun x => decide (x.1 = k)) := by
    unfold atKey
    rw [List.any_map]
    induction xs with
    | nil => rfl
    | cons x r ih =>
      rw [List.find?_cons, List.any_cons]
      show _ = (decide (x.1 = k) || _)
      by_cases h : x.1 = k
      · simp [h]
      · simpa [h] using ih
  unfold storedH putN
  rw [e]
  split
  · rw [List.map_map]
    apply List.map_congr_left
    intro x _
    show ((putAt k v x).1, (putAt k v x).2.1) = _
    unfold putAt
    split <;> rfl
  · rw [List.map_append]; rfl
/-- a key stands in the heap -/
def KeyAt (K : PySem.W.Frag) (T : Tb) (H : Hp) (p : NestedKey × Addr) : Prop := p.1.depth ≤ 8 ∧ ∃ v O, NkR v p.1 ∧ VR K T O H v (.ref p.2)
theorem KeyAt.is {Y : Cx} {T : Tb} {pins : List (Addr × Obj)} {σ : L2.St} {H : Hp} {s : Shared} {p : NestedKey × Addr} (h : KeyAt Y.K T H p) (I : Inv Y pins σ H s) : (nestedKind Y.prog Y.w).is s.heap p.1 p.2 :=
  let ⟨hd, v, _, a, b⟩ := h
  ⟨nkr_is I v p.1 (.ref p.2) (.ref p.2) a b rfl, hd⟩
theorem putNested {Y : Cx} {T : Tb} {pins : List (Addr × Obj)} {σ : L2.St} {H : Hp} {s : Shared} {D b : Addr} {ks : List (NestedKey × Addr)} {k : NestedKey} {uz : Value} {Q : Unit → Shared → Prop} {E' : Value → Shared → Prop} (hu : Y.A.units + 8 < cLine) (I : Inv Y pins σ H s) (hD : H D = some (nestO Y.prog Y.w D ks)) (hl : ks.length < sizeLine)
    (hks : ∀ p ∈ ks, KeyAt Y.K T H p) (hk : KeyAt Y.K T H (k, b)) (h : ∀ s', Inv Y pins σ (upd H D (nestO Y.prog Y.w D (putN ks k b))) s' → Q () s') : wpAny (model Y.prog Y.w) Y.A (dictSet D (.ref b) uz) Q E' s := by
  obtain ⟨hd, _, xs, o, es, ep, e1, e2, e3, e4, e5, e6⟩ := nestO_get I.hok hD
  have hx : xs.length = ks.length := by rw [← e1, List.length_map]
  refine wpAny_dictSet_heap (knd := nestedKind Y.prog Y.w) (k := k) (xs := xs) hu (hk.is I) ⟨o, es, ep, e2, e3, e4, e5, fun x hm => ?_, e6⟩ (fun h' dd sb => h _ ?_) (by omega)
  · have hp : (x.1, x.2.1) ∈ ks := by rw [← e1]; exact List.mem_map.mpr ⟨x, hm, rfl⟩
    exact (hks _ hp).is I
  · obtain ⟨o', es', ep', d1, d2, d3, d4, _, d6⟩ := dd
    have nk := storedH_keys (xs := xs) (k := k) (b := b) (v := uz)
    rw [e1] at nk
    have hlen : (putN ks k b).length ≤ sizeLine := by
      unfold putN
      split
      · omega
      · rw [List.length_append]; simp; omega
    refine d_write I (by rw [hD]; exact trivial) sb ⟨o', d1⟩ ⟨⟨hd, hlen, _, o', es', ep', nk, d1, d2, d3, d4, d6⟩, ⟨o', d1⟩, fun h1 h2 ⟨a, b, xs, o, es, ep, e1, e2, e3⟩ st => ⟨a, b, xs, o, es, ep, e1, st _ e2, e3⟩⟩
theorem lenNested {X : Cx} : CallR X (.builtin "len") (fun xs H Q => ∃ D ks, xs = [V.ref D] ∧ H D = some (nestO X.prog X.w D ks) ∧ Q (.int ks.length) H) := by
  intro pins s σ H xs us Q I r ⟨D, ks, e, hD, q⟩
  subst e
  obtain ⟨u, rfl, ru⟩ := vals1 r
  cases ru
  obtain ⟨hd, hl, xs, o, es, ep, e1, e2, e3, e4, e5, e6⟩ := nestO_get I.hok hD
  have hx : es.size = ks.length := by rw [← e1, List.length_map, ← Array.length_toList, e5, List.length_map]
  have z := hl
  rw [sizeLine_eq] at z
  refine PyProof.Rows.call_len_slot (T := "dict") (id := "dict.__len__") (n := ks.length) (v := .ref D) (show s.TypeIs (.ref D) "dict" from ⟨o, e2, e3.1⟩) PySem.F.slot_dict_len (fun Q' q' => call_len_raw hd ⟨o, e2, e3, e4⟩ (by rw [hx]; exact q')) (by omega) (by omega) ?_
  exact ⟨.int ks.length, H, I.tok _, ⟨_, rfl⟩, q⟩
def isT : Val → Bool
  | .tup _ => true
  | _ => false
def putV (d : List Val) (v : Val) : List Val := if (d.any fun x => nEq x v) = true then d else d ++ [v]
def stN (ek ev : EM) : List Val → Fr → R (List Val × Fr) := fun d fr => (noX (ek fr)).bind fun y => (noX (ev y.2)).bind fun v => if isT y.1 = true ∧ isN 8 y.1 = true ∧ d.length < 16777216 then .ok (putV d y.1, v.2) else .bad
def eLenDn (own : List Nat) (i : IM) (g : GM) (t : TM) (ek ev : EM) : EM := fun fr => (i fr).bind fun x => (noX (cmL own g t (stN ek ev) x.1 [] x.2)).bind fun r => .ok (.int r.1.length, putF' x.2 r.2 own)
section
variable {T : Tb} {mu : Nat → Bool} {io : List (Nat × V)} {K : PySem.W.Frag}
def NPs (K : PySem.W.Frag) (T : Tb) (O : Own) (H : Hp) : List Val → List (NestedKey × Addr) → Prop
  | [], [] => True
  | v :: vs, p :: ps => (NkR v p.1 ∧ p.1.depth ≤ 8 ∧ VR K T O H v (.ref p.2)) ∧ NPs K T O H vs ps
  | _, _ => False
theorem NPs.monoB {O O' : Own} {H H' : Hp} (f : Fb O H O' H') : ∀ {vs ps}, NPs K T O H vs ps → NPs K T O' H' vs ps
  | [], [], _ => trivial
  | v :: vs, p :: ps, ⟨⟨a, b, c⟩, r⟩ => ⟨⟨a, b, VR.monoB f _ _ c⟩, r.monoB f⟩
  | [], _ :: _, h => h.elim
  | _ :: _, [], h => h.elim
theorem NPs.len {O : Own} {H : Hp} : ∀ {vs ps}, NPs K T O H vs ps → vs.length = ps.length
  | [], [], _ => rfl
  | v :: vs, p :: ps, ⟨_, r⟩ => by rw [List.length_cons, List.length_cons, r.len]
  | [], _ :: _, h => h.elim
  | _ :: _, [], h => h.elim
theorem NPs.keys {O : Own} {H : Hp} : ∀ {vs ps}, NPs K T O H vs ps → ∀ p ∈ ps, KeyAt K T H p
  | [], [], _, p, hp => by cases hp
  | v :: vs, q :: ps, ⟨⟨a, b, c⟩, r⟩, p, hp => by
    rcases List.mem_cons.mp hp with e | hp
    · rw [e]; exact ⟨b, v, O, a, c⟩
    · exact r.keys p hp
  | [], _ :: _, h, _, _ => h.elim
  | _ :: _, [], h, _, _ => h.elim
theorem NPs.any {O : Own} {H : Hp} {v : Val} {k : NestedKey} (hk : NkR v k) : ∀ {vs ps}, NPs K T O H vs ps → (vs.any fun x => nEq x v) = ps.any fun x => decide (x.1 = k)
  | [], [], _ => rfl
  | w :: vs, q :: ps, ⟨⟨a, b, c⟩, r⟩ => by
    rw [List.any_cons, List.any_cons, r.any hk]
    congr 1
    have := nEq_iff w v q.1 k a hk
    by_cases e : q.1 = k
    · rw [this.mpr e, decide_eq_true e]
    · rw [decide_eq_false e]
      cases h : nEq w v with
      | true => exact absurd (this.mp h) e
      | false => rfl
  | [], _ :: _, h => h.elim
  | _ :: _, [], h => h.elim
theorem NPs.app {O : Own} {H : Hp} {v : Val} {p : NestedKey × Addr} (h : NkR v p.1 ∧ p.1.depth ≤ 8 ∧ VR K T O H v (.ref p.2)) : ∀ {vs ps}, NPs K T O H vs ps → NPs K T O H (vs ++ [v]) (ps ++ [p])
  | [], [], _ => ⟨h, trivial⟩
  | _ :: _, _ :: _, ⟨a, r⟩ => ⟨a, r.app h⟩
  | [], _ :: _, h => h.elim
  | _ :: _, [], h => h.elim
theorem NPs.put {O : Own} {H : Hp} {v : Val} {k : NestedKey} {b : Addr} (h : NkR v k ∧ k.depth ≤ 8 ∧ VR K T O H v (.ref b)) {vs ps} (r : NPs K T O H vs ps) : NPs K T O H (putV vs v) (putN ps k b) := by
  unfold putV putN
  rw [r.any h.1]
  split
  · exact r
  · exact r.app h
def NAR (K : PySem.W.Frag) (T : Tb) (P : Program) (w : World) (D : Addr) (O : Own) (H : Hp) (a : List Val) : Prop := O D = some .tmp ∧ ∃ ks, H D = some (nestO P w D ks) ∧ NPs K T O H a ks
theorem NAR.mono {P : Program} {w : World} {D : Addr} (O : Own) (H : Hp) (O' : Own) (H' : Hp) (a : List Val) (f : Fm O H O' H') (h : NAR K T P w D O H a) : NAR K T P w D O' H' a := by
  obtain ⟨h1, ks, h2, h3⟩ := h
  obtain ⟨g1, g2⟩ := f.tmp D _ h2 h1
  exact ⟨g2, ks, g1, h3.monoB f.b⟩
def tsN (K : PySem.W.Frag) (T : Tb) (P : Program) (w : World) (D : Addr) : V → V → Hp → (Hp → Prop) → Prop := fun y _ H Nx => ∃ ks k b, y = .ref b ∧ H D = some (nestO P w D ks) ∧ ks.length < sizeLine ∧ (∀ p ∈ ks, KeyAt K T H p) ∧ KeyAt K T H (k, b) ∧ Nx (upd H D (nestO P w D (putN ks k b)))
theorem stN_act {P : Program} {w : World} {own : List Nat} {ek ev : EM} {D : Addr} {Ob : SK.Own} {Hb : Hp} {σ1 : L2.St} (hbD : Hb D = none) : ∀ σ O fr H a a' fr' (Nx : Hp → Prop), Rl K T mu io O fr σ H → FmD D Ob Hb O H → NAR K T P w D O H a → L2.wipe σ own = L2.wipe σ1 own → stN ek ev a fr = .ok (a', fr') →
      (∀ O' H' σ', L2.wipe σ' own = L2.wipe σ1 own → Rl K T mu io O' fr' σ' H' → FmD D Ob Hb O' H' → Fb O H O' H' → Fo O H O' H' → NAR K T P w D O' H' a' → Nx H') →
      rE K T L2.E0 mu io ek σ H fun y H4 => rE K T L2.E0 mu io ev σ H4 fun z H5 => tsN K T P w D y z H5 Nx := by
  intro σ O fr H a a' fr' Nx R F A hw hs hN
  refine ⟨O, fr, R, ?_⟩
  unfold stN at hs
  cases h : ek fr with
  | bad => rw [h] at hs; cases hs
  | exc x => rw [h] at hs; cases hs
  | ok p =>
    obtain ⟨y, fr2⟩ := p
    rw [h] at hs
    simp only [noX, SK.R.bind_ok] at hs
    intro O2 H2 y' F2 R2 V2
    refine ⟨O2, fr2, R2, ?_⟩
    cases h2 : ev fr2 with
    | bad => rw [h2] at hs; cases hs
    | exc x => rw [h2] at hs; cases hs
    | ok p =>
      obtain ⟨z, fr3⟩ := p
      rw [h2] at hs
      simp only [noX, SK.R.bind_ok] at hs
      intro O3 H3 z' F3 R3 V3
      have F13 := F2.trans F3
      obtain ⟨oD, ks, hD, V⟩ := NAR.mono _ _ _ _ _ F13 A
      by_cases hc : isT y = true ∧ isN 8 y = true ∧ a.length < 16777216
      · rw [if_pos hc] at hs
        cases hs
        have V23 := VR.mono F3 _ _ V2
        obtain ⟨k, hk⟩ := nkr_of 8 y y' hc.2.1 V23
        obtain ⟨b, rfl⟩ : ∃ b, y' = L2.V.ref b := by
          cases y with
          | tup xs => unfold VR at V23; obtain ⟨b, _, e, _⟩ := V23; exact ⟨b, e⟩
          | _ => exact absurd hc.1 (by simp [isT])
        have hk8 := nkr_depth 8 y k hc.2.1 hk
        obtain ⟨k1, k2, k3⟩ := tmp_keep (o := nestO P w D (putN ks k b)) F13 oD
        exact ⟨ks, k, b, rfl, hD, by rw [← V.len]; exact hc.2.2, V.keys, ⟨hk8, y, O3, hk, V23⟩, hN O3 _ σ hw (R3.putOut oD) ((F.step F13).put hbD _) k1 k2 ⟨oD, _, upd_same, (NPs.put ⟨hk, hk8, V23⟩ V).monoB k3⟩⟩
      · rw [if_neg hc] at hs; cases hs
variable {X : Cx} {E : XK} {pos p : Pos}
theorem se_lenDn {x : Str} {kx vx tg iter : Expr} {ifs : List Expr} {scope : Scope} {own : List (Str × Nat)} {ts : List Nat} {i : IM} {g : GM} {t : TM} {ek ev : EM} {cpos : Pos} (hu : X.A.units + 8 < cLine) (hm : X.mg x = none) (hgl : Gl X x := by rfl) (hv : bootBuiltins x = some (.builtin "len") := by first | rfl | decide +kernel) (hc : X.calm = true := by rfl) (hN : X.N.Nodup) (hi : SI X T E mu io tg iter i) (ok : BlkOk X.N X.env.scope scope own)
    (hio : ∀ p ∈ io, p.1 ∉ own.map (·.2) := by exact io_own rfl) (hmu : ∀ i ∈ own.map (·.2), mu i = false := by decide) (hts : ∀ i ∈ ts, i ∈ own.map (·.2) := by decide)
    (hg : BB X scope fun Y => SG Y T mu io ts tg g) (ht : BB X scope fun Y => STs Y T L2.E0 mu io ifs t) (hk : BB X scope fun Y => SE Y T L2.E0 mu io kx ek) (he : BB X scope fun Y => SE Y T L2.E0 mu io vx ev)
    (hs : ∀ x, foldedSetIterable iter X.env x = pure x := by intro _; rfl) (hn : x ≠ "__name__" := by decide) (hdb : (x == ("__debug__" : Str)) = false := by decide)
    (hst : starEach [.DictComp kx vx [⟨tg, iter, ifs, 0⟩] scope cpos] X.env = (false, eval (.DictComp kx vx [⟨tg, iter, ifs, 0⟩] scope cpos) X.env) :: starEach [] X.env := by rfl) :
    SE X T E mu io (.Call (.Name x p) [.DictComp kx vx [⟨tg, iter, ifs, 0⟩] scope cpos] [] pos) (eLenDn (own.map (·.2)) i g t ek ev) := by
  have PEd := pe_dg (X := X) (pos := cpos) (o0 := fun D => nestO X.prog X.w D []) (wi := SK.rI X.K T E mu io i) (g := rG X.K T mu io ts g) (tt := rT X.K T L2.E0 mu io t) (ta := fun D σ H Nx => rE X.K T L2.E0 mu io ek σ H fun y H4 => rE X.K T L2.E0 mu io ev σ H4 fun z H5 => tsN X.K T X.prog X.w D y z H5 Nx)
    (turn_d1 kx vx tg iter ifs scope cpos) hc hN hi ok hg ht
    (fun s H C cl fp D => pd_emit (ts := tsN X.K T X.prog X.w D) (hk s H C cl fp) (he s H C cl fp) fun pins s' σ' H' y z uy uz Nx I ry rz ⟨ks, k, b, e, hD, hl, hks, hkk, nx⟩ => by
      subst e
      have ry : uy = .ref b := ry
      subst ry
      exact putNested (T := T) hu I hD hl hks hkk fun s'' I'' => ⟨_, I'', nx⟩) (fun H h hb => nestO_new H h hb) hs
  refine PE.imp (pe_callB lenNested hgl hm hv (pa_cons PEd pa_nil (hs := hst)) hn hdb hst (by rfl)) fun σ H Q ⟨O, fr, rl, q⟩ => ?_
  unfold eLenDn at q
  refine ⟨O, fr, rl, ?_⟩
  cases h : i fr with
  | bad => rw [h] at q; exact q
  | exc e => rw [h] at q; exact q
  | ok p =>
    obtain ⟨xs, fr1⟩ := p
    rw [h] at q
    intro O1 H1 J F1 R1 W1 D hD
    simp only [SK.R.bind_ok] at q
    cases hz : cmL (own.map (·.2)) g t (stN ek ev) xs [] fr1 with
    | bad => rw [hz] at q; exact q.elim
    | exc e => rw [hz] at q; exact q.elim
    | ok p =>
      obtain ⟨vs, frE⟩ := p
      rw [hz] at q
      simp only [noX, SK.R.bind_ok] at q
      have W1' : Walks X.K T J xs (setOw O1 D (some .tmp)) (upd H1 D (nestO X.prog X.w D [])) := W1.monoB (FmD.begin hD).byv (FmD.begin hD).out
      refine cm_loop (NAR X.K T X.prog X.w D) NAR.mono hio hts (R1.laid hD) (FmD.begin hD) ⟨setOw_same, [], upd_same, (show NPs _ _ _ _ [] [] from trivial)⟩ W1' hz (stN_act (own := own.map (·.2)) hD) fun O' H' σ' hw R' F' _ _ A' => ?_
      obtain ⟨oD, ks, hHD, V'⟩ := A'
      have R2 := Rl.unwip (H0 := H1) (O0 := O1) (own.map (·.2)) R1 F'.byv F'.out hmu hw R'
      refine ⟨D, ks, rfl, hHD, ?_⟩
      rw [← V'.len]
      exact q (setOw O' D none) H' _ (F1.trans (F'.fin hD fun z => nomatch z)) (R2.outTo oD) (by unfold VR; rfl)
end
end SK

set_option maxHeartbeats 1000000
/-! SK45: d.update(d2), dict(zip(xs, ys)), static methods. -/
noncomputable section
namespace SK
open PySem L2 PySem.Spec PyProof.Rows
theorem kV_inj {a b : Key} (h : kV a = kV b) : a = b := by
  cases a with
  | inl i => cases b with
    | inl j => injection h with h; rw [h]
    | inr _ => cases h
  | inr i => cases b with
    | inl _ => cases h
    | inr j => injection h with h; rw [h]
theorem kpair_inj : ∀ {a b : List (Key × V)}, a.map (fun kv => (kV kv.1, kv.2)) = b.map (fun kv => (kV kv.1, kv.2)) → a = b
  | [], [], _ => rfl
  | [], _ :: _, h => by cases h
  | _ :: _, [], h => by cases h
  | (k, v) :: a, (k', v') :: b, h => by
    rw [List.map_cons, List.map_cons] at h
    injection h with h1 h2
    injection h1 with h3 h4
    have e1 : k = k' := kV_inj h3
    have e2 : v = v' := h4
    rw [e1, e2, kpair_inj h2]
theorem mt_dupd {X : Cx} : MtR X "dict.update" (fun x xs H Q => ∃ d o kvs more, x = V.ref d ∧ xs = [V.ref o] ∧ H d = some (.dK kvs) ∧ Rd H o (.dK more) ∧ d ≠ o ∧ kvs.length + more.length ≤ sizeLine ∧ Q .non (upd H d (.dK (mergeK kvs more)))) := by
  intro pins s σ H x xs v us Q I rx rs ⟨d, o, kvs, more, ex, exs, hd, ho, hdo, hl, q⟩
  subst ex exs
  obtain ⟨u, rfl, ru⟩ := vals1 rs
  have rx : v = .ref d := rx
  have ru : u = .ref o := ru
  subst rx ru
  obtain ⟨z1, d1, vs, r1, dd⟩ := dk_of I.hok hd
  obtain ⟨z2, d2, ws, r2, od⟩ := dk_rd I.hok ho
  refine call_meetsIn PySem.F.slot_dict_update dd.typeIs PySem.F.entry_dict_update (PySem.F.args_dict_update_2 _ _) (meets_dict_update (mixKind X.prog X.w) d o hdo d2) ⟨vs, ws, dd, od, by rw [← r1.length, ← r2.length]; exact hl, fun h' dd' od' sb => ?_⟩
  have he : ∃ q, h'.get? d = some q := let ⟨q, _, _, hq, _⟩ := dd'; ⟨q, hq⟩
  have hlen := length_mergeK more kvs
  exact ⟨.non, _, d_write (t' := s.toks) I (by rw [hd]; exact trivial) sb he (dk_new (by omega) d1 (KV.merge r2 r1) dd'), rfl, q⟩
theorem zip_rel {P : Program} {w : World} : ∀ {xs ys : List V} {us ws : List Value} {kvs : List (Key × V)}, Vals xs us → Vals ys ws → xs.zip ys = kvs.map (fun kv => (kV kv.1, kv.2)) →
    ∃ rs : List (Key × Value), KV kvs rs ∧ rs.length = min us.length ws.length ∧ ∀ (i : Nat) k v, us[i]? = some k → ws[i]? = some v → ∃ kk, rs[i]? = some (kk, v) ∧ (mixKind P w).is kk k = true
  | [], _, _, _, kvs, .nil, _, e => by
    cases kvs with
    | nil => exact ⟨[], .nil, by simp, fun i k v h => by simp at h⟩
    | cons => cases e
  | _ :: _, [], _, _, kvs, .cons _ _, .nil, e => by
    cases kvs with
    | nil => exact ⟨[], .nil, by simp, fun i k v _ h => by simp at h⟩
    | cons => cases e
  | x :: xs, y :: ys, _, _, kvs, .cons (b := u) (l₂ := us) r1 r2, .cons (b := z) (l₂ := ws) q1 q2, e => by
    cases kvs with
    | nil => cases e
    | cons p kvs =>
      obtain ⟨kk, v⟩ := p
      rw [List.zip_cons_cons, List.map_cons] at e
      injection e with e1 e2
      injection e1 with e3 e4
      obtain ⟨rs, g1, g2, g3⟩ := zip_rel (P := P) (w := w) r2 q2 e2
      have e3 : x = kV kk := e3
      have e4 : y = v := e4
      subst e3 e4
      refine ⟨(kk, z) :: rs, .cons ⟨rfl, q1⟩ g1, by simp [g2], fun i k v h1 h2 => ?_⟩
      cases i with
      | zero =>
        simp at h1 h2
        subst h1 h2
        exact ⟨kk, rfl, kV_is r1⟩
      | succ i =>
        simp at h1 h2
        obtain ⟨k2, a, b⟩ := g3 i k v h1 h2
        exact ⟨k2, by simpa using a, b⟩
/-- dict(zip(a, b)), a and b lists -/
theorem pe_dictzip {X : Cx} {a b : Expr} {ta : TA} {x y : Str} {p p' pos zpos : Pos} (hx : x = "dict") (hy : y = "zip") (hc : X.calm = true) (hg : Gl X x) (hm : X.mg x = none) (hg2 : Gl X y) (hm2 : X.mg y = none) (ha : PA X [a, b] ta)
    (hs : starEach [a, b] X.env = (false, eval a X.env) :: starEach [b] X.env := by rfl) (hpl : (backTo zpos (starEach [b] X.env)).any (·.1) = false := by rfl)
    (hs1 : starEach [.Call (.Name y p') [a, b] [] zpos] X.env = (false, eval (.Call (.Name y p') [a, b] [] zpos) X.env) :: starEach [] X.env := by rfl) :
    PE X (.Call (.Name x p) [.Call (.Name y p') [a, b] [] zpos] [] pos) (fun σ H Q => ta σ H fun vs H1 => ∃ la lb xs ys kvs, vs = [V.ref la, V.ref lb] ∧ SqL X.K H1 la xs ∧ SqL X.K H1 lb ys ∧ xs.zip ys = kvs.map (fun kv : Key × V => (kV kv.1, kv.2)) ∧ xs.length ≤ sizeLine ∧
      ∀ q, H1 q = none → Q (.ref q) (upd H1 q (.dK (mergeK [] kvs)))) := by
  subst hx hy
  refine ⟨fun pins s σ H Q I h => ?_⟩
  refine wpAny_Call_Name_kw (ld_blt (u := .type "dict") I hg hm (by first | rfl | decide +kernel) ?_ (by decide) (by decide))
  refine PyProof.Rows.callWith_type1 ?_ hs1 (by rfl)
  rw [hs1]
  show wpAny _ _ (spliced ((false, eval (.Call (.Name "zip" p') [a, b] [] zpos) X.env) :: backTo pos (starEach [] X.env))) _ _ s
  refine Calls.spliced_cons ?_
  refine Call_ (ld_blt I hg2 hm2 PyProof.Rows.boot_zip (PyProof.Rows.callWith_type1 (thn (ha.run zpos pins s σ H _ I h) fun us s1 ⟨vs, H1, I1, r1, q1⟩ => ?_) hs hpl))
  obtain ⟨la, lb, xs, ys, kvs, ex, hqx, hqy, hz, hl, q⟩ := q1
  subst ex
  cases r1 with
  | cons r rr => cases rr with
    | cons r' rr =>
      cases rr; cases r; cases r'
      obtain ⟨its, rv, p1, _⟩ := I1.list hqx
      obtain ⟨its2, rv2, p2, _⟩ := I1.list hqy
      refine call_zip_2 p1.isList p2.isList fun h' hz0 hTI hTO h1 h2 hsz hk => ?_
      refine Calls.spliced_nil ?_
      obtain ⟨rs, g1, g2, g3⟩ := zip_rel (P := X.prog) (w := X.w) rv rv2 hz
      have old : ∀ {c o}, s1.heap.get? c = some o → c < s1.heap.objs.size := fun e => Heap.lt_size e
      refine call_dict_pairs (knd := mixKind X.prog X.w) (kvs := rs) (PairArg.zip _ _ _ _ _ la lb (PySem.W.ktu_apart s1.heap.objs.size la lb p1.lt p2.lt) its.toArray its2.toArray) (I1.ok.hd hc)
        ⟨hz0, hTI, ⟨_, _, hTO⟩, h1, h2, p1.isList.at fun o e => hk _ o e, p2.isList.at fun o e => hk _ o e⟩ ⟨by simpa using g2, fun i k v ⟨a1, a2⟩ => g3 i k v (by simpa using a1) (by simpa using a2)⟩ (by have := rv.length; simp; omega) fun h'' tk dd kp => ?_
      have keep : ∀ c o, s1.heap.get? c = some o → h''.get? c = some o := fun c o e => by
        have hlt := old e
        refine kp c o (fun hm => ?_) (hk c o e)
        simp only [List.mem_cons, List.not_mem_nil, or_false] at hm
        rcases hm with z | z | z | z <;> (rw [z] at hlt; first | exact absurd hlt (Nat.not_lt.mpr (Nat.le_add_right _ _)) | exact absurd hlt (Nat.lt_irrefl _))
      have hD : s1.heap.objs.size ≤ h'.objs.size := by omega
      have hlen : kvs.length = rs.length := g1.length
      have lz : kvs.length ≤ sizeLine := by
        have e1 := rv.length
        rw [hlen, g2]
        omega
      refine ⟨.ref h'.objs.size, _, I1.laid (t' := tk) (o := .dK (mergeK [] kvs)) keep hD (dk_new ?_ ?_ (KV.merge g1 .nil) dd), rfl, q _ (I1.hok.fresh hD)⟩
      · have := length_mergeK kvs []
        simp at this
        omega
      · exact beq_eq_false_iff_ne.mpr (Ne.symm (Nat.ne_of_lt (Nat.lt_of_lt_of_le I1.big hD)))
/-! ### as values -/
theorem okM_zip {K : PySem.W.Frag} {T : Tb} {O : Own} {H : Hp} : ∀ {kvs : List (Key × V)} {vs : List Val}, VRs K T O H vs (kvs.map (·.2)) → VPs K T O H ((kvs.map fun p => kVal p.1).zip vs) (kvs.map fun kv => (kV kv.1, kv.2))
  | [], [], h => trivial
  | [], _ :: _, h => by have := h.len; simp at this
  | p :: kvs, [], h => by have := h.len; simp at this
  | p :: kvs, v :: vs, h => by
    obtain ⟨y, r, e, h1, h2⟩ := h.inv
    rw [List.map_cons] at e
    injection e with e1 e2
    subst e1 e2
    refine ⟨⟨?_, h1⟩, okM_zip h2⟩
    obtain ⟨k, w⟩ := p
    cases k with
    | inl i => exact vr_int
    | inr z => show VR K T O H (.str _) _; unfold VR; exact ⟨z, rfl, rfl⟩
/-- d.update(e): the slot's own dict -/
def eUpd (i : Nat) (a : EM) : EM := fun fr => match fr[i]? with
  | some (some (.dic _ _)) => (a fr).bind fun x => (match x.2[i]?, x.1 with
    | some (some (.dic ks vs)), .dic ks2 vs2 => if allK (ks2.zip vs2) = true ∧ okM (ks2.zip vs2) (ks, vs) = true ∧ ks.length + ks2.length ≤ 16777216 then .ok (.non, x.2.set i (some (.dic (mergeD (ks2.zip vs2) (ks, vs)).1 (mergeD (ks2.zip vs2) (ks, vs)).2))) else .bad
    | _, _ => .bad)
  | _ => .bad
def eDZ (a b : EM) : EM := fun fr => (a fr).bind fun x => (b x.2).bind fun y => match x.1, y.1 with
  | .lst ks, .lst vs => if allK (ks.zip vs) = true ∧ okM (ks.zip vs) ([], []) = true ∧ ks.length ≤ 16777216 then .ok (.dic (mergeD (ks.zip vs) ([], [])).1 (mergeD (ks.zip vs) ([], [])).2, y.2) else .bad
  | _, _ => .bad
section
variable {X : Cx} {T : Tb} {E : XK} {mu : Nat → Bool} {io : List (Nat × V)} {e : Expr} {ma mb : EM} {pos p p' apos zpos : Pos} {i : Nat} {x y : Str}
theorem Rl.dic {O : Own} {H : Hp} {K : PySem.W.Frag} {fr : Fr} {σ : L2.St} {ks vs : List Val} (rl : Rl K T mu io O fr σ H) (hm : mu i = true) (e : fr[i]? = some (some (.dic ks vs))) : ∃ a kvs, σ[i]? = some (some (.ref a)) ∧ O a = some (.sl i) ∧ H a = some (.dK kvs) ∧ ks = kvs.map (fun p => kVal p.1) ∧ VRs K T O H vs (kvs.map (·.2)) := by
  obtain ⟨x, h1, h2⟩ := rl.owned e hm rfl
  have h3 : OwL K T O H (.sl i) (.dic ks vs) x := h2
  obtain ⟨a, kvs, rfl, o, h, q, r⟩ := h3
  exact ⟨a, kvs, h1, o, h, q, r⟩
theorem se_upd (nokd : ∀ a kvs, ¬ T.kd a kvs) (hm : mu i = true := by rfl) (s : Sl X i x) (he : SE X T E mu io e ma)
    (hbase : attributeBase (.Name x p) "update" X.env (eval (.Name x p) X.env) = eval (.Name x p) X.env := by rfl)
    (hfew : ((backTo pos (starEach (e :: []) X.env)).all (fun x => !x.1) && (backToKw pos (keywordEach [] X.env)).all (fun x => x.1.isSome)
      && decide ((e :: []).length + ([] : List Keyword).length + (if ([] : List Keyword).isEmpty then 0 else 1) < 30)) = true := by rfl)
    (hline : (apos.endLine == pos.line) = true := by rfl) (hs : starEach (e :: []) X.env = (false, eval e X.env) :: starEach [] X.env := by rfl) (hplain : (backTo pos (starEach [] X.env)).any (·.1) = false := by rfl) :
    SE X T E mu io (.Call (.Attribute (.Name x p) "update" apos) [e] [] pos) (eUpd i ma) :=
  PE.imp (pe_bm PySem.F.plainAttrs_dict PySem.F.slot_dict_update PySem.F.type_dict_update mt_dupd s.pe (pa_cons he pa_nil hs) hbase hfew hline hs hplain) fun σ H Q ⟨O, fr, rl, q⟩ => by
    unfold eUpd at q
    split at q
    · rename_i ks0 vs0 e0
      obtain ⟨a, kvs, h1, h2, h3, h4⟩ := rl.dic hm e0
      refine ⟨.ref a, h1, .inr (.inr (.inl ⟨rfl, .inl ⟨kvs, h3⟩⟩)), O, fr, rl, ?_⟩
      cases h5 : ma fr with
      | bad => rw [h5] at q; exact q
      | exc e => rw [h5] at q; exact q
      | ok p =>
        obtain ⟨z, fr1⟩ := p
        rw [h5] at q
        intro O1 H1 z' F1 R1 V1
        simp only [SK.R.bind_ok] at q
        split at q
        · rename_i ks vs ks2 vs2 e1
          split at q
          · rename_i hl
            obtain ⟨a', kvs1, g1, g2, g3, g4, g5⟩ := R1.dic hm e1
            rw [h1] at g1
            cases g1
            obtain ⟨o, more, rfl, o1, o2, o3, o4⟩ := V1.dicH nokd
            subst o3 g4
            obtain ⟨kvs', w1, w2, w3, w4⟩ := mergeD_ok (d := (kvs1.map (fun p => kVal p.1), vs)) hl.1 hl.2.1 (okM_zip o4) rfl g5
            have w1 : more = kvs' := kpair_inj w1
            subst w1
            have hne : a ≠ o := fun z => by rw [z, o2] at g2; cases g2
            have hlen : kvs1.length + more.length ≤ sizeLine := by
              have := hl.2.2
              rw [List.length_map, List.length_map] at this
              exact this
            exact ⟨a, o, kvs1, more, rfl, rfl, g3, o1.rd, hne, hlen, q O1 _ _ (F1.trans (wr_fm g2)) (R1.dicW hm h1 g2 (lt_of_get e1) w3 w4) vr_non⟩
          · exact q.elim
        · exact q.elim
    · exact q.elim
theorem se_dz {a b : Expr} (hx : x = "dict" := by rfl) (hy : y = "zip" := by rfl) (hc : X.calm = true := by rfl) (hm : X.mg x = none) (hm2 : X.mg y = none) (ha : SE X T E mu io a ma) (hb : SE X T E mu io b mb) (hg : Gl X x := by rfl) (hg2 : Gl X y := by rfl)
    (hs : starEach [a, b] X.env = (false, eval a X.env) :: starEach [b] X.env := by rfl) (hs2 : starEach [b] X.env = (false, eval b X.env) :: starEach [] X.env := by rfl) (hpl : (backTo zpos (starEach [b] X.env)).any (·.1) = false := by rfl)
    (hs1 : starEach [.Call (.Name y p') [a, b] [] zpos] X.env = (false, eval (.Call (.Name y p') [a, b] [] zpos) X.env) :: starEach [] X.env := by rfl) :
    SE X T E mu io (.Call (.Name x p) [.Call (.Name y p') [a, b] [] zpos] [] pos) (eDZ ma mb) :=
  PE.imp (pe_dictzip hx hy hc hg hm hg2 hm2 (pa_cons ha (pa_cons hb pa_nil hs2) hs) hs hpl hs1) fun σ H Q ⟨O, fr, rl, q⟩ => by
    unfold eDZ at q
    refine ⟨O, fr, rl, ?_⟩
    cases h5 : ma fr with
    | bad => rw [h5] at q; exact q
    | exc e => rw [h5] at q; exact q
    | ok z =>
      obtain ⟨u, fr1⟩ := z
      rw [h5] at q
      intro O1 H1 u' F1 R1 V1
      simp only [SK.R.bind_ok] at q
      refine ⟨O1, fr1, R1, ?_⟩
      cases h6 : mb fr1 with
      | bad => rw [h6] at q; exact q
      | exc e => rw [h6] at q; exact pEx.back F1 q
      | ok z =>
        obtain ⟨v, fr2⟩ := z
        rw [h6] at q
        intro O2 H2 v' F2 R2 V2
        simp only [SK.R.bind_ok] at q
        split at q
        · rename_i ks vs
          split at q
          · rename_i hl
            obtain ⟨la, xs, rfl, t1, r1⟩ := (VR.mono F2 _ _ V1).lst
            obtain ⟨lb, ys, rfl, t2, r2⟩ := V2.lst
            have vp : ∀ {ks vs : List Val} {xs ys : List V}, VRs X.K T O2 H2 ks xs → VRs X.K T O2 H2 vs ys → VPs X.K T O2 H2 (ks.zip vs) (xs.zip ys) := by
              intro ks
              induction ks with
              | nil => intro vs xs ys h _; rw [h.inv0]; trivial
              | cons k ks ih =>
                intro vs xs ys h g
                obtain ⟨x, xr, rfl, h1, h2⟩ := h.inv
                cases vs with
                | nil => rw [g.inv0]; trivial
                | cons v vs =>
                  obtain ⟨y, yr, rfl, g1, g2⟩ := g.inv
                  exact ⟨⟨h1, g1⟩, ih h2 g2⟩
            obtain ⟨kvs, w1, w2, w3, w4⟩ := mergeD_ok (kvs0 := []) (d := ([], [])) hl.1 hl.2.1 (vp r1 r2) rfl VRs.nil
            refine ⟨la, lb, xs, ys, kvs, rfl, t1.sq, t2.sq, w1, by rw [← r1.len]; exact hl.2.2, fun d hd => ?_⟩
            obtain ⟨a1, a2⟩ := vr_newD R2.trk hd w3 w4
            exact q O2 _ _ ((F1.trans F2).trans a1.fm) (R2.hx a1) a2
          · exact q.elim
        · exact q.elim
end
/-! ### static methods -/
structure SInst (K : PySem.W.Frag) (C : Addr) (m : Str) (p g : Addr) : Prop where
  pg : PySem.W.plainGet K C Str.empty = true
  ic : PySem.W.isClsIn K C = true
  at_ : PySem.W.findIn K (.ref C) m = some (some (.ref p))
  ty : PySem.W.typeIn K (.ref p) = some (.type "staticmethod")
  get : PySem.W.specialIn K (.ref p) "__get__" = some (some (.builtin "staticmethod.__get__"))
  tk : PySem.W.takesIn K (.ref p) = some false
  cp : PySem.W.copiedNames.contains m = false
  rc : ∃ rest, PySem.W.recIn K p "staticmethod" = some (.ref g :: rest)
  kp : PySem.W.keepIn K (.ref g) = true
structure SmF (K : PySem.W.Frag) (T : Tb) (cs : List Nat) (x : Str) (f : Addr) : Prop where
  nm : ∀ g, g < T.nf → T.fld g ≠ x
  cl : ∀ c, cs.contains c = true → ∃ p, SInst K (T.cl c) x p f
section
variable {X : Cx} {T : Tb} {E : XK} {mu : Nat → Bool} {io : List (Nat × V)} {e : Expr} {es : List Expr} {ms : LM} {pos p apos : Pos} {i : Nat} {x mn : Str} {cs : List Nat} {CX : CXT} {k n : Nat} {f : Addr} {fd : FuncData} {ps : List Str} {iop bop : List Nat} {ro : Bool} {r : Nat} {m : FnM} {dv : List Val} {dx : List V} {ds : List Value} {pl : Sem Bool}
theorem lS_imp {K : PySem.W.Frag} {σ : L2.St} {H : Hp} {Q : List V → Hp → Prop} (h : rL K T E mu io (chkS cs i ms) σ H Q) : ∃ c, cs.contains c = true ∧ tVar i σ H fun x H1 => (∃ a dx fs ws fs', x = .ref a ∧ H1 a = some (.ins (T.cl c) dx fs') ∧ FsR T fs ws fs') ∧ rL K T E mu io ms σ H1 Q := by
  obtain ⟨O, fr, rl, q⟩ := h
  unfold chkS at q
  rcases getS_cases fr i with ⟨v, e2, e3⟩ | e3
  · rw [e3] at q
    simp only [SK.R.bind_ok] at q
    by_cases hc : isC cs v = true
    · rw [if_pos hc] at q
      obtain ⟨x, hx, tp⟩ := rl.tp e2
      cases v with
      | ins c fs vs =>
        obtain ⟨a, dx, fs', ws, rfl, h4, h6, h7⟩ := tpi_of (cs_2 hc) tp
        exact ⟨c, cs_1 hc, .ref a, hx, ⟨a, dx, fs, ws, fs', rfl, h4, h6⟩, O, fr, rl, q⟩
      | _ => cases hc
    · rw [if_neg hc] at q; exact q.elim
  · rw [e3] at q; exact q.elim
theorem getmethsm_ok {pins : List (Addr × Obj)} {σ : L2.St} {H : Hp} {s : Shared} {a C p g : Addr} {A : Around} {E' : Value → Shared → Prop} {Q : Value × List Value → Shared → Prop} {ox od : Obj} (I : Inv X pins σ H s) (J : PySem.W.InstAt s.heap a ox C (some od)) (hl : PySem.W.lookIn mn od = some none) (c : SInst X.K C mn p g)
    (h : ∀ s', Inv X pins σ H s' → Q (.ref g, []) s') : wpAny (model X.prog X.w) A (getMethod (.ref a) mn pl) Q E' s := by
  obtain ⟨rest, hp⟩ := c.rc
  have pg : PySem.W.plainGet X.K C mn = true := c.pg
  refine PySem.W.method_usual (r := some (.ref p)) I.kIn J (PySem.W.plainGet_of pg).1 (PySem.W.plainGet_of pg).2 c.at_ ?_ ?_
  · show ((PySem.W.typeIn X.K (.ref p)).any fun t => t != .type "function" && t != .type "method_descriptor" && t != .type "wrapper_descriptor") = true
    rw [c.ty]
    first
    | rfl
    | decide +kernel
  · refine PySem.W.get_bind I.kIn J (PySem.W.plainGet_of pg).1 (ClX.find_cm c.ic c.at_ c.get c.tk c.cp hl) (PySem.W.plainGet_of pg).2 ?_
    exact wpAny_call (PySem.W.sm_get (s := { s with toks := s.toks + 1 }) I.kIn hp (PySem.W.handed_on rfl (h _ (I.tok _))))
/-- x.m(..), m a static method of x's class -/
theorem sx_smS (sl : Sl X i x) (hM : SmF X.K T cs mn f) (F : FnOk X.prog X.w X.K X.mg X.base CX k f fd ps (spG X.K T iop bop ro n m)) (hr : Room k X.A) (hb : Binds X.K fd ps ds) (hd : Vals dx ds) (hdv : ∀ O H, VRs X.K T O H dv dx) (hRES : iop.contains RES = false := by rfl) (hx : Passes CX X E := by exact pass0)
    (ha : SL X T E mu io (e :: es) ms) (hl : ∀ fr as fr', chkS cs i ms fr = .ok (as, fr') → as.length + dv.length = n) (hst : starEach (e :: es) X.env = (false, eval e X.env) :: starEach es X.env := by rfl) (hpl : (backTo pos (starEach es X.env)).any (·.1) = false := by rfl) (ht : MtE X (.Name x p) mn (e :: es) apos pos pl := by rfl) :
    SX X T E mu io ro r (.Call (.Attribute (.Name x p) mn apos) (e :: es) [] pos) (callM iop bop m dv (chkS cs i ms)) := by
  refine ⟨fun pins s σ H Q I h => ?_⟩
  obtain ⟨c, hc, v, hv, ⟨a, dx1, fs, ws, fs', rfl, h4, h6⟩, q2⟩ := lS_imp (call_imp hdv hRES hl h)
  obtain ⟨pa, hS⟩ := hM.cl c hc
  refine PySem.W.methodCall_KW (pl := pl) (thn (sl.pe.run pins s σ H (fun y H1 => y = .ref a ∧ H1 = H) I ⟨_, hv, rfl, rfl⟩) fun u s1 ⟨y, H1, I1, ry, ey, eH⟩ => ?_) ht
  subst ey
  rw [eH] at I1
  obtain rfl : u = Value.ref a := ry
  obtain ⟨mA, O, rr, _, _, _⟩ := ins_get I1.hok h4
  have hn : mA mn = none := RelO.none_of (by rw [← h6.no hM.nm]; exact rr mn)
  obtain ⟨od, J, hlk⟩ := O.look
  refine getmethsm_ok I1 J (by rw [hlk mn, hn]) hS fun s2 I2 => ?_
  refine PySem.W.callWith_K (first := []) (h₀ := X.base) I.ok.mod.kin hS.kp (thn (ha.run pos pins s2 σ H _ I2 q2) fun us s3 ⟨vs, H2, I3, rv, q3⟩ => ⟨I3.kIn, ?_⟩) hst hpl
  exact run_fn F hr hb hd hx I3 rv q3
end
section
variable {K : PySem.W.Frag} {cn fn : List Str}
open He
def smB (cn fn : List Str) (cs : List Nat) (x : Str) (m : Str) (K : PySem.W.Frag) : Bool := allC cs fun c => PySem.W.plainGet K ((tb cn fn K).cl c) Str.empty && (PySem.W.isClsIn K ((tb cn fn K).cl c) && (eqO (PySem.W.findIn K (.ref ((tb cn fn K).cl c)) m) (some (some (.ref (ma K (ga K x) m)))) && (decide (PySem.W.typeIn K (.ref (ma K (ga K x) m)) = some (.type "staticmethod")) &&
  (eqO (PySem.W.specialIn K (.ref (ma K (ga K x) m)) "__get__") (some (some (.builtin "staticmethod.__get__"))) && (decide (PySem.W.takesIn K (.ref (ma K (ga K x) m)) = some false) && (!PySem.W.copiedNames.contains m && ((match PySem.W.recIn K (ma K (ga K x) m) "staticmethod" with
    | some (.ref _ :: _) => true
    | _ => false) && PySem.W.keepIn K (.ref (smA K (ga K x) m)))))))))
theorem smB_ok {cs : List Nat} {x m : Str} (hn : (fn.all fun x => x != m) = true) (h : smB cn fn cs x m K = true) : SmF K (tb cn fn K) cs m (smA K (ga K x) m) :=
  ⟨fun g hg e => by
    have hg : g < fn.length := hg
    have e : fn.getD g "" = m := e
    rw [List.getD_eq_getElem?_getD, List.getElem?_eq_getElem hg] at e
    have := List.all_eq_true.mp hn _ (List.getElem_mem hg)
    rw [show fn[g] = m from e] at this
    simp at this, fun c hc => by
    obtain ⟨z1, z⟩ := ba (allC_ok h hc)
    obtain ⟨z2, z⟩ := ba z
    obtain ⟨z3, z⟩ := ba z
    obtain ⟨z4, z⟩ := ba z
    obtain ⟨z5, z⟩ := ba z
    obtain ⟨z6, z⟩ := ba z
    obtain ⟨z7, z⟩ := ba z
    obtain ⟨z8, z9⟩ := ba z
    refine ⟨ma K (ga K x) m, z1, z2, eqO_ok z3, of_decide_eq_true z4, eqO_ok z5, of_decide_eq_true z6, by simpa using z7, ?_, z9⟩
    unfold smA
    split at z8
    · rename_i f rest e
      rw [e]
      exact ⟨rest, rfl⟩
    · cases z8⟩
end
end SK

set_option maxHeartbeats 1000000
/-! SK46: sorted(xs), xs a list of tuples of ints and texts. -/
noncomputable section
namespace SK
open PySem L2 PySem.Spec PyProof.Rows
/-! ### insertion -/
def insG {α : Type} (lt : α → α → Bool) (x : α) : List α → List α
  | [] => [x]
  | y :: r => if lt y x = true then y :: insG lt x r else x :: y :: r
def isortG {α : Type} (lt : α → α → Bool) : List α → List α
  | [] => []
  | x :: r => insG lt x (isortG lt r)
section
variable {α β : Type} {lt : α → α → Bool}
theorem insG_perm (x : α) : ∀ l, (insG lt x l).Perm (x :: l)
  | [] => .refl _
  | y :: r => by
    unfold insG
    split
    · exact ((insG_perm x r).cons y).trans (.swap _ _ _)
    · exact .refl _
theorem isortG_perm : ∀ l : List α, (isortG lt l).Perm l
  | [] => .refl _
  | x :: r => (insG_perm x _).trans ((isortG_perm r).cons x)
theorem insG_srtd (O : SrtO.Swo lt) (x : α) : ∀ l, SrtO.Srtd lt l → SrtO.Srtd lt (insG lt x l)
  | [], _ => by unfold insG; exact SrtO.srtd_one x
  | y :: r, h => by
    unfold insG
    obtain ⟨h1, h2⟩ := List.pairwise_cons.mp h
    split
    · rename_i hl
      refine List.pairwise_cons.mpr ⟨fun z hz => ?_, insG_srtd O x r h2⟩
      rcases List.mem_cons.mp ((insG_perm x r).mem_iff.mp hz) with rfl | hz
      · exact O.asym _ _ hl
      · exact h1 z hz
    · rename_i hl
      have hl : lt y x = false := by simpa using hl
      refine List.pairwise_cons.mpr ⟨fun z hz => ?_, h⟩
      rcases List.mem_cons.mp hz with rfl | hz
      · exact hl
      · exact O.tr _ _ _ hl (h1 z hz)
theorem isortG_srtd (O : SrtO.Swo lt) : ∀ l, SrtO.Srtd lt (isortG lt l)
  | [] => .nil
  | x :: r => insG_srtd O x _ (isortG_srtd O r)
theorem insG_stb (O : SrtO.Swo lt) (x : α) : ∀ l, SrtO.Stb lt (insG lt x l) (x :: l)
  | [] => SrtO.Stb.refl _
  | y :: r => by
    unfold insG
    split
    · rename_i hl
      have a : SrtO.Stb lt ([y] ++ insG lt x r) ([y] ++ (x :: r)) := (SrtO.Stb.refl [y]).app (insG_stb O x r)
      have b : SrtO.Stb lt ([y] ++ [x]) ([x] ++ [y]) := SrtO.Stb.swap O fun a ha b hb => by rw [List.mem_singleton.mp ha, List.mem_singleton.mp hb]; exact hl
      exact a.trans (b.app (SrtO.Stb.refl r))
    · exact SrtO.Stb.refl _
theorem isortG_stb (O : SrtO.Swo lt) : ∀ l, SrtO.Stb lt (isortG lt l) l
  | [] => SrtO.Stb.refl _
  | x :: r => (insG_stb O x _).trans ((SrtO.Stb.refl [x]).app (isortG_stb O r))
theorem insG_map {lt' : β → β → Bool} (f : α → β) (x : α) : ∀ l : List α, (∀ y ∈ l, lt y x = lt' (f y) (f x)) → (insG lt x l).map f = insG lt' (f x) (l.map f)
  | [], _ => rfl
  | y :: r, h => by
    have e := h y List.mem_cons_self
    by_cases c : lt' (f y) (f x) = true
    · rw [List.map_cons, insG, insG, if_pos (e.trans c), if_pos c, List.map_cons, insG_map f x r fun z hz => h z (List.mem_cons_of_mem _ hz)]
    · rw [List.map_cons, insG, insG, if_neg (by rw [e]; exact c), if_neg c]; rfl
theorem isortG_map {lt' : β → β → Bool} (f : α → β) : ∀ l : List α, (∀ y ∈ l, ∀ x ∈ l, lt y x = lt' (f y) (f x)) → (isortG lt l).map f = isortG lt' (l.map f)
  | [], _ => rfl
  | x :: r, h => by
    unfold isortG
    rw [List.map_cons]
    rw [insG_map f x _ fun y hy => h y (List.mem_cons_of_mem _ ((isortG_perm r).mem_iff.mp hy)) x List.mem_cons_self, isortG_map f r fun y hy z hz => h y (List.mem_cons_of_mem _ hy) z (List.mem_cons_of_mem _ hz)]
end
/-! ### the order -/
def aLt : Val → Val → Bool
  | .int a, .int b => decide (a < b)
  | .int _, _ => true
  | .str a, .str b => ltCps a b
  | .str _, .int _ => false
  | .str _, _ => true
  | _, _ => false
def lexV : List Val → List Val → Bool
  | x :: xs, y :: ys => aLt x y || (!aLt y x && lexV xs ys)
  | [], _ :: _ => true
  | _, _ => false
def tupOf : Val → List Val
  | .tup xs => xs
  | _ => []
def sortT (xs : List Val) : List Val := isortG (fun a b => lexV (tupOf a) (tupOf b)) xs
theorem ltCps_asym {a b : Sg} (h : ltCps a b = true) : ltCps b a = false := leS_total h
theorem aLt_asym {x y : Val} (h : aLt x y = true) : aLt y x = false := by
  cases x <;> cases y <;> first | rfl | exact absurd h Bool.noConfusion | exact ltCps_asym h | (have h' := of_decide_eq_true (show decide _ = true from h); exact decide_eq_false (by omega))
theorem aLt_tr {x y z : Val} (h : aLt y x = false) (g : aLt z y = false) : aLt z x = false := by
  cases x <;> cases y <;> cases z <;> first | rfl | exact absurd h Bool.noConfusion | exact absurd g Bool.noConfusion | exact leS_trans (show leS _ _ from h) (show leS _ _ from g) | (have h' := of_decide_eq_false (show decide _ = false from h); have g' := of_decide_eq_false (show decide _ = false from g); exact decide_eq_false (by omega))
theorem aLt_lt1 {x y z : Val} (h : aLt x y = true) (g : aLt z y = false) : aLt x z = true := by
  cases e : aLt x z with
  | true => rfl
  | false => rw [aLt_tr g e] at h; cases h
theorem aLt_lt2 {x y z : Val} (h : aLt y x = false) (g : aLt y z = true) : aLt x z = true := by
  cases e : aLt x z with
  | true => rfl
  | false => rw [aLt_tr e h] at g; cases g
theorem lexV_asym : ∀ {a b : List Val}, lexV a b = true → lexV b a = false
  | [], [], h => by cases h
  | [], _ :: _, _ => rfl
  | _ :: _, [], h => by cases h
  | x :: xs, y :: ys, h => by
    unfold lexV at h ⊢
    rw [Bool.or_eq_true, Bool.and_eq_true] at h
    rcases h with h | ⟨h, g⟩
    · rw [aLt_asym h, h]; rfl
    · have h : aLt y x = false := by simpa using h
      rw [h, lexV_asym g]; simp
theorem lexV_tr : ∀ {x y z : List Val}, lexV y x = false → lexV z y = false → lexV z x = false
  | x, [], [], h, _ => h
  | [], [], _ :: _, _, _ => rfl
  | _ :: _, [], _ :: _, h, _ => by cases h
  | [], _ :: _, [], _, g => by cases g
  | [], _ :: _, _ :: _, _, _ => rfl
  | _ :: _, _ :: _, [], _, g => by cases g
  | x :: xs, y :: ys, z :: zs, h, g => by
    unfold lexV at h g ⊢
    simp only [Bool.or_eq_false_iff, Bool.and_eq_false_iff, Bool.not_eq_false'] at h g ⊢
    obtain ⟨h1, h2⟩ := h
    obtain ⟨g1, g2⟩ := g
    refine ⟨aLt_tr h1 g1, ?_⟩
    cases e : aLt x z with
    | true => exact .inl rfl
    | false =>
      right
      have a1 : aLt x y = false := by
        cases q : aLt x y with
        | false => rfl
        | true => rw [aLt_lt1 q g1] at e; cases e
      have a2 : aLt y z = false := by
        cases q : aLt y z with
        | false => rfl
        | true => rw [aLt_lt2 h1 q] at e; cases e
      rw [a1] at h2
      rw [a2] at g2
      exact lexV_tr (by simpa using h2) (by simpa using g2)
/-! ### tuples in the heap -/
def decV : Value → Val
  | .int i _ => .int i
  | .str z _ => .str z.cps.toList
  | _ => .non
def kkV (h : Heap) : Value → List Val
  | .ref a => (match h.get? a with
    | some o => (match o.data with
      | .seq its _ => its.toList.map decV
      | _ => [])
    | none => [])
  | _ => []
theorem swo_kk (h : Heap) : SrtO.Swo fun v u => lexV (kkV h v) (kkV h u) := ⟨fun _ _ e => lexV_asym e, fun _ _ _ a b => lexV_tr a b⟩
/-- 0 an int, 1 a text -/
def shp : List Val → Option (List Nat)
  | [] => some []
  | .int _ :: r => (shp r).map (0 :: ·)
  | .str _ :: r => (shp r).map (1 :: ·)
  | _ => none
def shT : Val → Option (List Nat)
  | .tup xs => shp xs
  | _ => none
def okSh (xs : List Val) : Bool := match xs with
  | [] => true
  | x :: r => (match shT x with
    | some (0 :: sh) => r.all fun y => shT y == some (0 :: sh)
    | some _ => r.isEmpty
    | none => false)
def vSortT : List Val → Option Val
  | [.lst xs] => if okSh xs = true ∧ xs.length ≤ 16777216 then some (.lst (sortT xs)) else none
  | _ => none
/-- a value of a shape's place -/
def AtR : Nat → Value → Prop
  | 0, u => ∃ i t, u = .int i t
  | _ + 1, u => ∃ z t, u = .str z t
def AtRs : List Nat → List Value → Prop
  | [], us => us = []
  | k :: ks, us => ∃ u r, us = u :: r ∧ AtR k u ∧ AtRs ks r
section
variable {prog : Program} {w : World} {A : Around} {s : Shared}
theorem lex_run {b : Bool} : ∀ (sh : List Nat) (us ws : List Value) (i : Nat), AtRs sh us → AtRs sh ws → (b = true → i = 0 → ∀ k r, sh = k :: r → k = 0) →
    PySem.W.KatLex prog w A b false (fun r s' => s' = s ∧ r = lexV (us.map decV) (ws.map decV)) (us.zip ws) i s
  | [], us, ws, i, hu, hw, _ => by
    unfold AtRs at hu hw
    subst hu hw
    exact PySem.W.kat_nil ⟨rfl, rfl⟩
  | k :: sh, us, ws, i, hu, hw, hb => by
    unfold AtRs at hu hw
    obtain ⟨u, us, rfl, u1, u2⟩ := hu
    obtain ⟨v, ws, rfl, w1, w2⟩ := hw
    have ih := lex_run (b := b) sh us ws (i + 1) u2 w2 (fun _ z => by cases z)
    rw [List.zip_cons_cons]
    have mono : ∀ {l : List (Value × Value)} {j : Nat} {Q Q' : Bool → Shared → Prop}, (∀ c s', Q c s' → Q' c s') → ∀ {s0}, PySem.W.KatLex prog w A b false Q l j s0 → PySem.W.KatLex prog w A b false Q' l j s0 := by
      intro l
      induction l with
      | nil => intro j Q Q' hh s0 q; exact hh _ _ q
      | cons p r ih2 =>
        intro j Q Q' hh s0 q
        obtain ⟨p1, p2⟩ := p
        refine PySem.W.kat_cons (wpAny_mono (show wpAny _ _ (eqBool p1 p2) _ _ _ from q) (fun e s' he => ?_) fun _ _ z => z)
        unfold PySem.W.KatGo
        by_cases c : e = true
        · rw [if_pos c] at he ⊢
          exact ih2 hh he
        · rw [if_neg c] at he ⊢
          exact wpAny_mono he hh fun _ _ z => z
    cases k with
    | zero =>
      obtain ⟨x, t, rfl⟩ := u1
      obtain ⟨y, t', rfl⟩ := w1
      refine PySem.W.kat_cons (SeqAt.EqAt.int_int x t y t' prog w _ _ ?_)
      refine PySem.W.kat_go (fun e1 => ?_) (fun e1 => ?_)
      · have e : x = y := by simpa using e1
        subst e
        refine PySem.W.kat_yes (mono (fun c s' hq => ⟨hq.1, ?_⟩) ih)
        rw [hq.2]
        simp [lexV, decV, aLt]
      · have ne : ¬ x = y := by simpa using e1
        have fin : decide (x < y) = lexV ((Value.int x t :: us).map decV) ((Value.int y t' :: ws).map decV) := by
          simp only [List.map_cons, lexV, decV, aLt]
          by_cases c : x < y
          · simp [c]
          · have c2 : y < x := by omega
            simp [c, c2]
        by_cases c : (b && i == 0) = true
        · refine PySem.W.kat_no ?_
          rw [c]
          exact oneLt_int ⟨rfl, fin⟩
        · refine PySem.W.kat_no ?_
          rw [show (b && i == 0) = false by simpa using c]
          exact PySem.W.kat_one _ _ (PyProof.Rows.lt_int (show s = s ∧ _ from ⟨rfl, fin⟩))
    | succ k =>
      obtain ⟨x, t, rfl⟩ := u1
      obtain ⟨y, t', rfl⟩ := w1
      refine PySem.W.kat_cons (SeqAt.EqAt.str_str x t y t' prog w _ _ ?_)
      refine PySem.W.kat_go (fun e1 => ?_) (fun e1 => ?_)
      · have e : x = y := by simpa using e1
        subst e
        refine PySem.W.kat_yes (mono (fun c s' hq => ⟨hq.1, ?_⟩) ih)
        rw [hq.2]
        have irr : ltCps x.cps.toList x.cps.toList = false := by
          cases h : ltCps x.cps.toList x.cps.toList with
          | false => rfl
          | true => rw [ltCps_asym h] at h; cases h
        simp [lexV, decV, aLt, irr]
      · have ne : ¬ x = y := by simpa using e1
        have fin : decide (x.cps.toList < y.cps.toList) = lexV ((Value.str x t :: us).map decV) ((Value.str y t' :: ws).map decV) := by
          simp only [List.map_cons, lexV, decV, aLt]
          rw [PyProof.Rows.ltCps_eq, PyProof.Rows.ltCps_eq]
          by_cases c : x.cps.toList < y.cps.toList
          · simp [c]
          · have c2 : y.cps.toList < x.cps.toList := by
              by_cases d : y.cps.toList < x.cps.toList
              · exact d
              · exact absurd (str_of_list (List.le_antisymm (List.not_lt.mp d) (List.not_lt.mp c))) ne
            simp [c, c2]
        have nb : (b && i == 0) = false := by
          cases b with
          | false => rfl
          | true =>
            cases i with
            | zero => exact absurd (hb rfl rfl _ _ rfl) (by omega)
            | succ i => rfl
        refine PySem.W.kat_no ?_
        rw [nb]
        exact PySem.W.kat_one _ _ (lt_str (show s = s ∧ _ from ⟨rfl, fin⟩))
end
/-- a tuple in the heap, its items of the shape sh, read as es -/
def TupIn (h : Heap) (sh : List Nat) (es : List Val) (u : Value) : Prop := ∃ (a : Addr) (o : Obj) (its : Array Value) (n : Nat), u = .ref a ∧ h.get? a = some o ∧ o.cls = .type "tuple" ∧ o.data = .seq its n ∧ its.toList.map decV = es ∧ AtRs sh its.toList
theorem TupIn.keeps {h h' : Heap} {sh : List Nat} {es : List Val} {u : Value} (x : TupIn h sh es u) (k : ∀ b o, h.get? b = some o → o.cls = .type "tuple" → h'.get? b = some o) : TupIn h' sh es u := by
  obtain ⟨a, o, its, n, e, ho, hc, r⟩ := x
  exact ⟨a, o, its, n, e, k _ _ ho hc, hc, r⟩
theorem TupIn.kk {h : Heap} {sh : List Nat} {es : List Val} {u : Value} (x : TupIn h sh es u) : kkV h u = es := by
  obtain ⟨a, o, its, n, rfl, ho, hc, hd, hm, _⟩ := x
  unfold kkV
  simp only [ho, hd]
  exact hm
theorem firsts_T {h : Heap} {sh : List Nat} : ∀ {its : List Value}, (∀ u ∈ its, ∃ es, TupIn h (0 :: sh) es u) → ∃ fs : List Value, PySem.W.KatTups h its fs ∧ fs.length = its.length ∧ ∀ f ∈ fs, ∃ x t, f = Value.int x t
  | [], _ => ⟨[], PySem.W.KatTups.nil, rfl, fun _ hm => by simp at hm⟩
  | v :: vs, hp => by
    obtain ⟨fs, h1, h2, h3⟩ := firsts_T (its := vs) fun v' hm => hp v' (List.mem_cons_of_mem _ hm)
    obtain ⟨es, a, o, its, n, rfl, ho, hc, hd, _, hr⟩ := hp v List.mem_cons_self
    unfold AtRs at hr
    obtain ⟨u, r, e, ⟨x, t, rfl⟩, _⟩ := hr
    refine ⟨.int x t :: fs, PySem.W.KatTups.cons ho hc hd ?_ h1, by rw [List.length_cons, List.length_cons, h2], fun f hm => ?_⟩
    · rw [← Array.getElem?_toList, e]; rfl
    · rcases List.mem_cons.mp hm with rfl | hm
      · exact ⟨x, t, rfl⟩
      · exact h3 f hm
section
variable {X : Cx} {T : Tb}
theorem shp_atoms {O : Own} {H : Hp} {K : PySem.W.Frag} : ∀ {es : List Val} {sh : List Nat} {ws : List V} {us : List Value}, shp es = some sh → VRs K T O H es ws → Vals ws us → us.map decV = es ∧ AtRs sh us
  | [], sh, ws, us, hs, h, r => by
    cases hs
    rw [h.inv0] at r
    cases r
    exact ⟨rfl, by unfold AtRs; rfl⟩
  | .int i :: es, sh, ws, us, hs, h, r => by
    unfold shp at hs
    cases e : shp es with
    | none => rw [e] at hs; cases hs
    | some sh' =>
      rw [e] at hs; cases hs
      obtain ⟨y, q, rfl, h1, h2⟩ := h.inv
      cases r with
      | cons r1 r2 =>
        obtain ⟨g1, g2⟩ := shp_atoms e h2 r2
        have h1 := h1.int
        subst h1
        obtain ⟨t, rfl⟩ := r1
        exact ⟨by rw [List.map_cons, g1]; rfl, by unfold AtRs; exact ⟨_, _, rfl, ⟨i, t, rfl⟩, g2⟩⟩
  | .str z :: es, sh, ws, us, hs, h, r => by
    unfold shp at hs
    cases e : shp es with
    | none => rw [e] at hs; cases hs
    | some sh' =>
      rw [e] at hs; cases hs
      obtain ⟨y, q, rfl, h1, h2⟩ := h.inv
      cases r with
      | cons r1 r2 =>
        obtain ⟨g1, g2⟩ := shp_atoms e h2 r2
        obtain ⟨z', rfl, rfl⟩ := h1.str
        obtain ⟨t, rfl⟩ := r1
        exact ⟨by rw [List.map_cons, g1]; rfl, by unfold AtRs; exact ⟨_, _, rfl, ⟨z', t, rfl⟩, g2⟩⟩
  | .non :: _, _, _, _, hs, _, _ => by cases hs
  | .bl _ :: _, _, _, _, hs, _, _ => by cases hs
  | .tup _ :: _, _, _, _, hs, _, _ => by cases hs
  | .lst _ :: _, _, _, _, hs, _, _ => by cases hs
  | .dic _ _ :: _, _, _, _, hs, _, _ => by cases hs
  | .ins _ _ _ :: _, _, _, _, hs, _, _ => by cases hs
  | .scr _ :: _, _, _, _, hs, _, _ => by cases hs
theorem tup_in {O : Own} {H : Hp} {pins : List (Addr × Obj)} {σ : L2.St} {s : Shared} (I : Inv X pins σ H s) {y : Val} {sh : List Nat} {x : V} {u : Value} (hs : shT y = some sh) (h : VR X.K T O H y x) (r : RelV x u) : TupIn s.heap sh (tupOf y) u ∧ ∃ a, u = .ref a ∧ x = .ref a := by
  cases y with
  | tup es =>
    unfold VR at h
    obtain ⟨a, ws, rfl, t, rr⟩ := h
    have r : u = .ref a := r
    subst r
    obtain ⟨its, rv, ⟨o, ho, hc, n, hd⟩, _⟩ := I.tuple (SqT.fm t (Fb.refl _ _))
    obtain ⟨g1, g2⟩ := shp_atoms (show shp es = some sh from hs) rr rv
    exact ⟨⟨a, o, its.toArray, n, rfl, ho, hc, hd, (show _ = es by simpa using g1), by simpa using g2⟩, a, rfl, rfl⟩
  | _ => cases hs
/-- the items beside what they are -/
theorem zip_in {O : Own} {H : Hp} {pins : List (Addr × Obj)} {σ : L2.St} {s : Shared} (I : Inv X pins σ H s) : ∀ {ys : List Val} {vs : List V} {us : List Value}, (∀ y ∈ ys, ∃ sh, shT y = some sh) → VRs X.K T O H ys vs → Vals vs us →
    ∃ zs : List (Val × Value), zs.map (·.1) = ys ∧ zs.map (·.2) = us ∧ ∀ z ∈ zs, ∃ sh a, shT z.1 = some sh ∧ TupIn s.heap sh (tupOf z.1) z.2 ∧ z.2 = .ref a ∧ VR X.K T O H z.1 (.ref a)
  | [], vs, us, _, h, r => by
    rw [h.inv0] at r
    cases r
    exact ⟨[], rfl, rfl, fun z hz => by cases hz⟩
  | y :: ys, vs, us, hy, h, r => by
    obtain ⟨x, q, rfl, h1, h2⟩ := h.inv
    cases r with
    | cons r1 r2 =>
      obtain ⟨zs, e1, e2, e3⟩ := zip_in I (fun y hm => hy y (List.mem_cons_of_mem _ hm)) h2 r2
      obtain ⟨sh, hs⟩ := hy y List.mem_cons_self
      obtain ⟨ti, a, rfl, rfl⟩ := tup_in I hs h1 r1
      refine ⟨(y, .ref a) :: zs, by rw [List.map_cons, e1], by rw [List.map_cons, e2], fun z hz => ?_⟩
      rcases List.mem_cons.mp hz with rfl | hz
      · exact ⟨sh, a, hs, ti, rfl, h1⟩
      · exact e3 z hz
theorem okSh_all {ys : List Val} (h : okSh ys = true) : ∀ y ∈ ys, ∃ sh, shT y = some sh := by
  cases ys with
  | nil => intro y hy; cases hy
  | cons x r =>
    unfold okSh at h
    split at h
    · cases ‹x :: r = []›
    · rename_i x' r' e
      cases e
      split at h
      · rename_i sh e
        intro y hy
        rcases List.mem_cons.mp hy with rfl | hy
        · exact ⟨_, e⟩
        · exact ⟨_, by simpa using List.all_eq_true.mp h y hy⟩
      · rename_i sh e
        have : r = [] := by simpa using h
        subst this
        intro y hy
        rcases List.mem_cons.mp hy with rfl | hy
        · exact ⟨_, by assumption⟩
        · cases hy
      · cases h
theorem okSh_two {ys : List Val} (h : okSh ys = true) (h2 : 2 ≤ ys.length) : ∃ sh, ∀ y ∈ ys, shT y = some (0 :: sh) := by
  cases ys with
  | nil => simp at h2
  | cons x r =>
    unfold okSh at h
    split at h
    · cases ‹x :: r = []›
    · rename_i x' r' e
      cases e
      split at h
      · rename_i sh e
        refine ⟨sh, fun y hy => ?_⟩
        rcases List.mem_cons.mp hy with rfl | hy
        · exact e
        · simpa using List.all_eq_true.mp h y hy
      · rename_i sh e
        have : r = [] := by simpa using h
        subst this
        simp at h2
      · cases h
theorem c_sortT : CallR X (.builtin "sorted") (rN X.K T vSortT) := by
  intro pins s σ H xs us Q I r ⟨O, as, tr, va, q⟩
  unfold vSortT at q
  split at q
  · rename_i ys
    split at q
    · rename_i hl
      obtain ⟨x, rfl, h⟩ := va.one
      obtain ⟨p, vs, rfl, t, rr⟩ := h.lst
      obtain ⟨u, rfl, ru⟩ := vals1 r
      have ru : u = .ref p := ru
      subst ru
      obtain ⟨its, rv, hL, hz⟩ := I.list t.sq
      obtain ⟨zs, z1, z2, z3⟩ := zip_in I (okSh_all hl.1) rr rv
      have hits : its.length ≤ sizeLine := by rw [← rv.length]; exact hz
      refine SrtO.sorted_ord (swo_kk s.heap) hL.isList hits (fun h2 h₁ a ha kk => ?_) fun out hs hb => ?_
      · have hy2 : 2 ≤ ys.length := by rw [← z1, List.length_map, ← List.length_map (f := (·.2)) (as := zs), z2]; exact h2
        obtain ⟨sh, hsh⟩ := okSh_two hl.1 hy2
        intro h' keep
        have keep2 : ∀ b o, s.heap.get? b = some o → h'.get? b = some o := fun b o e => keep b o (kk b o e).1 (kk b o e).2
        have tin : ∀ v ∈ its, ∃ es, TupIn s.heap (0 :: sh) es v := fun v hv => by
          rw [← z2] at hv
          obtain ⟨z, hz, rfl⟩ := List.mem_map.mp hv
          obtain ⟨sh', a', e1, e2, _⟩ := z3 z hz
          have e3 := hsh z.1 (by rw [← z1]; exact List.mem_map.mpr ⟨z, hz, rfl⟩)
          rw [e1] at e3
          cases e3
          exact ⟨_, e2⟩
        have tin' : ∀ v ∈ its, ∃ es, TupIn h' (0 :: sh) es v := fun v hv => let ⟨es, x⟩ := tin v hv; ⟨es, x.keeps fun b o e _ => keep2 b o e⟩
        obtain ⟨fs, f1, f2, f3⟩ := firsts_T tin'
        refine ⟨tuples' true, fun Q E hq => ?_, fun p q hp hq => ?_⟩
        · refine PySem.W.kat_kind (T := .type "int") f1 (by omega) (fun f hm => ?_) (by rfl) ?_
          · obtain ⟨x, t, rfl⟩ := f3 f hm
            exact PySem.W.Looks.now
          · have e : (Value.type "int" != Value.type "tuple") = true := by first | decide +kernel | rfl | decide
            rw [e]
            exact hq
        · obtain ⟨e1, x1⟩ := tin _ hp
          obtain ⟨e2, x2⟩ := tin _ hq
          have y1 := x1.kk
          have y2 := x2.kk
          have x1' := x1.keeps (h' := h') fun b o e _ => keep2 b o e
          have x2' := x2.keeps (h' := h') fun b o e _ => keep2 b o e
          obtain ⟨a1, o1, i1, n1, r1, ho1, hc1, hd1, m1, s1⟩ := x1'
          obtain ⟨a2, o2, i2, n2, r2, ho2, hc2, hd2, m2, s2⟩ := x2'
          have hlen : ∀ {sh : List Nat} {us : List Value}, AtRs sh us → us.length = sh.length := by
            intro sh
            induction sh with
            | nil => intro us h; unfold AtRs at h; rw [h]; rfl
            | cons k sh ih => intro us h; unfold AtRs at h; obtain ⟨u, r, rfl, _, h2⟩ := h; rw [List.length_cons, List.length_cons, ih h2]
          show wpAny _ _ (keyLt' (tuples' true) p.1 q.1) (fun r s' => s' = _ ∧ r = lexV (kkV s.heap p.1) (kkV s.heap q.1)) _ _
          rw [y1, y2, ← m1, ← m2, r1, r2]
          refine PySem.W.kat_lt ho1 hd1 ho2 hd2 ?_
          rw [show decide (i1.size < i2.size) = false by
            have e1 := hlen s1
            have e2 := hlen s2
            rw [Array.length_toList] at e1 e2
            exact decide_eq_false (by omega)]
          exact lex_run (0 :: sh) _ _ 0 s1 s2 fun _ _ k r e => by cases e; rfl
      · -- the result
        have hlt : ∀ y ∈ zs, ∀ x ∈ zs, lexV (kkV s.heap y.2) (kkV s.heap x.2) = lexV (tupOf y.1) (tupOf x.1) := fun y hy x hx => by
          obtain ⟨_, _, _, a, _⟩ := z3 y hy
          obtain ⟨_, _, _, b, _⟩ := z3 x hx
          rw [a.kk, b.kk]
        have O2 : SrtO.Swo fun (y x : Val × Value) => lexV (kkV s.heap y.2) (kkV s.heap x.2) := ⟨fun _ _ e => lexV_asym e, fun _ _ _ a b => lexV_tr a b⟩
        have st := isortG_stb O2 zs
        have so := isortG_srtd O2 zs
        have eo : out = (isortG (fun (y x : Val × Value) => lexV (kkV s.heap y.2) (kkV s.heap x.2)) zs).map (·.2) := by
          refine SrtO.stb_uniq (swo_kk s.heap) hs (SrtO.srtd_map (f := fun z : Val × Value => z.2) so) ?_
          have a := SrtO.Stb.map (swo_kk s.heap) (fun z : Val × Value => z.2) st
          rw [z2] at a
          exact hb.trans ⟨a.perm.symm, fun x => (a.cls x).symm⟩
        have ef : (isortG (fun (y x : Val × Value) => lexV (kkV s.heap y.2) (kkV s.heap x.2)) zs).map (·.1) = sortT ys := by
          rw [isortG_map (lt' := fun a b => lexV (tupOf a) (tupOf b)) (·.1) zs hlt, z1]
          rfl
        generalize isortG (fun (y x : Val × Value) => lexV (kkV s.heap y.2) (kkV s.heap x.2)) zs = S at st eo ef
        have z4 : ∀ z ∈ S, ∃ a, z.2 = .ref a ∧ VR X.K T O H z.1 (.ref a) := fun z hz => let ⟨_, a, _, _, e, v⟩ := z3 z (st.perm.mem_iff.mp hz); ⟨a, e, v⟩
        have rs : ∀ S : List (Val × Value), (∀ z ∈ S, ∃ a, z.2 = .ref a ∧ VR X.K T O H z.1 (.ref a)) → VRs X.K T O H (S.map (·.1)) ((S.map (·.2)).map backV) := by
          intro S
          induction S with
          | nil => intro _; exact VRs.nil
          | cons z S ih =>
            intro h
            obtain ⟨a, e, v⟩ := h z List.mem_cons_self
            rw [List.map_cons, List.map_cons, List.map_cons]
            exact .cons (by rw [e]; exact v) (ih fun z hz => h z (List.mem_cons_of_mem _ hz))
        have hre : ∀ u ∈ out, ∃ a, u = Value.ref a := fun u hu => by
          rw [eo] at hu
          obtain ⟨z, hz, rfl⟩ := List.mem_map.mp hu
          obtain ⟨a, e, _⟩ := z4 z hz
          exact ⟨a, e⟩
        have hd : H (s.heap.objs.size + 1) = none := I.hok.fresh (Nat.le_succ _)
        obtain ⟨n, hn⟩ := PyProof.Rows.sortedAll_at s.heap its out.toArray
        have hlen : (out.map backV).length ≤ sizeLine := by rw [List.length_map, hb.perm.length_eq]; exact hits
        have vr := rs S z4
        rw [ef, ← eo] at vr
        have hx : Hx H (upd H (s.heap.objs.size + 1) (.lst (out.map backV))) := Hx.upd hd
        have ho : O (s.heap.objs.size + 1) = none := Classical.byContradiction fun z => tr _ z hd
        refine ⟨.ref (s.heap.objs.size + 1), upd H (s.heap.objs.size + 1) (.lst (out.map backV)), I.laid (t' := s.toks) (fun b o e => PyProof.Rows.sortedAll_old e) (Nat.le_succ _) ⟨hlen, out, n, vals_back hre, hn⟩, rfl, q _ _ hx ?_⟩
        unfold VR
        exact ⟨_, _, rfl, ⟨upd_same, ho⟩, vr.mono hx.fm⟩
    · exact q.elim
  · exact q.elim
end
end SK

set_option maxHeartbeats 1000000
/-! SK47: a dict by value, walked key by key. -/
noncomputable section
namespace SK
open PySem PySem.Spec PyProof.Rows L2
variable {X : Cx} {T : Tb} {E : XK} {mu : Nat → Bool} {io : List (Nat × V)} {e : Expr} {me : EM}
/-- e's dict is locked for good -/
def tFrz (t : TE) : TE := fun σ H Q => t σ H fun x H1 => ∃ d kvs, x = .ref d ∧ ((H1 d = some (.dK kvs) ∧ ∀ od, Q x (upd H1 d (.frz od (.dK kvs)))) ∨ ((∃ od, H1 d = some (.frz od (.dK kvs))) ∧ Q x H1))
theorem pe_frz {t : TE} (h : PE X e t) : PE X e (tFrz t) := by
  refine ⟨fun pins s σ H Q I hw => ?_⟩
  refine thn (h.run pins s σ H _ I hw) fun v s1 ⟨x, H1, I1, r, d, kvs, ex, q⟩ => ?_
  rcases q with ⟨hd, q⟩ | ⟨_, q⟩
  · obtain ⟨od, I2⟩ := I1.lock hd trivial
    exact ⟨x, _, I2, r, q od⟩
  · exact ⟨x, H1, I1, r, q⟩
theorem frz_fm {O : Own} {H : Hp} {d : Addr} {kvs : List (Key × V)} {od : Obj} (h : H d = some (.dK kvs)) (n : O d = none) : Fm O H O (upd H d (.frz od (.dK kvs))) := by
  have key : ∀ a w, O a = some w → a ≠ d := fun a w e z => by rw [z, n] at e; cases e
  refine ⟨fun a o e n' => ⟨?_, n'⟩, fun a o e n' => ⟨by rw [upd_ne (key a _ n')]; exact e, n'⟩, fun a o e n' => ⟨by rw [upd_ne (key a _ n')]; exact e, n'⟩, fun _ e => e⟩
  by_cases z : a = d
  · subst z
    rw [upd_same]
    rcases e with e | ⟨k, ob, e1, e⟩
    · rw [h] at e; cases e; exact .inr ⟨_, _, rfl, rfl⟩
    · rw [h] at e; cases e
  · rw [upd_ne z]; exact e
theorem frz_rl {O : Own} {H : Hp} {fr : Fr} {σ : L2.St} {K : PySem.W.Frag} {d : Addr} {kvs : List (Key × V)} {od : Obj} (h : H d = some (.dK kvs)) (n : O d = none) (rl : Rl K T mu io O fr σ H) : Rl K T mu io O fr σ (upd H d (.frz od (.dK kvs))) :=
  rl.monoB (frz_fm h n).b (frz_fm h n).o (fun i hi a o w e n' _ => ⟨by rw [upd_ne (fun z => by rw [z, n] at n'; cases n')]; exact e, n'⟩) fun a q z => by
    by_cases y : a = d
    · rw [y] at q; exact q n
    · rw [upd_ne y] at z; exact rl.trk a q z
theorem walks_dk {K : PySem.W.Frag} {O : Own} {H : Hp} {d : Addr} {od : Obj} {kvs : List (Key × V)} (h : H d = some (.frz od (.dK kvs))) (n : O d = none) : Walks K T (Itk d od kvs) (kvs.map fun p => kVal p.1) O H := fun O' H' f _ tr i => by
  obtain ⟨g, _⟩ := f d _ (.inl h) n
  have g := g.eq rfl
  refine ⟨fun hl => ⟨g, by rw [List.length_map] at hl; exact hl⟩, fun v hv => ?_⟩
  have hi : i < kvs.length := by
    have := (List.getElem?_eq_some_iff.mp hv).1
    rw [List.length_map] at this; exact this
  refine ⟨⟨g, hi⟩, fun x H'' y => ?_⟩
  obtain ⟨e, k, w, h1, h2⟩ := y
  subst e
  refine ⟨Hx.refl _, ?_⟩
  obtain ⟨z, z1, z2⟩ := (vrs_keys (T := T) (K := K) (O := O') (H := H'') kvs).get hv
  rw [List.getElem?_map, h1] at z1
  cases z1
  subst h2
  exact z2
def iDk (m : EM) : IM := fun fr => (m fr).bind fun x => match x.1 with
  | .dic ks _ => .ok (ks, x.2)
  | _ => .bad
theorem si_dk {tg : Expr} (nokd : ∀ a kvs, ¬ T.kd a kvs) (he : SE X T E mu io e me) : SI X T E mu io tg e (iDk me) := by
  refine ⟨fun pins s σ H Q I ⟨O, fr, rl, q⟩ => ?_⟩
  unfold iDk at q
  cases h : me fr with
  | bad => rw [h] at q; exact q.elim
  | exc e' =>
    rw [h] at q
    exact (pi_keys he).run pins s σ H Q I ⟨O, fr, rl, by rw [h]; exact q⟩
  | ok p =>
    obtain ⟨v, fr1⟩ := p
    rw [h] at q
    simp only [SK.R.bind_ok] at q
    cases v with
    | dic ks vs =>
      refine (pi_keys (pe_frz he)).run pins s σ H Q I ⟨O, fr, rl, by
        rw [h]
        intro O1 H1 x F1 R1 V1
        obtain ⟨d, kvs, rfl, hd, hn, e1, rr⟩ := V1.dicH nokd
        refine ⟨d, kvs, rfl, ?_⟩
        subst e1
        rcases hd with hd | ⟨k', ob, ek, hd⟩
        · refine .inl ⟨hd, fun od => ⟨d, od, rfl, .inl ⟨kvs, upd_same, ?_⟩⟩⟩
          exact q O1 _ _ (F1.trans (frz_fm hd hn)) (frz_rl hd hn R1) (walks_dk upd_same hn)
        · cases ek
          refine .inr ⟨⟨ob, hd⟩, d, ob, rfl, .inl ⟨kvs, hd, ?_⟩⟩
          exact q O1 _ _ F1 R1 (walks_dk hd hn)⟩
    | _ => exact q.elim
end SK

set_option maxHeartbeats 1000000
/-! SK48: tables of the text, keywords in part, small dict rules. -/
noncomputable section
namespace SK
open PySem L2 PySem.Spec
/-! ### binding: n values, keywords ks, defaults for places and for the keyword-only ones that lack -/
section
variable {K : PySem.W.Frag} {params : Arguments} {dvs : List V} {kws : List (Str × V)} {fd : FuncData} {ps : List Str}
theorem FunB.key2 (F : FunB K params dvs kws fd) (n m j d : Nat) (ks kn : List Str) (hk : (kws.map (·.1)).drop d = kn) (hm : dvs.length = m) (m0 : m ≠ 0) (q0 : kn ≠ [])
    (h : ∀ (x qual : Str) (body : List Stmt) (scope : Scope) (cl : List (Str × Addr)) (T D : Addr) (doc pm : Value) (an : Option Addr) (cdv ct : Value) (us its ws mv : List Value), us.length = n → its.length = m → ws.length = ks.length → mv.length = kn.length →
      ∃ k, bindArgs (PySem.W.fnX x qual params body scope cl (.ref T) (.ref D) doc pm an cdv ct) ⟨us, ks.zip ws⟩ = seqItems? (.ref T) >>= k ∧ KwChain D (kn.zip mv) (k (some its.toArray)) (ps.zip (us ++ (its.drop j ++ (ws ++ mv))))) :
    ∃ its mv : List Value, KBn K fd ps n ks (fun us ws => us ++ (its.drop j ++ (ws ++ mv))) (fun vs zs => vs ++ (dvs.drop j ++ (zs ++ (kws.drop d).map (·.2)))) := by
  obtain ⟨x, qual, body, scope, cl, dV, kV, doc, pm, an, cdv, ct, rfl, hD, hK⟩ := F.ex
  have hk0 : kws ≠ [] := fun e => q0 (by rw [← hk, e]; simp)
  rcases hD with ⟨e, _⟩ | ⟨_, T, o, its, m', rfl, lT, oT, rT⟩
  · exact absurd (by rw [← hm, e]; rfl) m0
  · rcases hK with e | ⟨D, rfl, hq⟩
    · exact absurd e hk0
    · obtain ⟨mv, hl, rk, hks⟩ := kwd_vals (ms := kws.drop d) fun q hq' => hq q (List.mem_of_mem_drop hq')
      have hkn : kn = (kws.drop d).map (·.1) := by rw [← hk, List.map_drop]
      refine ⟨its, mv, ⟨fun s us ws X l1 l2 => ?_, fun r1 r2 => r1.append ((rT.drop j).append (r2.append rk))⟩⟩
      obtain ⟨k, e1, e2⟩ := h x qual body scope cl T D doc pm an cdv ct us its ws mv l1 (rT.length.symm.trans hm) l2 (by rw [hkn, List.length_map]; exact hl)
      refine BindsTo.of_looks fun M => ?_
      rw [e1]
      exact looks_items X lT oT (KwChain.looks X (by rw [hkn]; exact hks) e2)
end
/-! ### tables of the text with text keys, and constants as receivers -/
abbrev Tbl : Type := Str × List Str
def gdA (K : PySem.W.Frag) (x : Str) : Addr := match PySem.W.nsIn K mainGlobals x with
  | some (some (.ref d)) => d
  | _ => 0
structure FT (ck : List (PySem.W.Frag → Bool)) (fn : List DefX) (ts : List Tbl) (w : World) (K : PySem.W.Frag) (mg : Str → Option Value) : Prop extends FK ck fn K mg where
  tb : ts.map (fun t => He.dicW K (gdA K t.1)) = ts.map fun t => some (He.keysIn w.params t.2)
def strS (x : Sg) : Str := ⟨x.toArray⟩
def cdB (x : Str) (kvs : List (Sg × Val)) (K : PySem.W.Frag) : Bool := (match PySem.W.nsIn K mainGlobals x with
  | some (some (.ref _)) => true
  | _ => false) && kvs.all fun q => (match PySem.W.nsIn K (gdA K x) (strS q.1) with
    | some (some u) => vrB K q.2 u
    | _ => false)
def isTp : Val → Bool
  | .tup _ => true
  | _ => false
def cwB (x : Str) (ty : String) (v : Val) (K : PySem.W.Frag) : Bool := (decide (ty = "tuple") && isTp v) && (conB x v K && (match K.lookup (gdA K x) with
  | some ⟨.type c, none, _, _⟩ => decide (c = "tuple")
  | _ => false))
section
variable {ck : List (PySem.W.Frag → Bool)} {fn : List DefX} {ts : List Tbl} {w : World} {K : PySem.W.Frag} {mg : Str → Option Value}
theorem FT.cd {X : Cx} {T : Tb} (F : FT ck fn ts X.w X.K X.mg) (i j : Nat) {x : Str} {kvs : List (Sg × Val)} {ks : List Str} (h : ck[i]? = some (cdB x kvs) := by rfl) (hj : ts[j]? = some (x, ks) := by rfl) : CDict X T x kvs := by
  obtain ⟨c1, c2⟩ := He.ba (F.c.fact i h)
  obtain ⟨hh, HX, G⟩ := F.ns
  have e2 : (ts.map fun t => He.dicW X.K (gdA X.K t.1))[j]? = (ts.map fun t => some (He.keysIn X.w.params t.2))[j]? := by rw [F.tb]
  rw [List.getElem?_map, List.getElem?_map, hj] at e2
  obtain ⟨es, n, D⟩ := He.dicW_ok (Option.some.inj e2)
  have e1 : PySem.W.nsIn X.K mainGlobals x = some (some (.ref (gdA X.K x))) := by
    unfold gdA
    split at c1
    · rename_i d e; rw [e]
    · cases c1
  refine ⟨gdA X.K x, es, n, PySem.W.mg_of HX G e1, D, fun z v hv => ?_⟩
  have key : ∀ l : List (Sg × Val), (l.all fun q => (match PySem.W.nsIn X.K (gdA X.K x) (strS q.1) with
      | some (some u) => vrB X.K q.2 u
      | _ => false)) = true → cGet l (.str z.cps.toList) = some v → ∃ (u : Value) (y : V), PySem.W.nsIn X.K (gdA X.K x) z = some (some u) ∧ RelV y u ∧ ∀ O H, VR X.K T O H v y := by
    intro l
    induction l with
    | nil => intro _ h; cases h
    | cons p r ih =>
      intro h hv
      rw [List.all_cons, Bool.and_eq_true] at h
      obtain ⟨k, v0⟩ := p
      unfold cGet at hv
      by_cases e : k = z.cps.toList
      · rw [if_pos e] at hv
        cases hv
        have h1 := h.1
        have ez : strS k = z := str_of_list (by rw [e]; unfold strS; simp)
        split at h1
        · rename_i u hu
          obtain ⟨y, ry, q⟩ := vrB_ok _ _ h1
          exact ⟨u, y, by rw [← ez]; exact hu, ry, fun O H => q T O H⟩
        · cases h1
      · rw [if_neg e] at hv
        exact ih h.2 hv
  exact key kvs c2 hv
theorem FT.cw {X : Cx} {T : Tb} (F : FT ck fn ts X.w X.K X.mg) (i : Nat) {x : Str} {ty : String} {v : Val} (h : ck[i]? = some (cwB x ty v) := by rfl) : ConW X T ty x v := by
  obtain ⟨c1, c2⟩ := He.ba (F.c.fact i h)
  obtain ⟨c2, c3⟩ := He.ba c2
  obtain ⟨c1, c4⟩ := He.ba c1
  have c1 : ty = "tuple" := of_decide_eq_true c1
  subst c1
  obtain ⟨hh, HX, G⟩ := F.ns
  unfold conB at c2
  split at c2
  · rename_i u hu
    obtain ⟨y, r, q⟩ := vrB_ok _ _ c2
    refine ⟨u, y, PySem.W.mg_of HX G hu, r, fun O H => q T O H, fun H => ?_⟩
    split at c3
    · rename_i c dt sl hl
      have hc : c = "tuple" := of_decide_eq_true c3
      subst hc
      cases u with
      | ref d =>
        have e : gdA X.K x = d := by unfold gdA; rw [hu]
        rw [e] at hl
        cases y with
        | ref a =>
          cases r
          exact .inr (.inl ⟨rfl, _, hl, rfl, rfl⟩)
        | non => cases (show Value.ref d = Value.none from r)
        | bl b => cases (show Value.ref d = Value.bool b from r)
        | int b => obtain ⟨_, h⟩ := r; cases h
        | str b => obtain ⟨_, h⟩ := r; cases h
        | byt b => obtain ⟨_, h⟩ := r; cases h
        | flt b => obtain ⟨_, h⟩ := r; cases h
        | ty b => cases (show Value.ref d = Value.type b from r)
      | _ =>
        exfalso
        cases v with
        | tup xs => simp [vrB] at c2
        | _ => cases c4
    · cases c3
  · cases c2
end
end SK

set_option maxHeartbeats 1000000
/-! SK49: owned dict(d), {}, the Hook with tables, special methods by the kernel. -/
noncomputable section
namespace SK
open PySem L2 PySem.Spec
section
variable {X : Cx} {T : Tb} {E : XK} {mu : Nat → Bool} {io : List (Nat × V)} {e a b : Expr} {es : List Expr} {ma mb : EM} {ms : AM} {pos : Pos} {i r : Nat} {x : Str} {p : Pos}
theorem own_layD {K : PySem.W.Frag} {O1 : Own} {fr1 : Fr} {σ : St} {H1 : Hp} {D : Addr} {ks vs : List Val} {kvs : List (Key × V)} {Q : VK} (R1 : Rl K T mu io O1 fr1 σ H1) (hp : H1 D = none) (ek : ks = kvs.map fun p => kVal p.1) (V1 : VRs K T O1 H1 vs (kvs.map (·.2))) (q : ∀ O' H' x, Fm O1 H1 O' H' → Rl K T mu io O' fr1 σ H' → OwR K T O' H' r (.dic ks vs) x → Q x H') : Q (.ref D) (upd H1 D (.dK kvs)) := by
  have f0 : FmD D O1 H1 (setOw O1 D (some .tmp)) (upd H1 D (.dK kvs)) := FmD.begin hp
  have f1 : Fm O1 H1 (setOw O1 D (some (.sl r))) (upd H1 D (.dK kvs)) := by
    have := f0.fin (w := some (.sl r)) hp (fun z => nomatch z)
    rw [show setOw (setOw O1 D (some .tmp)) D (some (.sl r)) = setOw O1 D (some (.sl r)) from funext fun a => by unfold setOw; split <;> rfl] at this
    exact this
  exact q _ _ _ f1 (R1.laid hp) ⟨D, kvs, rfl, setOw_same, upd_same, ek, V1.mono f1⟩
theorem so_dict {g : Str} {pf : Pos} (nokd : ∀ a kvs, ¬ T.kd a kvs) (hg : Gl X g := by rfl) (hm : X.mg g = none) (hv : bootBuiltins g = some (.type "dict") := by first | rfl | decide +kernel) (ha : SA X T E mu io [e] ms) (hn : g ≠ "__name__" := by decide) (hdb : (g == ("__debug__" : Str)) = false := by decide)
    (he : starEach [e] X.env = (false, eval e X.env) :: starEach [] X.env := by rfl) (hpl : (backTo pos (starEach [] X.env)).any (·.1) = false := by rfl) : SO X T E mu io r (.Call (.Name g pf) [e] [] pos) (eN vDictD ms) :=
  PE.imp (pe_callTy call_dictD hg hm hv ha hn hdb he hpl) fun σ H Q ⟨O, fr, rl, q⟩ => by
    unfold eN at q
    refine ⟨O, fr, rl, ?_⟩
    cases h1 : ms fr with
    | bad => rw [h1] at q; exact q
    | exc e => rw [h1] at q; exact q
    | ok p =>
      obtain ⟨xs, fr1⟩ := p
      rw [h1] at q
      intro O1 H1 xs' F1 R1 V1
      simp only [SK.R.bind_ok] at q
      unfold vDictD at q
      split at q
      · obtain ⟨x, rfl, h⟩ := V1.one
        obtain ⟨d, kvs, rfl, hd, _, e1, rr⟩ := h.dicH nokd
        exact ⟨d, kvs, rfl, hd.rd, fun l hl => own_layD R1 hl e1 rr fun O' H' x g => q O' H' x (F1.trans g)⟩
      · exact q.elim
theorem sx_disp0 {ro : Bool} : SX X T E mu io ro r (.Dict [] [] pos) (eDisp dN) :=
  PE.imp pe_dnewK fun σ H Q ⟨O, fr, rl, q⟩ D hD => by
    have q : ∀ O' H' x, Fm O H O' H' → Rl X.K T mu io O' fr σ H' → RtR X.K T ro r O' H' (.dic [] []) x → Q x H' := q
    cases ro with
    | true =>
      refine own_layD (r := r) (ks := []) (vs := []) (kvs := []) rl hD rfl VRs.nil fun O' H' x f1 f2 f3 => q O' H' x f1 f2 ?_
      unfold RtR
      rw [if_pos rfl]
      exact f3
    | false =>
      obtain ⟨a, b⟩ := vr_newD (K := X.K) (T := T) (ks := []) (vs := []) (kvs := []) rl.trk hD rfl VRs.nil
      refine q O _ _ a.fm (rl.hx a) ?_
      unfold RtR
      rw [if_neg Bool.false_ne_true]
      exact b
end
section
variable {K : PySem.W.Frag} {cn fn : List Str}
open He
def spB (cn fn : List Str) (cs : List Nat) (m : Str) (K : PySem.W.Frag) : Bool := PySem.W.isFn K (.ref (mtA cn cs m K)) && (PySem.W.fnIn K (mtA cn cs m K) && allC cs fun c => eqO (PySem.W.findIn K (.ref ((tb cn fn K).cl c)) m) (some (some (.ref (mtA cn cs m K)))))
theorem spB_ok {cs : List Nat} {m : Str} (h : spB cn fn cs m K = true) : SpF K (tb cn fn K) cs m (mtA cn cs m K) := by
  obtain ⟨h1, h2⟩ := ba h
  obtain ⟨h2, h3⟩ := ba h2
  exact ⟨fun c hc => eqO_ok (allC_ok h3 hc), h1, h2⟩
end
/-! ### the Hook with tables -/
abbrev AlY : Type := AlX × List (Option (List (Option (Str × Int))))
def obsY (ck : List (PySem.W.Frag → Bool)) (fn : List DefX) (ts : List Tbl) (K : PySem.W.Frag) : AlY := (obsX ck fn K, ts.map fun t => He.dicW K (gdA K t.1))
def valY (fn : List DefX) (ts : List Tbl) (w : World) : AlY := (valX fn, ts.map fun t => some (He.keysIn w.params t.2))
def SaysY (ck : List (PySem.W.Frag → Bool)) (fn : List DefX) (ts : List Tbl) (w : World) (K : PySem.W.Frag) : Prop := obsY ck fn ts K = valY fn ts w
open He in
def obsYG (n : Nat) (ck : List (PySem.W.Frag → Bool)) (fn : List DefX) (ts : List Tbl) (g : Addr → Option Obj) : AlY := obsY ck fn ts (frG g (List.range n))
open He in
def hookY (n : Nat) (ck : List (PySem.W.Frag → Bool)) (fn : List DefX) (ts : List Tbl) : PySem.W.Hook where
  α := AlY
  obs := fun s => obsYG n ck fn ts s.heap.get?
  val := fun w => valY fn ts w
  says := fun w h => ∃ K : PySem.W.Frag, K.In h ∧ SaysY ck fn ts w K
  of := fun _ _ e => ⟨_, frG_in, e⟩
  keeps := fun _ _ _ ⟨K, hK, c⟩ k => ⟨K, PySem.W.Frag.In.keeps hK k, c⟩
theorem obsYG_eq {n : Nat} {ck : List (PySem.W.Frag → Bool)} {fn : List DefX} {ts : List Tbl} {g : Addr → Option Obj} {s : Shared} (h : ∀ a, g a = s.heap.get? a) : obsYG n ck fn ts g = (hookY n ck fn ts).obs s := by
  have e : g = s.heap.get? := funext h
  rw [e] <;> rfl
theorem SaysY.ft {ck : List (PySem.W.Frag → Bool)} {fn : List DefX} {ts : List Tbl} {w : World} {K : PySem.W.Frag} {mg : Str → Option Value} (c : SaysY ck fn ts w K) (ns : ∃ h : Heap, K.In h ∧ h.Ns mainGlobals mg) : FT ck fn ts w K mg :=
  { ns := ns, c := congrArg (fun z : AlY => z.1) c, tb := congrArg (fun z : AlY => z.2) c }
end SK

set_option maxHeartbeats 1000000
/-! SK50: *slot, where it stands. -/
noncomputable section
namespace SK
open PySem L2 PySem.Spec
variable {X : Cx} {T : Tb} {E : XK} {mu : Nat → Bool} {io : List (Nat × V)} {e a b : Expr} {es : List Expr} {ma mb : EM} {ms : AM} {pos : Pos} {i r : Nat} {x : Str} {p : Pos}
theorem hu8 {A : Around} {k : Nat} (hr : Room k A) : A.units + 8 < cLine := by have := hr.un; omega
/-- .index of a list, of a tuple -/
abbrev mIdxL : Val → List Val → Option Val := fun a as => if isLst a = true then mIdx a as else none
abbrev mIdxT : Val → List Val → Option Val := fun a as => if isLst a = true then none else mIdx a as
def aSS (i : Nat) (ms : AM) : AM := fun fr => (getS fr i).bind fun v => (ofO (seqOf v)).bind fun xs => (ms fr).bind fun y => .ok (xs ++ y.1, y.2)
theorem sa_starS {pp : Pos} (s : Sl X i x) (hr : SA X T E mu io es ms) : SA X T E mu io (.Starred (.Name x p) pp :: es) (aSS i ms) :=
  PA.imp (StX.pa_star s.pe hr rfl) fun σ H Q ⟨O, fr, rl, q⟩ => by
    unfold aSS at q
    rcases getS_cases fr i with ⟨v, e2, e3⟩ | e3
    · rw [e3] at q
      obtain ⟨x, hx, tp⟩ := rl.tp e2
      simp only [SK.R.bind_ok] at q
      have fin : ∀ (xs : List Val) (p : Addr) (ws : List V), seqOf v = some xs → x = .ref p → (SqT X.K H p ws ∨ SqL X.K H p ws) → VRs X.K T O H xs ws → StX.tStar X.K (tVar i) (rA X.K T E mu io ms) σ H Q := fun xs p ws h3 e1 e2 e4 => by
        rw [h3] at q
        refine ⟨x, hx, p, ws, e1, e2, O, fr, rl, ?_⟩
        simp only [ofO, SK.R.bind_ok] at q
        cases h2 : ms fr with
        | bad => rw [h2] at q; exact q
        | exc e => rw [h2] at q; exact q
        | ok p =>
          obtain ⟨ys, fr2⟩ := p
          rw [h2] at q
          intro O2 H2 ys' F2 R2 V2
          exact q O2 H2 _ F2 R2 (VRs.app (e4.mono F2) V2)
      cases v with
      | lst xs =>
        obtain ⟨a, vs, rfl, h, rr⟩ := tp.lst
        exact fin xs a vs rfl rfl (.inr (SqL.of h)) rr
      | tup xs =>
        obtain ⟨a, vs, rfl, t, rr⟩ := (tp.val trivial).tup
        exact fin xs a vs rfl rfl (.inl t.sq) rr
      | _ => exact q.elim
    · rw [e3] at q; exact q.elim
end SK

set_option maxHeartbeats 1000000
/-! SK51: x = {dict comprehension} on one line. -/
noncomputable section
namespace SK
open PySem L2 PySem.Spec PyProof.Rows
section
variable {X : Cx} {T : Tb} {E : XK} {mu : Nat → Bool} {io : List (Nat × V)}
theorem eDc_imp {ro : Bool} {r : Nat} {own ts : List Nat} {i : IM} {g : GM} {t : TM} {ek ev : EM} (hio : ∀ p ∈ io, p.1 ∉ own) (hmu : ∀ i ∈ own, mu i = false) (hts : ∀ i ∈ ts, i ∈ own) {σ : L2.St} {H : Hp} {Q : VK} (h0 : rX X.K T E mu io ro r (eDc own i g t ek ev) σ H Q) :
    tDc (SK.rI X.K T E mu io i) (rG X.K T mu io ts g) (rT X.K T L2.E0 mu io t) (rE X.K T L2.E0 mu io ek) (rE X.K T L2.E0 mu io ev) own σ H Q := by
  obtain ⟨O, fr, rl, q⟩ := h0
  unfold eDc at q
  refine ⟨O, fr, rl, ?_⟩
  cases h : i fr with
  | bad => rw [h] at q; exact q
  | exc e => rw [h] at q; exact q
  | ok p =>
    obtain ⟨xs, fr1⟩ := p
    rw [h] at q
    intro O1 H1 J F1 R1 W1 D hD
    simp only [SK.R.bind_ok] at q
    cases hz : dcL own g t ek ev xs ([], []) fr1 with
    | bad => rw [hz] at q; exact q.elim
    | exc e => rw [hz] at q; exact q.elim
    | ok p =>
      obtain ⟨d, frE⟩ := p
      rw [hz] at q
      simp only [noX, SK.R.bind_ok] at q
      refine dc_core' hio hmu hts R1 W1 hz D hD fun O' H' kvs F' oD hHD hk' V' R' => ?_
      cases ro with
      | true =>
        refine q (setOw O' D (some (.sl r))) H' _ (F1.trans (F'.fin hD fun z => nomatch z)) (R'.outTo oD) ?_
        unfold RtR
        rw [if_pos rfl]
        refine ⟨D, kvs, rfl, setOw_same, hHD, hk', VRs.monoB (fun a u e n => ⟨e, ?_⟩) _ _ V'⟩
        rw [setOw_ne (fun z => by rw [z, oD] at n; cases n)]
        exact n
      | false =>
        refine q (setOw O' D none) H' _ (F1.trans (F'.fin hD fun z => nomatch z)) (R'.outTo oD) ?_
        unfold RtR
        rw [if_neg Bool.false_ne_true]
        unfold VR
        refine ⟨D, kvs, rfl, .inl ⟨.inl hHD, setOw_same⟩, hk', VRs.monoB (fun a u e n => ⟨e, ?_⟩) _ _ V'⟩
        rw [setOw_ne (fun z => by rw [z, oD] at n; cases n)]
        exact n

theorem sw_trueD {kx vx : Expr} {gs : List Comprehension} {scope : Scope} {pos py : Pos} {y : Str} {l : Nat} {env : Env} (hk : env.scope.kind = .function) (hy : env.scope.names.lookup y = some .local) (hl : (py.line == pos.line) = true)
    (ha : (scope.names.any fun (n, k) => n == y && (k == .local || k == .cell)) = false) : swapsWith (.DictComp kx vx gs scope pos) (some (.Name y py)) l env = pure true := by
  have ky : env.kindOf y = some .local := hy
  have hb : env.blockKind = .function := by unfold Env.blockKind; rw [hk]; rfl
  unfold swapsWith
  simp only [hb, ky, ha, Expr.pos, hl]
  rfl
theorem ps_setDc {i : Nat} {y : Str} {py : Pos} {kx vx tg iter : Expr} {ifs : List Expr} {scope : Scope} {own : List (Str × Nat)} {pos spos : Pos} {wi : TI} {g : TG} {tt : L2.TT} {tk tv : TE} (hc : X.calm = true) (hN : X.N.Nodup) (hy : X.N[i]? = some y) (hyl : X.env.scope.names.lookup y = some .local)
    (hsw : swapsWith (.DictComp kx vx [⟨tg, iter, ifs, 0⟩] scope pos) (some (.Name y py)) spos.line X.env = pure true) (hi : PI X tg iter wi) (ok : BlkOk X.N X.env.scope scope own)
    (hg : BB X scope fun Y => PG Y tg g) (ht : BB X scope fun Y => PTs Y ifs tt) (hk : BB X scope fun Y => PE Y kx tk) (he : BB X scope fun Y => PE Y vx tv) (hs : ∀ x, foldedSetIterable iter X.env x = pure x) :
    PS X (.Assign [.Name y py] (.DictComp kx vx [⟨tg, iter, ifs, 0⟩] scope pos) spos) (tAsg (tDc wi g tt tk tv (own.map (·.2))) (gName i)) := by
  refine ⟨fun pins s σ H D I h => ?_⟩
  rw [exec_Assign_Name_used _ _ _ _ hsw]
  refine wpAny_bind (wpAny_standAt (wpAny_bind ?_))
  show wpAny _ X.A (do let _ ← comprehension (.DictComp kx vx [⟨tg, iter, ifs, 0⟩] scope pos) scope X.env (firstIterPos [⟨tg, iter, ifs, 0⟩] pos) newDict false (eval iter X.env) (some (assign (.Name y py) X.env))) _ _ s
  have h : tDc wi g tt tk tv (own.map (·.2)) σ H (fun x H1 => gName i x σ H1 D.nx) := h
  refine wpAny_bind (thn (dc_core (Qf := fun _ s' => SP X pins D .next s') hc hN I hi ok hg ht hk he hs h fun L C s' m H' I' q hn f => ?_) fun _ s' hq => wpAny_pure (wpAny_pure hq))
  show wpAny _ _ (assign (.Name y py) X.env (.ref L)) _ _ _
  refine wpAny_assign_Name (store_ok2 (v := V.ref L) I' hN hy (.inl hyl) rfl (fun s2 I2 ⟨a, sb, ha⟩ => ?_) (.inr hyl))
  obtain ⟨f0, f1, f2, f3, f4, f5⟩ := f
  have haC : C ≠ a := by
    rcases ha with z | z
    · rw [z]; exact f1
    · exact fun e => f4 y a z e.symm
  refine ⟨m, hn.sameBut sb haC, fun h3 sb3 => ?_⟩
  exact ⟨_, H', I2.turned (t' := s2.toks) (fun b o hb e => (sb3.2 b hb).trans e) f0 f1 f3 f4 f5, q⟩
theorem ss_setDc {i0 : Nat} {y : Str} {py spos pos : Pos} {kx vx tg iter : Expr} {ifs : List Expr} {scope : Scope} {own : List (Str × Nat)} {ts : List Nat} {i : IM} {g : GM} {t : TM} {ek ev : EM} (hc : X.calm = true := by rfl) (hN : X.N.Nodup) (hy : X.N[i0]? = some y := by rfl) (hyl : X.env.scope.names.lookup y = some .local := by rfl) (hm : mu i0 = false := by rfl) (hio0 : ∀ p ∈ io, p.1 ≠ i0 := by exact io_ne rfl)
    (hkd : X.env.scope.kind = .function := by rfl) (hln : (py.line == pos.line) = true := by rfl) (hna : (scope.names.any fun (n, k) => n == y && (k == .local || k == .cell)) = false := by rfl) (hi : SI X T E mu io tg iter i) (ok : BlkOk X.N X.env.scope scope own)
    (hio : ∀ p ∈ io, p.1 ∉ own.map (·.2) := by exact io_own rfl) (hmu : ∀ i ∈ own.map (·.2), mu i = false := by decide) (hts : ∀ i ∈ ts, i ∈ own.map (·.2) := by decide)
    (hg : BB X scope fun Y => SG Y T mu io ts tg g) (ht : BB X scope fun Y => STs Y T L2.E0 mu io ifs t) (hk : BB X scope fun Y => SE Y T L2.E0 mu io kx ek) (he : BB X scope fun Y => SE Y T L2.E0 mu io vx ev) (hs : ∀ x, foldedSetIterable iter X.env x = pure x := by intro _; rfl) :
    SS X T E mu io (.Assign [.Name y py] (.DictComp kx vx [⟨tg, iter, ifs, 0⟩] scope pos) spos) (sSet i0 (eDc (own.map (·.2)) i g t ek ev)) :=
  PS.imp (ps_setDc (g := rG X.K T mu io ts g) (tt := rT X.K T L2.E0 mu io t) (tk := rE X.K T L2.E0 mu io ek) (tv := rE X.K T L2.E0 mu io ev) hc hN hy hyl (sw_trueD hkd hyl hln hna) hi ok hg ht hk he hs) fun D σ H ⟨O, fr, rl, q⟩ => by
    unfold sSet at q
    simp only [sF_eq] at q
    refine eDc_imp (ro := false) (r := 0) (g := g) (t := t) (ek := ek) (ev := ev) hio hmu hts ⟨O, fr, rl, ?_⟩
    cases h : eDc (own.map (·.2)) i g t ek ev fr with
    | bad => rw [h] at q; exact q
    | exc e => rw [h] at q; exact q
    | ok p =>
      obtain ⟨v, fr1⟩ := p
      rw [h] at q
      exact fun O1 H1 x F1 R1 V1 => q O1 H1 (σ.set i0 (some x)) F1 (R1.set hm hio0 (by unfold RtR at V1; simpa using V1))
theorem ss_setDcO {i0 r : Nat} {y : Str} {py spos pos : Pos} {kx vx tg iter : Expr} {ifs : List Expr} {scope : Scope} {own : List (Str × Nat)} {ts : List Nat} {i : IM} {g : GM} {t : TM} {ek ev : EM} (hc : X.calm = true := by rfl) (hN : X.N.Nodup) (hy : X.N[i0]? = some y := by rfl) (hyl : X.env.scope.names.lookup y = some .local := by rfl) (hm : mu i0 = true := by rfl) (hio0 : ∀ p ∈ io, p.1 ≠ i0 := by exact io_ne rfl)
    (hkd : X.env.scope.kind = .function := by rfl) (hln : (py.line == pos.line) = true := by rfl) (hna : (scope.names.any fun (n, k) => n == y && (k == .local || k == .cell)) = false := by rfl) (hi : SI X T E mu io tg iter i) (ok : BlkOk X.N X.env.scope scope own)
    (hio : ∀ p ∈ io, p.1 ∉ own.map (·.2) := by exact io_own rfl) (hmu : ∀ i ∈ own.map (·.2), mu i = false := by decide) (hts : ∀ i ∈ ts, i ∈ own.map (·.2) := by decide)
    (hg : BB X scope fun Y => SG Y T mu io ts tg g) (ht : BB X scope fun Y => STs Y T L2.E0 mu io ifs t) (hk : BB X scope fun Y => SE Y T L2.E0 mu io kx ek) (he : BB X scope fun Y => SE Y T L2.E0 mu io vx ev) (hl : X.N.length ≤ r) (hs : ∀ x, foldedSetIterable iter X.env x = pure x := by intro _; rfl) :
    SS X T E mu io (.Assign [.Name y py] (.DictComp kx vx [⟨tg, iter, ifs, 0⟩] scope pos) spos) (sSet i0 (eDc (own.map (·.2)) i g t ek ev)) :=
  ⟨fun pins s σ H D I ⟨O, fr, rl, q⟩ => by
    refine (ps_setDc (g := rG X.K T mu io ts g) (tt := rT X.K T L2.E0 mu io t) (tk := rE X.K T L2.E0 mu io ek) (tv := rE X.K T L2.E0 mu io ev) hc hN hy hyl (sw_trueD hkd hyl hln hna) hi ok hg ht hk he hs).run pins s σ H D I ?_
    unfold sSet at q
    simp only [sF_eq] at q
    refine eDc_imp (ro := true) (r := r) (g := g) (t := t) (ek := ek) (ev := ev) hio hmu hts ⟨O, fr, rl, ?_⟩
    cases h : eDc (own.map (·.2)) i g t ek ev fr with
    | bad => rw [h] at q; exact q
    | exc e => rw [h] at q; exact q
    | ok p =>
      obtain ⟨v, fr1⟩ := p
      rw [h] at q
      exact fun O1 H1 x F1 R1 V1 => q (relab O1 r i0) H1 (σ.set i0 (some x)) (F1.trans (relab_fm _ _ _ _)) (R1.setO hm hio0 (by rw [R1.len, I.len]; exact hl) (by unfold RtR at V1; simpa using V1))⟩
end
end SK

set_option maxHeartbeats 1000000
/-! SK52: zip of lists and tuples in any mix. -/
noncomputable section
namespace SK
open PySem PySem.Spec PyProof.Rows L2
def SqB (k : Bool) (K : PySem.W.Frag) (H : Hp) (a : Addr) (xs : List V) : Prop := match k with
  | true => SqT K H a xs
  | false => SqL K H a xs
def ItB (k : Bool) (h : Heap) (it l : Addr) (i : Nat) : Prop := match k with
  | true => h.IsTupleIter it l i
  | false => h.IsListIter it l i
def IsB (k : Bool) (h : Heap) (l : Addr) (items : Array Value) : Prop := match k with
  | true => h.IsTuple l items
  | false => h.IsList l items
def itObj (k : Bool) (l : Addr) : Obj := { cls := .type (match k with | true => "tuple_iterator" | false => "list_iterator"), data := .fields #[.ref l, .int 0 0] }
theorem ItB.at {k : Bool} {h h' : Heap} {it l : Addr} {i : Nat} (x : ItB k h it l i) (e : ∀ o, h.get? it = some o → h'.get? it = some o) : ItB k h' it l i := by
  cases k with
  | true => exact Heap.IsTupleIter.at x e
  | false => exact Heap.IsListIter.at x e
theorem ItB.obj {k : Bool} {h : Heap} {it l : Addr} {i : Nat} (x : ItB k h it l i) : ∃ o, h.get? it = some o ∧ ∀ v, o.data ≠ .cell v := by
  cases k with
  | true => obtain ⟨o, e, _, d⟩ := (show h.IsTupleIter it l i from x); exact ⟨o, e, fun v q => by rw [d] at q; cases q⟩
  | false => obtain ⟨o, e, _, d⟩ := (show h.IsListIter it l i from x); exact ⟨o, e, fun v q => by rw [d] at q; cases q⟩
/-- one side: it draws, or it has come to its end -/
theorem sideB {prog : Program} {w : World} {A : Around} {h : Heap} (hh : A.handled = none) (k : Bool) {it l : Addr} {i : Nat} {items : Array Value} (hne : l ≠ it) (hit : ItB k h it l i) (hl : IsB k h l items) :
    ∃ (n : Nat) (P : Nat → Value → Prop) (St : Nat → Heap → Prop), Draws prog w A it [it, l] n P St ∧ St i h ∧ i ≤ n ∧ (items.size ≤ i → n = i) ∧ (i < items.size → i < n) := by
  by_cases hz : items.size ≤ i
  · refine ⟨i, fun _ _ => False, fun j h => j = i ∧ ItB k h it l i ∧ IsB k h l items, ?_, ⟨rfl, hit, hl⟩, Nat.le_refl _, fun _ => rfl, fun z => absurd z (by omega)⟩
    have hn : items[i]? = none := by simp; omega
    cases k with
    | true =>
      exact { live := fun _ _ st => let ⟨o, ho, _⟩ := (show Heap.IsTupleIter _ _ _ _ from st.2.1); ⟨o, ho⟩
              frame := fun _ _ _ st hk => ⟨st.1, Heap.IsTupleIter.at (show Heap.IsTupleIter _ _ _ _ from st.2.1) fun o e => hk it (by simp) o e, Heap.IsTuple.at (show Heap.IsTuple _ _ _ from st.2.2) fun o e => hk l (by simp) o e⟩
              item := fun j s Q E hj st hQ => absurd hj (by rw [st.1]; exact Nat.lt_irrefl _)
              done := fun s Q E st hE => wpAny_nextOf_tuple_end hh (show Heap.IsTupleIter _ _ _ _ from st.2.1) (show Heap.IsTuple _ _ _ from st.2.2) hn hE }
    | false =>
      exact { live := fun _ _ st => let ⟨o, ho, _⟩ := (show Heap.IsListIter _ _ _ _ from st.2.1); ⟨o, ho⟩
              frame := fun _ _ _ st hk => ⟨st.1, Heap.IsListIter.at (show Heap.IsListIter _ _ _ _ from st.2.1) fun o e => hk it (by simp) o e, Heap.IsList.at (show Heap.IsList _ _ _ from st.2.2) fun o e => hk l (by simp) o e⟩
              item := fun j s Q E hj st hQ => absurd hj (by rw [st.1]; exact Nat.lt_irrefl _)
              done := fun s Q E st hE => wpAny_nextOf_list_end hh (show Heap.IsListIter _ _ _ _ from st.2.1) (show Heap.IsList _ _ _ from st.2.2) hn hE }
  · refine ⟨items.size, fun i v => items[i]? = some v, fun i h => ItB k h it l i ∧ IsB k h l items, ?_, ⟨hit, hl⟩, by omega, fun z => absurd z hz, fun z => z⟩
    cases k with
    | true => exact Draws.tuple hh it l hne items
    | false => exact Draws.list hh it l hne items
theorem drawsB {prog : Program} {w : World} {A : Around} (hh : A.handled = none) (k : Bool) (it l : Addr) (hne : l ≠ it) (items : Array Value) : Draws prog w A it [it, l] items.size (fun i v => items[i]? = some v) (fun i h => ItB k h it l i ∧ IsB k h l items) := by
  cases k with
  | true => exact Draws.tuple hh it l hne items
  | false => exact Draws.list hh it l hne items
theorem seqB {X : Cx} {pins : List (Addr × Obj)} {σ : L2.St} {H : Hp} {s : Shared} (I : Inv X pins σ H s) {k : Bool} {a : Addr} {xs : List V} (h : SqB k X.K H a xs) : ∃ its : List Value, Vals xs its ∧ IsB k s.heap a its.toArray ∧ ∃ o, s.heap.get? a = some o := by
  cases k with
  | true =>
    obtain ⟨its, rv, p, _⟩ := I.tuple h
    obtain ⟨o, e, _⟩ := id p
    exact ⟨its, rv, p, o, e⟩
  | false =>
    obtain ⟨its, rv, p, _⟩ := I.list h
    obtain ⟨o, e⟩ : ∃ o, s.heap.get? a = some o := let ⟨o, e, _⟩ := p.isList; ⟨o, e⟩
    exact ⟨its, rv, p.isList, o, e⟩
theorem seqB_inj {X : Cx} {pins : List (Addr × Obj)} {σ : L2.St} {H : Hp} {s : Shared} (I : Inv X pins σ H s) {k : Bool} {a : Addr} {xs ys : List V} (h : SqB k X.K H a xs) (h' : SqB k X.K H a ys) : xs = ys := by
  cases k with
  | true => exact I.tuple_inj h h'
  | false => exact I.list_inj h h'
/-- the sequences at a and b as they stand at each turn, the items in new pairs -/
def ItzM (ka kb : Bool) (K : PySem.W.Frag) (a b : Addr) : It :=
  ⟨fun i H => ∃ (xs ys : List V) (x y : V), SqB ka K H a xs ∧ SqB kb K H b ys ∧ xs[i]? = some x ∧ ys[i]? = some y,
    fun i H v H' => ∃ T x y, v = .ref T ∧ H T = none ∧ H' = upd H T (.tup [x, y]) ∧ (∀ xs, SqB ka K H a xs → xs[i]? = some x) ∧ ∀ ys, SqB kb K H b ys → ys[i]? = some y,
    fun i H => ∃ xs ys : List V, SqB ka K H a xs ∧ SqB kb K H b ys ∧ (xs.length ≤ i ∨ ys.length ≤ i)⟩
theorem turn_zipM {P : Program} {w : World} {K : PySem.W.Frag} {elts : List Expr} {kk : Nat} {tpos : Pos} {ka kb : Bool} {a b z TI TO i1 i2 : Addr} (D : ZipSep2 z TI TO i1 i2 [i1, a] [i2, b]) (na : a ≠ i1) (nb : b ≠ i2) :
    Turn P w K (.Tuple elts kk tpos) (ItzM ka kb K a b) [z, TI, TO, i1, i2] z (fun i h => IsZip h z TI TO .none ∧ IsTupOf2 h TI (.ref i1) (.ref i2) ∧ (∃ x y, IsTupOf2 h TO x y) ∧ ItB ka h i1 a i ∧ ItB kb h i2 b i) where
  mem := by simp
  obj := fun i h st c hc => by
    obtain ⟨hz, hTI, ⟨x, y, hTO⟩, h1, h2⟩ := st
    have e' : c = z ∨ c = TI ∨ c = TO ∨ c = i1 ∨ c = i2 := by simpa using hc
    rcases e' with q | q | q | q | q
    · rw [q]; exact ⟨_, hz, fun v q => nomatch q⟩
    · rw [q]; exact ⟨_, hTI, fun v q => nomatch q⟩
    · rw [q]; exact ⟨_, hTO, fun v q => nomatch q⟩
    · rw [q]; exact h1.obj
    · rw [q]; exact h2.obj
  keep := fun i h h' st k => by
    obtain ⟨hz, hTI, ⟨x, y, hTO⟩, h1, h2⟩ := st
    exact ⟨k z (by simp) _ hz, k TI (by simp) _ hTI, ⟨x, y, k TO (by simp) _ hTO⟩, h1.at fun o q => k i1 (by simp) o q, h2.at fun o q => k i2 (by simp) o q⟩
  item := by
    intro X hP hw hK hc i pins s σ H E I hf st hg
    subst hP hw hK
    have lts : ∀ c ∈ [z, TI, TO, i1, i2], c < s.heap.objs.size := fun c hc => by
      obtain ⟨hz, hTI, ⟨x, y, hTO⟩, h1, h2⟩ := st
      have e' : c = z ∨ c = TI ∨ c = TO ∨ c = i1 ∨ c = i2 := by simpa using hc
      rcases e' with q | q | q | q | q
      · rw [q]; exact Heap.lt_size hz
      · rw [q]; exact Heap.lt_size hTI
      · rw [q]; exact Heap.lt_size hTO
      · rw [q]; obtain ⟨o, e, _⟩ := h1.obj; exact Heap.lt_size e
      · rw [q]; obtain ⟨o, e, _⟩ := h2.obj; exact Heap.lt_size e
    obtain ⟨hz, hTI, hTO, h1, h2⟩ := st
    obtain ⟨xs, ys, x, y, hqx, hqy, hx, hy⟩ := hg
    obtain ⟨its, rv, p, _⟩ := seqB I hqx
    obtain ⟨its2, rv2, p2, _⟩ := seqB I hqy
    have hi1 : i < its.toArray.size := by
      have := (List.getElem?_eq_some_iff.mp hx).1
      simp [← rv.length]; exact this
    have hi2 : i < its2.toArray.size := by
      have := (List.getElem?_eq_some_iff.mp hy).1
      simp [← rv2.length]; exact this
    have G := GoesN.zip2 (prog := X.prog) (w := X.w) (A := X.A) (elts := elts) (x1 := kk) (pos := tpos) D (drawsB (A := X.A.in1) (show X.A.in1.handled = none from I.ok.hd hc) ka i1 a na its.toArray) (drawsB (A := X.A.in1) (show X.A.in1.handled = none from I.ok.hd hc) kb i2 b nb its2.toArray)
    refine G.goes i s (fun u s2 => ∃ x H', Inv X pins σ H' s2 ∧ RelV x u ∧ (ItzM ka kb X.K a b).yld i H x H' ∧ _ ∧ ∀ b ∈ [z, TI, TO, i1, i2], H' b = none) E (by omega) ⟨hz, hTI, hTO, ⟨h1, p⟩, h2, p2⟩ fun v h' tk hY st' hk htk => ?_
    obtain ⟨T, u, u2, rfl, hT, hu, hu2, hTt⟩ := hY
    obtain ⟨u', hu', ru⟩ := rv.get hx
    obtain ⟨u2', hu2', ru2⟩ := rv2.get hy
    have e1 : u' = u := by rw [List.getElem?_toArray, hu'] at hu; exact Option.some.inj hu
    have e2 : u2' = u2 := by rw [List.getElem?_toArray, hu2'] at hu2; exact Option.some.inj hu2
    subst e1 e2
    have new : ObjOk X.prog X.w (upd H T (.tup [x, y])) h' T (.tup [x, y]) := ⟨by show 2 ≤ sizeLine; decide, [u', u2'], .cons ru (.cons ru2 .nil), hTt⟩
    have I1 : Inv X pins σ (upd H T (.tup [x, y])) { s with heap := h', toks := tk } :=
      I.turnedNew (t' := tk) (ch := [z, TI, TO, i1, i2]) (fun c o hb q => hk c o (fun q' => hb (by
        have q' : c = z ∨ c = TO ∨ c = i1 ∨ c = i2 := by simpa using q'
        rcases q' with q' | q' | q' | q' <;> simp [q'])) q) hf hT new
    obtain ⟨z1, z2, z3, z4, z5⟩ := st'
    refine ⟨.ref T, _, I1, rfl, ⟨T, x, y, rfl, I.hok.fresh hT, rfl, fun l hl => by rw [seqB_inj I hl hqx]; exact hx, fun l hl => by rw [seqB_inj I hl hqy]; exact hy⟩, ⟨z1, z2, z3, z4.1, z5.1⟩, fun c hcm => ?_⟩
    rw [upd_ne (Nat.ne_of_lt (Nat.lt_of_lt_of_le (lts c hcm) hT))]
    exact (hf c hcm).1
  done := by
    intro X hP hw hK hc i pins s σ H E I hf st hg
    subst hP hw hK
    obtain ⟨hz, hTI, hTO, h1, h2⟩ := st
    obtain ⟨xs, ys, hqx, hqy, hend⟩ := hg
    obtain ⟨its, rv, p, _⟩ := seqB I hqx
    obtain ⟨its2, rv2, p2, _⟩ := seqB I hqy
    obtain ⟨n1, P1, S1, D1, s1, l1, e1, _⟩ := sideB (prog := X.prog) (w := X.w) (A := X.A.in1) (I.ok.hd hc) ka na h1 p
    obtain ⟨n2, P2, S2, D2, s2, l2, e2, _⟩ := sideB (prog := X.prog) (w := X.w) (A := X.A.in1) (I.ok.hd hc) kb nb h2 p2
    have hn : min n1 n2 = i := by
      have q1 := rv.length
      have q2 := rv2.length
      rcases hend with q | q
      · have := e1 (by simp; omega); omega
      · have := e2 (by simp; omega); omega
    have G := GoesN.zip2 (prog := X.prog) (w := X.w) (A := X.A) (elts := elts) (x1 := kk) (pos := tpos) D D1 D2
    refine G.stops s (fun s1 => Inv X pins σ H s1) E (by rw [hn]; exact ⟨hz, hTI, hTO, s1, s2⟩) fun h' tk hk htk => ?_
    exact I.turnedL (t' := tk) (ch := [z, TI, TO, i1, i2]) (fun c o hb q => hk c o (fun q' => hb (by
        have q' : c = z ∨ c = TO ∨ c = i1 ∨ c = i2 := by simpa using q'
        rcases q' with q' | q' | q' | q' <;> simp [q'])) q) hf
  self := fun A i s Q E st h => wpAny_pyIter_zip st.1 h
theorem beginsB (k : Bool) (l : Addr) (items : Array Value) : Begins (.ref l) (itObj k l) fun h => IsB k h l items := by
  cases k with
  | true => exact begins_tuple l items
  | false => exact begins_list l items
def iZipM (K : PySem.W.Frag) (ta : TA) : TI := fun σ H R => ta σ H fun vs H1 => ∃ (ka kb : Bool) (a b : Addr) (xs ys : List V), vs = [.ref a, .ref b] ∧ SqB ka K H1 a xs ∧ SqB kb K H1 b ys ∧ R (ItzM ka kb K a b) H1
theorem pi_zipM {X : Cx} {e e2 : Expr} {ta : TA} {p pos tpos : Pos} {elts : List Expr} {kk : Nat} (hg : Gl X "zip") (hm : X.mg "zip" = none) (ha : PA X [e, e2] ta)
    (hs : starEach [e, e2] X.env = (false, eval e X.env) :: starEach [e2] X.env := by rfl) (hpl : (backTo pos (starEach [e2] X.env)).any (·.1) = false := by rfl) :
    PI X (.Tuple elts kk tpos) (.Call (.Name "zip" p) [e, e2] [] pos) (iZipM X.K ta) := by
  refine ⟨fun pins s σ H R I h => ?_⟩
  refine Call_ (ld_blt I hg hm PyProof.Rows.boot_zip (PyProof.Rows.callWith_type1 (thn (ha.run pos pins s σ H _ I h) fun us s1 ⟨vs, H1, I1, r1, q1⟩ => ?_) hs hpl))
  obtain ⟨ka, kb, a, b, xs, ys, rfl, hqx, hqy, q⟩ := q1
  obtain ⟨u, u2, rfl, ru, ru2⟩ : ∃ u u2, us = [u, u2] ∧ RelV (.ref a) u ∧ RelV (.ref b) u2 := by
    cases r1 with
    | cons r rr => cases rr with
      | cons r' rr => cases rr; exact ⟨_, _, rfl, r, r'⟩
  cases ru
  cases ru2
  have fresh5 : ∀ c, c ∈ [s1.heap.objs.size + 4, s1.heap.objs.size + 2, s1.heap.objs.size + 3, s1.heap.objs.size, s1.heap.objs.size + 1] → FpOk X pins H1 c := fun c hcm => by
    have hle : s1.heap.objs.size ≤ c := by
      have e' : c = s1.heap.objs.size + 4 ∨ c = s1.heap.objs.size + 2 ∨ c = s1.heap.objs.size + 3 ∨ c = s1.heap.objs.size ∨ c = s1.heap.objs.size + 1 := by simpa using hcm
      rcases e' with z | z | z | z | z
      · rw [z]; exact Nat.le_add_right _ _
      · rw [z]; exact Nat.le_add_right _ _
      · rw [z]; exact Nat.le_add_right _ _
      · rw [z]; exact Nat.le_refl _
      · rw [z]; exact Nat.le_add_right _ _
    exact I1.fpOk hle (I1.hok.fresh hle)
  obtain ⟨its, rv, p1, o1, g1⟩ := seqB I1 hqx
  obtain ⟨its2, rv2, p2, o2, g2⟩ := seqB I1 hqy
  have la := Heap.lt_size g1
  have lb := Heap.lt_size g2
  refine zip_begins2 (beginsB ka a its.toArray) (beginsB kb b its2.toArray) p1 p2 fun h' hz hTI hTO h1 h2 hsz hk => wpAny_pyIter_zip hz ?_
  have I2 : Inv X pins σ H1 { s1 with heap := h' } := I1.kept (t' := s1.toks) hk
  have j1 : ItB ka h' s1.heap.objs.size a 0 := by cases ka <;> exact ⟨_, h1, rfl, rfl⟩
  have j2 : ItB kb h' (s1.heap.objs.size + 1) b 0 := by cases kb <;> exact ⟨_, h2, rfl, rfl⟩
  exact ⟨s1.heap.objs.size + 4, [s1.heap.objs.size + 4, s1.heap.objs.size + 2, s1.heap.objs.size + 3, s1.heap.objs.size, s1.heap.objs.size + 1], _, _, H1, rfl, I2, turn_zipM (zip_sep2 (fp1 := [a]) (fp2 := [b]) (fun c hc => by rw [List.mem_singleton.mp hc]; exact la) (fun c hc => by rw [List.mem_singleton.mp hc]; exact lb)) (Nat.ne_of_lt la) (Nat.ne_of_lt (Nat.lt_succ_of_lt lb)), ⟨hz, hTI, ⟨_, _, hTO⟩, j1, j2⟩, fresh5, q⟩
/-! ### on values -/
def iZm (a : AM) : IM := fun fr => (a fr).bind fun x => match x.1 with
  | [x0, y0] => (ofO (seqOf x0)).bind fun xs => (ofO (seqOf y0)).bind fun ys => .ok (zipL xs ys, x.2)
  | _ => .bad
section
variable {X : Cx} {T : Tb} {E : XK} {mu : Nat → Bool} {io : List (Nat × V)} {e : Expr} {es : List Expr} {ma mb : EM} {ms : AM} {pos : Pos}
theorem seqOf_B {K : PySem.W.Frag} {O : Own} {H : Hp} {v : Val} {x : V} {xs : List Val} (h : VR K T O H v x) (e : seqOf v = some xs) : ∃ (k : Bool) (p : Addr) (ws : List V), x = .ref p ∧ (∀ O' H', Fb O H O' H' → SqB k K H' p ws) ∧ VRs K T O H xs ws := by
  cases v with
  | tup ys =>
    cases e
    obtain ⟨p, vs, rfl, t, r⟩ := h.tup
    exact ⟨true, p, vs, rfl, fun O' H' f => SqT.fm t f, r⟩
  | lst ys =>
    cases e
    obtain ⟨p, vs, rfl, t, r⟩ := h.lst
    exact ⟨false, p, vs, rfl, fun O' H' f => SqL.fm t f, r⟩
  | _ => cases e
theorem walks_zipM {K : PySem.W.Frag} {O : Own} {H : Hp} {ka kb : Bool} {a b : Addr} {vs ws xs ys} (t : ∀ O' H', Fb O H O' H' → SqB ka K H' a vs) (r : VRs K T O H xs vs) (t' : ∀ O' H', Fb O H O' H' → SqB kb K H' b ws) (r' : VRs K T O H ys ws) : SK.Walks K T (ItzM ka kb K a b) (zipL xs ys) O H := fun O' H' f _ tr i =>
  ⟨fun hl => ⟨vs, ws, t _ _ f, t' _ _ f, by rw [zipL_len, r.len, r'.len] at hl; omega⟩, fun v hv => by
    rw [zipL_get] at hv
    cases e : xs[i]? with
    | none => rw [e] at hv; cases hv
    | some w =>
      cases e' : ys[i]? with
      | none => rw [e, e'] at hv; cases hv
      | some w' =>
        rw [e, e'] at hv
        cases hv
        obtain ⟨x, h1, h2⟩ := r.get e
        obtain ⟨x', h1', h2'⟩ := r'.get e'
        refine ⟨⟨vs, ws, x, x', t _ _ f, t' _ _ f, h1, h1'⟩, fun y H'' ⟨T', z, z', e1, e2, e3, hy, hy'⟩ => ?_⟩
        subst e1
        subst e3
        have g1 := hy vs (t _ _ f)
        have g2 := hy' ws (t' _ _ f)
        rw [h1] at g1
        rw [h1'] at g2
        cases g1
        cases g2
        exact vr_newT tr e2 (.cons (VR.monoB f _ _ h2) (.cons (VR.monoB f _ _ h2') .nil))⟩
theorem si_zm {e2 : Expr} {elts : List Expr} {kk : Nat} {tpos p : Pos} (hg : Gl X "zip" := by rfl) (hm : X.mg "zip" = none) (ha : SA X T E mu io [e, e2] ms) (hs : starEach [e, e2] X.env = (false, eval e X.env) :: starEach [e2] X.env := by rfl) (hpl : (backTo pos (starEach [e2] X.env)).any (·.1) = false := by rfl) :
    SI X T E mu io (.Tuple elts kk tpos) (.Call (.Name "zip" p) [e, e2] [] pos) (iZm ms) := by
  refine ⟨fun pins s σ H Q I ⟨O, fr, rl, q⟩ => ?_⟩
  refine (pi_zipM hg hm ha hs hpl).run pins s σ H Q I ⟨O, fr, rl, ?_⟩
  unfold iZm at q
  cases h : ms fr with
  | bad => rw [h] at q; exact q
  | exc e' => rw [h] at q; exact q
  | ok p =>
    obtain ⟨xs, fr1⟩ := p
    rw [h] at q
    intro O1 H1 vs F1 R1 V1
    simp only [SK.R.bind_ok] at q
    split at q
    · rename_i x0 y0
      obtain ⟨x, y, rfl, hx, hy⟩ := V1.two
      cases e1 : seqOf x0 with
      | none => rw [e1] at q; exact q.elim
      | some zs =>
        rw [e1] at q
        simp only [ofO, SK.R.bind_ok] at q
        cases e2 : seqOf y0 with
        | none => rw [e2] at q; exact q.elim
        | some zs' =>
          rw [e2] at q
          simp only [ofO, SK.R.bind_ok] at q
          obtain ⟨ka, a, vs, rfl, t, r⟩ := seqOf_B hx e1
          obtain ⟨kb, b, ws, rfl, t', r'⟩ := seqOf_B hy e2
          exact ⟨ka, kb, a, b, vs, ws, rfl, t _ _ (Fb.refl _ _), t' _ _ (Fb.refl _ _), q O1 H1 _ F1 R1 (walks_zipM t r t' r')⟩
    · exact q.elim
end
end SK

set_option maxHeartbeats 1000000
/-! SK53: calls whose arguments are all by value, in a form that the kernel runs fast. -/
noncomputable section
namespace SK
open PySem L2 PySem.Spec
def apF {α : Type} (l d : List α) : List α := @List.rec α (fun _ => List α) d (fun x _ ih => x :: ih) l
theorem apF_eq {α : Type} : ∀ l d : List α, apF l d = l ++ d
  | [], _ => rfl
  | x :: l, d => congrArg (x :: ·) (apF_eq l d)
def callC (m : FnM) (dv : List Val) (as : AM) : EM := fun fr => (as fr).bind fun x => (m (apF x.1 dv)).bind fun r => .ok (r.1, x.2)
/-- the arguments of a call, all by value -/
def lOf (as : AM) : LM := fun fr => (as fr).bind fun y => .ok (y.1.map fun v => .inr (.inl v), y.2)
theorem lOf_N : lN = lOf aN := rfl
theorem lOf_C {a : EM} {as : AM} : lC a (lOf as) = lOf (aC a as) := by
  funext fr
  unfold lC lOf aC
  cases a fr with
  | bad => rfl
  | exc e => rfl
  | ok p =>
    simp only [SK.R.bind_ok]
    cases as p.2 with
    | bad => rfl
    | exc e => rfl
    | ok q => rfl
def LOf (ms : LM) (as : AM) : Prop := ms = lOf as
theorem loN : LOf lN aN := lOf_N
theorem loC {a : EM} {ms : LM} {as : AM} (h : LOf ms as) : LOf (lC a ms) (aC a as) := by
  unfold LOf at h ⊢
  rw [h, lOf_C]
theorem plainL (fr : Fr) (bop ls : List Nat) : ∀ (vs : List Val) (k : Nat), lentP k (vs.map fun v => (.inr (.inl v) : Lt)) = [] ∧ lentS (vs.map fun v => (.inr (.inl v) : Lt)) = [] ∧ borOk bop ls k (vs.map fun v => (.inr (.inl v) : Lt)) = true ∧ fillA fr (vs.map fun v => (.inr (.inl v) : Lt)) = some vs
  | [], k => ⟨rfl, rfl, rfl, rfl⟩
  | v :: vs, k => by
    obtain ⟨h1, h2, h3, h4⟩ := plainL fr bop ls vs (k + 1)
    refine ⟨h1, h2, h3, ?_⟩
    show (match valA fr (.inl v) with
      | some v => (fillA fr (vs.map fun v => (.inr (.inl v) : Lt))).map (v :: ·)
      | none => none) = some (v :: vs)
    rw [h4]
    rfl
theorem callC_eq {bop : List Nat} {m : FnM} {dv : List Val} {ms : LM} {as : AM} (h : LOf ms as) : callM [] bop m dv ms = callC m dv as := by
  unfold LOf at h
  subst h
  funext fr
  unfold callM callC lOf
  cases as fr with
  | bad => rfl
  | exc e => rfl
  | ok p =>
    simp only [SK.R.bind_ok]
    obtain ⟨h1, h2, h3, h4⟩ := plainL p.2 bop [] p.1 0
    rw [h1, h2, h3, h4, if_pos ⟨rfl, rfl, rfl⟩, apF_eq]
    simp only [ofO, SK.R.bind_ok]
    rfl
theorem sx_toC {X : Cx} {T : Tb} {E : XK} {mu : Nat → Bool} {io : List (Nat × V)} {ro : Bool} {r : Nat} {e : Expr} {bop : List Nat} {m : FnM} {dv : List Val} {ms : LM} {as : AM} (h : LOf ms as) (s : SX X T E mu io ro r e (callM [] bop m dv ms)) : SX X T E mu io ro r e (callC m dv as) := by
  rw [← callC_eq (bop := bop) h]
  exact s
end SK

set_option maxHeartbeats 2000000
/-! SK25: exceptions held as values: their fields, isinstance. -/
namespace PySem.W
open PySem PySem.Spec PySem.Calls PyProof.Rows
section
variable {prog : Program} {w : World} {A : Around} {E : Value → Shared → Prop} {s : Shared} {K : Frag} {x D : Addr} {ox od : Obj}
theorem sk_classE {Q : Option Value → Shared → Prop} (hga : findIn K (.ref D) "__getattribute__" = some (some (.builtin "BaseException.__getattribute__"))) (hgt : findIn K (.ref D) "__getattr__" = some none) (hsub : subIn K (.ref D) (.type "BaseException") = some true)
    (hdct : hasDictIn K D = true) (ha : findIn K (.ref D) "__class__" = some (some (.builtin "object.__class__")))
    (hn : specialIn K (.builtin "object.__class__") "__get__" = some (some (.builtin "getset_descriptor.__get__"))) (htk : takesIn K (.builtin "object.__class__") = some true) (hm : mroIn K D (.type "object") = some true)
    (X : K.In s.heap) (I : InstAt s.heap x ox D (some od)) (h : Q (some (.ref D)) { s with toks := s.toks + 1 }) : wpAny (model prog w) A (getAttr? (.ref x) "__class__") Q E s := by
  have hf : findObj K D (some od) "__class__" = some (.bind (.builtin "getset_descriptor.__get__") (.builtin "object.__class__")) := findObj_data (by obtain ⟨cd, hc, _⟩ := any_some hdct; rw [hc]; rfl) ha hn htk
  obtain ⟨hp, g, d, t, os⟩ := s
  have L0 := I.type (M := model prog w)
  have L1 := looks_findIn (M := model prog w) X hga
  have L2 := looks_findIn (M := model prog w) X hgt
  have L3 := looks_find (M := model prog w) X I hf
  have sub : Looks (model prog w) hp (isInstance (.ref x) (.type "BaseException")) true := L0.andThen (looks_subIn X hsub)
  have hx0 : (false && onTheHeap (Value.builtin "BaseException.__getattribute__")) = false := rfl
  have hx2 : (Value.builtin "BaseException.__getattribute__" == Value.builtin "object.__getattribute__") = false := by decide +kernel
  have hx1 : (onTheHeap (Value.ref D) && Value.builtin "BaseException.__getattribute__" == Value.builtin "object.__getattribute__") = false := by rw [hx2]; rfl
  unfold getAttr? getAttrBy? getAttrBy
  refine wpAny_bind (wpAny_mkText (wpAny_bind (wpAny_attempt (wpAny_holding (wpAny_bind (L0.at (wpAny_bind (L1.at ?_))))))))
  show wpAny _ _ (if (onTheHeap (Value.ref D) && Value.builtin "BaseException.__getattribute__" == Value.builtin "object.__getattribute__") = true then _ else _) _ _ _
  rw [hx1, if_neg Bool.false_ne_true]
  unfold getAttrByItsOwn hookBefore
  refine wpAny_bind ?_
  rw [if_pos (show onTheHeap (Value.ref D) = true from rfl)]
  refine L2.at ?_
  refine wpAny_bind (wpAny_attempt (wpAny_holding ?_))
  unfold callGetattribute
  rw [hx0, if_neg Bool.false_ne_true]
  unfold boundAndCalled
  rw [PySem.F.excAttr_ValueError.ga.bind (.ref x)]
  refine wpAny_bind (wpAny_pure ?_)
  show wpAny _ _ (call (.builtin "BaseException.__getattribute__") [.ref x, .str "__class__" t]) _ _ _
  refine wpAny_call (codeAny_call_builtin PySem.F.excAttr_ValueError.ga.plain PySem.F.entry_bexc_ga ?_)
  refine @check_slot (model prog w) _ _ ⟨hp, g, d, t + 1, os⟩ "BaseException.__getattribute__" "BaseException" "__getattribute__" (.ref x) [.str "__class__" t] [] _ (by decide +kernel) (by decide +kernel) sub (PySem.F.args_bexc_ga (.ref x) (.str "__class__" t)) ?_
  unfold Builtin.«object.__getattribute__»
  refine wpAny_bind (wpAny_of_eq (a := ((Value.ref x : Value), [Value.str "__class__" t])) (by first | rfl | (simp only [slotArgs]; rfl)) ?_)
  refine wpAny_bind (wpAny_pure (wpAny_bind (L0.at (wpAny_bind (L3.at ?_)))))
  show wpAny _ _ (holding [Value.builtin "object.__class__"] (call (.builtin "getset_descriptor.__get__") [.builtin "object.__class__", .ref x, .ref D]) >>= ret) _ _ _
  refine wpAny_bind (wpAny_holding (wpAny_call (class_get (s := ⟨hp, g, d, t + 1, os⟩) (ox := ox) (od := some od) X I hm ?_)))
  refine wpAny_pure ?_
  show wpAny _ _ (handedOut (.ref D)) _ _ _
  rw [handedOut_of (v := .ref D) rfl]
  first
    | exact wpAny_pure (wpAny_pure h)
    | exact wpAny_pure h
    | exact wpAny_pure (wpAny_bind (wpAny_pure (wpAny_pure h)))
theorem sk_kitx_exc (hga : findIn K (.ref D) "__getattribute__" = some (some (.builtin "BaseException.__getattribute__"))) (hgt : findIn K (.ref D) "__getattr__" = some none) (hsub : subIn K (.ref D) (.type "BaseException") = some true) (hdct : hasDictIn K D = true) (ha : findIn K (.ref D) "__class__" = some (some (.builtin "object.__class__")))
    (hn : specialIn K (.builtin "object.__class__") "__get__" = some (some (.builtin "getset_descriptor.__get__"))) (htk : takesIn K (.builtin "object.__class__") = some true) (hm : mroIn K D (.type "object") = some true) :
    KitX K (.ref x) (.ref D) (fun h => InstAt h x ox D (some od)) where
  ty := fun _ _ _ I => I.type
  it := fun _ _ X _ => by
    obtain ⟨cdD, hcD, _⟩ := any_some hdct
    unfold clsIn at hcD
    split at hcD
    · rename_i c' d' cd' sl' ho
      intro A' Q' E' s' k q
      unfold isType loadHead
      exact wpAny_bind (wpAny_loadPart (k _ _ (X _ _ ho)) (wpAny_pure q))
    · cases hcD
  ne := fun h tp dd its n sl X htp => by
    obtain ⟨cdD, hcD, _⟩ := any_some hdct
    refine Bool.eq_false_iff.mpr fun q => ?_
    have e : D = tp := Value.ref.inj (beq_iff_eq.mp q)
    subst e
    unfold clsIn at hcD
    split at hcD
    · rename_i c' d' cd' sl' ho
      have z := (X _ _ ho).symm.trans htp
      cases z
    · cases hcD
  ca := fun X I k => sk_classE hga hgt hsub hdct ha hn htk hm X I k
end
end PySem.W
noncomputable section
namespace SK
open PySem L2
/-- e.g, e an exception of the classes cs -/
def vAtX (cs : List Nat) (g : Nat) : Val → Option Val
  | .ins c fs vs => if (cs.contains c && decide (EXC ≤ c)) = true then getF g fs vs else none
  | _ => none
/-- isinstance(e, D), e an exception of the classes cs; those in ds are it -/
def isX (cs ds : List Nat) : Val → Option Bool
  | .ins c _ _ => if (cs.contains c && decide (EXC ≤ c)) = true then some (ds.contains c) else none
  | _ => none
/-- what of the text the classes cs of exceptions must have for the field g -/
structure FldX (K : PySem.W.Frag) (T : Tb) (cs : List Nat) (g : Nat) : Prop where
  ok : FldOk T
  lt : g < T.nf
  cl : ∀ c, cs.contains c = true → XfC K (T.cl c) ∧ PySem.W.findIn K (.ref (T.cl c)) (T.fld g) = some none
/-- .. for isinstance(e, cu) -/
structure IsX (K : PySem.W.Frag) (T : Tb) (cs ds : List Nat) (cu : Value) : Prop where
  cl : ∀ c, cs.contains c = true → ExcC K (T.cl c) ∧ PySem.W.kitOne K (.ref (T.cl c)) cu = some (ds.contains c)
theorem csx_1 {cs : List Nat} {c : Nat} (h : (cs.contains c && decide (EXC ≤ c)) = true) : cs.contains c = true := (Bool.and_eq_true_iff.mp h).1
theorem csx_2 {cs : List Nat} {c : Nat} (h : (cs.contains c && decide (EXC ≤ c)) = true) : EXC ≤ c := of_decide_eq_true (Bool.and_eq_true_iff.mp h).2
section
variable {X : Cx} {T : Tb} {E : XK} {mu : Nat → Bool} {io : List (Nat × V)} {e c : Expr} {es : List Expr} {ma mb : EM} {pos : Pos} {i j : Nat} {x y g : Str} {p p' apos : Pos} {cs ds : List Nat} {cv : V} {cu : Value}
/-- an exception that is held as a value -/
def HeldX (H : Hp) (a C dx : Addr) (fs : List (Str × V)) : Prop := (H a = some (exo a C (some dx)) ∧ H dx = some (exd dx fs)) ∨ H a = some (.ins C dx fs)
theorem held_inst {P : Program} {w : World} {H : Hp} {h : Heap} {a C dx : Addr} {fs : List (Str × V)} (hok : HOk P w H h) (e : HeldX H a C dx fs) : ∃ (ox od : Obj) (mA : Str → Option Value), PySem.W.InstAt h a ox C (some od) ∧ (∀ name, PySem.W.lookIn name od = some (mA name)) ∧ ∀ f, RelO (fs.lookup f) (mA f) := by
  rcases e with ⟨ea, ed⟩ | e
  · obtain ⟨t1, ho⟩ := exo_at hok ea
    obtain ⟨mA, hns, hr⟩ := exd_at hok ed
    obtain ⟨od, hod, hl⟩ := lookIn_ns hns
    exact ⟨_, od, mA, ⟨ho, rfl, rfl, hod⟩, hl, hr⟩
  · obtain ⟨mA, I, hr, _⟩ := ins_get hok e
    obtain ⟨od, J, hl⟩ := I.look
    exact ⟨_, od, mA, J, hl, hr⟩
/-- the reading of e.f, e an exception -/
def tXv (K : PySem.W.Frag) (f : Str) (te : TE) : TE := fun σ H Q => te σ H fun x H1 => ∃ (a C dx : Addr) (fs : List (Str × V)) (v : V), x = .ref a ∧ HeldX H1 a C dx fs ∧ XfC K C ∧ PySem.W.findIn K (.ref C) f = some none ∧ fs.lookup f = some v ∧ Q v H1
theorem pe_xv {X : Cx} {e : Expr} {te : TE} {pos : Pos} {n : Str} (he : PE X e te) (hb : attributeBase e n X.env (eval e X.env) = eval e X.env := by rfl) : PE X (.Attribute e n pos) (tXv X.K n te) := by
  refine ⟨fun pins s σ H Q I h => ?_⟩
  refine attr_of hb (thn (he.run pins s σ H _ I h) fun u s1 hh => ?_)
  obtain ⟨x, H1, I1, rx, a, C, dx, fs, v, ex, ea, T, hno, l, q⟩ := hh
  subst ex
  obtain rfl : u = Value.ref a := rx
  obtain ⟨ox, od, mA, J, hl, hr⟩ := held_inst I1.hok ea
  obtain ⟨u, hu, ru⟩ := RelO.some_of (v := v) (o := mA n) (by rw [← l]; exact hr n)
  exact HandSPX.exc_get I1.kIn J T.ga T.gg T.exC (PySem.W.findObj_own T.hdC hno rfl (by rw [hl, hu])) (handed_of ru) ⟨v, H1, I1.tok _, ru, q⟩
/-- isinstance(x, c), x an exception that is held -/
def rIsV (K : PySem.W.Frag) : List V → Hp → VK → Prop := fun xs H Q => ∃ (a C dx : Addr) (fs : List (Str × V)) (c : V) (cv : Value) (b : Bool), xs = [.ref a, c] ∧ HeldX H a C dx fs ∧ ExcC K C ∧ ClsV c cv ∧ PySem.W.kitOne K (.ref C) cv = some b ∧ Q (.bl b) H
theorem call_isV {X : Cx} : CallR X (.builtin "isinstance") (rIsV X.K) := by
  intro pins s σ H xs us Q I r h
  obtain ⟨a, D, dx, fs, c, cv, b, rfl, ha, C, hcv, e, q⟩ := h
  cases r with
  | cons rx rr =>
    cases rr with
    | cons rt rr =>
      cases rr
      cases rx
      have ec := hcv.eq rt
      subst ec
      obtain ⟨ox, od, mA, J, hl, hr⟩ := held_inst I.hok ha
      exact PySem.W.kia_one (PySem.W.sk_kitx_exc C.hg C.hk C.hs C.hd C.ha C.hn C.ht C.hm) I.kIn J e (fun z => nomatch z) fun tk => ⟨.bl b, H, I.kept (t' := tk) fun _ _ z => z, rfl, q⟩
theorem VR.insX {K : PySem.W.Frag} {O : Own} {H : Hp} {c : Nat} {fs : List Nat} {vs : List Val} {x : V} (h : VR K T O H (.ins c fs vs) x) : ∃ a dx fs' ws, x = .ref a ∧ HeldX H a (T.cl c) dx fs' ∧ FsR T fs ws fs' ∧ VRs K T O H vs ws := by
  unfold VR at h
  obtain ⟨a, dx, fs', ws, e, t, q, r⟩ := h
  rcases t with ⟨t, n⟩ | ⟨n, ⟨t, _⟩, t', _⟩
  · exact ⟨a, dx, fs', ws, e, .inr t, q, r⟩
  · exact ⟨a, dx, fs', ws, e, .inl ⟨t, t'⟩, q, r⟩
/-- e.f -/
theorem se_atX {f : Str} {gf : Nat} (F : FldX X.K T cs gf) (hf : T.fld gf = f) (he : SE X T E mu io e ma) (hb : attributeBase e f X.env (eval e X.env) = eval e X.env := by rfl) : SE X T E mu io (.Attribute e f pos) (e1 (vAtX cs gf) ma) :=
  PE.imp (pe_xv he hb) fun σ H Q h => by
    subst hf
    obtain ⟨O, fr, rl, q⟩ := h
    unfold e1 at q
    refine ⟨O, fr, rl, ?_⟩
    cases h1 : ma fr with
    | bad => rw [h1] at q; exact q
    | exc e => rw [h1] at q; exact q
    | ok p =>
      obtain ⟨v, fr1⟩ := p
      rw [h1] at q
      intro O1 H1 x' F1 R1 V1
      simp only [SK.R.bind_ok] at q
      cases h3 : vAtX cs gf v with
      | none => rw [h3] at q; exact q.elim
      | some w =>
        rw [h3] at q
        unfold vAtX at h3
        split at h3
        · split at h3
          · rename_i hc
            obtain ⟨a, dx, fs', ws, rfl, h4, h6, h7⟩ := V1.insX
            obtain ⟨z, g1, g2⟩ := FsR.get F.ok F.lt h6.2.2.1 h7 h6.1 h3
            obtain ⟨k1, k2⟩ := F.cl _ (csx_1 hc)
            exact ⟨a, _, dx, fs', z, rfl, h4, k1, k2, by rw [h6.2.2.2]; exact g1, q O1 H1 z F1 R1 g2⟩
          · cases h3
        · cases h3
/-- isinstance(e, c), e an exception -/
def eIsX (cs ds : List Nat) (a : EM) : EM := fun fr => (a fr).bind fun x => (ofO (isX cs ds x.1)).bind fun b => .ok (.bl b, x.2)
theorem se_isX (W : IsX X.K T cs ds cu) (hg : Gl X g := by rfl) (hm : X.mg g = none) (hv : bootBuiltins g = some (.builtin "isinstance") := by first | rfl | decide +kernel) (ha : SE X T E mu io e ma) (hc : PE X c (tC cv)) (hk : ClsV cv cu) (hn : g ≠ "__name__" := by decide) (hdb : (g == ("__debug__" : Str)) = false := by decide)
    (he : starEach [e, c] X.env = (false, eval e X.env) :: starEach [c] X.env := by rfl) (he2 : starEach [c] X.env = (false, eval c X.env) :: starEach [] X.env := by rfl) (hpl : (backTo pos (starEach [c] X.env)).any (·.1) = false := by rfl) : SE X T E mu io (.Call (.Name g p) [e, c] [] pos) (eIsX cs ds ma) :=
  PE.imp (pe_callB call_isV hg hm hv (pa_cons ha (pa_cons hc pa_nil he2) he) hn hdb he hpl) fun σ H Q ⟨O, fr, rl, q⟩ => by
    unfold eIsX at q
    refine ⟨O, fr, rl, ?_⟩
    cases h1 : ma fr with
    | bad => rw [h1] at q; exact q
    | exc e => rw [h1] at q; exact q
    | ok p =>
      obtain ⟨v, fr1⟩ := p
      rw [h1] at q
      intro O1 H1 x' F1 R1 V1
      simp only [SK.R.bind_ok] at q
      cases h2 : isX cs ds v with
      | none => rw [h2] at q; exact q.elim
      | some b =>
        rw [h2] at q
        unfold isX at h2
        split at h2
        · split at h2
          · rename_i hc
            cases h2
            obtain ⟨a, dx, fs', ws, rfl, h4, h6, h7⟩ := V1.insX
            obtain ⟨k1, k2⟩ := W.cl _ (csx_1 hc)
            exact ⟨a, _, dx, fs', cv, cu, _, rfl, h4, k1, hk, k2, q O1 H1 _ F1 R1 vr_bl⟩
          · cases h2
        · cases h2
end
end SK

set_option maxHeartbeats 2000000
/-! SK26: an own exception class whose __init__ says super().__init__(text), then self.f = param. -/
noncomputable section
namespace SK
open PySem PySem.Spec L2 PyProof.Rows
abbrev ovB : List Value := [.type "OverflowError", .type "ArithmeticError", .type "Exception", .type "BaseException", .type "object"]
abbrev veB : List Value := [.type "ValueError", .type "Exception", .type "BaseException", .type "object"]
theorem store_Overflow : StoreFacts "OverflowError" ovB "object.__setattr__" "object" where
  mro := by kernel_rfl
  slot := .of (owner := "object") (n := "__setattr__") (by rw [typeLookup_type, builtinLookup_eq_fast]; kernel_rfl) (by decide +kernel) (by decide +kernel) (by decide +kernel)
    (by first | exact .inl (by decide +kernel) | exact .inr (by decide +kernel)) (by rw [isSubtype_type]; kernel_rfl)
  entry := PySem.F.entry_object_sa
  kind := by decide +kernel
  split := by decide +kernel
  hasOwner := by decide +kernel
  args := fun a b c => by unfold argsOk; kernel_rfl
  passes := fun self => by kernel_rfl
/-- an own exception class over the built-in B -/
structure ExK (K : PySem.W.Frag) (C : Addr) (B newId initId : String) (bmB : List Value) : Prop where
  fb : ExcBaseFacts B newId initId bmB
  sf : StoreFacts B bmB "object.__setattr__" "object"
  kf : PySem.W.KxsFacts B initId
  ci : PySem.W.excInitIn K C bmB newId = true
  ov : PySem.W.excOver K C bmB = true
  hd : PySem.W.hasDictIn K C = true
  sa : PySem.W.findIn K (.ref C) "__setattr__" = some (some (.builtin "object.__setattr__"))
  sb : PySem.W.subIn K (.ref C) (.type B) = some true
  kC : PySem.W.keepIn K (.ref C) = true
section
open Builtin Builtin.ObjectAttr PySem.W
variable {prog : Program} {w : World} {A : Around} {R : Result → Shared → Prop} {hp : Heap} {g : Array GenState} {d : Drawn} {t : Nat} {os : OsState} {B newId initId : String} {bmB : List Value}
theorem exk_osa {K : PySem.W.Frag} {name : Str} {tk : Tok} {v : Value} {x C : Addr} {fv : Array Value} (T : ExK K C B newId initId bmB)
    (X : K.In hp) (hx : hp.get? x = some { cls := .ref C, data := .fields fv }) (ha : findIn K (.ref C) name = some none)
    (hq : ∀ h' tk' dx, (∀ b o, b ≠ x → hp.get? b = some o → h'.get? b = some o) → hp.objs.size ≤ dx → dx ≠ x → h'.get? x = some { cls := .ref C, dict := some dx, data := .fields fv } →
      h'.Ns1 dx (fun y => if y = name then some v else none) → R (.ok (.ret .none)) ⟨h', g, d, tk', os⟩) :
    codeAny (model prog w) A (.call (.builtin "object.__setattr__") ⟨[.ref x, .str name tk, v], []⟩) R ⟨hp, g, d, t, os⟩ := by
  have I : InstAt hp x { cls := .ref C, data := .fields fv } C none := ⟨hx, rfl, rfl, trivial⟩
  have hxs : x ≠ hp.objs.size := Nat.ne_of_lt (Heap.lt_size hx)
  refine osa_openX (s := ⟨hp, g, d, t, os⟩) (r := none) T.sf X I T.ov (NoAttr.taker ha) fun b => ?_
  obtain ⟨cd, hcd, hh⟩ := any_some T.hd
  have hcls : Looks (model prog w) hp (classData C) cd := looks_clsIn X hcd
  show wpAny _ _ (storeInOwnDict (.ref x) (.ref C) (.str name tk) name v b) _ _ _
  obtain ⟨nm, bs, mro, ns, qn, hd, sn, sb, ab, col, del⟩ := cd
  dsimp only at hh
  subst hh
  unfold storeInOwnDict ownDictForStores
  repeat (first | with_reducible refine PySem.HandSPX.store_in_new ?_ ?_ | with_reducible refine wpAny_loadPart_at hx ?_ | with_reducible refine hcls.at ?_ | wp_step)
  · exact ⟨_, #[], _, (Heap.get?_update_ne _ _ _ _ hxs.symm).trans (Heap.get?_push_at rfl rfl), rfl, fun e he => absurd he (by simp), fun _ => rfl⟩
  · intro h' tk' hn' hs
    have hx₁ : (hp.push { cls := .type "dict", data := .dict #[] }).get? x = some { cls := .ref C, data := .fields fv } := Heap.get?_push_of_some _ hx
    refine hq h' tk' hp.objs.size (fun b o hb ho => ?_) (Nat.le_refl _) hxs.symm ?_ hn'
    · exact (hs.2 b (Nat.ne_of_lt (Heap.lt_size ho))).trans ((Heap.get?_update_ne _ _ _ _ hb).trans (Heap.get?_push_of_some _ ho))
    · exact (hs.2 x hxs).trans (Heap.get?_update_self _ hx₁ rfl)
variable {nm q : Str} {C N : Addr} {bs bm : List Value} {hdct : Bool} {sn : List Str} {sub : List Value} {ab : Bool} {col : Option Bool} {dd : Option Addr} {k0 k1 k2 k3 k5 : Option Value} {h : Heap} {E : Value → Shared → Prop}
theorem call_mw (FB : ExcBaseFacts B newId initId bmB) {u e t0 : Addr} {rest : List Value} {Q : Value → Shared → Prop}
    (hC : h.get? C = some (excClassObj nm q C N bs bm hdct sn sub ab col dd k0 k1 k2 k3 k5 newId)) (he : h.get? e = some (PySem.HandSPX.excO C t0)) (hu : h.get? u = some (kxs_mw initId e)) (hrest : rest.length ≤ sizeLine)
    (hq : ∀ h' t1, (∀ b o, b ≠ e → h.get? b = some o → h'.get? b = some o) → h'.get? e = some (PySem.HandSPX.excO C t1) → Q .none ⟨h', g, d, t, os⟩) :
    wpAny (model prog w) A (call (.ref u) rest) Q E ⟨h, g, d, t, os⟩ := by
  refine wpAny_call (codeAny_of_tree ?_)
  show wpAny _ A.in1 (callAny (.ref u) ⟨rest, []⟩) _ _ _
  simp only [callAny]
  refine wpAny_bind (wpAny_load hu ?_)
  simp only [kxs_mw, show (Value.type "method-wrapper" == Value.type "method" || Value.type "method-wrapper" == Value.type "builtin_function_or_method" || Value.type "method-wrapper" == Value.type "method-wrapper") = true by decide, if_true]
  refine KFB.if_so (by decide) ?_
  refine wpAny_bind (check_bound_init FB.toExcCallFacts hC he rfl ?_)
  refine wpAny_bind (wpAny_pure (wpAny_pure ?_))
  refine ⟨plainId_quiet FB.init.plain _, codeAny_builtin FB.initEntry ?_⟩
  exact exc_init_tree (cls := .ref C) (t0 := t0) (dv := none) (c2 := .none) (c3 := .none) (b4 := .bool false) he hrest fun h' k e' _ => hq h' _ k e'
end
section
variable {X : Cx} {pins : List (Addr × Obj)} {σ : L2.St} {H : Hp} {s : Shared} {a C dx : Addr} {f : Str} {y : V} {u : Value} {fs : List (Str × V)} {Q : Unit → Shared → Prop} {E : Value → Shared → Prop} {A : Around} {B newId initId : String} {bmB : List Value}
/-- self.f = y, the first one -/
theorem exk_new (T : ExK X.K C B newId initId bmB) (I : Inv X pins σ H s) (e : H a = some (exo a C none)) (hno : PySem.W.findIn X.K (.ref C) f = some none) (ry : RelV y u)
    (h : ∀ dx s', H dx = none → dx ≠ a → Inv X pins σ (upd (upd H dx (exd dx [(f, y)])) a (exo a C (some dx))) s' → Q () s') : wpAny (model X.prog X.w) A (setAttr (.ref a) f u) Q E s := by
  obtain ⟨t1, ho⟩ := exo_at I.hok e
  obtain ⟨hp, g, d, t, os⟩ := s
  refine PySem.W.set_plain I.kIn (ox := { cls := .ref C, dict := none, data := .fields #[.ref t1, .none, .none, .none, .bool false, .none] }) (od := none) ⟨ho, rfl, rfl, trivial⟩ T.sa ?_
  refine exk_osa T I.kIn ho hno (fun h' tk' dx k dn dne hx hn => ?_)
  have hnd : H dx = none := I.hok.fresh dn
  have nd : ∀ {b : Addr} {o : Obj}, hp.get? b = some o → b ≠ dx := fun {b o} q => Nat.ne_of_lt (Nat.lt_of_lt_of_le (Heap.lt_size q) dn)
  have na : ∀ {b : Addr}, H b = none → b ≠ a := fun {b} n z => by
    rw [z, e] at n
    cases n
  have Un1 : Un X.fs [] H (upd (upd H dx (exd dx [(f, y)])) a (exo a C (some dx))) hp h' := {
    keep := fun b o q n _ _ => k b o (na n) q
    slot := fun b o q n _ _ => ⟨o.slots, k b o (na n) q⟩
    free := fun b o q n _ => by rw [upd_ne (na n), upd_ne (nd q)]; exact n
    there := fun b o q _ => by
      by_cases hb : b = a
      · exact ⟨_, by rw [hb]; exact hx⟩
      · exact ⟨o, k b o hb q⟩
    tups := fun b xs q => by rw [upd_ne (at_ne e q exo_tup), upd_ne (ne_of_none q hnd)]; exact q
    frzs := fun b o v q => by rw [upd_ne (at_ne e q exo_frz), upd_ne (ne_of_none q hnd)]; exact q
    tbls := fun b ps q => ⟨#[], by rw [upd_ne (at_ne e q exo_tbl), upd_ne (ne_of_none q hnd), q]; simp⟩ }
  refine h dx _ hnd dne (I.un (t' := tk') Un1 fun b o q => ?_)
  by_cases hb : b = a
  · subst hb
    rw [upd_same] at q
    cases q
    exact exo_ok hx
  · rw [upd_ne hb] at q
    by_cases hd : b = dx
    · subst hd
      rw [upd_same] at q
      cases q
      exact exd_ok hn (relO_put (fs := []) ry fun g => True.intro)
    · rw [upd_ne hd] at q
      exact (I.hok b o q).stay (fun c v hc z => k c v (by
          rcases hc with hc | hc
          · rw [hc]
            exact hb
          · exact at_ne e hc exo_own) z)
        (fun c hc => by rw [upd_ne (at_ne e hc exo_own), upd_ne (ne_of_none hc hnd)]; exact hc) (fun c xs hc => by rw [upd_ne (at_ne e hc exo_tup), upd_ne (ne_of_none hc hnd)]; exact hc)
/-- the bound __init__ of the built-in base, called -/
theorem exk_init {uw : Addr} {us : List Value} {Q : Value → Shared → Prop} (T : ExK X.K C B newId initId bmB) (I : Inv X pins σ H s) (e : H a = some (exo a C none)) (hu : s.heap.get? uw = some (PySem.W.kxs_mw initId a)) (hl : us.length ≤ sizeLine) (h : ∀ s', Inv X pins σ H s' → Q .none s') :
    wpAny (model X.prog X.w) A (call (.ref uw) us) Q E s := by
  obtain ⟨nm, N, q, bs, bm, hdct, sn, sub, ab, col, dd, k0, k1, k2, k3, k5, hC, hT⟩ := PySem.W.excInit_of I.kIn T.ci
  obtain ⟨t1, ho⟩ := exo_at I.hok e
  obtain ⟨hp, g, d, t, os⟩ := s
  refine call_mw T.fb hC ho hu hl fun h' t2 k hx => ?_
  have J := I.write (t' := t) (x := a) (e := a) (o := exo a C none) (by rw [e]; exact True.intro) (.inl rfl) k ⟨_, hx⟩ (exo_ok hx)
  have eu : upd H a (exo a C none) = H := by
    funext b
    by_cases hb : b = a
    · rw [hb, upd_same, e]
    · rw [upd_ne hb]
  rw [eu] at J
  exact h _ J
end
end SK

set_option maxHeartbeats 1000000
/-! SK27: the __init__ of an own exception class; exceptions made as values. -/
noncomputable section
namespace SK
open PySem L2 PySem.Spec
/-- what super().__init__ asks of the text, C the class, i the built-in base's __init__ -/
structure SupX (X : Cx) (C f cc cda : Addr) (i : String) : Prop where
  hks : X.env.kindOf "super" = some .globalImplicit
  hkc : X.env.kindOf "__class__" = some .free
  hk : X.env.scope.kind = .function
  fu : X.env.func = some f
  fd : ∃ (of : Obj) (fd : FuncData) (ar : Arg), X.K.lookup f = some of ∧ of.data = .func fd ∧ (fd.params.posonlyargs ++ fd.params.args).head? = some ar ∧ X.N[0]? = some ar.arg ∧ X.env.kindOf ar.arg = some .local
  co : X.env.code = .ref cda
  cda : ∃ (oc : Obj) (vs : Array Value) (file : Str) (tf : Tok), X.K.lookup cda = some oc ∧ oc.data = .fields vs ∧ vs[2]? = some (.str file tf) ∧ ((X.prog.main.file : Str) == file) = true
  cl : X.env.cells.lookup ("__class__" : Str) = some cc
  cc : ∃ (oc : Obj), X.K.lookup cc = some oc ∧ oc.data = .cell (some (.ref C))
  cC : (PySem.W.clsIn X.K C).isSome = true
  sub : PySem.W.mroIn X.K C (.ref C) = some true
  ho : PySem.W.nsIn X.K cStatics "thirdparty.any" = some none
  hm : PySem.W.ks_superIn X.K C C "__init__" = some (some (.builtin i))
  mg : X.mg "super" = none
  top : (X.prog.main.scope.names.lookup ("super" : Str)).isSome = false
section
variable {X : Cx} {body st : List Stmt} {stm : Stmt} {t t2 : TS} {C f cc cda : Addr} {B newId initId : String} {bmB : List Value}
theorem psa_of (h : PSs X st t) : PSa X body st t := ⟨fun s σ H D I q => wpAt_of_wpAny (h.run [] s σ H D I q)⟩
theorem super_baseX (S : SupX X C f cc cda initId) {σ : L2.St} {H : Hp} {s : Shared} {a : Addr} {p0 p1 : Pos} {whole : Sem Value} {Q : Value → Shared → Prop} (I : Inv X [] σ H s) (hs : σ[0]? = some (some (.ref a))) (hH : H a = some (exo a C none))
    (h : ∀ so s', s'.heap.get? so = some (PySem.W.ks_superObj C a C) → Inv X [] σ H s' → Q (.ref so) s') :
    _root_.PySem.wpAt (model X.prog X.w) X.A (.func body X.env) (attributeBase (.Call (.Name "super" p0) [] [] p1) "__init__" X.env whole) Q X.xe s := by
  obtain ⟨of, fd, ar, k1, k2, k3, k4, k5⟩ := S.fd
  obtain ⟨oc, vs, file, tf, k6, k7, k8, k9⟩ := S.cda
  obtain ⟨oc2, k10, k11⟩ := S.cc
  have KX := I.kIn
  obtain ⟨cdD, hcD⟩ := Option.isSome_iff_exists.mp S.cC
  obtain ⟨oD, hD1, hD2⟩ : ∃ oD, s.heap.get? C = some oD ∧ oD.data = .cls cdD := by
    unfold PySem.W.clsIn at hcD
    split at hcD
    · rename_i c d cd' sl ho
      cases hcD
      exact ⟨_, KX _ _ ho, rfl⟩
    · cases hcD
  obtain ⟨t1, ho⟩ := exo_at I.hok hH
  have J : PySem.W.InstAt s.heap a { cls := .ref C, dict := none, data := .fields #[.ref t1, .none, .none, .none, .bool false, .none] } C none := ⟨ho, rfl, rfl, trivial⟩
  refine ks_wpAt_super_base S.hks S.hkc (by decide) S.fu (KX _ _ k1) k2 k3 S.co (KX _ _ k6) k7 k8 k9 S.top ?_
  obtain ⟨mb, h1, h2⟩ := I.mod.blt
  refine PySem.W.ks_loadName_global S.hk S.hks (Calls.loadGlobal_builtin (by rw [I.ok.glob]; exact I.mod.glob.keeps I.bk) S.mg (by rw [I.ok.blt]; exact h1.keeps I.bk) ((h2 _ (by decide)).trans (by first | rfl | decide +kernel)) ⟨rfl, ?_⟩)
  refine wpAny_loadName_free S.hk S.hkc S.cl ⟨_, KX _ _ k10, k11⟩ ?_
  obtain ⟨m, hn, hl⟩ := I.loc
  obtain ⟨u, ru, lk⟩ := hl 0 ar.arg (.ref a) k4 hs (.inl k5)
  cases (show u = Value.ref a from ru)
  have hm : m ar.arg = some (.ref a) := by
    rcases lk with ⟨_, z⟩ | ⟨z, _⟩
    · exact z
    · rw [k5] at z; rcases z with z | z <;> cases z
  refine wpAny_loadName_local S.hk k5 hn hm ?_
  refine ks_wpAny_isType_cls hD1 hD2 ⟨rfl, ?_⟩
  obtain ⟨hh, g, d, t, os⟩ := s
  refine ks_wpAny_call_super hD1 hD2 J.at_ J.cls (fun c e => by cases e) (PySem.W.looks_mroIn KX S.sub) (fun h' e k => ?_)
  exact h _ _ e (I.kept (t' := t) k)
theorem super_methX (S : SupX X C f cc cda initId) (T : ExK X.K C B newId initId bmB) {σ : L2.St} {H : Hp} {s : Shared} {a so : Addr} {pl : Sem Bool} {Q : Value × List Value → Shared → Prop} {E' : Value → Shared → Prop} (I : Inv X [] σ H s) (hH : H a = some (exo a C none))
    (hso : s.heap.get? so = some (PySem.W.ks_superObj C a C))
    (h : ∀ q s', X.base.get? q = none → Inv X [(q, PySem.W.kxs_mw initId a)] σ H s' → Q (.ref q, []) s') : wpAny (model X.prog X.w) X.A (getMethod (.ref so) "__init__" pl) Q E' s := by
  have KX := I.kIn
  obtain ⟨t1, ho⟩ := exo_at I.hok hH
  have J : PySem.W.InstAt s.heap a { cls := .ref C, dict := none, data := .fields #[.ref t1, .none, .none, .none, .bool false, .none] } C none := ⟨ho, rfl, rfl, trivial⟩
  obtain ⟨cd, hc⟩ := Option.isSome_iff_exists.mp S.cC
  have hm := S.hm
  unfold PySem.W.ks_superIn at hm
  rw [hc] at hm
  have hb := ClX.base_none I (Nat.le_refl _)
  have hI : PySem.W.Looks (model X.prog X.w) s.heap (isInstance (.ref a) (.type B)) true := J.type.andThen (PySem.W.looks_subIn KX T.sb)
  obtain ⟨hh, g, d, t, os⟩ := s
  refine PySem.W.kxs_getMethod T.kf hso (PySem.W.looks_opaque KX S.ho) (l₀ := cd.mro) ?_ rfl KX hm hI (PySem.W.ks_ne KX J hc) (by decide) ?_
  · exact fun A Q E s k q => wpAny_bind ((PySem.W.looks_clsIn KX hc) A _ E s k (wpAny_pure q))
  · exact h _ _ hb (ClX.pin_new (s := ⟨hh, g, d, t, os⟩) I (fun _ _ z => Heap.get?_push_of_some _ z) (Nat.le_refl _) (Heap.get?_push_size hh rfl) (fun v z => nomatch z))
/-- super().__init__("..") at the head of such an __init__ -/
theorem psa_supx (S : SupX X C f cc cda initId) (T : ExK X.K C B newId initId bmB) (hr : PSa X body st t) {m : Str} {j : Nat} {p0 p1 p2 ap pos pos' : Pos} {pl : Sem Bool}
    (hi : interactive X.env = false := by rfl) (hsw : swapsWith (.Call (.Attribute (.Call (.Name "super" p0) [] [] p1) "__init__" ap) [.Constant (.str m) j p2] [] pos) none pos'.line X.env = pure false := by rfl)
    (ht : eval (.Call (.Attribute (.Call (.Name "super" p0) [] [] p1) "__init__" ap) [.Constant (.str m) j p2] [] pos) X.env = (do
      let ov ← attributeBase (.Call (.Name "super" p0) [] [] p1) "__init__" X.env (eval (.Call (.Name "super" p0) [] [] p1) X.env)
      standAt ap.atName
      let (f, first) ← holding [ov] (getMethod ov "__init__" pl)
      callWith pos f first (backTo pos (starEach [.Constant (.str m) j p2] X.env)) []) := by rfl) :
    PSa X body (.Expr (.Call (.Attribute (.Call (.Name "super" p0) [] [] p1) "__init__" ap) [.Constant (.str m) j p2] [] pos) pos' :: st) (fun D σ H => (∃ a, σ[0]? = some (some (.ref a)) ∧ H a = some (exo a C none)) ∧ t D σ H) := by
  refine ⟨fun s σ H Dd I ⟨⟨a, hy, h4⟩, q⟩ => ?_⟩
  refine ks_wpAt_execs_cons (ks_wpAt_Expr_any (ks_wpAt_MethodCall (pl := pl) (super_baseX S I hy h4 fun so s1 hso I1 => ?_) ht) hi hsw)
  refine super_methX S T I1 h4 hso fun qq s2 hbq I2 => ?_
  have ha : PA X [.Constant (.str m) j p2] (fun σ H Q => Q [.str m] H) := pa_cons pe_str pa_nil
  have hsp : wpAny (model X.prog X.w) X.A (spliced (backTo pos (starEach [.Constant (.str m) j p2] X.env))) (fun us s₁ => us.length ≤ sizeLine ∧ Inv X [(qq, PySem.W.kxs_mw initId a)] σ H s₁) X.xe s2 := thn (ha.run pos _ s2 σ H (fun vs H1 => vs = [.str m] ∧ H1 = H) I2 ⟨rfl, rfl⟩) fun us s3 ⟨vs, H2, I3, rv, e1, e2⟩ => by
    subst e1
    rw [e2] at I3
    refine ⟨?_, I3⟩
    rw [← Paired.length rv, sizeLine_eq]
    simp
  refine PySem.W.kxs_callWith (i := initId) (x := a) rfl (Calls.evalArgs_plain (thn hsp fun us s3 ⟨hl, I3⟩ => ⟨ClX.pin_at I3, ?_⟩))
  refine exk_init T I3 h4 (ClX.pin_at I3) hl fun s4 J => ?_
  exact hr.run s4 σ H Dd (ClX.unpin J) q
/-- self.f = p, the first field -/
theorem ps_exf (T : ExK X.K C B newId initId bmB) {n0 n1 fn : Str} (hno : PySem.W.findIn X.K (.ref C) fn = some none) {p p1 p' pos : Pos} (h0 : PE X (.Name n0 p) (tVar 0)) (h1 : PE X (.Name n1 p1) (tVar 1)) (hs : swapsWith (.Name n1 p1) (some (.Attribute (.Name n0 p) fn p')) pos.line X.env = pure false := by rfl) :
    PS X (.Assign [.Attribute (.Name n0 p) fn p'] (.Name n1 p1) pos) (fun D σ H => ∃ a v, σ[0]? = some (some (.ref a)) ∧ σ[1]? = some (some v) ∧ H a = some (exo a C none) ∧ ∀ dx, H dx = none → dx ≠ a → D.nx σ (upd (upd H dx (exd dx [(fn, v)])) a (exo a C (some dx)))) := by
  refine ⟨fun pins s σ H D I ⟨a, v, e0, e1, ea, h⟩ => ?_⟩
  refine plainObj_wpAny_Assign_Attribute (thn (h1.run pins s σ H (fun x H' => x = v ∧ H' = H) I ⟨v, e1, rfl, rfl⟩) fun u s1 ⟨y, H1, I1, r1, q1, q2⟩ => thn (h0.run pins s1 σ H1 (fun x H' => x = .ref a ∧ H' = H1) I1 ⟨_, e0, rfl, rfl⟩) fun u0 s2 ⟨x, H2, I2, r2, q3, q4⟩ => ?_) hs
  subst q1 q3
  rw [q4, q2] at I2
  obtain rfl : u0 = Value.ref a := r2
  exact exk_new T I2 ea hno r1 fun dx s' n ne J => ⟨σ, _, J, h dx n ne⟩
end
/-- what such an __init__ does -/
def spEx (C : Addr) (fn : Str) : Sp := fun vs H Q _ => ∃ a v, vs = [.ref a, v] ∧ H a = some (exo a C none) ∧ ∀ dx, H dx = none → dx ≠ a → Q .non (upd (upd H dx (exd dx [(fn, v)])) a (exo a C (some dx)))
theorem fn_okG {CX : CXT} {P : Program} {w : World} {K : PySem.W.Frag} {mg : Str → Option Value} {base : Heap} {x qual : Str} {params : Arguments} {body : List Stmt} {scope : Scope} {dvs : List V} {kws : List (Str × V)} {f cc : Addr} {fd : FuncData} {N ps : List Str} {k : Nat} {sp : Sp} {t : TS}
    (F : FunDS K x qual params body scope dvs kws cc f fd) (S : FnScopeS N ps scope) (hl : ps.length ≤ N.length) (hsl : ∀ vs H Q E, sp vs H Q E → vs.length = ps.length)
    (hsp' : ∀ vs H Q E, sp vs H Q E → t { nx := fun _ H' => Q .non H', rt := Q } (start N vs) H)
    (hbody : ∀ (cdv : Value) (A : Around) (outer : List Env) (s : Shared) (H : Hp) (E : XK), (∃ (oc : Value) (od : Option Addr) (dV kV doc pm : Value) (an : Option Addr) (ct : Value) (osl : Array (Option Value)), K.lookup f = some ⟨oc, od, .func (PySem.W.ksFn x qual params body scope dV kV doc pm an cdv ct cc), osl⟩) → PySem.W.codeIn K cdv qual = true → Room k (A.deeper (PySem.W.ksEnv qual scope s.heap.objs.size f cdv cc)) →
      PSa (cxS CX P w K mg base N qual scope f cdv cc A outer s H E) body body t) :
    FnOk P w K mg base CX (k + 1) f fd ps sp := by
  obtain ⟨oc, od, dV, kV, doc, pm, an, cdv, ct, osl, rfl, lk, hcd, _, _⟩ := F.ex
  refine ⟨hsl, fun A outer s H args us vs Q E hr e0 hb r hsp => ?_⟩
  have hvl : vs.length = ps.length := hsl _ _ _ _ hsp
  have KX : K.In s.heap := e0.mod.kin.keeps fun b o e => (e0.bs b o e).1
  have lim : s.heap.NoLimit := e0.mod.nolimit.keeps fun b o e => (e0.bs b o e).1
  have pp : (ps.zip us).length = ps.length := by rw [List.length_zip, ← r.length, hvl, Nat.min_self]
  refine ks_codeAny_call_defAt (fd := PySem.W.ksFn x qual params body scope dV kV doc pm an cdv ct cc) (body := body) (binds := ps.zip us) hr.depth (KX _ _ lk) rfl lim (PySem.W.codeRec_of KX hcd) rfl hb S.nocell (fun y hy => S.par _ (List.of_mem_zip hy).1) (fun h₁ hns hk => ?_) S.co S.gen S.kind
  have e0c := e0
  obtain ⟨oce, ve, hce, hced⟩ := F.ce
  have hccb : base.get? cc = some oce := e0.mod.kin cc oce hce
  have noA : ∀ b : Addr, b ∉ (cxS CX P w K mg base N qual scope f cdv cc A outer s H E).ex := fun b z => absurd (show b ∈ ([] : List Addr) from z) (by simp)
  have I : Inv (cxS CX P w K mg base N qual scope f cdv cc A outer s H E) [] (start N vs) H { s with heap := h₁, toks := s.toks + (ps.zip us).length } := by
    refine ⟨⟨e0.mod, S.kind, rfl, rfl, Nat.le_refl _, fun y z c h1 h2 => ?_, fun y hy => ?_, fun y c hf h => ?_, fun _ => hr.hd, Around.frames_deeper e0.frames, .inr ⟨rfl, rfl⟩, fun b z => absurd z (noA b), e0.bs, e0.bsz, fun b _ _ => noA b, fun b z => absurd z (noA b), e0.funs, e0.frf⟩,
      rfl, e0.bare, Un.kept hk, ⟨_, hns, fun i y v h1 h2 h3 => ?_⟩, fun y c h => ?_, e0.hok.fresh (Nat.le_refl _), fun y c h => ?_, fun p hp => absurd (show p ∈ ([] : List (Addr × Obj)) from hp) (by simp), e0.hok.kept hk, ?_⟩
    · have a1 : y = ("__class__" : Str) := by
        have h1' : List.lookup y [(("__class__" : Str), cc)] = some c := h1
        by_cases e : y = ("__class__" : Str)
        · exact e
        · have : (y == ("__class__" : Str)) = false := by simpa using e
          simp [List.lookup, this] at h1'
      have a2 : z = ("__class__" : Str) := by
        have h1' : List.lookup z [(("__class__" : Str), cc)] = some c := h2
        by_cases e : z = ("__class__" : Str)
        · exact e
        · have : (z == ("__class__" : Str)) = false := by simpa using e
          simp [List.lookup, this] at h1'
      rw [a1, a2]
    · have hy : scope.names.lookup y = some .cell ∨ scope.names.lookup y = some .free := hy
      rcases hy with hy | hy
      · exact absurd rfl (S.nocell _ (PySem.mem_of_lookup hy))
      · rw [S.free y hy]
        exact ⟨cc, List.lookup_cons_self⟩
    · exfalso
      have hf : (y != ("__class__" : Str)) = true := hf
      have h1' : List.lookup y [(("__class__" : Str), cc)] = some c := h
      have : (y == ("__class__" : Str)) = false := by simpa using hf
      simp [List.lookup, this] at h1'
    · have hi : i < vs.length := by
        unfold L2.start at h2
        by_cases hi : i < vs.length
        · exact hi
        · rw [List.getElem?_append_right (by simpa using hi)] at h2
          rw [List.getElem?_replicate] at h2
          split at h2 <;> cases h2
      have ha : vs[i]? = some v := by
        unfold L2.start at h2
        rw [List.getElem?_append_left (by simpa using hi), List.getElem?_map] at h2
        cases e : vs[i]? with
        | none => rw [e] at h2; cases h2
        | some a => rw [e] at h2; cases h2; rfl
      obtain ⟨u, hu, rv⟩ := r.get ha
      have hp : ps[i]? = some y := by
        rw [← S.pre, List.getElem?_take_of_lt (by omega)]; exact h1
      have ndP : ps.Nodup := by rw [← S.pre]; exact S.nd.sublist (List.take_sublist _ _)
      refine ⟨u, rv, .inl ⟨S.par y (List.mem_of_getElem? hp), ?_⟩⟩
      refine lookup_of_mem (List.mem_reverse.mpr (List.mem_of_getElem? (i := i) (List.getElem?_zip_eq_some.mpr ⟨hp, hu⟩))) fun v' hv' => ?_
      exact zip_uniq ndP hp hu (List.mem_reverse.mp hv')
    · have h1' : List.lookup y [(("__class__" : Str), cc)] = some c := h
      by_cases e : y = ("__class__" : Str)
      · subst e
        rw [List.lookup_cons_self] at h1'
        cases h1'
        exact ⟨ve, oce, hk _ _ (e0.bs _ _ hccb).1, hced⟩
      · have : (y == ("__class__" : Str)) = false := by simpa using e
        simp [List.lookup, this] at h1'
    · have h1' : List.lookup y [(("__class__" : Str), cc)] = some c := h
      by_cases e : y = ("__class__" : Str)
      · subst e
        rw [List.lookup_cons_self] at h1'
        cases h1'
        exact (e0.bs _ _ hccb).2
      · have : (y == ("__class__" : Str)) = false := by simpa using e
        simp [List.lookup, this] at h1'
    · unfold L2.start
      show _ = N.length
      rw [List.length_append, List.length_map, List.length_replicate]
      omega
  have hrun := (hbody cdv A outer s H E ⟨oc, od, dV, kV, doc, pm, an, ct, osl, lk⟩ hcd (hr.deeper _)).run _ (start N vs) H { nx := fun _ H' => Q .non H', rt := Q } I (hsp' _ _ _ _ hsp)
  refine ks_wpAt_mono hrun (fun fl s' hs => ?_) fun e s' hs => hs
  have fin : ∀ {σ' : St} {H' : Hp} {v : V} {u : Value}, Inv (cxS CX P w K mg base N qual scope f cdv cc A outer s H E) [] σ' H' s' → RelV v u → Q v H' → CE outer P w H s Q u s' :=
    fun {σ' H' v u} J rv q => ⟨v, H', J.os, J.bare, J.base, J.hok, rv, q⟩
  cases fl with
  | ret u =>
    obtain ⟨v, σ', H', J, rv, q⟩ := hs
    exact fin J rv q
  | next =>
    obtain ⟨σ', H', J, q⟩ := hs
    exact fin (v := V.non) (u := Value.none) J rfl q
  | brk =>
    obtain ⟨_, _, _, q⟩ := hs
    exact False.elim q
  | cont =>
    obtain ⟨_, _, _, q⟩ := hs
    exact False.elim q
end SK

set_option maxHeartbeats 1000000
/-! SK28: a call of an own exception class, with keywords too. -/
noncomputable section
namespace SK
open PySem PySem.Spec
section
variable {M : Model} {A : Around} {E : Value → Shared → Prop} {h : Heap} {g : Array GenState} {d : Drawn} {t : Nat} {os : OsState}
variable {nm q : Str} {C N : Addr} {bs bm bmB : List Value} {hdct : Bool} {sn : List Str} {sub : List Value} {ab : Bool} {col : Option Bool} {dd : Option Addr} {k0 k1 k2 k3 k5 : Option Value} {B newId initId : String}
theorem check_new_ownK (F : ExcBaseFacts B newId initId bmB) (hT : ∀ X : String, bm.contains (.type X) = bmB.contains (.type X)) {rest : List Value} {kn : Str} {kv : Value} {Q : Unit → Shared → Prop}
    (hC : h.get? C = some (excClassObj nm q C N bs bm hdct sn sub ab col dd k0 k1 k2 k3 k5 newId)) (hq : Q () ⟨h, g, d, t, os⟩) : wpAny M A (checkBuiltinCall newId ⟨.ref C :: rest, [(kn, kv)]⟩) Q E ⟨h, g, d, t, os⟩ := by
  have hcont : (Value.ref C :: bm).contains (.type B) = true := by rw [List.contains_cons, hT, F.hasB, Bool.or_true]
  have hstar := F.noStar
  simp only [checkBuiltinCall, F.newKind, F.newSplit, F.newRow]
  repeat (first | refine wpAny_loadPart_at hC ?_ | (refine wpAny_isSubtype_exc hC ?_; rw [hcont]) | refine wpAny_staticBase_exc hC ?_ | refine wpAny_madeBy_exc hC ?_ | simp only [bne_self_eq_false, Bool.false_eq_true, if_false] | wp_step)
  exact hq
end
section
variable {prog : Program} {w : World} {A : Around} {E : Value → Shared → Prop} {R : Result → Shared → Prop} {h : Heap} {g : Array GenState} {d : Drawn} {t : Nat} {os : OsState}
variable {nm q : Str} {C N : Addr} {bs bm bmB : List Value} {hdct : Bool} {sn : List Str} {sub : List Value} {ab : Bool} {col : Option Bool} {dd : Option Addr} {k0 k1 k2 k3 k5 : Option Value} {B newId initId : String} {kn : Str} {kv : Value}
theorem new_ownK (F : ExcBaseFacts B newId initId bmB) (hT : ∀ X : String, bm.contains (.type X) = bmB.contains (.type X)) {rest : List Value}
    (hC : h.get? C = some (excClassObj nm q C N bs bm hdct sn sub ab col dd k0 k1 k2 k3 k5 newId))
    (hq : R (.ok (.ret (.ref (h.objs.size + 1)))) ⟨(h.push { cls := .type "tuple", data := .seq rest.toArray }).push
      { cls := .ref C, data := .fields #[.ref h.objs.size, .none, .none, .none, .bool false, .none] }, g, d, t, os⟩) (hrest : rest.length ≤ sizeLine) :
    codeAny (model prog w) A (.builtin newId ⟨.ref C :: rest, [(kn, kv)]⟩) R ⟨h, g, d, t, os⟩ := by
  have hends := F.ends
  have hcB : (Value.ref C :: bm).contains (.type B) = true := by rw [List.contains_cons, hT, F.hasB, Bool.or_true]
  have hcA : (Value.ref C :: bm).contains (.type "AttributeError") = false := by rw [List.contains_cons, hT, F.noAttr]; rfl
  have hcN : (Value.ref C :: bm).contains (.type "NameError") = false := by rw [List.contains_cons, hT, F.noName]; rfl
  refine codeAny_builtinAt F.entry ?_
  unfold Builtin.«BaseException.__new__»
  refine wpAt_bind ?_
  show wpAt _ _ _ (stack >>= _) _ _ _
  refine wpAt_bind (wpAt_stack fun p below => wpAt_of_wpAny ?_)
  wp_walk
  refine wpAt_of_wpAny ?_
  rw [F.owner]
  repeat (first | with_reducible refine wpAny_madeHere_exc F.canon hC ?_ | with_reducible refine wpAny_loadPart_at hC ?_ | (with_reducible refine wpAny_isSubtype_exc hC ?_; first | rw [hcB] | rw [hcA] | rw [hcN]) | wp_step)
  show R _ _
  rw [Heap.size_push]
  exact hq
end
section
variable {prog : Program} {w : World} {A : Around} {E : Value → Shared → Prop} {R : Result → Shared → Prop} {h : Heap} {g : Array GenState} {d : Drawn} {t : Nat} {os : OsState}
variable {nm q : Str} {C N : Addr} {bs bm bmB : List Value} {hdct : Bool} {sn : List Str} {sub : List Value} {ab : Bool} {col : Option Bool} {dd : Option Addr} {k0 k1 k2 k3 k5 : Option Value} {B newId initId : String} {kn : Str} {kv : Value}
theorem type_call_ownK (F : ExcBaseFacts B newId initId bmB) (hT : ∀ X : String, bm.contains (.type X) = bmB.contains (.type X)) {rest : List Value} {fI : Addr} {Q : PySem.Fin → Shared → Prop}
    (hC : h.get? C = some (excClassObj nm q C N bs bm hdct sn sub ab col dd k0 k1 k2 k3 k5 newId))
    (hi : W.Looks (model prog w) h (typeLookup (.ref C) "__init__") (some (.ref fI))) (hb : ∀ self, W.Looks (model prog w) h (bindSpecial (.ref fI) self) (.ref fI, [self])) (hrest : rest.length ≤ sizeLine)
    (hq : codeAny (model prog w) A (.call (.ref fI) ⟨.ref (h.objs.size + 1) :: rest, [(kn, kv)]⟩)
      (fun r s' => match r with | .ok (.ret v) => v = .none ∧ Q (.done (.ret (.ref (h.objs.size + 1)))) s' | .ok _ => False | .error e => E e s')
      ⟨(h.push (W.kdv_tup rest)).push (HandSPX.excO C h.objs.size), g, d, t, os⟩) :
    wpAny (model prog w) A (Builtin.«type.__call__» ⟨.ref C :: rest, [(kn, kv)]⟩) Q E ⟨h, g, d, t, os⟩ := by
  repeat (first | with_reducible refine wpAny_loadPart_at hC ?_ | with_reducible refine wpAny_madeBy_exc hC ?_ | wp_step)
  refine codeAny_call_builtin_code (Code.quiet_builtin _ F.quiet) (check_new_ownK F hT hC ?_)
  refine new_ownK F hT hC ?_ hrest
  show wpAny _ _ _ _ _ _
  have k : ∀ b o, h.get? b = some o → ((h.push (W.kdv_tup rest)).push (HandSPX.excO C h.objs.size)).get? b = some o := fun b o e => Heap.get?_push_of_some _ (Heap.get?_push_of_some _ e)
  have hC₁ := k _ _ hC
  have hget : ((h.push (W.kdv_tup rest)).push (HandSPX.excO C h.objs.size)).get? (h.objs.size + 1) = some (HandSPX.excO C h.objs.size) := by heap_get
  have hcC : (Value.ref C :: bm).contains (.ref C) = true := by simp
  have i1 := hi.keeps k
  have b1 := (hb (.ref (h.objs.size + 1))).keeps k
  unfold isInstance
  repeat (first | with_reducible refine wpAny_loadPart_at hget ?_ | (with_reducible refine wpAny_isSubtype_exc hC₁ ?_; rw [hcC]) | wp_step)
  show wpAny _ _ (typeLookup (.ref C) _) _ _ _
  refine i1.at ?_
  refine wpAny_holding (wpAny_bind (b1.at ?_))
  refine wpAny_bind (wpAny_call (codeAny_mono hq fun r s' z => ?_))
  rcases r with e | (v | _ | _ | _) <;> first | exact z | exact z.elim | skip
  obtain ⟨rfl, z⟩ := z
  first
    | exact wpAny_pure (wpAny_pure z)
    | (wp_walk; exact z)
end
end SK

set_option maxHeartbeats 1000000
/-! SK29: exceptions made as values. -/
noncomputable section
namespace SK
section
open PySem PySem.Spec
variable {prog : Program} {w : World} {A : Around} {E : Value → Shared → Prop} {R : Result → Shared → Prop} {h : Heap} {g : Array GenState} {d : Drawn} {t : Nat} {os : OsState}
variable {nm q : Str} {C N : Addr} {bs bm bmB : List Value} {hdct : Bool} {sn : List Str} {sub : List Value} {ab : Bool} {col : Option Bool} {dd : Option Addr} {k0 k1 k2 k3 k5 : Option Value} {B newId initId : String} {kn : Str} {kv : Value}
theorem check_type_callK {M : Model} {rest : List Value} {Q : Unit → Shared → Prop} (hC : h.get? C = some (excClassObj nm q C N bs bm hdct sn sub ab col dd k0 k1 k2 k3 k5 newId))
    (hq : Q () ⟨h, g, d, t, os⟩) : wpAny M A (checkBuiltinCall "type.__call__" ⟨.ref C :: rest, [(kn, kv)]⟩) Q E ⟨h, g, d, t, os⟩ := by
  have f3 := tc_sub
  have hT : (⟨h, g, d, t, os⟩ : Shared).TypeIs (.ref C) "type" := ⟨_, hC, rfl⟩
  simp only [checkBuiltinCall, tc_kind, tc_split]
  repeat (any_goals (first | assumption | with_reducible refine wpAny_loadPart_at hC ?_ | with_reducible refine wpAny_onRaise ?_ | with_reducible refine wpAny_map ?_ | wp_step))
theorem call_ownK (F : ExcBaseFacts B newId initId bmB) (hT : ∀ X : String, bm.contains (.type X) = bmB.contains (.type X)) {rest : List Value} {fI : Addr}
    (hC : h.get? C = some (excClassObj nm q C N bs bm hdct sn sub ab col dd k0 k1 k2 k3 k5 newId))
    (hi : W.Looks (model prog w) h (typeLookup (.ref C) "__init__") (some (.ref fI))) (hb : ∀ self, W.Looks (model prog w) h (bindSpecial (.ref fI) self) (.ref fI, [self])) (hrest : rest.length ≤ sizeLine)
    (hq : codeAny (model prog w) (A.under (.builtin "type.__call__" ⟨.ref C :: rest, [(kn, kv)]⟩)) (.call (.ref fI) ⟨.ref (h.objs.size + 1) :: rest, [(kn, kv)]⟩) (W.InitBack (h.objs.size + 1) R)
      ⟨(h.push (W.kdv_tup rest)).push (HandSPX.excO C h.objs.size), g, d, t, os⟩) :
    codeAny (model prog w) A (.call (.ref C) ⟨rest, [(kn, kv)]⟩) R ⟨h, g, d, t, os⟩ := by
  have f1 := tc_lookup
  have f2 := tc_bind (.ref C)
  have hTy : (⟨h, g, d, t, os⟩ : Shared).TypeIs (.ref C) "type" := ⟨_, hC, rfl⟩
  refine codeAny_of_tree ?_
  show wpAny _ _ (callAny (.ref C) _) _ _ _
  repeat (any_goals (first | assumption | with_reducible refine wpAny_loadPart_at hC ?_ | wp_step))
  refine ⟨rfl, ?_⟩
  refine codeAny_call_builtin_at (Code.quiet_builtin _ (by decide +kernel)) entry_typeCall (check_type_callK hC (type_call_ownK F hT hC hi hb hrest ?_))
  refine codeAny_mono hq fun r s' z => ?_
  rcases r with e | (v | _ | _ | _) <;> exact z
end
open PySem L2 PySem.Spec
/-- THE RULE for such an __init__ -/
theorem fn_exc {CX : CXT} {P : Program} {w : World} {K : PySem.W.Frag} {mg : Str → Option Value} {base : Heap} {x qual : Str} {params : Arguments} {body : List Stmt} {scope : Scope} {dvs : List V} {kws : List (Str × V)} {f cc C : Addr} {fd : FuncData} {N : List Str} {n0 n1 fn : Str} {k : Nat}
    (F : FunDS K x qual params body scope dvs kws cc f fd) (S : FnScopeS N [n0, n1] scope) (hl : 2 ≤ N.length)
    (hbody : ∀ (cdv : Value) (A : Around) (outer : List Env) (s : Shared) (H : Hp) (E : XK), (∃ (oc : Value) (od : Option Addr) (dV kV doc pm : Value) (an : Option Addr) (ct : Value) (osl : Array (Option Value)), K.lookup f = some ⟨oc, od, .func (PySem.W.ksFn x qual params body scope dV kV doc pm an cdv ct cc), osl⟩) → PySem.W.codeIn K cdv qual = true → Room k (A.deeper (PySem.W.ksEnv qual scope s.heap.objs.size f cdv cc)) →
      PSa (cxS CX P w K mg base N qual scope f cdv cc A outer s H E) body body (fun D σ H => (∃ a, σ[0]? = some (some (.ref a)) ∧ H a = some (exo a C none)) ∧ ∃ a v, σ[0]? = some (some (.ref a)) ∧ σ[1]? = some (some v) ∧ H a = some (exo a C none) ∧ ∀ dx, H dx = none → dx ≠ a → D.nx σ (upd (upd H dx (exd dx [(fn, v)])) a (exo a C (some dx))))) :
    FnOk P w K mg base CX (k + 1) f fd [n0, n1] (spEx C fn) := by
  refine fn_okG F S hl (fun vs H Q E ⟨a, v, e, _⟩ => by rw [e]; rfl) (fun vs H Q E ⟨a, v, e, ha, h⟩ => ?_) hbody
  subst e
  exact ⟨⟨a, rfl, ha⟩, a, v, rfl, rfl, ha, h⟩
/-- the reading of C(e) -/
def exMk (C : Addr) (fn : Str) (H1 : Hp) (v : V) (Q : VK) : Prop := ∀ a dx H2, H1 a = none → H1 dx = none → dx ≠ a → H2 a = some (exo a C (some dx)) → H2 dx = some (exd dx [(fn, v)]) → (∀ b o, H1 b = some o → H2 b = some o) → Q (.ref a) H2
def tMkX (C : Addr) (fn : Str) (te : TE) : TE := fun σ H Q => te σ H fun v H1 => exMk C fn H1 v Q
section
variable {X : Cx} {CX : CXT} {x kn : Str} {C fI : Addr} {k : Nat} {fd : FuncData} {ps : List Str} {n0 n1 fn : Str} {e : Expr} {te : TE} {p pos kpos : Pos} {B newId initId : String} {bmB : List Value}
theorem ex_end {H1 : Hp} {a : Addr} {v : V} {Q : VK} (n : H1 a = none) (h : exMk C fn H1 v Q) : ∀ dx, upd H1 a (exo a C none) dx = none → dx ≠ a → Q (.ref a) (upd (upd (upd H1 a (exo a C none)) dx (exd dx [(fn, v)])) a (exo a C (some dx))) := fun dx hd ne => by
  rw [upd_ne ne] at hd
  refine h a dx _ n hd ne upd_same (by rw [upd_ne ne, upd_same]) fun b o e => ?_
  rw [upd_ne (ne_of_none e n), upd_ne (ne_of_none e hd), upd_ne (ne_of_none e n)]
  exact e
theorem run_mkx (T : ExK X.K C B newId initId bmB) (iC : PySem.W.findIn X.K (.ref C) "__init__" = some (some (.ref fI))) (tI : PySem.W.typeIn X.K (.ref fI) = some (.type "function"))
    (F1 : FnOk X.prog X.w X.K X.mg X.base CX k fI fd [n0, n1] (spEx C fn)) (hr : Room (k + 1) X.A) (hb : Binds X.K fd [n0, n1] []) (hx : Passes CX X E0) {pins : List (Addr × Obj)} {σ : L2.St} {H : Hp} {s : Shared} {v : V} {u : Value} {Q : VK} (I : Inv X pins σ H s) (r : RelV v u) (q : exMk C fn H v Q) :
    wpAny (model X.prog X.w) X.A (call (.ref C) [u]) (EP X pins σ Q) X.xe s := by
  obtain ⟨nm, N, qq, bs, bm, hdct, sn, sub, ab, col, dd, k0, k1, k2, k3, k5, hC, hT⟩ := PySem.W.excInit_of I.kIn T.ci
  obtain ⟨hp, g, dr, tk, os⟩ := s
  have hsz : hp.objs.size ≤ hp.objs.size + 1 := Nat.le_succ _
  have hn : H (hp.objs.size + 1) = none := I.hok.fresh hsz
  have kk : ∀ b o, hp.get? b = some o → ((hp.push (PySem.W.kdv_tup [u])).push (PySem.HandSPX.excO C hp.objs.size)).get? b = some o := fun b o e => Heap.get?_push_of_some _ (Heap.get?_push_of_some _ e)
  have hget : ((hp.push (PySem.W.kdv_tup [u])).push (PySem.HandSPX.excO C hp.objs.size)).get? (hp.objs.size + 1) = some (PySem.HandSPX.excO C hp.objs.size) := by heap_get
  have I2 : Inv X pins σ (upd H (hp.objs.size + 1) (exo (hp.objs.size + 1) C none)) ⟨(hp.push (PySem.W.kdv_tup [u])).push (PySem.HandSPX.excO C hp.objs.size), g, dr, tk, os⟩ :=
    I.laid (t' := tk) (a := hp.objs.size + 1) (o := exo (hp.objs.size + 1) C none) (h' := (hp.push (PySem.W.kdv_tup [u])).push (PySem.HandSPX.excO C hp.objs.size)) kk hsz (exo_ok hget)
  have r2 : Vals [V.ref (hp.objs.size + 1), v] ([Value.ref (hp.objs.size + 1), u] ++ []) := .cons rfl (.cons r .nil)
  have hq : spEx C fn [V.ref (hp.objs.size + 1), v] (upd H (hp.objs.size + 1) (exo (hp.objs.size + 1) C none)) (fun w H2 => w = .non ∧ Q (.ref (hp.objs.size + 1)) H2) E0 :=
    ⟨_, _, rfl, upd_same, fun dx hd ne => ⟨rfl, ex_end hn q dx hd ne⟩⟩
  refine wpAny_call (PySem.HandSPX.call_own T.fb hT hC (PySem.W.looks_findIn I.kIn iC) (fun self => PySem.W.bind_fn I.kIn self tI) (by rw [sizeLine_eq]; simp)
    (codeAny_mono (F1.run _ X.stack _ _ ⟨[Value.ref (hp.objs.size + 1), u], []⟩ ([Value.ref (hp.objs.size + 1), u] ++ []) _ _ E0 (hr.make C [u] []) (I2.env0.make C [u] []) (hb _ [Value.ref (hp.objs.size + 1), u] I2.kIn rfl) r2 hq) fun r s' hq' => ?_))
  cases r with
  | error er => exact hx pins σ _ _ er s' I2 hq'
  | ok fl =>
    cases fl with
    | ret u =>
      obtain ⟨v, H2, I3, rv, ev, q3⟩ := I2.after hq'
      subst ev
      have I4 : Inv X pins σ H2 s' := I3
      exact ⟨rv, ⟨V.ref (hp.objs.size + 1), H2, I4, rfl, q3⟩⟩
    | next => exact False.elim hq'
    | brk => exact False.elim hq'
    | cont => exact False.elim hq'
theorem run_mkxK (T : ExK X.K C B newId initId bmB) (iC : PySem.W.findIn X.K (.ref C) "__init__" = some (some (.ref fI))) (tI : PySem.W.typeIn X.K (.ref fI) = some (.type "function"))
    (F1 : FnOk X.prog X.w X.K X.mg X.base CX k fI fd [n0, n1] (spEx C fn)) (hr : Room (k + 1) X.A) (hb : ∀ (s : Shared) (u0 u1 : Value), X.K.In s.heap → BindsTo s fd ⟨[u0], [(n1, u1)]⟩ [(n0, u0), (n1, u1)]) (hx : Passes CX X E0) {pins : List (Addr × Obj)} {σ : L2.St} {H : Hp} {s : Shared} {v : V} {u : Value} {Q : VK} (I : Inv X pins σ H s) (r : RelV v u) (q : exMk C fn H v Q) :
    wpAny (model X.prog X.w) X.A (call (.ref C) [] [(n1, u)]) (EP X pins σ Q) X.xe s := by
  obtain ⟨nm, N, qq, bs, bm, hdct, sn, sub, ab, col, dd, k0, k1, k2, k3, k5, hC, hT⟩ := PySem.W.excInit_of I.kIn T.ci
  obtain ⟨hp, g, dr, tk, os⟩ := s
  have hsz : hp.objs.size ≤ hp.objs.size + 1 := Nat.le_succ _
  have hn : H (hp.objs.size + 1) = none := I.hok.fresh hsz
  have kk : ∀ b o, hp.get? b = some o → ((hp.push (PySem.W.kdv_tup [])).push (PySem.HandSPX.excO C hp.objs.size)).get? b = some o := fun b o e => Heap.get?_push_of_some _ (Heap.get?_push_of_some _ e)
  have hget : ((hp.push (PySem.W.kdv_tup [])).push (PySem.HandSPX.excO C hp.objs.size)).get? (hp.objs.size + 1) = some (PySem.HandSPX.excO C hp.objs.size) := by heap_get
  have I2 : Inv X pins σ (upd H (hp.objs.size + 1) (exo (hp.objs.size + 1) C none)) ⟨(hp.push (PySem.W.kdv_tup [])).push (PySem.HandSPX.excO C hp.objs.size), g, dr, tk, os⟩ :=
    I.laid (t' := tk) (a := hp.objs.size + 1) (o := exo (hp.objs.size + 1) C none) (h' := (hp.push (PySem.W.kdv_tup [])).push (PySem.HandSPX.excO C hp.objs.size)) kk hsz (exo_ok hget)
  have r2 : Vals [V.ref (hp.objs.size + 1), v] [Value.ref (hp.objs.size + 1), u] := .cons rfl (.cons r .nil)
  have hq : spEx C fn [V.ref (hp.objs.size + 1), v] (upd H (hp.objs.size + 1) (exo (hp.objs.size + 1) C none)) (fun w H2 => w = .non ∧ Q (.ref (hp.objs.size + 1)) H2) E0 :=
    ⟨_, _, rfl, upd_same, fun dx hd ne => ⟨rfl, ex_end hn q dx hd ne⟩⟩
  refine wpAny_call (call_ownK T.fb hT hC (PySem.W.looks_findIn I.kIn iC) (fun self => PySem.W.bind_fn I.kIn self tI) (by rw [sizeLine_eq]; simp)
    (codeAny_mono (F1.run _ X.stack _ _ ⟨[Value.ref (hp.objs.size + 1)], [(n1, u)]⟩ [Value.ref (hp.objs.size + 1), u] _ _ E0 (hr.make C [] [(n1, u)]) (I2.env0.make C [] [(n1, u)]) (hb _ _ _ I2.kIn) r2 hq) fun r s' hq' => ?_))
  cases r with
  | error er => exact hx pins σ _ _ er s' I2 hq'
  | ok fl =>
    cases fl with
    | ret u =>
      obtain ⟨v, H2, I3, rv, ev, q3⟩ := I2.after hq'
      subst ev
      have I4 : Inv X pins σ H2 s' := I3
      exact ⟨rv, ⟨V.ref (hp.objs.size + 1), H2, I4, rfl, q3⟩⟩
    | next => exact False.elim hq'
    | brk => exact False.elim hq'
    | cont => exact False.elim hq'
theorem pe_mkx (T : ExK X.K C B newId initId bmB) (iC : PySem.W.findIn X.K (.ref C) "__init__" = some (some (.ref fI))) (tI : PySem.W.typeIn X.K (.ref fI) = some (.type "function"))
    (F1 : FnOk X.prog X.w X.K X.mg X.base CX k fI fd [n0, n1] (spEx C fn)) (hr : Room (k + 1) X.A) (hb : Binds X.K fd [n0, n1] []) (hx : Passes CX X E0) (hg : Gl X x) (hm : X.mg x = some (.ref C)) (ha : PE X e te)
    (hdb : (x == ("__debug__" : Str)) = false := by decide) (he : starEach [e] X.env = (false, eval e X.env) :: starEach [] X.env := by rfl) (hpl : (backTo pos (starEach [] X.env)).any (·.1) = false := by rfl) :
    PE X (.Call (.Name x p) [e] [] pos) (tMkX C fn te) := by
  refine ⟨fun pins s σ H Q I h => ?_⟩
  refine wpAny_Call_Name_kw (ld_glob I hg hm ?_ hdb)
  have hA : PA X [e] (tCons te tNil) := pa_cons ha pa_nil he
  refine PySem.W.callWith_K (h₀ := X.base) I.ok.mod.kin T.kC (thn (hA.run pos pins s σ H (fun vs H1 => match vs with | [v] => exMk C fn H1 v Q | _ => False) I h) fun us s1 ⟨vs, H1, I1, r1, q1⟩ => ⟨I1.kIn, ?_⟩) he hpl
  cases r1 with
  | nil => exact q1.elim
  | cons ra rb =>
    cases rb with
    | cons _ _ => exact q1.elim
    | nil => exact run_mkx T iC tI F1 hr hb hx I1 ra q1
theorem pe_mkxK (T : ExK X.K C B newId initId bmB) (iC : PySem.W.findIn X.K (.ref C) "__init__" = some (some (.ref fI))) (tI : PySem.W.typeIn X.K (.ref fI) = some (.type "function"))
    (F1 : FnOk X.prog X.w X.K X.mg X.base CX k fI fd [n0, n1] (spEx C fn)) (hr : Room (k + 1) X.A) (hb : ∀ (s : Shared) (u0 u1 : Value), X.K.In s.heap → BindsTo s fd ⟨[u0], [(n1, u1)]⟩ [(n0, u0), (n1, u1)]) (hx : Passes CX X E0) (hg : Gl X x) (hm : X.mg x = some (.ref C)) (ha : PE X e te)
    (hdb : (x == ("__debug__" : Str)) = false := by decide) (hall : (backToKw pos (keywordEach [⟨some n1, e, kpos⟩] X.env)).all (·.1.isSome) = true := by rfl) (hks : (backToKw pos (keywordEach [⟨some n1, e, kpos⟩] X.env)).filterMap (·.1) = [n1] := by rfl)
    (hpl : ((backTo pos (starEach [] X.env)).any (·.1) || (backToKw pos (keywordEach [⟨some n1, e, kpos⟩] X.env)).any (·.1.isNone)) = false := by rfl) :
    PE X (.Call (.Name x p) [] [⟨some n1, e, kpos⟩] pos) (tMkX C fn te) := by
  refine ⟨fun pins s σ H Q I h => ?_⟩
  refine wpAny_Call_Name_kw (ld_glob I hg hm ?_ hdb)
  have hkw : PK X [⟨some n1, e, kpos⟩] (tCons te tNil) := pk_cons ha pk_nil
  refine PySem.W.callWith_KW0 (h₀ := X.base) I.ok.mod.kin T.kC hall ?_ hpl
  refine thn (hkw.run pos pins s σ H (fun vs H1 => match vs with | [v] => exMk C fn H1 v Q | _ => False) I h) fun ws s2 ⟨zs, H2, I2, rz, q2⟩ => ⟨I2.kIn, ?_⟩
  rw [hks]
  cases rz with
  | nil => exact q2.elim
  | cons ra rb =>
    cases rb with
    | cons _ _ => exact q2.elim
    | nil => exact run_mkxK T iC tI F1 hr hb hx I2 ra q2
end
end SK

set_option maxHeartbeats 1000000
/-! SK30: exceptions made as values: the simulation; facts by the kernel. -/
noncomputable section
namespace SK
open PySem L2 PySem.Spec
/-- C(e): an exception of the class c, its one field g -/
def eMkX (c g : Nat) (a : EM) : EM := fun fr => (a fr).bind fun x => .ok (.ins c [g] [x.1], x.2)
section
variable {X : Cx} {T : Tb} {E : XK} {mu : Nat → Bool} {io : List (Nat × V)} {CX : CXT} {x kn : Str} {fI : Addr} {k : Nat} {fd : FuncData} {n0 n1 fn : Str} {e : Expr} {ma : EM} {p pos kpos : Pos} {B newId initId : String} {bmB : List Value} {c g : Nat}
theorem mkx_imp {σ : L2.St} {H : Hp} {Q : VK} (hc : EXC ≤ c) (hg : g < T.nf) (hf : T.fld g = fn) (h : rE X.K T E mu io (eMkX c g ma) σ H Q) : rE X.K T E mu io ma σ H fun v H1 => exMk (T.cl c) fn H1 v Q := by
  subst hf
  obtain ⟨O, fr, rl, q⟩ := h
  unfold eMkX at q
  refine ⟨O, fr, rl, ?_⟩
  cases h1 : ma fr with
  | bad => rw [h1] at q; exact q
  | exc e => rw [h1] at q; exact q
  | ok p =>
    obtain ⟨v, fr1⟩ := p
    rw [h1] at q
    intro O1 H1 x' F1 R1 V1
    simp only [SK.R.bind_ok] at q
    intro a dx H2 na nd ne ha hd hk
    have X2 : Hx H1 H2 := hk
    have oa : ∀ {b}, H1 b = none → O1 b = none := fun {b} n => by
      cases z : O1 b with
      | none => rfl
      | some w => exact absurd n (R1.trk b (by rw [z]; exact fun q => nomatch q))
    refine q O1 H2 _ (F1.trans X2.fm) (R1.hx X2) ?_
    unfold VR
    refine ⟨a, dx, [(T.fld g, x')], [x'], rfl, .inr ⟨hc, ⟨ha, oa na⟩, hd, oa nd⟩, ⟨rfl, rfl, fun g' hg' => ?_, fun nm => rfl⟩, VRs.cons (V1.mono X2.fm) VRs.nil⟩
    have : g' = g := by simpa using hg'
    rw [this]; exact hg
theorem se_mkX (hc : EXC ≤ c) (hgt : g < T.nf) (hf : T.fld g = fn) (K : ExK X.K (T.cl c) B newId initId bmB) (iC : PySem.W.findIn X.K (.ref (T.cl c)) "__init__" = some (some (.ref fI))) (tI : PySem.W.typeIn X.K (.ref fI) = some (.type "function"))
    (F1 : FnOk X.prog X.w X.K X.mg X.base CX k fI fd [n0, n1] (spEx (T.cl c) fn)) (hr : Room (k + 1) X.A) (hb : Binds X.K fd [n0, n1] []) (hx : Passes CX X E0 := by exact pass0) (hg : Gl X x := by rfl) (hm : X.mg x = some (.ref (T.cl c))) (ha : SE X T E mu io e ma)
    (hdb : (x == ("__debug__" : Str)) = false := by decide) (he : starEach [e] X.env = (false, eval e X.env) :: starEach [] X.env := by rfl) (hpl : (backTo pos (starEach [] X.env)).any (·.1) = false := by rfl) :
    SE X T E mu io (.Call (.Name x p) [e] [] pos) (eMkX c g ma) :=
  PE.imp (pe_mkx K iC tI F1 hr hb hx hg hm ha hdb he hpl) fun σ H Q h => mkx_imp hc hgt hf h
theorem se_mkXK (hc : EXC ≤ c) (hgt : g < T.nf) (hf : T.fld g = fn) (K : ExK X.K (T.cl c) B newId initId bmB) (iC : PySem.W.findIn X.K (.ref (T.cl c)) "__init__" = some (some (.ref fI))) (tI : PySem.W.typeIn X.K (.ref fI) = some (.type "function"))
    (F1 : FnOk X.prog X.w X.K X.mg X.base CX k fI fd [n0, n1] (spEx (T.cl c) fn)) (hr : Room (k + 1) X.A) (hb : ∀ (s : Shared) (u0 u1 : Value), X.K.In s.heap → BindsTo s fd ⟨[u0], [(n1, u1)]⟩ [(n0, u0), (n1, u1)]) (hx : Passes CX X E0 := by exact pass0) (hg : Gl X x := by rfl) (hm : X.mg x = some (.ref (T.cl c))) (ha : SE X T E mu io e ma)
    (hdb : (x == ("__debug__" : Str)) = false := by decide) (hall : (backToKw pos (keywordEach [⟨some n1, e, kpos⟩] X.env)).all (·.1.isSome) = true := by rfl) (hks : (backToKw pos (keywordEach [⟨some n1, e, kpos⟩] X.env)).filterMap (·.1) = [n1] := by rfl)
    (hpl : ((backTo pos (starEach [] X.env)).any (·.1) || (backToKw pos (keywordEach [⟨some n1, e, kpos⟩] X.env)).any (·.1.isNone)) = false := by rfl) :
    SE X T E mu io (.Call (.Name x p) [] [⟨some n1, e, kpos⟩] pos) (eMkX c g ma) :=
  PE.imp (pe_mkxK K iC tI F1 hr hb hx hg hm ha hdb hall hks hpl) fun σ H Q h => mkx_imp hc hgt hf h
end
end SK

set_option maxHeartbeats 1000000
/-! SK31: facts about exception classes by the kernel. -/
noncomputable section
namespace SK
open PySem L2 PySem.Spec He
def exkB (ov : Bool) (x : Str) (K : PySem.W.Frag) : Bool := PySem.W.excInitIn K (ga K x) (if ov then ovB else veB) (if ov then "OverflowError.__new__" else "ValueError.__new__") && (PySem.W.excOver K (ga K x) (if ov then ovB else veB) && (PySem.W.hasDictIn K (ga K x) && (eqO (PySem.W.findIn K (.ref (ga K x)) "__setattr__") (some (some (.builtin "object.__setattr__"))) &&
  (decide (PySem.W.subIn K (.ref (ga K x)) (.type (if ov then "OverflowError" else "ValueError")) = some true) && (PySem.W.keepIn K (.ref (ga K x)) && (eqO (PySem.W.findIn K (.ref (ga K x)) "__init__") (some (some (.ref (fAd K (x, some "__init__"))))) && PySem.W.isFn K (.ref (fAd K (x, some "__init__")))))))))
structure ExC1 (K : PySem.W.Frag) (C f : Addr) : Prop where
  ini : PySem.W.findIn K (.ref C) "__init__" = some (some (.ref f))
  ty : PySem.W.typeIn K (.ref f) = some (.type "function")
theorem exkB_1 {ov : Bool} {x : Str} {K : PySem.W.Frag} (h : exkB ov x K = true) : ExC1 K (ga K x) (fAd K (x, some "__init__")) := by
  unfold exkB at h
  obtain ⟨_, h⟩ := ba h; obtain ⟨_, h⟩ := ba h; obtain ⟨_, h⟩ := ba h; obtain ⟨_, h⟩ := ba h; obtain ⟨_, h⟩ := ba h; obtain ⟨_, h⟩ := ba h
  obtain ⟨h7, h8⟩ := ba h
  exact ⟨eqO_ok h7, beq_iff_eq.mp h8⟩
theorem exkB_ve {x : Str} {K : PySem.W.Frag} (h : exkB false x K = true) : ExK K (ga K x) "ValueError" "ValueError.__new__" "ValueError.__init__" veB := by
  obtain ⟨h1, h⟩ := ba h
  obtain ⟨h2, h⟩ := ba h
  obtain ⟨h3, h⟩ := ba h
  obtain ⟨h4, h⟩ := ba h
  obtain ⟨h5, h⟩ := ba h
  obtain ⟨h6, h⟩ := ba h
  exact ⟨PySem.F.excBase_ValueError, PySem.F.store_ValueError, PySem.W.kxs_ValueError, h1, h2, h3, eqO_ok h4, of_decide_eq_true h5, h6⟩
theorem exkB_ov {x : Str} {K : PySem.W.Frag} (h : exkB true x K = true) : ExK K (ga K x) "OverflowError" "OverflowError.__new__" "OverflowError.__init__" ovB := by
  obtain ⟨h1, h⟩ := ba h
  obtain ⟨h2, h⟩ := ba h
  obtain ⟨h3, h⟩ := ba h
  obtain ⟨h4, h⟩ := ba h
  obtain ⟨h5, h⟩ := ba h
  obtain ⟨h6, h⟩ := ba h
  exact ⟨PySem.F.excBase_OverflowError, store_Overflow, PySem.W.kxs_OverflowError, h1, h2, h3, eqO_ok h4, of_decide_eq_true h5, h6⟩
theorem _root_.SK.FunB.k1 {K : PySem.W.Frag} {params : Arguments} {kws : List (Str × V)} {fd : FuncData} {n0 n1 : Str} (F : FunB K params [] kws fd) (h : ∀ (x qual : Str) (body : List Stmt) (scope : Scope) (cl : List (Str × Addr)) (kV doc pm : Value) (an : Option Addr) (cdv ct u0 u1 : Value), bindArgs (PySem.W.fnX x qual params body scope cl .none kV doc pm an cdv ct) ⟨[u0], [(n1, u1)]⟩ = pure [(n0, u0), (n1, u1)]) : ∀ (s : Shared) (u0 u1 : Value), K.In s.heap → BindsTo s fd ⟨[u0], [(n1, u1)]⟩ [(n0, u0), (n1, u1)] := by
  obtain ⟨x, qual, body, scope, cl, dV, kV, doc, pm, an, cdv, ct, rfl, hD, hK⟩ := F.ex
  rcases hD with ⟨_, rfl⟩ | ⟨e, _⟩
  · intro s u0 u1 X
    refine BindsTo.of_looks fun M => ?_
    rw [h]
    exact PySem.W.Looks.now
  · exact absurd rfl e
def fldXB (cn fn : List Str) (cs : List Nat) (g : Nat) (K : PySem.W.Frag) : Bool := allC cs fun c => xfB K ((tb cn fn K).cl c) && eqO (PySem.W.findIn K (.ref ((tb cn fn K).cl c)) ((tb cn fn K).fld g)) (some none)
theorem fldXB_ok {K : PySem.W.Frag} {cn fn : List Str} {cs : List Nat} {g : Nat} (nd : fn.Nodup) (hg : g < fn.length) (h : fldXB cn fn cs g K = true) : FldX K (tb cn fn K) cs g :=
  ⟨fld_ok nd, hg, fun c hc => let z := ba (allC_ok h hc); ⟨xfB_ok z.1, eqO_ok z.2⟩⟩
def excCB (K : PySem.W.Frag) (D : Addr) : Bool := eqO (PySem.W.findIn K (.ref D) "__getattribute__") (some (some (.builtin "BaseException.__getattribute__"))) && (eqO (PySem.W.findIn K (.ref D) "__getattr__") (some none) && (decide (PySem.W.subIn K (.ref D) (.type "BaseException") = some true) && (PySem.W.hasDictIn K D &&
  (eqO (PySem.W.findIn K (.ref D) "__class__") (some (some (.builtin "object.__class__"))) && (eqO (PySem.W.specialIn K (.builtin "object.__class__") "__get__") (some (some (.builtin "getset_descriptor.__get__"))) && (decide (PySem.W.takesIn K (.builtin "object.__class__") = some true) && decide (PySem.W.mroIn K D (.type "object") = some true)))))))
theorem excCB_ok {K : PySem.W.Frag} {D : Addr} (h : excCB K D = true) : ExcC K D := by
  obtain ⟨h1, h⟩ := ba h
  obtain ⟨h2, h⟩ := ba h
  obtain ⟨h3, h⟩ := ba h
  obtain ⟨h4, h⟩ := ba h
  obtain ⟨h5, h⟩ := ba h
  obtain ⟨h6, h⟩ := ba h
  obtain ⟨h7, h8⟩ := ba h
  exact ⟨eqO_ok h1, eqO_ok h2, of_decide_eq_true h3, h4, eqO_ok h5, eqO_ok h6, of_decide_eq_true h7, of_decide_eq_true h8⟩
def isXB (cn fn : List Str) (cs ds : List Nat) (u : PySem.W.Frag → Value) (K : PySem.W.Frag) : Bool := allC cs fun c => excCB K ((tb cn fn K).cl c) && decide (PySem.W.kitOne K (.ref ((tb cn fn K).cl c)) (u K) = some (ds.contains c))
theorem isXB_ok {K : PySem.W.Frag} {cn fn : List Str} {cs ds : List Nat} {u : PySem.W.Frag → Value} (h : isXB cn fn cs ds u K = true) : IsX K (tb cn fn K) cs ds (u K) :=
  ⟨fun c hc => let z := ba (allC_ok h hc); ⟨excCB_ok z.1, of_decide_eq_true z.2⟩⟩
def supXB (file : Str) (p : Str × Option Str) (C : Str) (i : String) (K : PySem.W.Frag) : Bool := (match K.lookup (fAd K p) with
    | some ⟨_, _, .func fd, _⟩ => (match fd.code with
      | .ref cda => (match K.lookup cda with
        | some o => (match o.data with
          | .fields vs => (match (vs[2]? : Option Value) with
            | some (.str z _) => (file == z)
            | _ => false)
          | _ => false)
        | none => false)
      | _ => false)
    | _ => false) && ((match K.lookup (ccOf K p) with
    | some o => (match o.data with
      | .cell (some (.ref d)) => decide (d = ga K C)
      | _ => false)
    | none => false) && ((PySem.W.clsIn K (ga K C)).isSome && ((PySem.W.clsIn K (ga K C)).isSome && (decide (PySem.W.mroIn K (ga K C) (.ref (ga K C)) = some true) && (eqO (PySem.W.nsIn K cStatics "thirdparty.any") (some none) &&
    (eqO (PySem.W.ks_superIn K (ga K C) (ga K C) "__init__") (some (some (.builtin i))) && eqO (PySem.W.nsIn K mainGlobals "super") (some none)))))))
theorem supX_ok {CX : CXT} {P : Program} {w : World} {K : PySem.W.Frag} {mg : Str → Option Value} {base : Heap} {N : List Str} {x qual : Str} {params : Arguments} {body : List Stmt} {scope : Scope} {A : Around} {outer : List Env} {s : Shared} {H : Hp} {E : XK} {C : Str} {i : String} {p : Str × Option Str} {oc : Value} {od : Option Addr} {dV kV doc pm cdv ct : Value} {an : Option Addr} {osl : Array (Option Value)} {cc : Addr} {ar : Arg}
    (ns : ∃ h : Heap, K.In h ∧ h.Ns mainGlobals mg) (h : supXB P.main.file p C i K = true) (lk : K.lookup (fAd K p) = some ⟨oc, od, .func (PySem.W.ksFn x qual params body scope dV kV doc pm an cdv ct cc), osl⟩)
    (h1 : scope.names.lookup ("super" : Str) = some .globalImplicit) (h2 : scope.names.lookup ("__class__" : Str) = some .free) (h3 : scope.kind = .function) (h4 : (params.posonlyargs ++ params.args).head? = some ar) (h5 : N[0]? = some ar.arg) (h6 : scope.names.lookup ar.arg = some .local)
    (h7 : (P.main.scope.names.lookup ("super" : Str)).isSome = false) : ∃ cda, SupX (cxS CX P w K mg base N qual scope (fAd K p) cdv cc A outer s H E) (ga K C) (fAd K p) cc cda i := by
  have ecc : ccOf K p = cc := ccOf_eq lk rfl
  unfold supXB at h
  rw [lk, ecc] at h
  obtain ⟨g1, h⟩ := ba h
  obtain ⟨g2, h⟩ := ba h
  obtain ⟨g3, h⟩ := ba h
  obtain ⟨g4, h⟩ := ba h
  obtain ⟨g5, h⟩ := ba h
  obtain ⟨g6, h⟩ := ba h
  obtain ⟨g7, g10⟩ := ba h
  cases cdv with
  | ref cda =>
    have g1 : (match K.lookup cda with
        | some o => (match o.data with
          | .fields vs => (match (vs[2]? : Option Value) with
            | some (.str z _) => (P.main.file == z)
            | _ => false)
          | _ => false)
        | none => false) = true := g1
    split at g1
    · rename_i o ho
      split at g1
      · rename_i vs hvs
        split at g1
        · rename_i z tf hz
          split at g2
          · rename_i o2 ho2
            split at g2
            · rename_i d hd
              obtain ⟨hh, X, G⟩ := ns
              have ed : d = ga K C := of_decide_eq_true g2
              subst ed
              exact ⟨cda, ⟨h1, h2, h3, rfl, ⟨_, _, ar, lk, rfl, h4, h5, h6⟩, rfl, ⟨o, vs, z, tf, ho, hvs, hz, g1⟩, rfl, ⟨o2, ho2, hd⟩, g3, of_decide_eq_true g5, eqO_ok g6, eqO_ok g7, PySem.W.mg_none_of X G (eqO_ok g10), h7⟩⟩
            · cases g2
          · cases g2
        · cases g1
      · cases g1
    · cases g1
  | _ => cases g1
end SK

set_option maxHeartbeats 1000000
/-! SK60: raise C(e) of own exception classes; what passes calls. -/
noncomputable section
namespace SK
open PySem PySem.Spec PyProof.Rows L2
/-- the exception that is raised: its class, its dict -/
def exRz (C : Addr) (fn : Str) (H1 : Hp) (v : V) (Q : XK) : Prop := ∀ dx H2, H1 dx = none → H2 dx = some (.xd [(fn, v)]) → (∀ b o, H1 b = some o → H2 b = some o) → Q (.ref C) (some dx) H2
def tRz (C : Addr) (fn : Str) (te : TE) : L2.St → Hp → XK → Prop := fun σ H Q => te σ H fun v H1 => exRz C fn H1 v Q
section
variable {X : Cx} {CX : CXT} {x kn : Str} {C fI : Addr} {k : Nat} {fd : FuncData} {ps : List Str} {n0 n1 fn : Str} {e : Expr} {te : TE} {p pos kpos : Pos} {B newId initId : String} {bmB : List Value}
theorem pmk_mkx (hz : Raises X (.ref C)) (T : ExK X.K C B newId initId bmB) (iC : PySem.W.findIn X.K (.ref C) "__init__" = some (some (.ref fI))) (tI : PySem.W.typeIn X.K (.ref fI) = some (.type "function"))
    (F1 : FnOk X.prog X.w X.K X.mg X.base CX k fI fd [n0, n1] (spEx C fn)) (hr : Room (k + 1) X.A) (hb : Binds X.K fd [n0, n1] []) (hx : Passes CX X E0) (hg : Gl X x) (hm : X.mg x = some (.ref C)) (ha : PE X e te)
    (hdb : (x == ("__debug__" : Str)) = false := by decide) (he : starEach [e] X.env = (false, eval e X.env) :: starEach [] X.env := by rfl) (hpl : (backTo pos (starEach [] X.env)).any (·.1) = false := by rfl) :
    PMk X (.Call (.Name x p) [e] [] pos) (tRz C fn te) := by
  intro pins s σ H Q I h
  refine wpAny_Call_Name_kw (ld_glob I hg hm ?_ hdb)
  have hA : PA X [e] (tCons te tNil) := pa_cons ha pa_nil he
  refine PySem.W.callWith_K (h₀ := X.base) I.ok.mod.kin T.kC (thn (hA.run pos pins s σ H (fun vs H1 => match vs with | [v] => exRz C fn H1 v Q | _ => False) I h) fun us s1 ⟨vs, H1, I1, r1, q1⟩ => ⟨I1.kIn, ?_⟩) he hpl
  obtain ⟨v, u, rfl, rfl, r⟩ : ∃ v u, vs = [v] ∧ us = [u] ∧ RelV v u := by
    cases r1 with
    | nil => exact q1.elim
    | cons ra rb =>
      cases rb with
      | cons _ _ => exact q1.elim
      | nil => exact ⟨_, _, rfl, rfl, ra⟩
  have q1 : exRz C fn H1 v Q := q1
  obtain ⟨nm, N, qq, bs, bm, hdct, sn, sub, ab, col, dd, k0, k1, k2, k3, k5, hC, hT⟩ := PySem.W.excInit_of I1.kIn T.ci
  obtain ⟨hp, g, dr, tk, os⟩ := s1
  have hsz : hp.objs.size ≤ hp.objs.size + 1 := Nat.le_succ _
  have hn : H1 (hp.objs.size + 1) = none := I1.hok.fresh hsz
  have kk : ∀ b o, hp.get? b = some o → ((hp.push (PySem.W.kdv_tup [u])).push (PySem.HandSPX.excO C hp.objs.size)).get? b = some o := fun b o e => Heap.get?_push_of_some _ (Heap.get?_push_of_some _ e)
  have hget : ((hp.push (PySem.W.kdv_tup [u])).push (PySem.HandSPX.excO C hp.objs.size)).get? (hp.objs.size + 1) = some (PySem.HandSPX.excO C hp.objs.size) := by heap_get
  have I2 : Inv X pins σ (upd H1 (hp.objs.size + 1) (exo (hp.objs.size + 1) C none)) ⟨(hp.push (PySem.W.kdv_tup [u])).push (PySem.HandSPX.excO C hp.objs.size), g, dr, tk, os⟩ :=
    I1.laid (t' := tk) (a := (hp.objs.size + 1)) (o := exo (hp.objs.size + 1) C none) (h' := (hp.push (PySem.W.kdv_tup [u])).push (PySem.HandSPX.excO C hp.objs.size)) kk hsz (exo_ok hget)
  have r2 : Vals [V.ref (hp.objs.size + 1), v] ([Value.ref (hp.objs.size + 1), u] ++ []) := .cons rfl (.cons r .nil)
  have hq : spEx C fn [V.ref (hp.objs.size + 1), v] (upd H1 (hp.objs.size + 1) (exo (hp.objs.size + 1) C none)) (fun w H2 => w = .non ∧ ∃ dx, H1 dx = none ∧ dx ≠ (hp.objs.size + 1) ∧ H2 (hp.objs.size + 1) = some (exo (hp.objs.size + 1) C (some dx)) ∧ H2 dx = some (exd dx [(fn, v)]) ∧ ∀ b o, H1 b = some o → H2 b = some o) E0 :=
    ⟨_, _, rfl, upd_same, fun dx hd ne => ⟨rfl, dx, by rw [upd_ne ne] at hd; exact hd, ne, upd_same, by rw [upd_ne ne, upd_same], fun b o e => by
      rw [upd_ne ne] at hd
      have h1 : b ≠ (hp.objs.size + 1) := ne_of_none e hn
      have h2 : b ≠ dx := ne_of_none e hd
      rw [upd_ne h1, upd_ne h2, upd_ne h1]; exact e⟩⟩
  refine wpAny_call (PySem.HandSPX.call_own T.fb hT hC (PySem.W.looks_findIn I1.kIn iC) (fun self => PySem.W.bind_fn I1.kIn self tI) (by rw [sizeLine_eq]; simp)
    (codeAny_mono (F1.run _ X.stack _ _ ⟨[Value.ref (hp.objs.size + 1), u], []⟩ ([Value.ref (hp.objs.size + 1), u] ++ []) _ _ E0 (hr.make C [u] []) (I2.env0.make C [u] []) (hb _ [Value.ref (hp.objs.size + 1), u] I2.kIn rfl) r2 hq) fun r s' hq' => ?_))
  cases r with
  | error er => exact hx pins σ _ _ er s' I2 hq'
  | ok fl =>
    cases fl with
    | ret u =>
      obtain ⟨v', H2, os2, bare2, un2, hok2, rv, ev, dx, hd1, hne, ea, ed, hkeep⟩ := hq'
      subst ev
      obtain ⟨h2, g2, d2, t2, os'⟩ := s'
      refine ⟨rv, mk_end hz I1 hsz kk un2 hok2 os2 bare2 ea ed hd1 (q1 dx _ hd1 upd_same fun b o e => ?_)⟩
      rw [upd_ne (ne_of_none e hd1), del_ne (ne_of_none e hn)]
      exact hkeep b o e
    | next => exact False.elim hq'
    | brk => exact False.elim hq'
    | cont => exact False.elim hq'
end
def sRaise (c g : Nat) (a : EM) : SM := fun fr => (a fr).bind fun x => .exc (.ins c [g] [x.1])
section
variable {X : Cx} {T : Tb} {E : XK} {mu : Nat → Bool} {io : List (Nat × V)} {CX : CXT} {x kn : Str} {fI : Addr} {k : Nat} {fd : FuncData} {n0 n1 fn : Str} {e : Expr} {ma : EM} {p pos rp : Pos} {B newId initId : String} {bmB : List Value} {c g : Nat}
theorem ss_raise (tk : Takes X (fun cls d _ H => E cls d H)) (hgt : g < T.nf) (hf : T.fld g = fn) (hz : Raises X (.ref (T.cl c))) (K : ExK X.K (T.cl c) B newId initId bmB) (iC : PySem.W.findIn X.K (.ref (T.cl c)) "__init__" = some (some (.ref fI))) (tI : PySem.W.typeIn X.K (.ref fI) = some (.type "function"))
    (F1 : FnOk X.prog X.w X.K X.mg X.base CX k fI fd [n0, n1] (spEx (T.cl c) fn)) (hr : Room (k + 1) X.A) (hb : Binds X.K fd [n0, n1] []) (hx : Passes CX X E0) (hc : X.calm = true := by rfl) (hg : Gl X x := by rfl) (hm : X.mg x = some (.ref (T.cl c))) (ha : SE X T E mu io e ma)
    (hdb : (x == ("__debug__" : Str)) = false := by decide) (he : starEach [e] X.env = (false, eval e X.env) :: starEach [] X.env := by rfl) (hpl : (backTo pos (starEach [] X.env)).any (·.1) = false := by rfl) :
    SS X T E mu io (.Raise (some (.Call (.Name x p) [e] [] pos)) none rp) (sRaise c g ma) :=
  PS.imp (ps_raise hc tk (pmk_mkx hz K iC tI F1 hr hb hx hg hm ha hdb he hpl)) fun D σ H ⟨O, fr, rl, q⟩ => by
    subst hf
    unfold sRaise at q
    refine ⟨O, fr, rl, ?_⟩
    cases h1 : ma fr with
    | bad => rw [h1] at q; exact q
    | exc e => rw [h1] at q; exact q
    | ok p =>
      obtain ⟨v, fr1⟩ := p
      rw [h1] at q
      intro O1 H1 x' F1' R1 V1
      simp only [SK.R.bind_ok] at q
      intro dx H2 nd hd hk
      have X2 : Hx H1 H2 := hk
      refine q O1 H2 _ _ (F1'.trans X2.fm) ⟨c, [g], [v], [x'], [(T.fld g, x')], dx, rfl, rfl, rfl, hd, ⟨rfl, rfl, fun g' hg' => ?_, fun nm => rfl⟩, VRs.cons (V1.mono X2.fm) VRs.nil⟩
      have : g' = g := by simpa using hg'
      rw [this]; exact hgt
/-- where nothing may come out -/
theorem passx0 {P : Program} {w : World} {X : Cx} : Passes (L2.CX P w) X L2.E0 := fun _ _ _ _ _ _ _ h => by
  obtain ⟨_, _, _, _, _, _, _, _, _, _, _, _, h⟩ := h
  exact h.elim
theorem passxE {X : Cx} {E : XK} (tk : Takes X (fun cls d _ H => E cls d H)) : Passes (L2.CX X.prog X.w) X E := passes_call tk fun _ _ _ _ h => h
end
end SK

set_option maxHeartbeats 1000000
/-! SK61: what may be raised (by the kernel), repr of texts. -/
noncomputable section
namespace SK
open PySem PySem.Spec PyProof.Rows L2
/-- a class whose instances may be raised -/
def rzB (x : Str) (K : PySem.W.Frag) : Bool := decide (PySem.W.subIn K (.ref (He.ga K x)) (.type "BaseException") = some true) && decide (PySem.W.typeIn K (.ref (He.ga K x)) = some (.type "type"))
theorem rzB_ok {X : Cx} {x : Str} (h : rzB x X.K = true) : Raises X (.ref (He.ga X.K x)) := by
  obtain ⟨h1, h2⟩ := Bool.and_eq_true_iff.mp h
  exact raises_own (of_decide_eq_true h1) (of_decide_eq_true h2)
def reprSg (s : Sg) : Sg := (PySem.reprText ⟨s.toArray⟩).cps.toList
def vRepr : List Val → Option Val
  | [.str s] => if (reprSg s).length ≤ 16777216 then some (.str (reprSg s)) else none
  | _ => none
section
variable {X : Cx} {T : Tb}
theorem c_repr : CallR X (.builtin "repr") (rN X.K T vRepr) := by
  intro pins s σ H xs us Q I r ⟨O, as, tr, va, q⟩
  unfold vRepr at q
  split at q
  · split at q
    · rename_i hl
      obtain ⟨x, rfl, h⟩ := va.one
      obtain ⟨z, rfl, hz⟩ := h.str
      obtain ⟨u, rfl, t, rfl⟩ := vals1 r
      have ez : z = ⟨(z.cps.toList).toArray⟩ := by cases z; rfl
      unfold reprSg at q hl
      rw [← hz, ← ez] at q hl
      refine PySem.P.repr_of_str ?_ (by
        rw [sizeLine_eq]
        have : (PySem.reprText z).length = (PySem.reprText z).cps.toList.length := by simp [PySem.Str.length]
        rw [this]; exact hl)
      exact ⟨.str (PySem.reprText z), H, I.tok _, ⟨_, rfl⟩, q H _ (Hx.refl _) (by unfold VR; exact ⟨_, rfl, rfl⟩)⟩
    · exact q.elim
  · exact q.elim
end
end SK

set_option maxHeartbeats 2000000
/-! SK62: x(lambda: e) with the maker's table of code objects told in full. -/
noncomputable section
namespace SK
open PySem PySem.Spec PyProof.Rows L2 LamX
/-- H1: the code object c' of the name q is told by the table at P -/
def NewT (H : Hp) (P : Addr) (ps : Array Value) (q : Str) (c' : Addr) (H1 : Hp) : Prop := H1 = H ∨ (H c' = none ∧ ∃ more : Array Value, H1 = upd (upd H P (.tbl (ps ++ more))) c' (CodeO c' q) ∧ TriplesOk (ps ++ more).toList ∧
  ∀ (pos : Pos) (cv : Value), codeAmong pos (ps ++ more).toList = some cv → codeAmong pos ps.toList = some cv ∨ cv = .ref c')
section
variable {X : Cx} {pins : List (Addr × Obj)} {σ : L2.St} {H : Hp} {s : Shared}
theorem lam_make3 {c P : Addr} {ps : Array Value} {params : Arguments} {body : Expr} {scope : Scope} {pos : Pos} {E : Value → Shared → Prop} {Q : Value → Shared → Prop} (I : Inv X pins σ H s) (TB : TabB X.base X.mg c P) (hcode : X.env.code = .ref c)
    (hP : H P = some (.tbl ps)) (ht : TriplesOk ps.toList) (ha : ∀ (pos : Pos) (cv : Value), codeAmong pos ps.toList = some cv → ∃ c, cv = .ref c ∧ H c = some (CodeO c (X.env.qual ++ "<lambda>"))) (hdef : defaultsOf params X.env = ([], [])) (hfree : ∀ y ∈ scope.names, y.2 = .free → ∃ c, X.env.cells.lookup y.1 = some c)
    (h : ∀ (f c' : Addr) (pm ctv : Value) (H1 : Hp) (s' : Shared), Inv X pins σ H1 s' → NewT H P ps (X.env.qual ++ "<lambda>") c' H1 →
      s'.heap.get? f = some (PySem.W.kla_obj "<lambda>" (X.env.qual ++ "<lambda>") params body scope (cloFrom X.env.cells scope.names []) pm c' ctv) → H1 f = none → f ∉ frs X.stack → H1 c' = some (CodeO c' (X.env.qual ++ "<lambda>")) → Q (.ref f) s') :
    wpAny (model X.prog X.w) X.A (eval (.Lambda params body scope pos) X.env) Q E s := by
  refine PySem.W.kla_eval hdef ?_
  have bP : s.heap.BuiltinsAt X.mg P := TB.bm.keeps I.bk
  have hP' : s.heap.get? P = some { cls := .none, data := .fields ps } := I.hok P _ hP
  have nofr : ∀ f, s.heap.objs.size ≤ f → f ∉ frs X.stack := fun f hf z => by
    rcases List.mem_cons.mp (I.stkSub _ z) with e | e
    · have h1 := I.lt
      rw [← e] at h1
      exact Nat.lt_irrefl _ (Nat.lt_of_lt_of_le h1 hf)
    · exact I.nofs hf e
  cases hc : codeAmong pos ps.toList with
  | none =>
    refine PySem.W.kla_makeFunction (mg := X.mg) (c := c) (P := P) (ps := ps) (closure_ok hfree) I.ok.glob (I.mod.glob.keeps I.bk) hcode (TB.code.keeps I.bk) hP' ht hc TB.gP bP fun c' ctv h' tk hx hge hlt hrec htb => ?_
    obtain ⟨c2, oc, vs, t, e2, hoc, hd, hv⟩ := hrec
    cases e2
    have hsz : s.heap.objs.size ≤ h'.objs.size := Nat.le_trans hge (Nat.le_of_lt hlt)
    have nC : H c' = none := I.hok.fresh hge
    have I1 := inv_table (t' := tk) (more := #[rawInt pos.line, rawInt pos.col, .ref c']) (h' := h'.push (PySem.W.kla_obj "<lambda>" (X.env.qual ++ "<lambda>") params body scope (cloFrom X.env.cells scope.names []) ((X.mg "__name__").getD .none) c' ctv)) I hP
      (fun b o hb e => Heap.get?_push_of_some _ (hx b o hb e)) (Heap.get?_push_of_some _ htb) hge ⟨oc, vs, t, Heap.get?_push_of_some _ hoc, hd, hv⟩
    have eL : (ps ++ #[rawInt pos.line, rawInt pos.col, .ref c']).toList = ps.toList ++ [rawInt pos.line, rawInt pos.col, .ref c'] := by simp
    refine h h'.objs.size c' ((X.mg "__name__").getD .none) ctv _ _ I1 (.inr ⟨nC, _, rfl, by rw [eL]; exact PySem.TriplesOk_snoc _ _ _ _ ht, fun p' cv hcv => ?_⟩) (Heap.get?_push_size _ rfl) ?_ (nofr _ hsz) upd_same
    · rw [eL] at hcv
      exact among_app _ ht hcv
    · have n1 : h'.objs.size ≠ c' := Nat.ne_of_gt hlt
      have n2 : h'.objs.size ≠ P := Nat.ne_of_gt (Nat.lt_of_lt_of_le (Heap.lt_size hP') hsz)
      rw [upd_ne n1, upd_ne n2]
      exact I.hok.fresh hsz
  | some cv =>
    obtain ⟨c', e, hco⟩ := ha pos cv hc
    subst e
    refine PySem.W.kla_makeFunctionHit (mg := X.mg) (c := c) (P := P) (ps := ps) (closure_ok hfree) I.ok.glob (I.mod.glob.keeps I.bk) hcode (TB.code.keeps I.bk) hP' ht hc bP fun ctv h' tk hx hsz => ?_
    have I1 : Inv X pins σ H { s with heap := h'.push (PySem.W.kla_obj "<lambda>" (X.env.qual ++ "<lambda>") params body scope (cloFrom X.env.cells scope.names []) ((X.mg "__name__").getD .none) c' ctv), toks := tk } := I.kept fun b o e => Heap.get?_push_of_some _ (hx b o e)
    exact h h'.objs.size c' ((X.mg "__name__").getD .none) ctv H _ I1 (.inl rfl) (Heap.get?_push_size _ rfl) (I.hok.fresh hsz) (nofr _ hsz) hco
end
def tLamP (P : Addr) (q : Str) (TT : (XK → Hp → VK → Prop) → Hp → VK → Prop) (t : XK → TE) : TE := fun σ H Q => ∃ ps : Array Value, H P = some (.tbl ps) ∧ TriplesOk ps.toList ∧ (∀ (pos : Pos) (cv : Value), codeAmong pos ps.toList = some cv → ∃ c, cv = .ref c ∧ H c = some (CodeO c q)) ∧
  ∀ H1 c', NewT H P ps q c' H1 → H1 c' = some (CodeO c' q) → TT (fun E H' Q' => t E σ H' Q') H1 Q
section
variable {X : Cx}
/-- x(lambda: body) -/
theorem pe_lamcallP {TT : (XK → Hp → VK → Prop) → Hp → VK → Prop} {x a : Str} {g c P : Addr} {k : Nat} {pg : Arguments} {bg : List Stmt} {sg : Scope} {dV kV doc pm cdv ct oc : Value} {an od : Option Addr} {osl : Array (Option Value)} {Ng : List Str}
    {params : Arguments} {body : Expr} {scope : Scope} {t : XK → TE} {p lpos pos : Pos} (hg : Gl X x) (hm : X.mg x = some (.ref g)) (hk : PySem.W.keepIn X.K (.ref g) = true)
    (lk : X.K.lookup g = some ⟨oc, od, .func (PySem.W.fnOf x x pg bg sg dV kV doc pm an cdv ct), osl⟩) (hcg : PySem.W.codeIn X.K cdv x = true) (hb : L2.Binds X.K (PySem.W.fnOf x x pg bg sg dV kV doc pm an cdv ct) [a] []) (Sg : FnScope Ng [a] sg) (hNg : Ng[0]? = some a) (hva : Vis sg a)
    (hG : GivesTo X Ng x sg g cdv bg a (X.env.qual ++ "<lambda>") TT)
    (TB : TabB X.base X.mg c P) (hcode : X.env.code = .ref c) (hr : Room (k + 2) X.A) (L : LamS X.env.scope scope) (hdef : defaultsOf params X.env = ([], []))
    (hbind : ∀ (q : Str) (cl : List (Str × Addr)) (pm cv ctv : Value), bindArgs (PySem.W.kla_fn "<lambda>" q params body scope cl pm cv ctv) ⟨[], []⟩ = pure [])
    (hbody : ∀ (A : Around) (outer : List Env) (s : Shared) (H : Hp) (E : XK) (f c' : Addr), Room k (A.deeper (lamEnv X scope s.heap.objs.size f c')) → PE (lamCx X A outer s H E scope f c') body (t E))
    (hdb : (x == ("__debug__" : Str)) = false := by decide) (hd : (a == ("__debug__" : Str)) = false := by decide) (hcd : (a == ("__classdict__" : Str)) = false := by decide) :
    PE X (.Call (.Name x p) [.Lambda params body scope lpos] [] pos) (tLamP P (X.env.qual ++ "<lambda>") TT t) := by
  refine ⟨fun pins s σ H Q I h => ?_⟩
  obtain ⟨ps, hP, ht, ha, h⟩ := h
  refine wpAny_Call_Name_kw (ld_glob I hg hm ?_ hdb)
  refine PySem.W.callWith_K (h₀ := X.base) I.ok.mod.kin hk ?_ (by rfl) (by rfl)
  show wpAny _ _ (spliced ((false, eval (.Lambda params body scope lpos) X.env) :: backTo pos (starEach [] X.env))) _ _ s
  refine Calls.spliced_cons (lam_make3 I TB hcode hP ht ha hdef (L.has I.ok) fun f c' pm' ctv H1 s' I1 nT hf hfn hfr hco => ?_)
  refine Calls.spliced_nil ⟨I1.kIn, ?_⟩
  have rc : codeAny (model X.prog X.w) X.A (.call (.ref g) ⟨[.ref f], []⟩) (CR C8.CX0 X.stack X.prog X.w H1 s' Q C8.E0) s' := by
    refine run_ofS (N := Ng) (ps := [a]) (us := [.ref f]) (vs := [.ref f]) lk hcg Sg hr I1.env0 (hb s' [.ref f] I1.kIn rfl) (.cons rfl .nil) rfl fun hr' => ?_
    obtain ⟨t', ht', hq'⟩ := hG f c' s' H1 Q (fun E H' Q' => t E σ H' Q') (fun W pn xe E p1 p2 tk hW => pe_act (i := 0) I1 L hf hfn hfr (hbind _ _ _ _ _) tk hW hr' (fun A outer s H hr2 => hbody A outer s H E f c' hr2) hNg hva hd hcd) hco (h H1 c' nT hco)
    exact ⟨t', ht'.nox, hq'⟩
  refine wpAny_call (codeAny_mono rc fun r s2 hq => ?_)
  cases r with
  | error e => exact (show False from hq).elim
  | ok fl =>
    cases fl with
    | ret u => exact I1.after hq
    | next => exact False.elim hq
    | brk => exact False.elim hq
    | cont => exact False.elim hq
end
/-- isinstance(e, c), e the caught exception, its dict told -/
def rIsD (K : PySem.W.Frag) (C a : Addr) (cls : Value) (d : Option Addr) : List V → Hp → VK → Prop := fun xs H Q => ∃ (c : V) (cv : Value) (b : Bool) (dd : Addr) (fs : List (Str × V)), xs = [.ref a, c] ∧ cls = .ref C ∧ d = some dd ∧ H dd = some (.xd fs) ∧ ClsV c cv ∧ PySem.W.kitOne K (.ref C) cv = some b ∧ Q (.bl b) H
theorem call_isD {X : Cx} {a D : Addr} {oe : Obj} {cls : Value} {d : Option Addr} {pn : List (Addr × Obj)} (C : ExcC X.K D) (hz : L2.Zc cls d oe) (hf : ∃ vs, oe.data = .fields vs) : CallR (X.suite a ((a, oe) :: pn)) (.builtin "isinstance") (rIsD X.K D a cls d) := by
  intro pins s σ H xs us Q I r h
  obtain ⟨c, cv, b, dd, fs, rfl, rfl, rfl, hdd, hcv, e, q⟩ := h
  cases r with
  | cons rx rr =>
    cases rr with
    | cons rt rr =>
      cases rr
      cases rx
      have ec := hcv.eq rt
      subst ec
      obtain ⟨hget, _⟩ := I.pin (a, oe) (List.mem_append.mpr (.inl List.mem_cons_self))
      obtain ⟨vs, hv⟩ := hf
      have hx : ObjOk X.prog X.w H s.heap dd (.xd fs) := I.hok dd _ hdd
      obtain ⟨mA, hns, hr⟩ := hx
      obtain ⟨od, ho, hl⟩ := lookIn_ns hns
      have J : PySem.W.InstAt s.heap a oe D (some od) := ⟨hget, hz.1, by unfold PySem.W.notCls; rw [hv] <;> rfl, by rw [hz.2]; exact ho⟩
      exact PySem.W.kia_one (PySem.W.sk_kitx_exc C.hg C.hk C.hs C.hd C.ha C.hn C.ht C.hm) I.kIn J e (fun z => nomatch z) fun tk => ⟨.bl b, H, I.kept (t' := tk) fun _ _ z => z, rfl, q⟩
def rRp : List V → Hp → VK → Prop := fun xs H Q => ∃ z : Str, xs = [.str z] ∧ (PySem.reprText z).length ≤ sizeLine ∧ Q (.str (PySem.reprText z)) H
theorem call_rp {X : Cx} : CallR X (.builtin "repr") rRp := by
  intro pins s σ H xs us Q I r ⟨z, e, hl, q⟩
  subst e
  obtain ⟨u, rfl, t, rfl⟩ := vals1 r
  exact PySem.P.repr_of_str ⟨.str (PySem.reprText z), H, I.tok _, ⟨_, rfl⟩, q⟩ hl
theorem takesLen {X : Cx} {W : L2.WX} (tk : Takes X W) : Takes X (fun cls d σ H => σ.length = X.N.length → W cls d σ H) := fun u s' ⟨a, B, sI, pins, σ, H, cls, d, e, I, nb, up, sky, na, os, ag, w⟩ =>
  tk u s' ⟨a, B, sI, pins, σ, H, cls, d, e, I, nb, up, sky, na, os, ag, w I.len⟩
/-- told: try: a() / except x as e: return [repr(e.f), isinstance(e, B) and isinstance(e, ValueError)] / return None -/
def TTx (C : Addr) (fn : Str) : (XK → Hp → VK → Prop) → Hp → VK → Prop := fun tl H Q =>
  tl (fun cls d H' => ∃ dd fs z, cls = .ref C ∧ d = some dd ∧ H' dd = some (.xd fs) ∧ fs.lookup fn = some (.str z) ∧ (PySem.reprText z).length ≤ sizeLine ∧ ∀ p, H' p = none → Q (.ref p) (upd H' p (.lst [.str (PySem.reprText z), .bl true]))) H (fun _ H' => Q .non H')
theorem told_givesX {X : Cx} {x a e C B q fn : Str} {sg : Scope} {g CC CB : Addr} {cdg : Value} {p1 p2 p3 p4 p5 p6 p7 p8 p9 p10 p11 p12 p13 p14 p15 p16 p17 p18 p19 p20 p21 p22 p23 : Pos} {j : Nat}
    (hne : [a, e].Nodup) (hke : sg.names.lookup e = some .local) (gC : sg.names.lookup C = some .globalImplicit) (gB : sg.names.lookup B = some .globalImplicit) (gV : sg.names.lookup ("ValueError" : Str) = some .globalImplicit) (gI : sg.names.lookup ("isinstance" : Str) = some .globalImplicit) (gR : sg.names.lookup ("repr" : Str) = some .globalImplicit)
    (mC : X.mg C = some (.ref CC)) (mB : X.mg B = some (.ref CB)) (mV : X.mg "ValueError" = none) (mI : X.mg "isinstance" = none) (mR : X.mg "repr" = none) (dC : (C == ("__debug__" : Str)) = false) (dB : (B == ("__debug__" : Str)) = false) (de : (e == ("__debug__" : Str)) = false) (ce : (e == ("__classdict__" : Str)) = false)
    (hx : PySem.W.exmOne X.K (.ref CC) (.ref CC) = some true) (XF : XfC X.K CC) (hno : PySem.W.findIn X.K (.ref CC) fn = some none) (EC : ExcC X.K CC) (k1 : PySem.W.kitOne X.K (.ref CC) (.ref CB) = some true) (k2 : PySem.W.kitOne X.K (.ref CC) (.type "ValueError") = some true) :
    GivesTo X [a, e] x sg g cdg [.Try [.Expr (.Call (.Name a p1) [] [] p2) p3] [.ExceptHandler (some (.Name C p4)) (some e) [.Return (some (.List [.Call (.Name "repr" p5) [.Attribute (.Name e p6) fn p7] [] p8, .BoolOp .And [.Call (.Name "isinstance" p9) [.Name e p10, .Name B p11] [] p12, .Call (.Name "isinstance" p13) [.Name e p14, .Name "ValueError" p15] [] p16] p17] p18)) p19] p20] [] [] p23, .Return (some (.Constant .none j p21)) p22] a q (TTx CC fn) := by
  intro f c' s H Q tl act hc h
  refine ⟨_, pss_cons (ps_try_as (X := (cxOf C8.CX0 X.prog X.w X.K X.mg X.base [a, e] x sg g cdg X.A X.stack s H C8.E0).nox) (c := .ref CC) (i := 1) (Wout := fun _ _ _ _ => False)
    (tb := fun W D σ H => ∃ Ech : XK, (∀ cls d σ' H', Ech cls d H' → σ'.length = 2 → W cls d σ' H') ∧ σ[0]? = some (some (.ref f)) ∧ H c' = some (CodeO c' q) ∧ tl Ech H fun _ H' => D.nx σ H')
    (ts := fun a' cls d => tRet (tLst (tCons (tCB rRp (tCons (tXf a' cls d CC fn (tVar 1)) tNil)) (tCons (tAndV (tCB (rIsD X.K CC a' cls d) (tCons (tVar 1) (tCons (tC (.ref CB)) tNil))) (tCB (rIsD X.K CC a' cls d) (tCons (tVar 1) (tCons (tC (.ty "ValueError")) tNil)))) tNil))))
    rfl rfl hne rfl hke ⟨gC, dC, .inl mC⟩ LamX.takes0 (fun W pn xe tk _ => ?_) (fun a' oe cls d pn hz hf => ?_)) (pss_one (ps_ret pe_non)), ?_⟩
  · refine ⟨fun pins s' σ H' D I h' => ?_⟩
    obtain ⟨Ech, hW, h1, h2, h3⟩ := h'
    have hp := act (fun cls d σ H => σ.length = 2 → W cls d σ H) pn xe Ech p1 p2 (takesLen tk) (fun cls d σ' H' he hl => hW cls d σ' H' he hl)
    exact (pss_one (ps_expr (pos := p3) hp)).run pins s' σ H' D I ⟨h1, h2, h3⟩
  · exact pss_one (ps_ret (pe_lst (pa_cons (pe_callB call_rp gR mR (by first | rfl | decide +kernel) (pa_cons (pe_xf XF hno hz hf (pe_var rfl (.inl hke) de ce)) pa_nil)) (pa_cons (pe_and (pe_callB (call_isD EC hz hf) gI mI (by first | rfl | decide +kernel) (pa_cons (pe_var rfl (.inl hke) de ce) (pa_cons (pe_glob gB mB rfl dB) pa_nil))) (pe_one (pe_callB (call_isD EC hz hf) gI mI (by first | rfl | decide +kernel) (pa_cons (pe_var rfl (.inl hke) de ce) (pa_cons (pe_bltn (v := .ty "ValueError") gV mV (by first | rfl | decide +kernel) rfl) pa_nil))))) pa_nil))))
  · refine ⟨_, fun cls d σ' H' ⟨dd, fs, z, e1, e2, hdd, hl, hz, hq⟩ hlen => ⟨true, by rw [e1]; exact hx, fun _ a' na => ?_, fun z => nomatch z⟩, rfl, hc, h⟩
    have s1 : (σ'.set 1 (some (V.ref a')))[1]? = some (some (V.ref a')) := List.getElem?_set_self (by omega)
    refine ⟨.ref a', s1, rfl, e1, dd, fs, .str z, e2, hdd, hl, z, rfl, hz, .ref a', s1, .ref CB, .ref CB, true, dd, fs, rfl, e1, e2, hdd, ClsV.own _, k1, true, rfl, ?_⟩
    rw [if_pos rfl]
    exact ⟨.ref a', s1, .ty "ValueError", .type "ValueError", true, dd, fs, rfl, e1, e2, hdd, ClsV.ty _, k2, (show 2 ≤ sizeLine by rw [sizeLine_eq]; decide), fun p hp => hq p hp⟩
end SK

set_option maxHeartbeats 2000000
/-! SK63: a def's body that makes lambdas: its table told beside the frame. -/
noncomputable section
namespace SK
open PySem PySem.Spec PyProof.Rows L2 LamX
/-- the table at P: what it tells are code objects of the name q, nobody's -/
def TabO (q : Str) (P : Addr) (O : Own) (H : Hp) : Prop := O P = some .tmp ∧ ∃ ps : Array Value, H P = some (.tbl ps) ∧ TriplesOk ps.toList ∧ ∀ (pos : Pos) (cv : Value), codeAmong pos ps.toList = some cv → ∃ c, cv = .ref c ∧ H c = some (CodeO c q) ∧ O c = none
structure Ft (O : Own) (H : Hp) (O' : Own) (H' : Hp) : Prop where
  byv : Fb O H O' H'
  out : Fo O H O' H'
theorem Ft.of {O H O' H'} (f : Fm O H O' H') : Ft O H O' H' := ⟨f.b, f.o⟩
theorem Ft.trans {O H O1 H1 O2 H2} (a : Ft O H O1 H1) (b : Ft O1 H1 O2 H2) : Ft O H O2 H2 := ⟨a.byv.trans b.byv, fun x o h n => let ⟨h1, n1⟩ := a.out x o h n; b.out x o h1 n1⟩
theorem Ft.refl (O : Own) (H : Hp) : Ft O H O H := .of (Fm.refl O H)
theorem TabO.monoT {q : Str} {P : Addr} {O O' : Own} {H H' : Hp} (f : Fb O H O' H') (g : ∀ o, H P = some o → O P = some .tmp → H' P = some o ∧ O' P = some .tmp) (t : TabO q P O H) : TabO q P O' H' := by
  obtain ⟨h, ps, hP, ht, ha⟩ := t
  obtain ⟨h1, h2⟩ := g _ hP h
  refine ⟨h2, ps, h1, ht, fun pos cv hc => ?_⟩
  obtain ⟨c, e, hcO, n⟩ := ha pos cv hc
  obtain ⟨a, b⟩ := f c _ (.inl hcO) n
  exact ⟨c, e, a.eq rfl, b⟩
theorem TabO.mono {q : Str} {P : Addr} {O O' : Own} {H H' : Hp} (f : Fm O H O' H') (t : TabO q P O H) : TabO q P O' H' := t.monoT f.b fun o => f.tmp P o
section
variable (K : PySem.W.Frag) (T : Tb) (mu : Nat → Bool) (io : List (Nat × V)) (q : Str) (P : Addr)
def pSt (O : Own) (D : Ends) (H : Hp) : R (Fl × Fr) → Prop
  | .ok (.nx, fr') => ∀ O' H' σ', Ft O H O' H' → Rl K T mu io O' fr' σ' H' → TabO q P O' H' → D.nx σ' H'
  | .ok (.bk, fr') => ∀ O' H' σ', Ft O H O' H' → Rl K T mu io O' fr' σ' H' → TabO q P O' H' → D.bk σ' H'
  | .ok (.ct, fr') => ∀ O' H' σ', Ft O H O' H' → Rl K T mu io O' fr' σ' H' → TabO q P O' H' → D.ct σ' H'
  | .ok (.rt v, fr') => ∀ O' H' x, VR K T O' H' v x → D.rt x H'
  | .exc e => False
  | .bad => False
def rSt (m : SM) : TS := fun D σ H => ∃ O fr, Rl K T mu io O fr σ H ∧ TabO q P O H ∧ pSt K T mu io q P O D H (m fr)
def pTt (O : Own) (σ : L2.St) (H : Hp) (Q : Bool → Hp → Prop) : R (Bool × Fr) → Prop
  | .ok (b, fr') => ∀ O' H', Ft O H O' H' → Rl K T mu io O' fr' σ H' → TabO q P O' H' → Q b H'
  | .exc e => False
  | .bad => False
def rTt (m : TM) : TT := fun σ H Q => ∃ O fr, Rl K T mu io O fr σ H ∧ TabO q P O H ∧ pTt K T mu io q P O σ H Q (m fr)
def pEt (O : Own) (σ : L2.St) (H : Hp) (Q : VK) : R (Val × Fr) → Prop
  | .ok (v, fr') => ∀ O' H' x, Ft O H O' H' → Rl K T mu io O' fr' σ H' → TabO q P O' H' → VR K T O' H' v x → Q x H'
  | .exc e => False
  | .bad => False
def rEt (m : EM) : TE := fun σ H Q => ∃ O fr, Rl K T mu io O fr σ H ∧ TabO q P O H ∧ pEt K T mu io q P O σ H Q (m fr)
end
section
variable {K : PySem.W.Frag} {T : Tb} {mu : Nat → Bool} {io : List (Nat × V)} {q : Str} {P : Addr} {O O1 : Own} {H H1 : Hp}
theorem pSt.back (f : Ft O H O1 H1) {D r} (h : pSt K T mu io q P O D H r) : pSt K T mu io q P O1 D H1 r := by
  cases r with
  | ok a =>
    obtain ⟨v, fr'⟩ := a
    cases v with
    | nx => exact fun O' H' s g => h O' H' s (f.trans g)
    | bk => exact fun O' H' s g => h O' H' s (f.trans g)
    | ct => exact fun O' H' s g => h O' H' s (f.trans g)
    | rt v => exact h
  | exc e => exact h
  | bad => exact h
end
section
variable {X : Cx} {T : Tb} {E : XK} {mu : Nat → Bool} {io : List (Nat × V)} {q : Str} {P : Addr} {st : Stmt} {rest : List Stmt} {m m2 : SM} {e : Expr} {me : EM} {pos : Pos}
theorem st_lift (hr : mu RES = false) (h : SS X T L2.E0 mu io st m) : PS X st (rSt X.K T mu io q P m) :=
  PS.imp h fun D σ H ⟨O, fr, rl, tb, w⟩ => by
    refine ⟨O, fr, rl, ?_⟩
    cases hm : m fr with
    | bad => rw [hm] at w; exact w.elim
    | exc e => rw [hm] at w; exact w.elim
    | ok p =>
      obtain ⟨f, fr1⟩ := p
      rw [hm] at w
      cases f with
      | nx => exact fun O1 H1 σ1 F1 R1 => w O1 H1 σ1 (.of F1) R1 (tb.mono F1)
      | bk => exact fun O1 H1 σ1 F1 R1 => w O1 H1 σ1 (.of F1) R1 (tb.mono F1)
      | ct => exact fun O1 H1 σ1 F1 R1 => w O1 H1 σ1 (.of F1) R1 (tb.mono F1)
      | rt v => exact fun O1 H1 σ1 x F1 R1 V1 => w O1 H1 x (by unfold RsR at V1; rw [if_neg (by rw [hr]; exact Bool.false_ne_true)] at V1; exact V1)
theorem stt_nil : PSs X [] (rSt X.K T mu io q P sNil) := PSs.imp pss_nil fun D σ H ⟨O, fr, rl, tb, w⟩ => w O H σ (Ft.refl _ _) rl tb
theorem stt_one (h1 : PS X st (rSt X.K T mu io q P m)) : PSs X [st] (rSt X.K T mu io q P m) := pss_one h1
theorem stt_cons (h1 : PS X st (rSt X.K T mu io q P m)) (h2 : PSs X rest (rSt X.K T mu io q P m2)) : PSs X (st :: rest) (rSt X.K T mu io q P (sSeq m m2)) :=
  PSs.imp (pss_cons h1 h2) fun D σ H ⟨O, fr, rl, tb, w⟩ => by
    unfold sSeq at w
    refine ⟨O, fr, rl, tb, ?_⟩
    cases h : m fr with
    | bad => rw [h] at w; exact w
    | exc e => rw [h] at w; exact w
    | ok p =>
      obtain ⟨f, fr1⟩ := p
      rw [h] at w
      simp only [SK.R.bind_ok] at w
      cases f with
      | nx => exact fun O1 H1 σ1 F1 R1 t1 => ⟨O1, fr1, R1, t1, pSt.back F1 w⟩
      | rt v => exact w
      | bk => exact w
      | ct => exact w
theorem st_ifT {c : Expr} {a b : List Stmt} {t : TM} (hc : PT X c (rTt X.K T mu io q P t)) (ha : PSs X a (rSt X.K T mu io q P m)) (hb : PSs X b (rSt X.K T mu io q P m2)) : PS X (.If c a b pos) (rSt X.K T mu io q P (sIf t m m2)) :=
  PS.imp (ps_if hc ha hb) fun D σ H ⟨O, fr, rl, tb, w⟩ => by
    unfold sIf at w
    refine ⟨O, fr, rl, tb, ?_⟩
    cases h1 : t fr with
    | bad => rw [h1] at w; exact w
    | exc e => rw [h1] at w; exact w
    | ok p =>
      obtain ⟨k, fr1⟩ := p
      rw [h1] at w
      intro O1 H1 F1 R1 t1
      simp only [SK.R.bind_ok] at w
      cases k with
      | true => exact ⟨O1, fr1, R1, t1, pSt.back F1 (by simpa using w)⟩
      | false => exact ⟨O1, fr1, R1, t1, pSt.back F1 (by simpa using w)⟩
theorem st_forT {ts : List Nat} {tg iter : Expr} {body : List Stmt} {i : IM} {g : GM} (hp : PassesOwn (model X.prog X.w) X.A X.env X.xe := by exact passes_of rfl) (hc : X.calm = true := by rfl) (hi : SI X T L2.E0 mu io tg iter i) (hg : SG X T mu io ts tg g) (hb : PSs X body (rSt X.K T mu io q P m))
    (hs : ∀ x, foldedSetIterable iter X.env x = pure x := by intro _; rfl) : PS X (.For tg iter body [] pos) (rSt X.K T mu io q P (sFor i g m)) :=
  PS.imp (ps_for hp hc hi hg hb hs) fun D σ H ⟨O, fr, rl, tb, w⟩ => by
    unfold sFor at w
    refine ⟨O, fr, rl, ?_⟩
    cases h : i fr with
    | bad => rw [h] at w; exact w.elim
    | exc e => rw [h] at w; exact w.elim
    | ok p =>
      obtain ⟨xs, fr1⟩ := p
      rw [h] at w
      intro O1 H1 J F1 R1 W1
      simp only [SK.R.bind_ok] at w
      refine ⟨fun j k σ' H' => k = xs.length - j ∧ ∃ O' fr', Rl X.K T mu io O' fr' σ' H' ∧ TabO q P O' H' ∧ Walks X.K T J xs O' H' ∧ pSt X.K T mu io q P O' D H' (forL g m (xs.drop j) fr'), ⟨_, rfl, O1, fr1, R1, tb.mono F1, W1, by simpa using pSt.back (.of F1) w⟩, ?_⟩
      rintro j k σ' H' ⟨rfl, O', fr', R', tb', W', w'⟩
      obtain ⟨hstop, hgo⟩ := W' O' H' (Fb.refl _ _) (fun _ _ h n => ⟨h, n⟩) R'.trk j
      by_cases hj : j < xs.length
      · right
        have hx : xs[j]? = some xs[j] := List.getElem?_eq_getElem hj
        obtain ⟨h1, h2⟩ := hgo _ hx
        refine ⟨h1, fun σ2 H2 => ∃ O2 fr2, Rl X.K T mu io O2 fr2 σ2 H2 ∧ TabO q P O2 H2 ∧ Walks X.K T J xs O2 H2 ∧ pSt X.K T mu io q P O2 D H2 (forL g m (xs.drop (j + 1)) fr2), fun σ2 H2 hN => ⟨_, by omega, rfl, hN⟩, fun x H2 hy => ?_⟩
        obtain ⟨X2, V2⟩ := h2 x H2 hy
        refine ⟨O', fr', xs[j], R'.hx X2, V2, ?_⟩
        rw [List.drop_eq_getElem_cons hj] at w'
        unfold forL at w'
        cases h3 : g xs[j] fr' with
        | bad => rw [h3] at w'; exact w'
        | exc e => rw [h3] at w'; exact w'.elim
        | ok fr3 =>
          rw [h3] at w'
          intro O3 H3 σ3 F3 R3 _
          have F03 := X2.fm.trans F3
          refine ⟨O3, fr3, R3, tb'.mono F03, ?_⟩
          simp only [noX, SK.R.bind_ok] at w'
          cases h4 : m fr3 with
          | bad => rw [h4] at w'; exact w'
          | exc e => rw [h4] at w'; exact w'
          | ok p =>
            obtain ⟨f, fr4⟩ := p
            rw [h4] at w'
            simp only [SK.R.bind_ok] at w'
            cases f with
            | nx => exact fun O4 H4 σ4 F4 R4 t4 => ⟨O4, fr4, R4, t4, W'.monoB ((Ft.of F03).trans F4).byv ((Ft.of F03).trans F4).out, pSt.back ((Ft.of F03).trans F4) w'⟩
            | ct => exact fun O4 H4 σ4 F4 R4 t4 => ⟨O4, fr4, R4, t4, W'.monoB ((Ft.of F03).trans F4).byv ((Ft.of F03).trans F4).out, pSt.back ((Ft.of F03).trans F4) w'⟩
            | bk => exact pSt.back (r := .ok (.nx, fr4)) (.of F03) w'
            | rt v => exact pSt.back (r := .ok (.rt v, fr4)) (.of F03) w'
      · left
        refine ⟨hstop (by omega), ?_⟩
        rw [List.drop_of_length_le (by omega)] at w'
        exact w' O' H' σ' (Ft.refl _ _) R' tb'
/-- a test `a != b`, a with the table -/
theorem tt_cmp {op : CmpOp} {a b : Expr} {ma mb : EM} {f : Val → Val → Option Val} (ho : OpR X (compareOp op) (r2 X.K T f)) (ha : PE X a (rEt X.K T mu io q P ma)) (hb : SE X T L2.E0 mu io b mb) (hm : behindInMarks op b = false := by first | exact nomark _ | with_unfolding_all rfl) :
    PT X (.Compare a [op] [b] pos) (rTt X.K T mu io q P (tBl (e2 f ma mb))) :=
  PT.imp (pt_cmpR ho ha hb hm) fun σ H Q ⟨O, fr, rl, tb, w⟩ => by
    unfold tBl e2 at w
    refine ⟨O, fr, rl, tb, ?_⟩
    cases h1 : ma fr with
    | bad => rw [h1] at w; exact w.elim
    | exc e => rw [h1] at w; exact w.elim
    | ok p =>
      obtain ⟨x, fr1⟩ := p
      rw [h1] at w
      intro O1 H1 x' F1 R1 t1 V1
      refine ⟨O1, fr1, R1, ?_⟩
      simp only [SK.R.bind_ok] at w
      cases h2 : mb fr1 with
      | bad => rw [h2] at w; exact w.elim
      | exc e => rw [h2] at w; exact w.elim
      | ok p =>
        obtain ⟨y, fr2⟩ := p
        rw [h2] at w
        intro O2 H2 y' F2 R2 V2
        refine ⟨O2, x, y, R2.trk, VR.mono F2 _ _ V1, V2, ?_⟩
        simp only [SK.R.bind_ok] at w
        cases h3 : f x y with
        | none => rw [h3] at w; exact w.elim
        | some v =>
          rw [h3] at w
          intro H3 z X3 V3
          cases v with
          | bl b =>
            unfold VR at V3
            exact ⟨b, V3, (show pTt X.K T mu io q P O σ H Q (.ok (b, fr2)) from w) O2 H3 (F1.trans (.of (F2.trans X3.fm))) (R2.hx X3) ((t1.mono F2).mono X3.fm)⟩
          | _ => exact w.elim
end
end SK

set_option maxHeartbeats 2000000
/-! SK64: _law_told(lambda: e) as a value; a law that makes lambdas. -/
noncomputable section
namespace SK
open PySem PySem.Spec PyProof.Rows L2 LamX
/-- told(lambda: m): None, or what is told of the exception of the class num, whose field g is a text -/
def eTold (own : List Nat) (num g : Nat) (m : EM) : EM := fun fr => match m (wipF fr own) with
  | .ok _ => .ok (.non, fr)
  | .exc e => (match e with
    | .ins c [g'] [.str s] => if c = num ∧ g' = g ∧ (reprSg s).length ≤ 16777216 then .ok (.lst [.str (reprSg s), .bl true], fr) else .bad
    | _ => .bad)
  | .bad => .bad
section
variable {K : PySem.W.Frag} {T : Tb} {mu : Nat → Bool} {io : List (Nat × V)} {q : Str} {P : Addr} {O : Own} {H : Hp} {fr : Fr} {σ : L2.St}
theorem NewT.ft {ps : Array Value} {c' : Addr} {H1 : Hp} (tr : ∀ a, O a ≠ none → H a ≠ none) (hP : O P = some .tmp) (n : NewT H P ps q c' H1) : (∀ a o, H a = some o → O a ≠ some .tmp → H1 a = some o) ∧ (∀ a, H a ≠ none → H1 a ≠ none) := by
  rcases n with rfl | ⟨nc, more, rfl, _, _⟩
  · exact ⟨fun _ _ h _ => h, fun _ h => h⟩
  · refine ⟨fun a o h ne => ?_, fun a h => ?_⟩
    · rw [upd_ne (ne_of_none h nc), upd_ne (fun z => ne (by rw [z]; exact hP))]; exact h
    · by_cases e : a = c'
      · rw [e, upd_same]; exact fun z => nomatch z
      · rw [upd_ne e]
        by_cases e2 : a = P
        · rw [e2, upd_same]; exact fun z => nomatch z
        · rw [upd_ne e2]; exact h
theorem newT_ft {ps : Array Value} {c' : Addr} {H1 : Hp} (tr : ∀ a, O a ≠ none → H a ≠ none) (hP : O P = some .tmp) (n : NewT H P ps q c' H1) : Ft O H O H1 := by
  obtain ⟨h1, _⟩ := NewT.ft tr hP n
  refine ⟨fun a o h z => ⟨?_, z⟩, fun a o h z => ⟨h1 a o h (by rw [z]; exact fun e => nomatch e), z⟩⟩
  rcases h with h | ⟨k, ob, e, h⟩
  · exact .inl (h1 a _ h (by rw [z]; exact fun e => nomatch e))
  · exact .inr ⟨k, ob, e, h1 a _ h (by rw [z]; exact fun e => nomatch e)⟩
theorem newT_rl {ps : Array Value} {c' : Addr} {H1 : Hp} (rl : Rl K T mu io O fr σ H) (hP : O P = some .tmp) (n : NewT H P ps q c' H1) : Rl K T mu io O fr σ H1 := by
  obtain ⟨h1, h2⟩ := NewT.ft rl.trk hP n
  have F := newT_ft rl.trk hP n
  exact rl.monoB F.byv F.out (fun i _ a o w h e z => ⟨h1 a o h (by rw [e]; rcases z with rfl | ⟨g, rfl⟩ <;> exact fun z => nomatch z), e⟩) fun a z => h2 a (rl.trk a z)
theorem newT_tab {ps : Array Value} {c' : Addr} {H1 : Hp} (tr : ∀ a, O a ≠ none → H a ≠ none) (tb : TabO q P O H) (hps : H P = some (.tbl ps)) (n : NewT H P ps q c' H1) : TabO q P O H1 := by
  rcases n with rfl | ⟨nc, more, rfl, ht2, ha2⟩
  · exact tb
  · obtain ⟨h, ps', hP, ht, ha⟩ := tb
    rw [hps] at hP
    cases hP
    refine ⟨h, ps ++ more, by rw [upd_ne (ne_of_none hps nc), upd_same], ht2, fun pos cv hc => ?_⟩
    rcases ha2 pos cv hc with z | z
    · obtain ⟨c, e, hcO, n⟩ := ha pos cv z
      exact ⟨c, e, by rw [upd_ne (ne_of_none hcO nc), upd_ne (fun z => by rw [z, hps] at hcO; exact codeO_ne ps (Option.some.inj hcO).symm)]; exact hcO, n⟩
    · refine ⟨c', z, upd_same, ?_⟩
      cases e : O c' with
      | none => rfl
      | some w => exact absurd nc (tr c' (by rw [e]; exact fun z => nomatch z))
/-- all that is owned is out of reach -/
def shO (O : Own) : Own := fun a => (O a).map fun _ => Ow.out
theorem shO_none {a : Addr} (h : O a = none) : shO O a = none := by unfold shO; rw [h]; rfl
theorem shO_out {a : Addr} (h : O a ≠ none) : shO O a = some .out := by
  unfold shO
  cases e : O a with
  | none => exact absurd e h
  | some w => rfl
theorem sh_rl {own : List Nat} (rl : Rl K T mu io O fr σ H) (hmu : ∀ i, mu i = true → i ∈ own) (hbo : ∀ i, mu (BOR + i) = false) : Rl K T (fun _ => false) [] (shO O) (wipF fr own) σ H := by
  refine ⟨by rw [wipF_len]; exact rl.len, fun i v e => ?_, fun a z => rl.trk a fun n => z (shO_none n), fun p hp => nomatch hp⟩
  obtain ⟨e1, e2⟩ := wipF_some e
  have hm : mu i = false := by
    cases z : mu i with
    | false => rfl
    | true => exact absurd (hmu i z) e2
  obtain ⟨x, h1, h2⟩ := rl.val e1 hm (hbo i)
  exact ⟨x, h1, slr_val rfl (VR.monoB (fun a o h n => ⟨h, shO_none n⟩) _ _ h2)⟩
structure Shd (O : Own) (H H' : Hp) : Prop where
  keep : ∀ a o, H a = some o → O a ≠ none → H' a = some o
  byv : Fb O H O H'
theorem sh_of {O' : Own} {H' : Hp} (f : Fm (shO O) H O' H') : Shd O H H' :=
  ⟨fun a o h n => (f.out a o h (shO_out n)).1, fun a o h n => ⟨(f.byv a o h (shO_none n)).1, n⟩⟩
theorem Shd.ft {H' : Hp} (s : Shd O H H') : Ft O H O H' := ⟨s.byv, fun a o h n => ⟨s.keep a o h (by rw [n]; exact fun z => nomatch z), n⟩⟩
theorem Shd.rl {H' : Hp} (s : Shd O H H') (rl : Rl K T mu io O fr σ H) : Rl K T mu io O fr σ H' :=
  rl.monoB s.byv s.ft.out (fun i _ a o w h e _ => ⟨s.keep a o h (by rw [e]; exact fun z => nomatch z), e⟩) fun a z => by
    cases e : H a with
    | none => exact absurd e (rl.trk a z)
    | some o => rw [s.keep a o e z]; exact fun z => nomatch z
theorem Shd.tab {H' : Hp} (s : Shd O H H') (tb : TabO q P O H) : TabO q P O H' := tb.monoT s.byv fun o h n => ⟨s.keep P o h (by rw [n]; exact fun z => nomatch z), n⟩
/-- from what the callee's frame tells to ours -/
theorem sh_back {O' : Own} {H' : Hp} (rl : Rl K T mu io O fr σ H) (f : Fm (shO O) H O' H') {v : Val} {x : V} (h : VR K T O' H' v x) : VR K T O H' v x :=
  VR.monoB (fun a o e n => ⟨e, by
    cases z : O a with
    | none => rfl
    | some w =>
      have hne : O a ≠ none := by rw [z]; exact fun q => nomatch q
      cases hh : H a with
      | none => exact absurd hh (rl.trk a hne)
      | some o' =>
        have := (f.out a o' hh (shO_out hne)).2
        rw [n] at this; cases this⟩) _ _ h
end
section
variable {X : Cx} {T : Tb} {mu : Nat → Bool} {io : List (Nat × V)}
theorem told_imp {own : List Nat} {num g : Nat} {fn q : Str} {P : Addr} {m : EM} {σ : L2.St} {H : Hp} {Q : VK} (hmu : ∀ i, mu i = true → i ∈ own) (hbo : ∀ i, mu (BOR + i) = false) (hf : T.fld g = fn) (h : rEt X.K T mu io q P (eTold own num g m) σ H Q) :
    tLamP P q (TTx (T.cl num) fn) (fun E => rE X.K T E (fun _ => false) [] m) σ H Q := by
  subst hf
  obtain ⟨O, fr, rl, tb, w⟩ := h
  obtain ⟨hO, ps, hP, ht, ha⟩ := id tb
  refine ⟨ps, hP, ht, fun pos cv hc => let ⟨c, e1, e2, _⟩ := ha pos cv hc; ⟨c, e1, e2⟩, fun H1 c' nT hco => ?_⟩
  have R1 := newT_rl rl hO nT
  have t1 := newT_tab rl.trk tb hP nT
  have F1 := newT_ft rl.trk hO nT
  refine ⟨shO O, wipF fr own, sh_rl R1 hmu hbo, ?_⟩
  unfold eTold at w
  cases hm : m (wipF fr own) with
  | bad => rw [hm] at w; exact w.elim
  | ok p =>
    obtain ⟨v, fr'⟩ := p
    rw [hm] at w
    intro O' H' x F' R' V'
    have s := sh_of F'
    exact w O H' .non (F1.trans s.ft) (s.rl R1) (s.tab t1) (by unfold VR; rfl)
  | exc e =>
    rw [hm] at w
    intro O' H' cls d F' Xr
    have s := sh_of F'
    obtain ⟨c, fs, vs, ws, fs', da, e1, e2, e3, e4, e5, e6⟩ := Xr
    subst e1
    simp only at w
    split at w
    · rename_i c0 g' z heq
      cases heq
      split at w
      · rename_i hc
        obtain ⟨rfl, rfl, hl⟩ := hc
        obtain ⟨y, r, rfl, hy, hr⟩ := e6.inv
        obtain rfl := hr.inv0
        unfold VR at hy
        obtain ⟨zz, rfl, hz⟩ := hy
        have ez : zz = ⟨(zz.cps.toList).toArray⟩ := by cases zz; rfl
        have er : (PySem.reprText zz).cps.toList = reprSg z := by unfold reprSg; rw [← hz, ← ez]
        have el : (PySem.reprText zz).length = (reprSg z).length := by rw [← er]; simp [PySem.Str.length]
        refine ⟨da, fs', zz, e2, e3, e4, ?_, by rw [el, sizeLine_eq]; exact hl, fun p hp => ?_⟩
        · rw [e5.2.2.2]; simp
        · have X2 : Hx H' (upd H' p (.lst [.str (PySem.reprText zz), .bl true])) := Hx.upd hp
          have R2 := (s.rl R1)
          refine w O _ (.ref p) ((F1.trans s.ft).trans (.of X2.fm)) (R2.hx X2) ((s.tab t1).mono X2.fm) ?_
          unfold VR
          refine ⟨p, _, rfl, ⟨upd_same, own_new R2.trk hp⟩, .cons ?_ (.cons (by unfold VR; rfl) .nil)⟩
          unfold VR
          exact ⟨_, rfl, er⟩
      · exact w.elim
    · exact w.elim
/-- told(lambda: body), the def told as told_givesX has it -/
theorem et_told {own : List Nat} {num g0 : Nat} {fn : Str} {m : EM} {x a : Str} {g c P : Addr} {k : Nat} {pg : Arguments} {bg : List Stmt} {sg : Scope} {dV kV doc pm cdv ct oc : Value} {an od : Option Addr} {osl : Array (Option Value)} {Ng : List Str}
    {params : Arguments} {body : Expr} {scope : Scope} {p lpos pos : Pos} (hmu : ∀ i, mu i = true → i ∈ own) (hbo : ∀ i, mu (BOR + i) = false) (hf : T.fld g0 = fn) (hg : Gl X x) (hm : X.mg x = some (.ref g)) (hk : PySem.W.keepIn X.K (.ref g) = true)
    (lk : X.K.lookup g = some ⟨oc, od, .func (PySem.W.fnOf x x pg bg sg dV kV doc pm an cdv ct), osl⟩) (hcg : PySem.W.codeIn X.K cdv x = true) (hb : L2.Binds X.K (PySem.W.fnOf x x pg bg sg dV kV doc pm an cdv ct) [a] []) (Sg : FnScope Ng [a] sg) (hNg : Ng[0]? = some a) (hva : Vis sg a)
    (hG : GivesTo X Ng x sg g cdv bg a (X.env.qual ++ "<lambda>") (TTx (T.cl num) fn))
    (TB : TabB X.base X.mg c P) (hcode : X.env.code = .ref c) (hr : Room (k + 2) X.A) (L : LamS X.env.scope scope) (hdef : defaultsOf params X.env = ([], []))
    (hbind : ∀ (q : Str) (cl : List (Str × Addr)) (pm cv ctv : Value), bindArgs (PySem.W.kla_fn "<lambda>" q params body scope cl pm cv ctv) ⟨[], []⟩ = pure [])
    (hbody : ∀ (A : Around) (outer : List Env) (s : Shared) (H : Hp) (E : XK) (f c' : Addr), Room k (A.deeper (lamEnv X scope s.heap.objs.size f c')) → SE (lamCx X A outer s H E scope f c') T E (fun _ => false) [] body m)
    (hdb : (x == ("__debug__" : Str)) = false := by decide) (hd : (a == ("__debug__" : Str)) = false := by decide) (hcd : (a == ("__classdict__" : Str)) = false := by decide) :
    PE X (.Call (.Name x p) [.Lambda params body scope lpos] [] pos) (rEt X.K T mu io (X.env.qual ++ "<lambda>") P (eTold own num g0 m)) :=
  PE.imp (pe_lamcallP (t := fun E => rE X.K T E (fun _ => false) [] m) hg hm hk lk hcg hb Sg hNg hva hG TB hcode hr L hdef hbind (fun A outer s H E f c' r => hbody A outer s H E f c' r) hdb hd hcd) fun σ H Q h => told_imp hmu hbo hf h
end
/-- a law's promise, its table empty at the beginning -/
def spT (K : PySem.W.Frag) (P : Addr) (m : FnM) : Sp := fun vs H Q E => ∃ a ns o, vs = [.ref a] ∧ H P = some (.tbl #[]) ∧ SqL K H a (ns.map V.int) ∧ m [.scr ns] = .ok (.bl true, o) ∧ ∀ H', Q (.bl true) H'
theorem fn_lawT {CX : CXT} {Pr : Program} {w : World} {K : PySem.W.Frag} {mg : Str → Option Value} {base : Heap} {x qual p : Str} {params : Arguments} {body : List Stmt} {scope : Scope} {dvs : List V} {kws : List (Str × V)} {f c P : Addr} {fd : FuncData} {N : List Str} {k : Nat} {T : Tb} {mu : Nat → Bool} {m : SM} {q : Str}
    (F : FunD K x qual params body scope dvs kws f fd) (S : FnScope N [p] scope) (hl : 1 ≤ N.length) (hm0 : mu 0 = false) (hb0 : mu (BOR + 0) = false) (hcd : ∀ (dV kV doc pm : Value) (an : Option Addr) (cdv ct : Value), fd = PySem.W.fnOf x qual params body scope dV kV doc pm an cdv ct → cdv = .ref c)
    (hbody : ∀ (A : Around) (outer : List Env) (s : Shared) (H : Hp) (vs : List V) (E : XK), Room k (A.deeper (PyProof.Rows.envOfC qual scope s.heap.objs.size f (.ref c))) →
      PSs (cxOf CX Pr w K mg base N qual scope f (.ref c) A outer s H E) body (rSt K T mu (([] : List Nat).map fun j => (j, vs.getD j V.non)) q P m)) :
    FnOk Pr w K mg base CX (k + 1) f fd [p] (spT K P (runF N.length [] false m)) := by
  obtain ⟨oc, od, dV, kV, doc, pm, an, cdv, ct, osl, e, lk, hcdd, _, _⟩ := F.ex
  have ec := hcd _ _ _ _ _ _ _ e
  subst ec
  subst e
  refine fn_of lk hcdd S (fun vs H Q E h => ?_) fun A outer s H vs Q E hr hsp => ?_
  · obtain ⟨a, ns, o, rfl, _⟩ := h
    rfl
  · obtain ⟨a, ns, o, rfl, hP, hS, hm, hq⟩ := hsp
    let O : Own := fun b => if b = P then some .tmp else none
    have hOP : O P = some .tmp := if_pos rfl
    have hO : ∀ b, b ≠ P → O b = none := fun b h => if_neg h
    have tr : ∀ b, O b ≠ none → H b ≠ none := fun b h => by
      by_cases e : b = P
      · rw [e, hP]; exact fun z => nomatch z
      · exact absurd (hO b e) h
    have hA : ArgsR K T O H [] [] 0 [.scr ns] [.ref a] := by
      refine ⟨?_, trivial⟩
      show VR K T O H (.scr ns) (.ref a)
      unfold VR
      refine ⟨a, rfl, ?_⟩
      rcases hS with (h1 | ⟨o, h1⟩) | h1
      · exact .inl ⟨h1, hO a fun z => by rw [z, hP] at h1; cases h1⟩
      · exact .inr (.inl ⟨⟨o, h1⟩, hO a fun z => by rw [z, hP] at h1; cases h1⟩)
      · exact .inr (.inr fun _ => .inr h1)
    have rl : Rl K T mu [] O (initF N.length [.scr ns]) (L2.start N [V.ref a]) H := Rl.start (iop := []) (bop := []) tr hA hl (fun i hi => by
      have : i = 0 := by simpa using hi
      rw [this, hm0]; rfl) (fun i hi => by
      have : i = 0 := by simpa using hi
      rw [this, hb0]; rfl) (fun j hj => nomatch hj)
    refine ⟨_, hbody A outer s H [.ref a] E hr, O, initF N.length [.scr ns], rl, ⟨hOP, #[], hP, True.intro, fun pos cv hc => ?_⟩, ?_⟩
    · have z : codeAmong pos [] = some cv := hc
      simp [codeAmong] at z
    · unfold runF at hm
      cases hb : m (initF N.length [.scr ns]) with
      | bad => rw [hb] at hm; cases hm
      | exc e => rw [hb] at hm; cases hm
      | ok pp =>
        obtain ⟨fl, fr'⟩ := pp
        rw [hb] at hm
        simp only [SK.R.bind_ok] at hm
        cases fl with
        | nx => simp [outsOf, ofO] at hm
        | bk => cases hm
        | ct => cases hm
        | rt v =>
          have hv : v = .bl true := by
            simp [outsOf, ofO, SK.R.bind] at hm
            exact hm.1
          subst hv
          intro O' H' x V
          unfold VR at V
          subst V
          exact hq H'
end SK

set_option maxHeartbeats 2000000
/-! SK65: facts for laws with lambdas; the Hook with the law's table of code objects. -/
noncomputable section
namespace SK
open PySem PySem.Spec PyProof.Rows L2 LamX
def exmB (x : Str) (K : PySem.W.Frag) : Bool := decide (PySem.W.exmOne K (.ref (He.ga K x)) (.ref (He.ga K x)) = some true)
theorem exmB_ok {x : Str} {K : PySem.W.Frag} (h : exmB x K = true) : PySem.W.exmOne K (.ref (He.ga K x)) (.ref (He.ga K x)) = some true := of_decide_eq_true h
def lawAt : Str × Option Str := ("law", none)
def cdX (K : PySem.W.Frag) : Addr := match (fdA K lawAt).code with
  | .ref c => c
  | _ => 0
def isRf : Value → Bool
  | .ref _ => true
  | _ => false
def cdXB (P : Addr) (K : PySem.W.Frag) : Bool := isRf (fdA K lawAt).code && PySem.W.codeHdIn K (cdX K) P
theorem cdXB_code {P : Addr} {K : PySem.W.Frag} (h : cdXB P K = true) : (fdA K lawAt).code = .ref (cdX K) := by
  obtain ⟨h1, _⟩ := Bool.and_eq_true_iff.mp h
  unfold cdX
  unfold isRf at h1
  split at h1
  · rename_i c hc; rw [hc]
  · cases h1
theorem cdXB_hd {P : Addr} {K : PySem.W.Frag} (h : cdXB P K = true) : PySem.W.codeHdIn K (cdX K) P = true := (Bool.and_eq_true_iff.mp h).2
theorem cdX_law {P : Addr} {K : PySem.W.Frag} (h : cdXB P K = true) {x qual : Str} {params : Arguments} {body : List Stmt} {scope : Scope} : ∀ (dV kV doc pm : Value) (an : Option Addr) (cdv ct : Value), fdA K lawAt = PySem.W.fnOf x qual params body scope dV kV doc pm an cdv ct → cdv = .ref (cdX K) := fun dV kV doc pm an cdv ct e => by
  have h1 := cdXB_code h
  have h2 : (fdA K lawAt).code = cdv := by rw [e] <;> rfl
  rw [← h2, h1]
/-! ### the Hook -/
def tblB : Option Obj → Bool
  | some ⟨.none, none, .fields ps, sl⟩ => ps.isEmpty && sl.isEmpty
  | _ => false
def TblAt (o : Option Obj) : Prop := tblB o = true
abbrev AlT : Type := AlY × Bool
open He in
def adsT (n : Nat) (P : Addr) : List Addr := (List.range n).filter fun a => !(a == P)
open He in
def obsTG (n : Nat) (P : Addr) (ck : List (PySem.W.Frag → Bool)) (fn : List DefX) (ts : List Tbl) (g : Addr → Option Obj) : AlT := (obsY ck fn ts (frG g (adsT n P)), tblB (g P))
theorem frG_no {g : Addr → Option Obj} {P : Addr} : ∀ as : List Addr, P ∉ as → (He.frG g as).lookup P = none
  | [], _ => rfl
  | b :: r, h => by
    have h1 : P ≠ b := fun z => h (by rw [z]; exact List.mem_cons_self)
    have h2 := frG_no (g := g) r fun z => h (List.mem_cons_of_mem _ z)
    unfold He.frG at h2 ⊢
    cases hb : g b with
    | none => rw [List.filterMap_cons, hb]; exact h2
    | some o =>
      rw [List.filterMap_cons, hb]
      show List.lookup P ((b, o) :: _) = none
      rw [List.lookup_cons, beq_eq_false_iff_ne.mpr h1]
      exact h2
theorem adsT_no {n : Nat} {P : Addr} : P ∉ adsT n P := fun h => by
  unfold adsT at h
  have := (List.mem_filter.mp h).2
  simp at this
open He in
def hookT (n : Nat) (P : Addr) (ck : List (PySem.W.Frag → Bool)) (fn : List DefX) (ts : List Tbl) : PySem.W.Hook where
  α := AlT
  obs := fun s => obsTG n P ck fn ts s.heap.get?
  val := fun w => (valY fn ts w, true)
  says := fun w h => ∃ K : PySem.W.Frag, K.In h ∧ SaysY ck fn ts w K ∧ K.lookup P = none ∧ h.get? P = some { cls := .none, data := .fields #[] }
  of := fun w s e => by
    have e1 : obsY ck fn ts (frG s.heap.get? (adsT n P)) = valY fn ts w := congrArg (fun z : AlT => z.1) e
    have e2 : tblB (s.heap.get? P) = true := congrArg (fun z : AlT => z.2) e
    refine ⟨_, frG_in, e1, frG_no _ adsT_no, ?_⟩
    unfold tblB at e2
    split at e2
    · rename_i ps sl ho
      obtain ⟨a, b⟩ := Bool.and_eq_true_iff.mp e2
      have a := Array.isEmpty_iff.mp a
      have b := Array.isEmpty_iff.mp b
      subst a b
      rw [ho] <;> rfl
    · cases e2
  keeps := fun _ _ _ ⟨K, hK, c, n, t⟩ k => ⟨K, PySem.W.Frag.In.keeps hK k, c, n, k _ _ t⟩
theorem obsTG_eq {n : Nat} {P : Addr} {ck : List (PySem.W.Frag → Bool)} {fn : List DefX} {ts : List Tbl} {g : Addr → Option Obj} {s : Shared} (h : ∀ a, g a = s.heap.get? a) : obsTG n P ck fn ts g = (hookT n P ck fn ts).obs s := by
  have e : g = s.heap.get? := funext h
  rw [e] <;> rfl
end SK

set_option maxHeartbeats 2000000
/-! SK66: a law told at its caller alone: no repr is under way there. -/
noncomputable section
namespace SK
open PySem PySem.Spec PyProof.Rows L2 LamX
structure LawOk (P : Program) (w : World) (K : PySem.W.Frag) (mg : Str → Option Value) (base : Heap) (CX : CXT) (k : Nat) (fa : Addr) (fd : FuncData) (x : Str) (sp : Sp) : Prop where
  run : ∀ (s : Shared) (H : Hp) (u : Value) (v : V) (Q : VK) (E : XK), Room k callerA → Env0 P w K mg base callerA [] s H → BindsTo s fd ⟨[u], []⟩ [(x, u)] → RelV v u → sp [v] H Q E → codeAny (model P w) callerA (.call (.ref fa) ⟨[u], []⟩) (CR CX [] P w H s Q E) s
/-- what is tracked ahead of a law: its tables, empty, and the script, locked (if K does not tell of it) -/
def topH (K : PySem.W.Frag) (cs : List (Addr × Addr)) (a : Addr) (o : Obj) (xs : List V) : Hp := fun b => if cs.any (fun p => p.2 == b) = true then some (.tbl #[]) else if (b == a && (K.lookup a).isNone) = true then some (.frz o (.lst xs)) else none
theorem topH_tbl {K : PySem.W.Frag} {cs : List (Addr × Addr)} {a : Addr} {o : Obj} {xs : List V} {p : Addr × Addr} (hp : p ∈ cs) : topH K cs a o xs p.2 = some (.tbl #[]) := if_pos (List.any_eq_true.mpr ⟨p, hp, (show (p.2 == p.2) = true from beq_self_eq_true p.2)⟩)
theorem topH_of {K : PySem.W.Frag} {cs : List (Addr × Addr)} {a b : Addr} {o : Obj} {xs : List V} {u : HO} (h : topH K cs a o xs b = some u) : ((∃ p ∈ cs, p.2 = b) ∧ u = .tbl #[]) ∨ (b = a ∧ K.lookup a = none ∧ u = .frz o (.lst xs)) := by
  unfold topH at h
  split at h
  · rename_i q
    obtain ⟨p, hp, e⟩ := List.any_eq_true.mp q
    exact .inl ⟨⟨p, hp, eq_of_beq e⟩, (Option.some.inj h).symm⟩
  · split at h
    · rename_i q
      obtain ⟨q1, q2⟩ := Bool.and_eq_true_iff.mp q
      exact .inr ⟨eq_of_beq q1, Option.isNone_iff_eq_none.mp q2, (Option.some.inj h).symm⟩
    · cases h
section
variable {P : Program} {w : World} {K : PySem.W.Frag} {mg mb : Str → Option Value} {h : Heap} {a : Addr} {cs : List (Addr × Addr)} {vs : List Value} {ns : List Int}
/-- the objects ahead of a law -/
structure Ahead (K : PySem.W.Frag) (mg mb : Str → Option Value) (h : Heap) (a : Addr) (cs : List (Addr × Addr)) (vs : List Value) (ns : List Int) : Prop where
  kx : K.In h
  g : h.Ns mainGlobals mg
  b : h.Ns builtinsNs mb
  bb : ∀ x : Str, x ≠ "__name__" → mb x = bootBuiltins x
  lim : h.NoLimit
  tb : ∀ p ∈ cs, h.get? p.2 = some { cls := .none, data := .fields #[] }
  nt : ∀ p ∈ cs, K.lookup p.2 = none
  sc : h.get? a = some { cls := .type "list", data := .seq vs.toArray }
  hns : IntsAre vs ns
  len : ns.length ≤ sizeLine
abbrev Ahead.H (_ : Ahead K mg mb h a cs vs ns) : Hp := topH K cs a { cls := .type "list", data := .seq vs.toArray } (ns.map V.int)
variable (D : Ahead K mg mb h a cs vs ns)
/-- neither a list nor an empty row of fields: it is not tracked -/
theorem Ahead.plain {b : Addr} {o : Obj} (e : h.get? b = some o) (h1 : ∀ us n, o.data ≠ .seq us n) (h2 : o.data ≠ .fields #[]) : D.H b = none := by
  cases q : D.H b with
  | none => rfl
  | some u =>
    rcases topH_of q with ⟨⟨p, hp, rfl⟩, _⟩ | ⟨rfl, _, _⟩
    · rw [D.tb p hp] at e; cases e; exact absurd rfl h2
    · rw [D.sc] at e; cases e; exact absurd rfl (h1 _ _)
theorem Ahead.vis {b : Addr} {o : Obj} (e : h.get? b = some o) (h1 : ∀ us n, o.data ≠ .seq us n) (h2 : o.data ≠ .fields #[]) : (hidT h D.H).get? b = some o := hidT_get e (D.plain e h1 h2)
theorem Ahead.nss {b : Addr} {m : Str → Option Value} : h.Ns b m → (hidT h D.H).Ns b m := fun ⟨o, es, ep, e, d, r⟩ => ⟨o, es, ep, D.vis e (fun us n z => by rw [d] at z; cases z) (fun z => by rw [d] at z; cases z), d, r⟩
theorem Ahead.kin : K.In (hidT h D.H) := fun b o e => hidT_get (D.kx b o e) (by
  cases q : D.H b with
  | none => rfl
  | some u =>
    rcases topH_of q with ⟨⟨p, hp, rfl⟩, _⟩ | ⟨rfl, n, _⟩
    · rw [D.nt p hp] at e; cases e
    · rw [n] at e; cases e)
theorem Ahead.hok : HOk P w D.H h := fun b u q => by
  rcases topH_of q with ⟨⟨p, hp, rfl⟩, rfl⟩ | ⟨rfl, _, rfl⟩
  · exact D.tb p hp
  · exact ⟨D.sc, by rw [List.length_map]; exact D.len, vs, _, vals_ints D.hns, D.sc⟩
theorem Ahead.env0 {s : Shared} (e : s.heap = h) (hg : s.gens = #[]) : Env0 P w K mg (hidT h D.H) callerA [] s D.H := by
  subst e
  exact ⟨rfl, ⟨D.kin, D.nss D.g, ⟨mb, D.nss D.b, D.bb⟩, let ⟨mc, h1, h2⟩ := D.lim; ⟨mc, D.nss h1, h2⟩⟩, fun b o q => of_hidT q, Nat.le_of_eq (hidT_size _ _), trivial, (fun b hb => nomatch hb), D.hok, .of_eq hg⟩
theorem Ahead.sq : SqL K D.H a (ns.map V.int) := by
  cases q : K.lookup a with
  | some o =>
    have e := D.kx a o q
    rw [D.sc] at e
    cases e
    exact .inr ⟨_, vs.toArray, _, q, rfl, rfl, rfl, by rw [List.size_toArray, D.hns.length]; exact D.len, by simpa using vals_ints D.hns⟩
  | none =>
    refine .inl (.inr ⟨{ cls := .type "list", data := .seq vs.toArray }, ?_⟩)
    show topH K cs a _ _ a = _
    have n1 : ¬ cs.any (fun p => p.2 == a) = true := fun z => by
      obtain ⟨p, hp, e⟩ := List.any_eq_true.mp z
      have e2 := D.tb p hp
      rw [eq_of_beq e, D.sc] at e2
      cases e2
    unfold topH
    rw [if_neg n1, if_pos (by rw [q]; simp)]
theorem Ahead.tabB {c P0 : Addr} (hp : (c, P0) ∈ cs) (C : PySem.W.CodeHd h c P0)
    (hbm : ∃ (bm : Addr) (ob : Obj), mg "__builtins__" = some (.ref bm) ∧ bm ≠ builtinsNs ∧ h.get? bm = some ob ∧ ob.cls = .type "module" ∧ ob.dict = some builtinsNs ∧ ob.data = .plain) : TabB (hidT h D.H) mg c P0 := by
  have tP := D.tb _ hp
  refine ⟨?_, ?_, ?_⟩
  · obtain ⟨o, us, file, tf, flags, tg, inF, text, tt, e1, r1, r2, r3, rest⟩ := C
    exact ⟨o, us, file, tf, flags, tg, inF, text, tt, D.vis e1 (fun vs n z => by rw [r2] at z; cases z) (fun z => by rw [r2] at z; cases z; simp at r3), r1, r2, r3, rest⟩
  · obtain ⟨bm, ob, b1, b2, b3, b4, b5, b6⟩ := hbm
    refine ⟨bm, ob, b1, b2, fun q => ?_, fun q => ?_, D.vis b3 (fun us n z => by rw [b6] at z; cases z) (fun z => by rw [b6] at z; cases z), b4, b5, b6⟩
    · obtain ⟨o, es, ep, e, d, _⟩ := D.g
      rw [← q, b3] at e; cases e
      rw [b6] at d; cases d
    · have tP : h.get? P0 = _ := tP
      rw [← q, b3] at tP; cases tP; cases b6
  · intro q
    obtain ⟨o, es, ep, e, d, _⟩ := D.g
    have tP : h.get? P0 = _ := tP
    rw [← q, e] at tP; cases tP; cases d
/-- behind the law: old objects stand, tables have grown -/
theorem Ahead.old {H' : Hp} {h' : Heap} (C : ∀ p ∈ cs, PySem.W.CodeHd h p.1 p.2) (un : Un (frs []) [] D.H H' h h') (hok : HOk P w H' h') : OldK h h' := by
  have grown : ∀ p ∈ cs, ∃ more : Array Value, h'.get? p.2 = some { cls := .none, data := .fields more } := fun p hp => let ⟨more, z⟩ := un.tbls p.2 #[] (topH_tbl hp); ⟨_, hok p.2 _ z⟩
  have stays : ∀ b o, (∀ p ∈ cs, p.2 ≠ b) → h.get? b = some o → h'.get? b = some o := fun b o nb e => by
    cases q : D.H b with
    | none => exact un.keep b o e q (fun z => nomatch z) (fun z => nomatch z)
    | some u =>
      rcases topH_of q with ⟨⟨p, hp, z⟩, _⟩ | ⟨rfl, _, rfl⟩
      · exact absurd z (nb p hp)
      · rw [D.sc] at e; cases e
        exact (hok _ _ (un.frzs _ _ _ q)).1
  refine ⟨fun b o e => ?_, fun b o e => ?_⟩
  all_goals
    by_cases hb : ∃ p ∈ cs, p.2 = b
    · obtain ⟨p, hp, rfl⟩ := hb
      obtain ⟨more, hm⟩ := grown p hp
      first
        | exact ⟨_, hm⟩
        | (rw [D.tb p hp] at e; cases e; exact .inr (.inl ⟨((C p hp).tab (D.tb p hp)).isCodeTable, rfl, #[], more, rfl, by rw [Array.empty_append]; exact hm⟩))
    · have z := stays b o (fun p hp q => hb ⟨p, hp, q⟩) e
      first
        | exact ⟨o, z⟩
        | exact .inl z
end
theorem law_callC {P : Program} {w : World} {K : PySem.W.Frag} {mg mb : Str → Option Value} {CX : CXT} {k : Nat} {fa a : Addr} {cs : List (Addr × Addr)} {fd : FuncData} {x : Str} {sp : Sp} {s : Shared} {vs : List Value} {ns : List Int} (D : Ahead K mg mb s.heap a cs vs ns) (hg : s.gens = #[])
    (C : ∀ p ∈ cs, PySem.W.CodeHd s.heap p.1 p.2) (hbm : ∃ (bm : Addr) (ob : Obj), mg "__builtins__" = some (.ref bm) ∧ bm ≠ builtinsNs ∧ s.heap.get? bm = some ob ∧ ob.cls = .type "module" ∧ ob.dict = some builtinsNs ∧ ob.data = .plain) (hr : Room k callerA)
    (F : ∀ base : Heap, K.In base → base.Ns mainGlobals mg → (∀ p ∈ cs, TabB base mg p.1 p.2) → LawOk P w K mg base CX k fa fd x sp) (hbind : ∀ (s : Shared) (u : Value), BindsTo s fd ⟨[u], []⟩ [(x, u)])
    (hsp : ∀ H : Hp, (∀ p ∈ cs, H p.2 = some (.tbl #[])) → SqL K H a (ns.map V.int) → sp [.ref a] H (fun v _ => v = .bl true) fun _ _ _ => False) (hCX : ∀ H e s', CX [] H s (fun _ _ _ => False) e s' → False) :
    codeAny (model P w) callerA (.call (.ref fa) ⟨[.ref a], []⟩) (fun r s' => r = .ok (.ret (.bool true)) ∧ OldK s.heap s'.heap ∧ s'.os = s.os ∧ AllBare s'.gens) s := by
  have R := (F _ D.kin (D.nss D.g) fun p hp => D.tabB hp (C p hp) hbm).run s D.H (.ref a) (.ref a) _ _ hr (D.env0 rfl hg) (hbind s (.ref a)) rfl (hsp D.H (fun p hp => topH_tbl hp) D.sq)
  refine codeAny_mono R fun r s' z => ?_
  match r, z with
  | .error e, z => exact (hCX _ e s' z).elim
  | .ok (.ret u), z =>
    obtain ⟨v, H', os, bare, un, hok', rv, q⟩ := z
    have q : v = .bl true := q
    subst q
    have rv : u = .bool true := rv
    subst rv
    exact ⟨rfl, D.old C un hok', os, bare⟩
def LawAtC (l : PySem.W.OpenLaw) (w : World) (K : PySem.W.Frag) (CX : CXT) (k n : Nat) (x : Str) (mg : Str → Option Value) (fa : Addr) (h : Heap) : Prop :=
  ∃ (fd : FuncData) (cs : List (Addr × Addr)) (sp : Sp), (∀ p ∈ cs, h.get? p.2 = some { cls := .none, data := .fields #[] }) ∧ (∀ p ∈ cs, K.lookup p.2 = none) ∧ (∀ p ∈ cs, PySem.W.CodeHd h p.1 p.2) ∧ (∀ (s : Shared) (u : Value), BindsTo s fd ⟨[u], []⟩ [(x, u)]) ∧
    (∀ (H : Hp) (a : Addr) (ns : List Int), ns.length ≤ n → (∀ p ∈ cs, H p.2 = some (.tbl #[])) → SqL K H a (ns.map V.int) → sp [.ref a] H (fun v _ => v = .bl true) fun _ _ _ => False) ∧
    ∀ base : Heap, K.In base → base.Ns mainGlobals mg → (∀ p ∈ cs, TabB base mg p.1 p.2) → LawOk l.prog w K mg base CX k fa fd x sp
theorem walk_ofC {l : PySem.W.OpenLaw} {n k : Nat} {q : Program} {loose : List Str} {XP : (Str → Option Value) → Heap → Prop} {YP : World → Heap → Prop} {d : DefRec} {CX : World → CXT} {x : Str}
    (hn : l.most = some n) (hn2 : n ≤ sizeLine) (hdf : d.params.defaults = []) (hr : Room k callerA)
    (F : ∀ (w : World) (mg : Str → Option Value) (fa : Addr) (h : Heap), YP w h → h.Ns mainGlobals mg → mg d.name = some (.ref fa) → ∃ K : PySem.W.Frag, K.In h ∧ LawAtC l w K (CX w) k n x mg fa h)
    (hCX : ∀ (w : World) (H : Hp) (s : Shared) (e : Value) (s' : Shared), CX w [] H s (fun _ _ _ => False) e s' → False) :
    PySem.W.WalkO q loose XP YP l.row.toRowW d [] (fun f vs => PySem.call f vs) := by
  refine Att.attach_callB hn hdf fun w s₀ s₁ mg mb fa o pm cd doc a vs ns G Y ho hd hcd hmg hobj hints hlen hbits hg => ?_
  obtain ⟨K, KX, fd, cs, sp, hT, nT, C, hb, hsp, hF⟩ := F w mg fa _ Y G.T.g hmg
  exact law_callC ⟨KX, G.T.g, G.T.b, G.T.builtins, G.T.nolimit, hT, nT, hobj, hints, Nat.le_trans hlen hn2⟩ hg C G.T.bmain hr hF hb (fun H hH hS => hsp H a ns hlen hH hS) fun H e s' => hCX w H s₁ e s'
/-- a law's body at its caller -/
theorem fn_lawC {CX : CXT} {Pr : Program} {w : World} {K : PySem.W.Frag} {mg : Str → Option Value} {base : Heap} {x qual p : Str} {params : Arguments} {body : List Stmt} {scope : Scope} {dvs : List V} {kws : List (Str × V)} {f : Addr} {fd : FuncData} {N : List Str} {k : Nat} {T : Tb} {mu : Nat → Bool} {m : SM}
    (F : FunD K x qual params body scope dvs kws f fd) (S : FnScope N [p] scope) (hl : 1 ≤ N.length) (hm0 : mu 0 = false) (hb0 : mu (BOR + 0) = false) (hro : mu RES = false)
    (hbody : ∀ (cdv : Value) (s : Shared) (H : Hp) (vs : List V) (E : XK), Room k (callerA.deeper (PyProof.Rows.envOfC qual scope s.heap.objs.size f cdv)) → (callerA.deeper (PyProof.Rows.envOfC qual scope s.heap.objs.size f cdv)).guards = some [] →
      SSs (cxOf CX Pr w K mg base N qual scope f cdv callerA [] s H E) T E mu (([] : List Nat).map fun j => (j, vs.getD j V.non)) body m) :
    LawOk Pr w K mg base CX (k + 1) f fd p (spG K T [] [] false 1 (runF N.length [] false m)) := by
  obtain ⟨oc, od, dV, kV, doc, pm, an, cdv, ct, osl, rfl, lk, hcdd, _, _⟩ := F.ex
  refine ⟨fun s H u v Q E hr e0 hb rv hsp => ?_⟩
  refine run_ofS (N := N) (ps := [p]) (us := [u]) (vs := [v]) lk hcdd S hr e0 hb (.cons rv .nil) rfl fun hr' => ?_
  obtain ⟨hvl, O, args, tr, hA, q⟩ := hsp
  have h0 : ∀ i, i < 1 → mu i = ([] : List Nat).contains i := fun i hi => by
    have : i = 0 := by omega
    rw [this, hm0]; rfl
  have h1 : ∀ i, i < 1 → mu (BOR + i) = ([] : List Nat).contains i := fun i hi => by
    have : i = 0 := by omega
    rw [this, hb0]; rfl
  refine ⟨_, hbody cdv s H [v] E hr' rfl, O, initF N.length args, Rl.start (iop := []) (bop := []) tr hA hl h0 h1 (fun j hj => nomatch hj), ?_⟩
  unfold runF at q
  cases hm : m (initF N.length args) with
  | bad => rw [hm] at q; exact q
  | exc e => rw [hm] at q; exact q
  | ok pp =>
    obtain ⟨fl, fr'⟩ := pp
    rw [hm] at q
    simp only [SK.R.bind_ok] at q
    cases fl with
    | bk => exact q.elim
    | ct => exact q.elim
    | nx => exact fun O' H' σ' F' R' => q O' H' .non F' R'.trk trivial (by unfold RtR; rw [if_neg Bool.false_ne_true]; unfold VR; rfl)
    | rt v => exact fun O' H' σ' x F' R' V' => q O' H' x F' R'.trk trivial (by unfold RtR; rw [if_neg Bool.false_ne_true]; unfold RsR at V'; rw [if_neg (by rw [hro]; exact Bool.false_ne_true)] at V'; exact V')
end SK

set_option maxHeartbeats 2000000
/-! SK67: repr of values: texts, numbers, lists, tuples, the empty dict. -/
noncomputable section
namespace SK
open PySem PySem.Spec PyProof.Rows L2 LamX
mutual
def pdOf : Val → Option PyData
  | .non => some .none
  | .bl b => some (.bool b)
  | .int i => some (.int i)
  | .str s => some (.str ⟨s.toArray⟩)
  | .tup xs => (pdAll xs).map .tuple
  | .lst xs => (pdAll xs).map .list
  | .dic [] [] => some (.dict [])
  | _ => none
def pdAll : List Val → Option (List PyData)
  | [] => some []
  | x :: xs => (pdOf x).bind fun d => (pdAll xs).map (d :: ·)
end
/-- the object that holds the modules is a dict, as the text's part K knows -/
def smDB (K : PySem.W.Frag) : Bool := match K.lookup sysModules with
  | some o => (match o.data with
    | .dict _ _ => true
    | _ => false)
  | none => false
theorem smDB_ok {K : PySem.W.Frag} (h : smDB K = true) {hp : Heap} (X : K.In hp) {a : Addr} {o : Obj} (e : hp.get? a = some o) (hn : ∀ es n, o.data ≠ .dict es n) : a ≠ sysModules := fun z => by
  unfold smDB at h
  split at h
  · rename_i o' ho
    have e2 := X _ _ ho
    rw [← z, e] at e2
    cases e2
    split at h
    · rename_i es n hd
      exact hn es n hd
    · cases h
  · cases h
section
variable {Y : Cx} {T : Tb} {pins : List (Addr × Obj)} {σ : L2.St} {O : Own} {H : Hp} {s : Shared}
mutual
theorem reads_of (I : Inv Y pins σ H s) (hs : smDB Y.K = true) (hkd : ∀ a kvs, T.kd a kvs → False) : ∀ (v : Val) (d : PyData) (x : V) (u : Value), pdOf v = some d → VR Y.K T O H v x → RelV x u → ∃ as, Reads s.heap u d as ∧ sysModules ∉ as
  | .non, d, x, u, hd, h, r => by
    unfold pdOf at hd; cases hd
    unfold VR at h; subst h
    have r : u = .none := r
    subst r; exact ⟨[], .none, fun z => nomatch z⟩
  | .bl b, d, x, u, hd, h, r => by
    unfold pdOf at hd; cases hd
    unfold VR at h; subst h
    have r : u = .bool b := r
    subst r; exact ⟨[], .bool _, fun z => nomatch z⟩
  | .int i, d, x, u, hd, h, r => by
    unfold pdOf at hd; cases hd
    unfold VR at h; subst h
    obtain ⟨t, rfl⟩ := (show ∃ t, u = .int i t from r)
    exact ⟨[], .int _ _, fun z => nomatch z⟩
  | .str z, d, x, u, hd, h, r => by
    unfold pdOf at hd; cases hd
    obtain ⟨z', rfl, hz'⟩ := h.str
    obtain ⟨t, rfl⟩ := (show ∃ t, u = .str z' t from r)
    have e : z' = ⟨z.toArray⟩ := str_of_list (by simpa using hz')
    subst e
    exact ⟨[], .str _ _, fun z => nomatch z⟩
  | .tup vs, d, x, u, hd, h, r => by
    unfold pdOf at hd
    cases hp : pdAll vs with
    | none => rw [hp] at hd; cases hd
    | some ds =>
      rw [hp] at hd
      cases hd
      unfold VR at h
      obtain ⟨a, ws, rfl, t, rr⟩ := h
      have r : u = .ref a := r
      subst r
      obtain ⟨its, rv, ⟨o, ho, hc, n, hdd⟩, _⟩ := I.tuple (SqT.fm t (Fb.refl _ _))
      obtain ⟨as, h1, h2⟩ := readsAll_of I hs hkd vs ds ws its hp rr rv
      exact ⟨as, .tuple ho hc hdd (by simpa using h1), h2⟩
  | .lst vs, d, x, u, hd, h, r => by
    unfold pdOf at hd
    cases hp : pdAll vs with
    | none => rw [hp] at hd; cases hd
    | some ds =>
      rw [hp] at hd
      cases hd
      unfold VR at h
      obtain ⟨a, ws, rfl, t, rr⟩ := h
      have r : u = .ref a := r
      subst r
      obtain ⟨_, its, n, rv, ho⟩ := (I.hok a _ t.1 : ObjOk Y.prog Y.w H s.heap a (.lst ws))
      obtain ⟨as, h1, h2⟩ := readsAll_of I hs hkd vs ds ws its hp rr rv
      refine ⟨a :: as, .list ho rfl rfl (by simpa using h1), fun z => ?_⟩
      rcases List.mem_cons.mp z with z | z
      · exact smDB_ok hs I.kIn ho (fun es n e => by cases e) z.symm
      · exact h2 z
  | .dic [] [], d, x, u, hd, h, r => by
    unfold pdOf at hd; cases hd
    unfold VR at h
    obtain ⟨a, kvs, rfl, t, e1, e2⟩ := h
    have r : u = .ref a := r
    subst r
    have ek : kvs = [] := by
      cases kvs with
      | nil => rfl
      | cons p q => simp at e1
    subst ek
    rcases t with ⟨t, _⟩ | t
    · have ho : ObjOk Y.prog Y.w H s.heap a (.dK []) := by
        rcases t with t | ⟨k, ob, e, t⟩
        · exact I.hok a _ t
        · cases e
          exact (I.hok a _ t : ObjOk Y.prog Y.w H s.heap a (.frz ob (.dK []))).2
      obtain ⟨_, na, ws, kv, o, es, ep, g1, g2, g3, _, g5, _⟩ := ho
      have ew : ws = [] := by cases kv; rfl
      subst ew
      have g4 : es.toList = [] := by
        cases hes : es.toList with
        | nil => rfl
        | cons p q => rw [hes] at g5; cases g5
      refine ⟨a :: [] ++ [], .dict g1 g2.1 g3 (kvs := []) (by rw [g4]; exact .nil) (by rw [g4]; exact .nil), fun z => ?_⟩
      have z : sysModules = a := by simpa using z
      exact absurd z.symm (beq_eq_false_iff_ne.mp na)
    · exact (hkd a _ t).elim
  | .dic (_ :: _) _, d, x, u, hd, h, r => by unfold pdOf at hd; cases hd
  | .dic [] (_ :: _), d, x, u, hd, h, r => by unfold pdOf at hd; cases hd
  | .ins _ _ _, d, x, u, hd, h, r => by unfold pdOf at hd; cases hd
  | .scr _, d, x, u, hd, h, r => by unfold pdOf at hd; cases hd
theorem readsAll_of (I : Inv Y pins σ H s) (hs : smDB Y.K = true) (hkd : ∀ a kvs, T.kd a kvs → False) : ∀ (vs : List Val) (ds : List PyData) (xs : List V) (us : List Value), pdAll vs = some ds → VRs Y.K T O H vs xs → Vals xs us → ∃ as, ReadsAll s.heap us ds as ∧ sysModules ∉ as
  | [], ds, xs, us, hd, h, r => by
    unfold pdAll at hd; cases hd
    obtain rfl := h.inv0
    cases r
    exact ⟨[], .nil, fun z => nomatch z⟩
  | v :: vs, ds, xs, us, hd, h, r => by
    obtain ⟨y, ys, rfl, h1, h2⟩ := h.inv
    unfold pdAll at hd
    cases hp : pdOf v with
    | none => rw [hp] at hd; cases hd
    | some d =>
      rw [hp] at hd
      cases hq : pdAll vs with
      | none => rw [hq] at hd; cases hd
      | some ds' =>
        rw [hq] at hd
        cases hd
        cases r with
        | cons r1 r2 =>
          obtain ⟨as, a1, a2⟩ := reads_of I hs hkd v d y _ hp h1 r1
          obtain ⟨bs, b1, b2⟩ := readsAll_of I hs hkd vs ds' ys _ hq h2 r2
          exact ⟨as ++ bs, .cons a1 b1, fun z => by
            rcases List.mem_append.mp z with z | z
            · exact a2 z
            · exact b2 z⟩
end
end
/-- repr of a value, in letters -/
def vReprV : List Val → Option Val
  | [v] => (pdOf v).bind fun d => if d.showable = true ∧ d.shown.length ≤ 16777216 ∧ d.depth ≤ 8 then some (.str d.shown.cps.toList) else none
  | _ => none
section
variable {X : Cx} {T : Tb}
theorem c_reprV (hkd : ∀ a kvs, T.kd a kvs → False) (hs : smDB X.K = true) (hu : X.A.units + 16 < cLine) (hg : X.A.guards = some []) : CallR X (.builtin "repr") (rN X.K T vReprV) := by
  intro pins s σ H xs us Q I r ⟨O, as, tr, va, q⟩
  unfold vReprV at q
  split at q
  · rename_i v
    obtain ⟨x, rfl, h⟩ := va.one
    obtain ⟨u, rfl, ru⟩ := vals1 r
    cases hd : pdOf v with
    | none => rw [hd] at q; exact q.elim
    | some d =>
      rw [hd] at q
      simp only [Option.bind_some] at q
      split at q
      · rename_i hc
        obtain ⟨hsh, hl, hdp⟩ := hc
        obtain ⟨as, rd, hn⟩ := reads_of I hs hkd v d x u hd h ru
        have hl' : d.shown.length ≤ sizeLine := by rw [sizeLine_eq]; exact hl
        have fin : ∀ h' u' tk, (∀ b o, s.heap.get? b = some o → h'.get? b = some o) → EP X pins σ Q (.str d.shown u') { s with heap := h', toks := tk } := fun h' u' tk hk =>
          ⟨.str d.shown, H, I.kept hk, ⟨_, rfl⟩, q H _ (Hx.refl _) (by unfold VR; exact ⟨_, rfl, rfl⟩)⟩
        cases rd with
        | none => exact PySem.P.repr_of_none (fin s.heap s.toks (s.toks + 1) fun _ _ e => e)
        | bool b => exact PySem.P.repr_of_bool (fin s.heap s.toks (s.toks + 1) fun _ _ e => e)
        | int i t => exact PySem.P.repr_of_int (by simpa [PyData.showable] using hsh) (fin s.heap s.toks (s.toks + 1) fun _ _ e => e)
        | str z t => exact PySem.P.repr_of_str (fin s.heap s.toks (s.toks + 1) fun _ _ e => e) hl'
        | list h1 h2 h3 h4 => exact repr_of_reads' (.list h1 h2 h3 h4) hsh (fun _ => hn) hg (by omega) (fun _ _ e => e) fin hl'
        | tuple h1 h2 h3 h4 => exact repr_of_reads' (.tuple h1 h2 h3 h4) hsh (fun _ => hn) hg (by omega) (fun _ _ e => e) fin hl'
        | dict h1 h2 h3 h4 h5 => exact repr_of_reads' (.dict h1 h2 h3 h4 h5) hsh (fun _ => hn) hg (by omega) (fun _ _ e => e) fin hl'
      · exact q.elim
  · exact q.elim
end
end SK

set_option maxHeartbeats 2000000
/-! SK68: list(range(n)). -/
noncomputable section
namespace SK
open PySem PySem.Spec PyProof.Rows L2
theorem hu16 {k : Nat} {A : Around} (hr : Room k A) : A.units + 16 < cLine := by have := hr.un; omega
def lsR (n : Nat) : List Val := (List.range n).map fun i => .int (i : Nat)
def eLsRg (a : EM) : EM := fun fr => (a fr).bind fun x => match x.1 with
  | .int n => if 0 ≤ n ∧ n ≤ 16777216 then .ok (.lst (lsR n.toNat), x.2) else .bad
  | _ => .bad
section
variable {X : Cx} {T : Tb} {E : XK} {mu : Nat → Bool} {io : List (Nat × V)}
theorem vrs_rg {K : PySem.W.Frag} {O : Own} {H : Hp} : ∀ l : List Nat, VRs K T O H (l.map fun i => .int (i : Nat)) (l.map fun i => V.int (0 + (i : Nat)))
  | [] => .nil
  | i :: l => .cons (by unfold VR; exact congrArg V.int (Int.zero_add _)) (vrs_rg l)
theorem se_lsRg {a : Expr} {ma : EM} {p p2 pos pos2 : Pos} (hc : X.calm = true := by rfl) (gl : Gl X "list" := by rfl) (ml : X.mg "list" = none) (gr : Gl X "range" := by rfl) (mr : X.mg "range" = none) (ha : SE X T E mu io a ma)
    (na : starEach [a] X.env = (false, eval a X.env) :: starEach [] X.env := by rfl) (nb : starEach [.Call (.Name "range" p2) [a] [] pos2] X.env = (false, eval (.Call (.Name "range" p2) [a] [] pos2) X.env) :: starEach [] X.env := by rfl) :
    SE X T E mu io (.Call (.Name "list" p) [.Call (.Name "range" p2) [a] [] pos2] [] pos) (eLsRg ma) :=
  PE.imp (L2.pe_listRg hc gl ml (L2.prg_1 gr mr ha na) nb) fun σ H Q ⟨O, fr, rl, q⟩ => by
    unfold eLsRg at q
    refine ⟨O, fr, rl, ?_⟩
    cases h1 : ma fr with
    | bad => rw [h1] at q; exact q
    | exc e => rw [h1] at q; exact q
    | ok z =>
      obtain ⟨v, fr1⟩ := z
      rw [h1] at q
      intro O1 H1 x F1 R1 V1
      simp only [SK.R.bind_ok] at q
      cases v with
      | int n =>
        unfold VR at V1
        subst V1
        by_cases hn : 0 ≤ n ∧ n ≤ 16777216
        · simp only [if_pos hn] at q
          refine ⟨n, rfl, L2.RgOk.of_le (Int.le_refl _) hn.2 (by omega) hn.1, fun p hp => ?_⟩
          have X2 : Hx H1 (upd H1 p (.lst (L2.rgV 0 n))) := Hx.upd hp
          refine q O1 _ _ (F1.trans X2.fm) (R1.hx X2) ?_
          unfold VR
          refine ⟨p, _, rfl, ⟨upd_same, own_new R1.trk hp⟩, ?_⟩
          unfold lsR L2.rgV
          rw [show (n - 0).toNat = n.toNat by rw [Int.sub_zero]]
          exact vrs_rg _
        · simp only [if_neg hn] at q; exact q.elim
      | _ => exact q.elim
end
end SK

namespace SK
open PySem (seqIndex?)
open PySem.Spec (ltCps)
open L2 (atI ixN)

/-! ### plain laws: results that are fine -/
def Sat {α : Type} (r : R α) (Q : α → Prop) : Prop := ∃ a, r = .ok a ∧ Q a
theorem sat_ok {α : Type} {a : α} {Q : α → Prop} : Sat (.ok a) Q ↔ Q a :=
  ⟨fun ⟨b, e, q⟩ => by cases e; exact q, fun q => ⟨a, rfl, q⟩⟩
theorem sat_bind {α β : Type} {r : R α} {f : α → R β} {Q : β → Prop} : Sat (r.bind f) Q ↔ Sat r (fun a => Sat (f a) Q) :=
  ⟨fun ⟨b, e, q⟩ => let ⟨a, e1, e2⟩ := R.bind_eq e; ⟨a, e1, b, e2, q⟩, fun ⟨a, e, b, e2, q⟩ => ⟨b, by rw [e]; exact e2, q⟩⟩
theorem Sat.imp {α : Type} {r : R α} {P Q : α → Prop} (h : Sat r P) (i : ∀ a, P a → Q a) : Sat r Q := let ⟨a, e, p⟩ := h; ⟨a, e, i a p⟩
theorem sat_ofO {α : Type} {o : Option α} {a : α} {Q : α → Prop} (h : o = some a) (q : Q a) : Sat (ofO o) Q := by rw [h]; exact ⟨a, rfl, q⟩

/-- a walk over a list, by what holds at each turn -/
theorem forL_sat {g : GM} {b : SM} {Q : Fl × Fr → Prop} (I : List Val → Fr → Prop)
    (turn : ∀ x r fr, I (x :: r) fr → Sat (noX (g x fr)) fun fr1 => Sat (b fr1) fun z => match z.1 with
      | .nx => I r z.2
      | .ct => I r z.2
      | .bk => Q (.nx, z.2)
      | .rt v => Q (.rt v, z.2))
    (fin : ∀ fr, I [] fr → Q (.nx, fr)) : ∀ xs fr, I xs fr → Sat (forL g b xs fr) Q
  | [], fr, h => ⟨_, rfl, fin fr h⟩
  | x :: r, fr, h => by
    obtain ⟨fr1, e1, z, e2, q⟩ := turn x r fr h
    unfold forL
    rw [e1]
    show Sat ((b fr1).bind _) Q
    rw [e2]
    obtain ⟨f, fr2⟩ := z
    cases f with
    | nx => exact forL_sat I turn fin r fr2 q
    | ct => exact forL_sat I turn fin r fr2 q
    | bk => exact ⟨_, rfl, q⟩
    | rt v => exact ⟨_, rfl, q⟩

theorem noX_sat {α : Type} {r : R α} {Q : α → Prop} : Sat (noX r) Q ↔ Sat r Q := by
  cases r with
  | ok a => exact Iff.rfl
  | exc e => exact ⟨fun ⟨_, e, _⟩ => (by cases e), fun ⟨_, e, _⟩ => (by cases e)⟩
  | bad => exact Iff.rfl

theorem set_set {α : Type} (l : List α) (i : Nat) (a b : α) : (l.set i a).set i b = l.set i b := by
  induction l generalizing i with
  | nil => rfl
  | cons x r ih => cases i with
    | zero => rfl
    | succ i => exact congrArg (x :: ·) (ih i)
theorem set_getD {α : Type} (l : List (Option α)) (i : Nat) : l.set i (l.getD i none) = l := by
  induction l generalizing i with
  | nil => rfl
  | cons x r ih => cases i with
    | zero => rfl
    | succ i => exact congrArg (x :: ·) (ih i)
/-! ### numbers that are drawn -/
def PoolV (v : Val) : Prop := ∃ b m : Int, v = .lst [.int b, .int m] ∧ 0 ≤ b ∧ 0 ≤ m ∧ m < 2147483647
@[simp] theorem gF_s {α : Type} (l : List α) (i : Nat) : gF l i = l[i]? := gF_eq l i
@[simp] theorem sF_s {α : Type} (l : List α) (i : Nat) (v : α) : sF l i v = l.set i v := sF_eq l i v
end SK
namespace SK
open PySem (seqIndex?)
open PySem.Spec (ltCps)
open L2 (atI ixN)
/-- a while, by what holds at each turn and a measure -/
theorem whL_sat {t : TM} {b : SM} {Q : Fl × Fr → Prop} (I : Nat → Fr → Prop)
    (turn : ∀ n fr, I n fr → Sat (t fr) fun x => (x.1 = false ∧ Q (.nx, x.2)) ∨ (x.1 = true ∧ ∃ m, n = m + 1 ∧ Sat (b x.2) fun z => match z.1 with
      | .nx => I m z.2
      | .ct => I m z.2
      | .bk => Q (.nx, z.2)
      | .rt v => Q (.rt v, z.2))) : ∀ n fuel fr, I n fr → n < fuel → Sat (whL t b fuel fr) Q
  | n, 0, fr, _, h => absurd h (Nat.not_lt_zero _)
  | n, fuel + 1, fr, h, hf => by
    obtain ⟨⟨k, fr1⟩, e1, q⟩ := turn n fr h
    unfold whL
    rw [e1]
    rcases q with ⟨q1, q2⟩ | ⟨q1, m, rfl, z, e2, q⟩
    · cases q1
      exact ⟨_, rfl, q2⟩
    · cases q1
      show Sat ((b fr1).bind _) Q
      rw [e2]
      obtain ⟨f, fr2⟩ := z
      cases f with
      | nx => exact whL_sat I turn m fuel fr2 q (by omega)
      | ct => exact whL_sat I turn m fuel fr2 q (by omega)
      | bk => exact ⟨_, rfl, q⟩
      | rt v => exact ⟨_, rfl, q⟩
theorem atI_nat {α : Type} {xs : List α} {r : Int} (h0 : 0 ≤ r) (h1 : r < xs.length) : ∃ x, x ∈ xs ∧ xs[r.toNat]? = some x ∧ atI xs r = some x := by
  have hl : r.toNat < xs.length := by omega
  refine ⟨xs[r.toNat], List.getElem_mem hl, List.getElem?_eq_getElem hl, ?_⟩
  unfold atI ixN
  simp [h0, h1, Int.not_lt.mpr h0, List.getElem?_eq_getElem hl]
theorem insP (x : Sg) : ∀ l : List Sg, (insS x l).Perm (x :: l)
  | [] => .refl _
  | y :: r => by
    unfold insS
    split
    · exact ((insP x r).cons y).trans (.swap ..)
    · exact .refl _
theorem sortP : ∀ l : List Sg, (sortS l).Perm l
  | [] => .refl _
  | x :: r => (insP x (sortS r)).trans ((sortP r).cons x)
theorem txts_str : ∀ l : List Sg, txts (l.map .str) = some l
  | [] => rfl
  | x :: r => by
    show (txts (r.map .str)).map (x :: ·) = _
    rw [txts_str r]; rfl
end SK
namespace SK
@[simp] theorem isFz_non : isFz .non = false := rfl
@[simp] theorem isFz_bl {b} : isFz (.bl b) = false := rfl
@[simp] theorem isFz_int {i} : isFz (.int i) = false := rfl
@[simp] theorem isFz_str {s} : isFz (.str s) = false := rfl
@[simp] theorem isFz_tup {s} : isFz (.tup s) = false := rfl
@[simp] theorem isFz_lst {s} : isFz (.lst s) = false := rfl
@[simp] theorem isFz_dic {s t} : isFz (.dic s t) = false := rfl
@[simp] theorem isFz_scr {s} : isFz (.scr s) = false := rfl
@[simp] theorem isFz_ins0 {c} : isFz (.ins c [] []) = false := rfl
@[simp] theorem isFz_ins {c f fs vs} : isFz (.ins c (f :: fs) vs) = false := rfl
@[simp] theorem unfz_non : unfz .non = .non := rfl
@[simp] theorem unfz_bl {b} : unfz (.bl b) = .bl b := rfl
@[simp] theorem unfz_int {i} : unfz (.int i) = .int i := rfl
@[simp] theorem unfz_str {s} : unfz (.str s) = .str s := rfl
@[simp] theorem unfz_tup {s} : unfz (.tup s) = .tup s := rfl
@[simp] theorem unfz_lst {s} : unfz (.lst s) = .lst s := rfl
@[simp] theorem unfz_dic {s t} : unfz (.dic s t) = .dic s t := rfl
@[simp] theorem unfz_scr {s} : unfz (.scr s) = .scr s := rfl
@[simp] theorem unfz_ins0 {c} : unfz (.ins c [] []) = .ins c [] [] := rfl
@[simp] theorem unfz_ins {c f fs vs} : unfz (.ins c (f :: fs) vs) = .ins c (f :: fs) vs := rfl
@[simp] theorem isFz_fz' (v : Val) : isFz (fz v) = true := isFz_fz v
@[simp] theorem unfz_fz' (v : Val) : unfz (fz v) = v := unfz_fz v
theorem PoolV.nfz {p : Val} (h : PoolV p) : isFz p = false := by obtain ⟨_, _, rfl, _⟩ := h; rfl
theorem PoolV.unfz {p : Val} (h : PoolV p) : unfz p = p := by obtain ⟨_, _, rfl, _⟩ := h; rfl
end SK
namespace SK
theorem erase_perm {α : Type} : ∀ (l : List α) (i : Nat) (x : α), l[i]? = some x → (x :: l.eraseIdx i).Perm l
  | [], _, _, h => by simp at h
  | y :: r, 0, x, h => by simp at h; subst h; exact .refl _
  | y :: r, i + 1, x, h => by
    have h : r[i]? = some x := by simpa using h
    exact (List.Perm.swap _ _ _).trans ((erase_perm r i x h).cons y)
end SK
namespace SK
open L2 (atI ixN)
theorem cutL_take {α : Type} (xs : List α) (k : Int) (h : 0 ≤ k) : cutL xs none (some k) = xs.take k.toNat := by
  unfold cutL HT.sIx
  simp [Int.not_lt.mpr h]
def unS : Val → Option Sg
  | .str s => some s
  | _ => none
theorem unS_map : ∀ l : List Sg, (l.map Val.str).filterMap unS = l
  | [] => rfl
  | x :: r => by rw [List.map_cons, List.filterMap_cons]; simp only [unS]; rw [unS_map r]
theorem perm_strs {ys : List Val} {ls : List Sg} (h : ys.Perm (ls.map .str)) : ∃ zs : List Sg, ys = zs.map .str ∧ zs.Perm ls := by
  refine ⟨ys.filterMap unS, ?_, ?_⟩
  · have : ∀ l : List Val, (∀ y ∈ l, ∃ s, y = .str s) → l = (l.filterMap unS).map .str := by
      intro l
      induction l with
      | nil => intro _; rfl
      | cons x r ih =>
        intro hx
        obtain ⟨s, rfl⟩ := hx x (List.mem_cons_self ..)
        rw [List.filterMap_cons]
        simp only [unS]
        rw [List.map_cons, ← ih fun y hy => hx y (List.mem_cons_of_mem _ hy)]
    refine this ys fun y hy => ?_
    have := h.subset hy
    obtain ⟨s, _, rfl⟩ := List.mem_map.mp this
    exact ⟨s, rfl⟩
  · have := h.filterMap unS
    rwa [unS_map] at this
end SK
namespace SK
/-! ### what follows stays folded until it is reached -/
def Thn (b : SM) (Q : Fl × Fr → Prop) (x : Fl × Fr) : Prop := match x.1 with
  | .nx => Sat (b x.2) Q
  | f => Q (f, x.2)
theorem thn_nx {b Q fr} : Thn b Q (.nx, fr) = Sat (b fr) Q := rfl
theorem thn_rt {b Q fr v} : Thn b Q (.rt v, fr) = Q (.rt v, fr) := rfl
theorem thn_bk {b Q fr} : Thn b Q (.bk, fr) = Q (.bk, fr) := rfl
theorem thn_ct {b Q fr} : Thn b Q (.ct, fr) = Q (.ct, fr) := rfl
theorem sat_sSeq {a b : SM} {fr Q} : Sat (sSeq a b fr) Q = Sat (a fr) (Thn b Q) := by
  refine propext (sat_bind.trans ⟨fun h => h.imp ?_, fun h => h.imp ?_⟩) <;>
  · rintro ⟨f, fr⟩ h
    cases f
    · exact h
    all_goals first | exact (sat_ok (Q := Q)).mp h | exact (sat_ok (Q := Q)).mpr h
def Br (a b : SM) (Q : Fl × Fr → Prop) (x : Bool × Fr) : Prop := if x.1 = true then Sat (a x.2) Q else Sat (b x.2) Q
theorem br_mk {a b Q k fr} : Br a b Q (k, fr) = if k = true then Sat (a fr) Q else Sat (b fr) Q := rfl
theorem sat_sIf {t : TM} {a b : SM} {fr Q} : Sat (sIf t a b fr) Q = Sat (t fr) (Br a b Q) := by
  refine propext (sat_bind.trans ⟨fun h => h.imp ?_, fun h => h.imp ?_⟩) <;>
  · rintro ⟨k, fr⟩ h
    cases k <;> exact h
def Ret (iop : List Nat) (ro : Bool) (Q : Val × List Val → Prop) (x : Fl × Fr) : Prop := match x.1 with
  | .nx => if ro = true then False else Sat (ofO (outsOf x.2 iop)) fun o => Q (.non, o)
  | .rt v => Sat (ofO (outsOf x.2 iop)) fun o => Q (v, o)
  | _ => False
theorem ret_nx {iop Q fr} : Ret iop false Q (.nx, fr) = Sat (ofO (outsOf fr iop)) fun o => Q (.non, o) := rfl
theorem ret_rt {iop ro Q fr v} : Ret iop ro Q (.rt v, fr) = Sat (ofO (outsOf fr iop)) fun o => Q (v, o) := rfl
theorem sat_runF {n iop ro body args Q} : Sat (runF n iop ro body args) Q = Sat (body (initF n args)) (Ret iop ro Q) := by
  have key : ∀ x : Fl × Fr, Sat (match x.1 with
    | .rt v => (ofO (outsOf x.2 iop)).bind fun o => R.ok (v, o)
    | .nx => if ro = true then .bad else (ofO (outsOf x.2 iop)).bind fun o => R.ok (.non, o)
    | _ => .bad) Q ↔ Ret iop ro Q x := by
    have nb : Sat (R.bad : R (Val × List Val)) Q ↔ False := ⟨fun ⟨_, e, _⟩ => (by cases e), fun h => h.elim⟩
    rintro ⟨f, fr⟩
    cases f with
    | nx =>
      cases ro with
      | true => exact nb
      | false => exact sat_bind.trans ⟨fun h => h.imp fun _ h => (sat_ok (Q := Q)).mp h, fun h => h.imp fun _ h => (sat_ok (Q := Q)).mpr h⟩
    | rt v => exact sat_bind.trans ⟨fun h => h.imp fun _ h => (sat_ok (Q := Q)).mp h, fun h => h.imp fun _ h => (sat_ok (Q := Q)).mpr h⟩
    | bk => exact nb
    | ct => exact nb
  exact propext (sat_bind.trans ⟨fun h => h.imp fun x h => (key x).mp h, fun h => h.imp fun x h => (key x).mpr h⟩)
def ForK (g : GM) (b : SM) (Q : Fl × Fr → Prop) (x : List Val × Fr) : Prop := Sat (forL g b x.1 x.2) Q
theorem forK_mk {g b Q xs fr} : ForK g b Q (xs, fr) = Sat (forL g b xs fr) Q := rfl
theorem sat_sFor {i : IM} {g : GM} {b : SM} {fr Q} : Sat (sFor i g b fr) Q = Sat (i fr) (ForK g b Q) := propext sat_bind
def SetK (i : Nat) (Q : Fl × Fr → Prop) (x : Val × Fr) : Prop := Q (.nx, sF x.2 i (some x.1))
theorem setK_mk {i Q v fr} : SetK i Q (v, fr) = Q (.nx, fr.set i (some v)) := by
  unfold SetK
  rw [sF_eq]
theorem sat_sSet {i : Nat} {a : EM} {fr Q} : Sat (sSet i a fr) Q = Sat (a fr) (SetK i Q) :=
  propext (sat_bind.trans ⟨fun h => h.imp fun _ h => (sat_ok (Q := Q)).mp h, fun h => h.imp fun _ h => (sat_ok (Q := Q)).mpr h⟩)
def ExKq (Q : Fl × Fr → Prop) (x : Val × Fr) : Prop := Q (.nx, x.2)
theorem exK_mk {Q v fr} : ExKq Q (v, fr) = Q (.nx, fr) := rfl
theorem sat_sEx {a : EM} {fr Q} : Sat (sEx a fr) Q = Sat (a fr) (ExKq Q) :=
  propext (sat_bind.trans ⟨fun h => h.imp fun _ h => (sat_ok (Q := Q)).mp h, fun h => h.imp fun _ h => (sat_ok (Q := Q)).mpr h⟩)
def RtK (Q : Fl × Fr → Prop) (x : Val × Fr) : Prop := Q (.rt x.1, x.2)
theorem rtK_mk {Q v fr} : RtK Q (v, fr) = Q (.rt v, fr) := rfl
theorem sat_sRet {a : EM} {fr Q} : Sat (sRet a fr) Q = Sat (a fr) (RtK Q) :=
  propext (sat_bind.trans ⟨fun h => h.imp fun _ h => (sat_ok (Q := Q)).mp h, fun h => h.imp fun _ h => (sat_ok (Q := Q)).mpr h⟩)
end SK
namespace SK
theorem sat_noX {α : Type} {r : R α} {Q : α → Prop} : Sat (noX r) Q = Sat r Q := propext noX_sat
end SK

namespace SK
open PySem (seqIndex?)
open PySem.Spec (ltCps)
open L2 (atI ixN)
@[simp] theorem x_eC (v : Val) (fr : Fr) : eC v fr = (.ok (v, fr) : R (Val × Fr)) := rfl
@[simp] theorem x_eV (i : Nat) (fr : Fr) : eV i fr = (match gF fr i with
  | some (some v) => .ok (v, fr)
  | _ => .bad : R (Val × Fr)) := rfl
@[simp] theorem x_eMv (i : Nat) (fr : Fr) : eMv i fr = (match gF fr i with
  | some (some v) => .ok (unfz v, sF fr i (some (fz (unfz v))))
  | _ => .bad : R (Val × Fr)) := rfl
@[simp] theorem x_e1 (f : Val → Option Val) (a : EM) (fr : Fr) : e1 f a fr = ((a fr).bind fun x => (ofO (f x.1)).bind fun v => .ok (v, x.2) : R (Val × Fr)) := rfl
@[simp] theorem x_e2 (f : Val → Val → Option Val) (a b : EM) (fr : Fr) : e2 f a b fr = ((a fr).bind fun x => (b x.2).bind fun y => (ofO (f x.1 y.1)).bind fun v => .ok (v, y.2) : R (Val × Fr)) := rfl
@[simp] theorem x_truth_1 : truth (.non) = some false := rfl
@[simp] theorem x_truth_2 : truth (.bl b) = some b := rfl
@[simp] theorem x_truth_3 : truth (.int i) = some (i != 0) := rfl
@[simp] theorem x_truth_4 : truth (.str s) = if s.length ≤ 16777216 then some (!s.isEmpty) else none := rfl
@[simp] theorem x_truth_5 : truth (.tup xs) = some (!xs.isEmpty) := rfl
@[simp] theorem x_truth_6 : truth (.lst xs) = some (!xs.isEmpty) := rfl
@[simp] theorem x_truth_7 : truth (.dic u1_ u2_) = none := rfl
@[simp] theorem x_truth_8 : truth (.ins u1_ u2_ u3_) = none := rfl
@[simp] theorem x_truth_9 : truth (.scr u1_) = none := rfl
@[simp] theorem x_tV (a : EM) (fr : Fr) : tV a fr = ((a fr).bind fun x => (ofO (truth x.1)).bind fun b => .ok (b, x.2) : R (Bool × Fr)) := rfl
@[simp] theorem x_isB_1 : isB (.bl b) = some b := rfl
@[simp] theorem x_tBl (a : EM) (fr : Fr) : tBl a fr = ((a fr).bind fun x => (ofO (isB x.1)).bind fun b => .ok (b, x.2) : R (Bool × Fr)) := rfl
@[simp] theorem x_tAn (a b : TM) (fr : Fr) : tAn a b fr = ((a fr).bind fun x => if x.1 = true then b x.2 else .ok (false, x.2) : R (Bool × Fr)) := rfl
@[simp] theorem x_tOr (a b : TM) (fr : Fr) : tOr a b fr = ((a fr).bind fun x => if x.1 = true then .ok (true, x.2) else b x.2 : R (Bool × Fr)) := rfl
@[simp] theorem x_tNo (a : TM) (fr : Fr) : tNo a fr = ((a fr).bind fun x => .ok (!x.1, x.2) : R (Bool × Fr)) := rfl
@[simp] theorem x_eIf (t : TM) (a b : EM) (fr : Fr) : eIf t a b fr = ((t fr).bind fun x => if x.1 = true then a x.2 else b x.2 : R (Val × Fr)) := rfl
@[simp] theorem x_eAn (a b : EM) (fr : Fr) : eAn a b fr = ((a fr).bind fun x => (ofO (truth x.1)).bind fun k => if k = true then b x.2 else .ok x : R (Val × Fr)) := rfl
@[simp] theorem x_eOr (a b : EM) (fr : Fr) : eOr a b fr = ((a fr).bind fun x => (ofO (truth x.1)).bind fun k => if k = true then .ok x else b x.2 : R (Val × Fr)) := rfl
@[simp] theorem x_eNo (a : EM) (fr : Fr) : eNo a fr = ((a fr).bind fun x => (ofO (truth x.1)).bind fun k => .ok (.bl (!k), x.2) : R (Val × Fr)) := rfl
@[simp] theorem x_eCh (f g : Val → Val → Option Val) (a b c : EM) (fr : Fr) : eCh f g a b c fr = ((a fr).bind fun x => (b x.2).bind fun y => (ofO (f x.1 y.1)).bind fun z => (ofO (isB z)).bind fun k =>
  if k = true then (c y.2).bind fun u => (ofO (g y.1 u.1)).bind fun v => .ok (v, u.2) else .ok (.bl false, y.2) : R (Val × Fr)) := rfl
@[simp] theorem x_aN  (fr : Fr) : aN  fr = (.ok ([], fr) : R (List Val × Fr)) := rfl
@[simp] theorem x_aC (a : EM) (b : AM) (fr : Fr) : aC a b fr = ((a fr).bind fun x => (b x.2).bind fun y => .ok (x.1 :: y.1, y.2) : R (List Val × Fr)) := rfl
@[simp] theorem x_seqOf_1 : seqOf (.tup xs) = some xs := rfl
@[simp] theorem x_seqOf_2 : seqOf (.lst xs) = some xs := rfl
@[simp] theorem x_aS (a : EM) (b : AM) (fr : Fr) : aS a b fr = ((a fr).bind fun x => (ofO (seqOf x.1)).bind fun xs => (b x.2).bind fun y => .ok (xs ++ y.1, y.2) : R (List Val × Fr)) := rfl
@[simp] theorem x_fits (n : Nat) : fits n = (if n ≤ 16777216 then some () else none : Option Unit) := rfl
@[simp] theorem x_eTup (a : AM) (fr : Fr) : eTup a fr = ((a fr).bind fun x => (ofO (fits x.1.length)).bind fun _ => .ok (.tup x.1, x.2) : R (Val × Fr)) := rfl
@[simp] theorem x_eLst (a : AM) (fr : Fr) : eLst a fr = ((a fr).bind fun x => (ofO (fits x.1.length)).bind fun _ => .ok (.lst x.1, x.2) : R (Val × Fr)) := rfl
@[simp] theorem x_sNil  (fr : Fr) : sNil  fr = (.ok (.nx, fr) : R (Fl × Fr)) := rfl
@[simp] theorem x_sBk  (fr : Fr) : sBk  fr = (.ok (.bk, fr) : R (Fl × Fr)) := rfl
@[simp] theorem x_sCt  (fr : Fr) : sCt  fr = (.ok (.ct, fr) : R (Fl × Fr)) := rfl
@[simp] theorem x_gN (i : Nat) (v : Val) (fr : Fr) : gN i v fr = (.ok (sF fr i (some v)) : R Fr) := rfl
@[simp] theorem x_gT (gs : List GM) (v : Val) (fr : Fr) : gT gs v fr = ((ofO (seqOf v)).bind fun xs => gAll gs xs fr : R Fr) := rfl
@[simp] theorem x_tTrue  (fr : Fr) : tTrue  fr = (.ok (true, fr) : R (Bool × Fr)) := rfl
@[simp] theorem x_iSq (a : EM) (fr : Fr) : iSq a fr = ((a fr).bind fun x => (ofO (seqOf x.1)).bind fun xs => .ok (xs, x.2) : R (List Val × Fr)) := rfl
@[simp] theorem x_sWh (n : Nat) (t : TM) (b : SM) : sWh n t b = (whL t b n : SM) := rfl
@[simp] theorem x_sAsg (a : EM) (g : GM) (fr : Fr) : sAsg a g fr = ((a fr).bind fun x => (noX (g x.1 x.2)).bind fun fr1 => .ok (.nx, fr1) : R (Fl × Fr)) := rfl
@[simp] theorem x_lN  (fr : Fr) : lN  fr = (.ok ([], fr) : R (List Lt × Fr)) := rfl
@[simp] theorem x_lC (a : EM) (b : LM) (fr : Fr) : lC a b fr = ((a fr).bind fun x => (b x.2).bind fun y => .ok (.inr (.inl x.1) :: y.1, y.2) : R (List Lt × Fr)) := rfl
@[simp] theorem x_lI (i : Nat) (b : LM) (fr : Fr) : lI i b fr = (match fr[i]? with
  | some (some _) => (b fr).bind fun y => .ok (.inl i :: y.1, y.2)
  | _ => .bad : R (List Lt × Fr)) := rfl
@[simp] theorem x_lB (i : Nat) (b : LM) (fr : Fr) : lB i b fr = (match fr[i]? with
  | some (some _) => (b fr).bind fun y => .ok (.inr (.inr i) :: y.1, y.2)
  | _ => .bad : R (List Lt × Fr)) := rfl
@[simp] theorem x_valA_1 : valA fr (.inl v) = some v := rfl
@[simp] theorem x_valA_2 : valA fr (.inr i) = match fr[i]? with
    | some (some v) => some (unfz v)
    | _ => none := rfl
@[simp] theorem x_callM (iop bop : List Nat) (m : FnM) (dv : List Val) (as : LM) (fr : Fr) : callM iop bop m dv as fr = ((as fr).bind fun x => if lentP 0 x.1 = iop ∧ nodupB (lentS x.1) = true ∧ borOk bop (lentS x.1) 0 x.1 = true then (ofO (fillA x.2 x.1)).bind fun args => (m (args ++ dv)).bind fun r => .ok (r.1, setAll x.2 (lentS x.1) r.2) else .bad : R (Val × Fr)) := rfl
@[simp] theorem x_vAdd_1 : vAdd (.int a) (.int b) = some (.int (a + b)) := rfl
@[simp] theorem x_vAdd_2 : vAdd (.str a) (.str b) = if a.length + b.length ≤ 16777216 then some (.str (a ++ b)) else none := rfl
@[simp] theorem x_vAdd_3 : vAdd (.lst a) (.lst b) = if a.length + b.length ≤ 16777216 then some (.lst (a ++ b)) else none := rfl
@[simp] theorem x_vAdd_4 : vAdd (.tup a) (.tup b) = if a.length + b.length ≤ 16777216 then some (.tup (a ++ b)) else none := rfl
@[simp] theorem x_vSub_1 : vSub (.int a) (.int b) = some (.int (a - b)) := rfl
@[simp] theorem x_vMul_1 : vMul (.int a) (.int b) = if (-(2 ^ 64) < a ∧ a < 2 ^ 64) ∨ (-(2 ^ 64) < b ∧ b < 2 ^ 64) then some (.int (a * b)) else none := rfl
@[simp] theorem x_vMul_2 : vMul (.lst a) (.int b) = if -(2 ^ 63) ≤ b ∧ b < 2 ^ 63 ∧ a.length * b.toNat ≤ 16777216 then some (.lst (List.replicate b.toNat a).flatten) else none := rfl
@[simp] theorem x_vDiv_1 : vDiv (.int a) (.int b) = if 0 < b ∧ b < 1073741824 then some (.int (a / b)) else none := rfl
@[simp] theorem x_vMod_1 : vMod (.int a) (.int b) = if 0 < b then some (.int (a % b)) else none := rfl
@[simp] theorem x_vPow_1 : vPow (.int a) (.int b) = if 0 ≤ b ∧ b ≤ 1000000 ∧ a.natAbs < 2 ^ 64 then some (.int (a ^ b.toNat)) else none := rfl
@[simp] theorem x_vNeg_1 : vNeg (.int a) = some (.int (-a)) := rfl
@[simp] theorem x_vLt_1 : vLt (.int a) (.int b) = some (.bl (decide (a < b))) := rfl
@[simp] theorem x_vLe_1 : vLe (.int a) (.int b) = some (.bl (decide (a ≤ b))) := rfl
@[simp] theorem x_vGt_1 : vGt (.int a) (.int b) = some (.bl (decide (b < a))) := rfl
@[simp] theorem x_vGe_1 : vGe (.int a) (.int b) = some (.bl (decide (b ≤ a))) := rfl
@[simp] theorem x_vEq (a b : Val) : vEq a b = ((eqv 20 a b).map .bl : Option Val) := rfl
@[simp] theorem x_vNe (a b : Val) : vNe a b = ((eqv 20 a b).map fun k => .bl (!k) : Option Val) := rfl
@[simp] theorem x_vIn (a b : Val) : vIn a b = ((inV a b).map .bl : Option Val) := rfl
@[simp] theorem x_vNotIn (a b : Val) : vNotIn a b = ((inV a b).map fun k => .bl (!k) : Option Val) := rfl
@[simp] theorem x_isNon_1 : isNon (.non) = true := rfl
@[simp] theorem x_vIs_1 : vIs (a) (.non) = some (.bl (isNon a)) := rfl
@[simp] theorem x_vIs_2 : vIs (.bl a) (.bl b) = some (.bl (a == b)) := rfl
@[simp] theorem x_vIsNot_1 : vIsNot (a) (.non) = some (.bl (!isNon a)) := rfl
@[simp] theorem x_vIsNot_2 : vIsNot (.bl a) (.bl b) = some (.bl (!(a == b))) := rfl
@[simp] theorem x_eN (f : List Val → Option Val) (ms : AM) (fr : Fr) : eN f ms fr = ((ms fr).bind fun x => (ofO (f x.1)).bind fun v => .ok (v, x.2) : R (Val × Fr)) := rfl
@[simp] theorem x_vLen_1 : vLen ([.lst xs]) = some (.int xs.length) := rfl
@[simp] theorem x_vLen_2 : vLen ([.tup xs]) = some (.int xs.length) := rfl
@[simp] theorem x_vLen_3 : vLen ([.str s]) = if s.length ≤ 16777216 then some (.int s.length) else none := rfl
@[simp] theorem x_vLen_4 : vLen ([.scr ns]) = some (.int ns.length) := rfl
@[simp] theorem x_vInt_1 : vInt ([.int i]) = some (.int i) := rfl
@[simp] theorem x_vInt_2 : vInt ([.bl b]) = some (.int (if b then 1 else 0)) := rfl
@[simp] theorem x_vMax_1 : vMax ([.int i, .int j]) = some (.int (if j > i then j else i)) := rfl
@[simp] theorem x_vMin_1 : vMin ([.int i, .int j]) = some (.int (if j < i then j else i)) := rfl
@[simp] theorem x_vList_1 : vList ([.lst xs]) = some (.lst xs) := rfl
@[simp] theorem x_vList_2 : vList ([.tup xs]) = some (.lst xs) := rfl
@[simp] theorem x_vTuple_1 : vTuple ([.lst xs]) = some (.tup xs) := rfl
@[simp] theorem x_vTuple_2 : vTuple ([.tup xs]) = some (.tup xs) := rfl
@[simp] theorem x_vIx_1 : vIx (.lst xs) (.int i) = atI xs i := rfl
@[simp] theorem x_vIx_2 : vIx (.tup xs) (.int i) = atI xs i := rfl
@[simp] theorem x_vIx_3 : vIx (.str s) (.int i) = if s.length ≤ 16777216 then (atI s i).map fun c => .str [c] else none := rfl
@[simp] theorem x_vIx_4 : vIx (.scr ns) (.int i) = (atI ns i).map .int := rfl
@[simp] theorem x_oN  (fr : Fr) : oN  fr = (.ok (none, fr) : R (Option Int × Fr)) := rfl
@[simp] theorem x_isI_1 : isI (.int i) = some i := rfl
@[simp] theorem x_oS (a : EM) (fr : Fr) : oS a fr = ((a fr).bind fun x => (ofO (isI x.1)).bind fun i => .ok (some i, x.2) : R (Option Int × Fr)) := rfl
@[simp] theorem x_vSl (v : Val) (lo hi : Option Int) : vSl v lo hi = (match v with
  | .lst xs => some (.lst (cutL xs lo hi))
  | .tup xs => some (.tup (cutL xs lo hi))
  | _ => none : Option Val) := rfl
@[simp] theorem x_eSl (a : EM) (l h : OM) (fr : Fr) : eSl a l h fr = ((a fr).bind fun x => (l x.2).bind fun lo => (h lo.2).bind fun hi => (ofO (vSl x.1 lo.1 hi.1)).bind fun v => .ok (v, hi.2) : R (Val × Fr)) := rfl
@[simp] theorem x_itOf_1 : itOf (.tup xs) = some xs := rfl
@[simp] theorem x_itOf_2 : itOf (.lst xs) = some xs := rfl
@[simp] theorem x_itOf_3 : itOf (.str s) = some (s.map fun c => .str [c]) := rfl
@[simp] theorem x_iIt (a : EM) (fr : Fr) : iIt a fr = ((a fr).bind fun x => (ofO (itOf x.1)).bind fun xs => .ok (xs, x.2) : R (List Val × Fr)) := rfl
@[simp] theorem x_iRg (a : AM) (fr : Fr) : iRg a fr = ((a fr).bind fun x => match x.1 with
  | [.int n] => if -(2 ^ 62) ≤ n ∧ n < 2 ^ 62 then .ok (rngL n, x.2) else .bad
  | _ => .bad : R (List Val × Fr)) := rfl
@[simp] theorem x_iRg2 (a : AM) (fr : Fr) : iRg2 a fr = ((a fr).bind fun x => match x.1 with
  | [.int m, .int n] => if -(2 ^ 62) ≤ m ∧ m < 2 ^ 62 ∧ -(2 ^ 62) ≤ n ∧ n < 2 ^ 62 then .ok (rngL2 m n, x.2) else .bad
  | _ => .bad : R (List Val × Fr)) := rfl
@[simp] theorem x_iEn (a : AM) (fr : Fr) : iEn a fr = ((a fr).bind fun x => match x.1 with
  | [.lst xs] => .ok (enL 0 xs, x.2)
  | _ => .bad : R (List Val × Fr)) := rfl
@[simp] theorem x_iZp (a : AM) (fr : Fr) : iZp a fr = ((a fr).bind fun x => match x.1 with
  | [.lst xs, .lst ys] => .ok (zipL xs ys, x.2)
  | [.tup xs, .tup ys] => .ok (zipL xs ys, x.2)
  | _ => .bad : R (List Val × Fr)) := rfl
@[simp] theorem x_flt_1 : flt (.non) = true := rfl
@[simp] theorem x_flt_2 : flt (.bl u1_) = true := rfl
@[simp] theorem x_flt_3 : flt (.int u1_) = true := rfl
@[simp] theorem x_flt_4 : flt (.str u1_) = true := rfl
@[simp] theorem x_getS (fr : Fr) (i : Nat) : getS fr i = (match gF fr i with
  | some (some v) => .ok (unfz v)
  | _ => .bad : R Val) := rfl
@[simp] theorem x_flO (v : Option Val) : flO v = (match v with
  | some w => if flt w = true then .ok w else .bad
  | none => .bad : R Val) := rfl
@[simp] theorem x_e2L (f : Val → Val → Option Val) (i : Nat) (b : EM) (fr : Fr) : e2L f i b fr = ((getS fr i).bind fun _ => (b fr).bind fun y => (getS y.2 i).bind fun v => (flO (f v y.1)).bind fun w => .ok (w, y.2) : R (Val × Fr)) := rfl
@[simp] theorem x_e2R (f : Val → Val → Option Val) (a : EM) (i : Nat) (fr : Fr) : e2R f a i fr = ((a fr).bind fun x => (getS x.2 i).bind fun v => (flO (f x.1 v)).bind fun w => .ok (w, x.2) : R (Val × Fr)) := rfl
@[simp] theorem x_e2S (f : Val → Val → Option Val) (i j : Nat) (fr : Fr) : e2S f i j fr = ((getS fr i).bind fun x => (getS fr j).bind fun v => (flO (f x v)).bind fun w => .ok (w, fr) : R (Val × Fr)) := rfl
@[simp] theorem x_eNS (f : List Val → Option Val) (i : Nat) (fr : Fr) : eNS f i fr = ((getS fr i).bind fun v => (flO (f [v])).bind fun w => .ok (w, fr) : R (Val × Fr)) := rfl
@[simp] theorem x_eVp (i : Nat) (fr : Fr) : eVp i fr = ((getS fr i).bind fun v => match v with
  | .lst _ => .bad
  | .dic _ _ => .bad
  | .ins _ _ _ => .bad
  | v => .ok (v, fr) : R (Val × Fr)) := rfl
@[simp] theorem x_tVS (i : Nat) (fr : Fr) : tVS i fr = ((getS fr i).bind fun v => (ofO (truth v)).bind fun b => .ok (b, fr) : R (Bool × Fr)) := rfl
@[simp] theorem x_eIxS (i : Nat) (b : EM) (fr : Fr) : eIxS i b fr = ((getS fr i).bind fun _ => (b fr).bind fun y => (getS y.2 i).bind fun v => (ofO (vIx v y.1)).bind fun w => .ok (w, y.2) : R (Val × Fr)) := rfl
@[simp] theorem x_eApp (i : Nat) (a : EM) (fr : Fr) : eApp i a fr = (match fr[i]? with
  | some (some (.lst _)) => (a fr).bind fun y => match y.2[i]? with
    | some (some (.lst xs)) => if xs.length < 16777216 then .ok (.non, y.2.set i (some (.lst (xs ++ [y.1])))) else .bad
    | _ => .bad
  | _ => .bad : R (Val × Fr)) := rfl
@[simp] theorem x_eExt (i : Nat) (a : EM) (fr : Fr) : eExt i a fr = (match fr[i]? with
  | some (some (.lst _)) => (a fr).bind fun y => match y.1, y.2[i]? with
    | .lst zs, some (some (.lst xs)) => if xs.length + zs.length ≤ 16777216 then .ok (.non, y.2.set i (some (.lst (xs ++ zs)))) else .bad
    | _, _ => .bad
  | _ => .bad : R (Val × Fr)) := rfl
@[simp] theorem x_ePop (i : Nat) (fr : Fr) : ePop i fr = (match fr[i]? with
  | some (some (.lst xs)) => (ofO xs[xs.length - 1]?).bind fun v => .ok (v, fr.set i (some (.lst xs.dropLast)))
  | _ => .bad : R (Val × Fr)) := rfl
@[simp] theorem x_ePopA (i : Nat) (a : EM) (fr : Fr) : ePopA i a fr = (match fr[i]? with
  | some (some (.lst _)) => (a fr).bind fun y => match y.1, y.2[i]? with
    | .int k, some (some (.lst xs)) => if -(2 ^ 63) ≤ k ∧ k < 2 ^ 63 then (match seqIndex? k xs.length with
      | some j => (ofO xs[j]?).bind fun v => .ok (v, y.2.set i (some (.lst (xs.eraseIdx j))))
      | none => .bad) else .bad
    | _, _ => .bad
  | _ => .bad : R (Val × Fr)) := rfl
@[simp] theorem x_eClr (i : Nat) (fr : Fr) : eClr i fr = (match fr[i]? with
  | some (some (.lst _)) => .ok (.non, fr.set i (some (.lst [])))
  | _ => .bad : R (Val × Fr)) := rfl
@[simp] theorem x_sSetL (i : Nat) (v b : EM) (fr : Fr) : sSetL i v b fr = ((v fr).bind fun x => (getS x.2 i).bind fun _ => (b x.2).bind fun y => match y.1, y.2[i]? with
  | .int k, some (some (.lst xs)) => (match ixN xs.length k with
    | some j => .ok (.nx, y.2.set i (some (.lst (xs.set j x.1))))
    | none => .bad)
  | _, _ => .bad : R (Fl × Fr)) := rfl
@[simp] theorem x_isLD_1 : isLD (.lst u1_) = true := rfl
@[simp] theorem x_isLD_2 : isLD (.dic u1_ u2_) = true := rfl
@[simp] theorem x_sParX (r1 : Bool) (i j : Nat) (a b : EM) (fr : Fr) : sParX r1 i j a b fr = ((a fr).bind fun x => if r1 = true ∧ isLD x.1 = false then .bad else (b x.2).bind fun y => .ok (.nx, (y.2.set i (some x.1)).set j (some y.1)) : R (Fl × Fr)) := rfl
@[simp] theorem x_eAtS (cs : List Nat) (g : Nat) (i : Nat) (fr : Fr) : eAtS cs g i fr = ((getS fr i).bind fun v => match v with
  | .ins c fs vs => if (cs.contains c && decide (c < EXC)) = true then (ofO (getF g fs vs)).bind fun w => .ok (w, fr) else .bad
  | _ => .bad : R (Val × Fr)) := rfl
@[simp] theorem x_sAt (cs : List Nat) (g : Nat) (i : Nat) (a : EM) (fr : Fr) : sAt cs g i a fr = ((a fr).bind fun x => match x.2[i]? with
  | some (some (.ins c fs vs)) => if cs.contains c = true ∧ isFz (.ins c fs vs) = false ∧ fs.length < 1000 then .ok (.nx, x.2.set i (some (.ins c (setF g x.1 fs vs).1 (setF g x.1 fs vs).2))) else .bad
  | _ => .bad : R (Fl × Fr)) := rfl
@[simp] theorem x_eMk (c : Nat) (bop : List Nat) (m : FnM) (ar : List Val → List Val) (as : LM) (ks : AM) (fr : Fr) : eMk c bop m ar as ks fr = ((as fr).bind fun x => (ks x.2).bind fun z => if lentS x.1 = [] ∧ borOk bop [] 1 x.1 = true then (ofO (fillA z.2 x.1)).bind fun args => (m (.ins c [] [] :: (args ++ ar z.1))).bind fun r => (match r with
  | (.non, [s]) => .ok (s, z.2)
  | _ => .bad) else .bad : R (Val × Fr)) := rfl
@[simp] theorem x_chk (cs : List Nat) (a : EM) (fr : Fr) : chk cs a fr = ((a fr).bind fun x => if isC cs x.1 = true then .ok x else .bad : R (Val × Fr)) := rfl
@[simp] theorem x_chkS (cs : List Nat) (i : Nat) (b : LM) (fr : Fr) : chkS cs i b fr = ((getS fr i).bind fun v => if isC cs v = true then b fr else .bad : R (List Lt × Fr)) := rfl
@[simp] theorem x_eIs (f : Val → Option Bool) (a : EM) (fr : Fr) : eIs f a fr = ((a fr).bind fun x => (ofO (isG f x.1)).bind fun b => .ok (.bl b, x.2) : R (Val × Fr)) := rfl
@[simp] theorem x_eIsS (f : Val → Option Bool) (i : Nat) (fr : Fr) : eIsS f i fr = ((getS fr i).bind fun v => (ofO (isG f v)).bind fun b => .ok (.bl b, fr) : R (Val × Fr)) := rfl
@[simp] theorem x_eEqI (cs : List Nat) (nf : Nat → Val → Bool) (neg : Bool) (m : FnM) (a b : EM) (fr : Fr) : eEqI cs nf neg m a b fr = ((a fr).bind fun x => (b x.2).bind fun y => if okE cs nf x.1 y.1 = true then (m [x.1, y.1]).bind fun r => (ofO (isB r.1)).bind fun k => .ok (.bl (if neg = true then !k else k), y.2) else .bad : R (Val × Fr)) := rfl
@[simp] theorem x_dN  (fr : Fr) : dN  fr = (.ok ([], fr) : R (List (Val × Val) × Fr)) := rfl
@[simp] theorem x_dC (a b : EM) (r : DM) (fr : Fr) : dC a b r fr = ((a fr).bind fun k => (b k.2).bind fun v => (r v.2).bind fun y => .ok ((k.1, v.1) :: y.1, y.2) : R (List (Val × Val) × Fr)) := rfl
@[simp] theorem x_eDisp (d : DM) (fr : Fr) : eDisp d fr = ((d fr).bind fun x => if allK x.1 = true ∧ okM x.1 ([], []) = true ∧ x.1.length ≤ 15 then .ok (.dic (mergeD x.1 ([], [])).1 (mergeD x.1 ([], [])).2, x.2) else .bad : R (Val × Fr)) := rfl
@[simp] theorem x_eIxD (i : Nat) (b : EM) (fr : Fr) : eIxD i b fr = ((getS fr i).bind fun _ => (b fr).bind fun y => (getS y.2 i).bind fun v => match v with
  | .dic ks vs => if isK y.1 = true then (ofO (dGet y.1 ks vs)).bind fun w => .ok (w, y.2) else .bad
  | _ => .bad : R (Val × Fr)) := rfl
@[simp] theorem x_sPutD (i : Nat) (v b : EM) (fr : Fr) : sPutD i v b fr = ((v fr).bind fun x => (getS x.2 i).bind fun _ => (b x.2).bind fun y => match y.2[i]? with
  | some (some (.dic ks vs)) => if isK y.1 = true ∧ nodupK ks = true ∧ ks.length < 16777216 then .ok (.nx, y.2.set i (some (.dic (dPut y.1 x.1 ks vs).1 (dPut y.1 x.1 ks vs).2))) else .bad
  | _ => .bad : R (Fl × Fr)) := rfl
@[simp] theorem x_vLenD_1 : vLenD ([.dic ks u1_]) = some (.int ks.length) := rfl
@[simp] theorem x_sSup (c : Nat) (iop bop : List Nat) (m : FnM) (dv : List Val) (ms : LM) (fr : Fr) : sSup c iop bop m dv ms fr = ((callM iop bop m dv (chkS [c] 0 (lI 0 ms)) fr).bind fun x => .ok (.nx, x.2) : R (Fl × Fr)) := rfl
@[simp] theorem x_isA (ts : List String) (ds : List Nat) (n : Nat) : isA ts ds n = (byT (fun t => some (ts.contains t)) fun c => if c < n then some (ds.contains c) else none : Val → Option Bool) := rfl
@[simp] theorem x_iItB (i : Nat) (fr : Fr) : iItB i fr = ((getS fr i).bind fun v => (ofO (itOf v)).bind fun xs => .ok (xs, fr) : R (List Val × Fr)) := rfl
@[simp] theorem x_eTpS (i : Nat) (fr : Fr) : eTpS i fr = ((getS fr i).bind fun v => match v with
  | .lst xs => .ok (.tup xs, fr)
  | .tup xs => .ok (.tup xs, fr)
  | _ => .bad : R (Val × Fr)) := rfl
@[simp] theorem x_eLsS (i : Nat) (fr : Fr) : eLsS i fr = ((getS fr i).bind fun v => match v with
  | .lst xs => .ok (.lst xs, fr)
  | .tup xs => .ok (.lst xs, fr)
  | _ => .bad : R (Val × Fr)) := rfl
@[simp] theorem x_vCat_1 : vCat (.lst xs) (.lst ys) = if xs.length + ys.length ≤ 16777216 then some (.lst (xs ++ ys)) else none := rfl
end SK
namespace SK
open PySem (seqIndex?)
open PySem.Spec (ltCps)
open L2 (atI ixN)
@[simp] theorem x_ofO_s {α : Type} {a : α} : ofO (some a) = .ok a := rfl
@[simp] theorem x_ofO_n {α : Type} : (ofO none : R α) = .bad := rfl
@[simp] theorem x_getF_1 {g f : Nat} {fs : List Nat} {v : Val} {vs : List Val} : getF g (f :: fs) (v :: vs) = if f = g then some v else getF g fs vs := rfl
end SK
namespace SK
@[simp] theorem x_initF (n : Nat) (args : List Val) : initF n args = args.map some ++ List.replicate (n - args.length) none := initF_eq args n
@[simp] theorem x_callC (m : FnM) (dv : List Val) (as : AM) (fr : Fr) : callC m dv as fr = ((as fr).bind fun x => (m (apF x.1 dv)).bind fun r => .ok (r.1, x.2) : R (Val × Fr)) := rfl
@[simp] theorem x_apF {α : Type} (l d : List α) : apF l d = l ++ d := apF_eq l d
@[simp] theorem x_noX_o {α : Type} (a : α) : noX (.ok a) = .ok a := rfl
@[simp] theorem x_noX_b {α : Type} : noX (.bad : R α) = .bad := rfl
@[simp] theorem x_noX_e {α : Type} (e : Val) : noX (.exc e : R α) = .bad := rfl
end SK

set_option maxHeartbeats 0
noncomputable section
namespace K29
open PySem PySem.Spec L2 SK
abbrev PR : Program := (PySem.Challenge.rw_shutlids_k29_errors_told).prog
abbrev top (i : Nat) : Stmt := PySem.Challenge.pw_shutlids_k29_errors_told.main.body.getD i (.Pass ⟨0, 0, 0, 0⟩)
def cn : List PySem.Str := []
def fnm : List PySem.Str := ["part", "name", "deed", "stand", "item", "setting", "index", "many", "word", "place", "value", "seen", "line", "most"]
abbrev TT (K : PySem.W.Frag) : Tb := tb cn fnm K
def d_law_pool : DefX := { at_ := ("_law_pool", none), name := "_law_pool", qual := "_law_pool", params := defArgs (top 18), body := defBody (top 18), scope := defScope (top 18) }
def d_law_take : DefX := { at_ := ("_law_take", none), name := "_law_take", qual := "_law_take", params := defArgs (top 19), body := defBody (top 19), scope := defScope (top 19) }
def d_NoStand_init : DefX := { at_ := ("NoStand", some "__init__"), name := "__init__", qual := "NoStand.__init__", params := defArgs (inClass (top 6) 0), body := defBody (inClass (top 6) 0), scope := defScope (inClass (top 6) 0), sup := true }
def d_NoDeed_init : DefX := { at_ := ("NoDeed", some "__init__"), name := "__init__", qual := "NoDeed.__init__", params := defArgs (inClass (top 5) 0), body := defBody (inClass (top 5) 0), scope := defScope (inClass (top 5) 0), sup := true }
def d_NoName_init : DefX := { at_ := ("NoName", some "__init__"), name := "__init__", qual := "NoName.__init__", params := defArgs (inClass (top 4) 0), body := defBody (inClass (top 4) 0), scope := defScope (inClass (top 4) 0), sup := true }
def d_NoBox_init : DefX := { at_ := ("NoBox", some "__init__"), name := "__init__", qual := "NoBox.__init__", params := defArgs (inClass (top 3) 0), body := defBody (inClass (top 3) 0), scope := defScope (inClass (top 3) 0), sup := true }
def d_NoThing_init : DefX := { at_ := ("NoThing", some "__init__"), name := "__init__", qual := "NoThing.__init__", params := defArgs (inClass (top 2) 0), body := defBody (inClass (top 2) 0), scope := defScope (inClass (top 2) 0), sup := true }
def d_NothingBack_init : DefX := { at_ := ("NothingBack", some "__init__"), name := "__init__", qual := "NothingBack.__init__", params := defArgs (inClass (top 10) 0), body := defBody (inClass (top 10) 0), scope := defScope (inClass (top 10) 0), sup := true }
def d_NoMove_init : DefX := { at_ := ("NoMove", some "__init__"), name := "__init__", qual := "NoMove.__init__", params := defArgs (inClass (top 9) 0), body := defBody (inClass (top 9) 0), scope := defScope (inClass (top 9) 0), sup := true }
def d_NoSetting_init : DefX := { at_ := ("NoSetting", some "__init__"), name := "__init__", qual := "NoSetting.__init__", params := defArgs (inClass (top 8) 0), body := defBody (inClass (top 8) 0), scope := defScope (inClass (top 8) 0), sup := true }
def d_NoManual_init : DefX := { at_ := ("NoManual", some "__init__"), name := "__init__", qual := "NoManual.__init__", params := defArgs (inClass (top 7) 0), body := defBody (inClass (top 7) 0), scope := defScope (inClass (top 7) 0), sup := true }
def d_NoSeen_init : DefX := { at_ := ("NoSeen", some "__init__"), name := "__init__", qual := "NoSeen.__init__", params := defArgs (inClass (top 14) 0), body := defBody (inClass (top 14) 0), scope := defScope (inClass (top 14) 0), sup := true }
def d_NoNumber_init : DefX := { at_ := ("NoNumber", some "__init__"), name := "__init__", qual := "NoNumber.__init__", params := defArgs (inClass (top 13) 0), body := defBody (inClass (top 13) 0), scope := defScope (inClass (top 13) 0), sup := true }
def d_NoPlace_init : DefX := { at_ := ("NoPlace", some "__init__"), name := "__init__", qual := "NoPlace.__init__", params := defArgs (inClass (top 12) 0), body := defBody (inClass (top 12) 0), scope := defScope (inClass (top 12) 0), sup := true }
def d_NoFault_init : DefX := { at_ := ("NoFault", some "__init__"), name := "__init__", qual := "NoFault.__init__", params := defArgs (inClass (top 11) 0), body := defBody (inClass (top 11) 0), scope := defScope (inClass (top 11) 0), sup := true }
def d_NoNote_init : DefX := { at_ := ("NoNote", some "__init__"), name := "__init__", qual := "NoNote.__init__", params := defArgs (inClass (top 15) 0), body := defBody (inClass (top 15) 0), scope := defScope (inClass (top 15) 0), sup := true }
def d_law_named : DefX := { at_ := ("_law_named", none), name := "_law_named", qual := "_law_named", params := defArgs (top 21), body := defBody (top 21), scope := defScope (top 21) }
def d_law_all : DefX := { at_ := ("_law_all", none), name := "_law_all", qual := "_law_all", params := defArgs (top 20), body := defBody (top 20), scope := defScope (top 20) }
def d_law_kept : DefX := { at_ := ("_law_kept", none), name := "_law_kept", qual := "_law_kept", params := defArgs (top 22), body := defBody (top 22), scope := defScope (top 22) }
def d_law_classes : DefX := { at_ := ("_law_classes", none), name := "_law_classes", qual := "_law_classes", params := defArgs (top 23), body := defBody (top 23), scope := defScope (top 23) }
def d_TooMany_init : DefX := { at_ := ("TooMany", some "__init__"), name := "__init__", qual := "TooMany.__init__", params := defArgs (inClass (top 16) 0), body := defBody (inClass (top 16) 0), scope := defScope (inClass (top 16) 0), sup := true }
def d_law : DefX := { at_ := ("law", none), name := "law", qual := "law", params := defArgs (top 24), body := defBody (top 24), scope := defScope (top 24) }
def dfs : List DefX := [d_law_pool, d_law_take, d_NoStand_init, d_NoDeed_init, d_NoName_init, d_NoBox_init, d_NoThing_init, d_NothingBack_init, d_NoMove_init, d_NoSetting_init, d_NoManual_init, d_NoSeen_init, d_NoNumber_init, d_NoPlace_init, d_NoFault_init, d_NoNote_init, d_law_named, d_law_all, d_law_kept, d_law_classes, d_TooMany_init, d_law]
def ck : List (PySem.W.Frag → Bool) := [freeB "len",
  freeB "min",
  freeB "max",
  freeB "range",
  freeB "int",
  gloB "_law_pool",
  gloB "_law_take",
  exkB false "NoStand",
  fldXB cn fnm [500005] 3,
  supXB PR.main.file ("NoStand", some "__init__") "NoStand" "ValueError.__init__",
  gloB "NoStand",
  exkB false "NoDeed",
  fldXB cn fnm [500004] 2,
  supXB PR.main.file ("NoDeed", some "__init__") "NoDeed" "ValueError.__init__",
  gloB "NoDeed",
  exkB false "NoName",
  fldXB cn fnm [500003] 1,
  supXB PR.main.file ("NoName", some "__init__") "NoName" "ValueError.__init__",
  gloB "NoName",
  exkB false "NoBox",
  fldXB cn fnm [500001, 500002] 0,
  supXB PR.main.file ("NoBox", some "__init__") "NoBox" "ValueError.__init__",
  gloB "NoBox",
  exkB false "NoThing",
  supXB PR.main.file ("NoThing", some "__init__") "NoThing" "ValueError.__init__",
  gloB "NoThing",
  exkB false "NothingBack",
  fldXB cn fnm [500009] 7,
  supXB PR.main.file ("NothingBack", some "__init__") "NothingBack" "ValueError.__init__",
  gloB "NothingBack",
  exkB false "NoMove",
  fldXB cn fnm [500008] 6,
  supXB PR.main.file ("NoMove", some "__init__") "NoMove" "ValueError.__init__",
  gloB "NoMove",
  exkB false "NoSetting",
  fldXB cn fnm [500007] 5,
  supXB PR.main.file ("NoSetting", some "__init__") "NoSetting" "ValueError.__init__",
  gloB "NoSetting",
  exkB false "NoManual",
  fldXB cn fnm [500006] 4,
  supXB PR.main.file ("NoManual", some "__init__") "NoManual" "ValueError.__init__",
  gloB "NoManual",
  exkB false "NoSeen",
  fldXB cn fnm [500013] 11,
  supXB PR.main.file ("NoSeen", some "__init__") "NoSeen" "ValueError.__init__",
  gloB "NoSeen",
  exkB false "NoNumber",
  fldXB cn fnm [500012] 10,
  supXB PR.main.file ("NoNumber", some "__init__") "NoNumber" "ValueError.__init__",
  gloB "NoNumber",
  exkB false "NoPlace",
  fldXB cn fnm [500011] 9,
  supXB PR.main.file ("NoPlace", some "__init__") "NoPlace" "ValueError.__init__",
  gloB "NoPlace",
  exkB false "NoFault",
  fldXB cn fnm [500010] 8,
  supXB PR.main.file ("NoFault", some "__init__") "NoFault" "ValueError.__init__",
  gloB "NoFault",
  exkB false "NoNote",
  fldXB cn fnm [500014] 12,
  supXB PR.main.file ("NoNote", some "__init__") "NoNote" "ValueError.__init__",
  gloB "NoNote",
  gloB "_law_named",
  gloB "_law_all",
  gloB "_law_kept",
  smDB,
  freeB "repr",
  freeB "enumerate",
  isXB cn fnm [500001, 500002, 500003, 500004, 500005, 500006, 500007, 500008, 500009, 500010, 500011, 500012, 500013, 500014, 500015] [500004] (fun K => .ref (He.ga K "NoDeed")),
  freeB "isinstance",
  isXB cn fnm [500001, 500002, 500003, 500004, 500005, 500006, 500007, 500008, 500009, 500010, 500011, 500012, 500013, 500014, 500015] [500003] (fun K => .ref (He.ga K "NoName")),
  isXB cn fnm [500001, 500002, 500003, 500004, 500005, 500006, 500007, 500008, 500009, 500010, 500011, 500012, 500013, 500014, 500015] [500002] (fun K => .ref (He.ga K "NoBox")),
  isXB cn fnm [500001, 500002, 500003, 500004, 500005, 500006, 500007, 500008, 500009, 500010, 500011, 500012, 500013, 500014, 500015] [500001] (fun K => .ref (He.ga K "NoThing")),
  isXB cn fnm [500001, 500002, 500003, 500004, 500005, 500006, 500007, 500008, 500009, 500010, 500011, 500012, 500013, 500014, 500015] [500008] (fun K => .ref (He.ga K "NoMove")),
  isXB cn fnm [500001, 500002, 500003, 500004, 500005, 500006, 500007, 500008, 500009, 500010, 500011, 500012, 500013, 500014, 500015] [500007] (fun K => .ref (He.ga K "NoSetting")),
  isXB cn fnm [500001, 500002, 500003, 500004, 500005, 500006, 500007, 500008, 500009, 500010, 500011, 500012, 500013, 500014, 500015] [500006] (fun K => .ref (He.ga K "NoManual")),
  isXB cn fnm [500001, 500002, 500003, 500004, 500005, 500006, 500007, 500008, 500009, 500010, 500011, 500012, 500013, 500014, 500015] [500005] (fun K => .ref (He.ga K "NoStand")),
  isXB cn fnm [500001, 500002, 500003, 500004, 500005, 500006, 500007, 500008, 500009, 500010, 500011, 500012, 500013, 500014, 500015] [500011] (fun K => .ref (He.ga K "NoPlace")),
  isXB cn fnm [500001, 500002, 500003, 500004, 500005, 500006, 500007, 500008, 500009, 500010, 500011, 500012, 500013, 500014, 500015] [500010] (fun K => .ref (He.ga K "NoFault")),
  isXB cn fnm [500001, 500002, 500003, 500004, 500005, 500006, 500007, 500008, 500009, 500010, 500011, 500012, 500013, 500014, 500015] [500009] (fun K => .ref (He.ga K "NothingBack")),
  isXB cn fnm [500001, 500002, 500003, 500004, 500005, 500006, 500007, 500008, 500009, 500010, 500011, 500012, 500013, 500014, 500015] [500014] (fun K => .ref (He.ga K "NoNote")),
  isXB cn fnm [500001, 500002, 500003, 500004, 500005, 500006, 500007, 500008, 500009, 500010, 500011, 500012, 500013, 500014, 500015] [500013] (fun K => .ref (He.ga K "NoSeen")),
  isXB cn fnm [500001, 500002, 500003, 500004, 500005, 500006, 500007, 500008, 500009, 500010, 500011, 500012, 500013, 500014, 500015] [500012] (fun K => .ref (He.ga K "NoNumber")),
  gloB "_law_classes",
  freeB "list",
  isXB cn fnm [500001, 500002, 500003, 500004, 500005, 500006, 500007, 500008, 500009, 500010, 500011, 500012, 500013, 500014, 500015] [500001, 500002, 500003, 500004, 500005, 500006, 500007, 500008, 500009, 500010, 500011, 500012, 500013, 500014] (fun K => .ref (He.ga K "LidError")),
  gloB "LidError",
  isXB cn fnm [500001, 500002, 500003, 500004, 500005, 500006, 500007, 500008, 500009, 500010, 500011, 500012, 500013, 500014, 500015] [500001, 500002, 500003, 500004, 500005, 500006, 500007, 500008, 500009, 500010, 500011, 500012, 500013, 500014] (fun _ => .type "ValueError"),
  freeB "ValueError",
  isXB cn fnm [500001, 500002, 500003, 500004, 500005, 500006, 500007, 500008, 500009, 500010, 500011, 500012, 500013, 500014, 500015] [500015] (fun _ => .type "OverflowError"),
  freeB "OverflowError",
  exkB true "TooMany",
  fldXB cn fnm [500015] 13,
  supXB PR.main.file ("TooMany", some "__init__") "TooMany" "OverflowError.__init__",
  gloB "TooMany",
  gloB "law"]
def tbs : List Tbl := []
section
variable {w : World} {K : PySem.W.Frag} {mg : PySem.Str → Option Value} {base : Heap}
theorem bd_law_pool (F : FT ck dfs tbs w K mg) : Binds K (fdA K ("_law_pool", none)) ["_law_script", "_law_k"] [] := by
  obtain ⟨dvs, kws, FD, h1, _, _⟩ := F.c.def_ 0 (d := d_law_pool)
  have e : dvs = [] := (h1 (TT K) ON (fun _ => none)).inv0
  subst e
  exact (SK.FunD.b FD).n0 fun _ _ _ _ _ _ _ _ _ _ _ us hl => match us, hl with | [_, _], _ => rfl
theorem kp_law_pool (F : FT ck dfs tbs w K mg) : PySem.W.keepIn K (.ref (He.fAd K ("_law_pool", none))) = true := by
  obtain ⟨_, _, FD, _⟩ := F.c.def_ 0 (d := d_law_pool)
  exact FD.kp
theorem bd_law_take (F : FT ck dfs tbs w K mg) : Binds K (fdA K ("_law_take", none)) ["_law_pool_here", "_law_bound"] [] := by
  obtain ⟨dvs, kws, FD, h1, _, _⟩ := F.c.def_ 1 (d := d_law_take)
  have e : dvs = [] := (h1 (TT K) ON (fun _ => none)).inv0
  subst e
  exact (SK.FunD.b FD).n0 fun _ _ _ _ _ _ _ _ _ _ _ us hl => match us, hl with | [_, _], _ => rfl
theorem kp_law_take (F : FT ck dfs tbs w K mg) : PySem.W.keepIn K (.ref (He.fAd K ("_law_take", none))) = true := by
  obtain ⟨_, _, FD, _⟩ := F.c.def_ 1 (d := d_law_take)
  exact FD.kp
theorem ex_NoStand (F : FT ck dfs tbs w K mg) : ExK K ((TT K).cl 500005) "ValueError" "ValueError.__new__" "ValueError.__init__" veB := exkB_ve (F.c.fact 7)
theorem ex1_NoStand (F : FT ck dfs tbs w K mg) : ExC1 K ((TT K).cl 500005) (He.fAd K ("NoStand", some "__init__")) := exkB_1 (F.c.fact 7)
theorem fldx_stand (F : FT ck dfs tbs w K mg) : FldX K (TT K) [500005] 3 := fldXB_ok (by decide +kernel) (by decide) (F.c.fact 8)
abbrev N_NoStand_init : List PySem.Str := ["self", "stand"]
theorem sc_NoStand_init : FnScopeS N_NoStand_init ["self", "stand"] (defScope (inClass (top 6) 0)) := ⟨rfl, rfl, rfl, by decide +kernel, rfl, by decide +kernel, by decide +kernel, free_of (by decide +kernel)⟩
theorem s_NoStand_init (F : FT ck dfs tbs w K mg) : FnOk PR w K mg base CX0 1 (He.fAd K ("NoStand", some "__init__")) (fdA K ("NoStand", some "__init__")) ["self", "stand"] (spEx ((TT K).cl 500005) "stand") := by
  obtain ⟨dvs, kws, FD, _, _, _⟩ := F.c.defS 2 (d := d_NoStand_init)
  refine fn_exc (k := 0) (N := N_NoStand_init) (C := (TT K).cl 500005) FD sc_NoStand_init (by decide) (fun cdv A outer s H E ⟨oc, od, dV, kV, doc, pm, an, ct, osl, lk⟩ hcd hr => ?_)
  obtain ⟨cda, S⟩ := supX_ok (CX := CX0) (P := PR) (w := w) (base := base) (N := N_NoStand_init) (A := A) (outer := outer) (s := s) (H := H) (E := E) F.ns (F.c.fact 9) lk rfl rfl rfl rfl rfl rfl (by kernel_rfl)
  exact psa_supx (C := (TT K).cl 500005) S (ex_NoStand F) (psa_of (pss_one (ps_exf (ex_NoStand F) ((fldx_stand F).cl 500005 rfl).2 (pe_var rfl (by first | exact .inl rfl | exact .inr (.inl rfl) | exact .inr (.inr rfl))) (pe_var rfl (by first | exact .inl rfl | exact .inr (.inl rfl) | exact .inr (.inr rfl))))))
theorem bk_NoStand_init (F : FT ck dfs tbs w K mg) : ∀ (s : Shared) (u0 u1 : Value), K.In s.heap → BindsTo s (fdA K ("NoStand", some "__init__")) ⟨[u0], [("stand", u1)]⟩ [("self", u0), ("stand", u1)] := by
  obtain ⟨dvs, kws, FD, h1, _, _⟩ := F.c.defS 2 (d := d_NoStand_init)
  have e : dvs = [] := (h1 (TT K) ON (fun _ => none)).inv0
  subst e
  exact (SK.FunDS.b FD).k1 fun _ _ _ _ _ _ _ _ _ _ _ _ _ => rfl
theorem ex_NoDeed (F : FT ck dfs tbs w K mg) : ExK K ((TT K).cl 500004) "ValueError" "ValueError.__new__" "ValueError.__init__" veB := exkB_ve (F.c.fact 11)
theorem ex1_NoDeed (F : FT ck dfs tbs w K mg) : ExC1 K ((TT K).cl 500004) (He.fAd K ("NoDeed", some "__init__")) := exkB_1 (F.c.fact 11)
theorem fldx_deed (F : FT ck dfs tbs w K mg) : FldX K (TT K) [500004] 2 := fldXB_ok (by decide +kernel) (by decide) (F.c.fact 12)
abbrev N_NoDeed_init : List PySem.Str := ["self", "deed"]
theorem sc_NoDeed_init : FnScopeS N_NoDeed_init ["self", "deed"] (defScope (inClass (top 5) 0)) := ⟨rfl, rfl, rfl, by decide +kernel, rfl, by decide +kernel, by decide +kernel, free_of (by decide +kernel)⟩
theorem s_NoDeed_init (F : FT ck dfs tbs w K mg) : FnOk PR w K mg base CX0 1 (He.fAd K ("NoDeed", some "__init__")) (fdA K ("NoDeed", some "__init__")) ["self", "deed"] (spEx ((TT K).cl 500004) "deed") := by
  obtain ⟨dvs, kws, FD, _, _, _⟩ := F.c.defS 3 (d := d_NoDeed_init)
  refine fn_exc (k := 0) (N := N_NoDeed_init) (C := (TT K).cl 500004) FD sc_NoDeed_init (by decide) (fun cdv A outer s H E ⟨oc, od, dV, kV, doc, pm, an, ct, osl, lk⟩ hcd hr => ?_)
  obtain ⟨cda, S⟩ := supX_ok (CX := CX0) (P := PR) (w := w) (base := base) (N := N_NoDeed_init) (A := A) (outer := outer) (s := s) (H := H) (E := E) F.ns (F.c.fact 13) lk rfl rfl rfl rfl rfl rfl (by kernel_rfl)
  exact psa_supx (C := (TT K).cl 500004) S (ex_NoDeed F) (psa_of (pss_one (ps_exf (ex_NoDeed F) ((fldx_deed F).cl 500004 rfl).2 (pe_var rfl (by first | exact .inl rfl | exact .inr (.inl rfl) | exact .inr (.inr rfl))) (pe_var rfl (by first | exact .inl rfl | exact .inr (.inl rfl) | exact .inr (.inr rfl))))))
theorem bk_NoDeed_init (F : FT ck dfs tbs w K mg) : ∀ (s : Shared) (u0 u1 : Value), K.In s.heap → BindsTo s (fdA K ("NoDeed", some "__init__")) ⟨[u0], [("deed", u1)]⟩ [("self", u0), ("deed", u1)] := by
  obtain ⟨dvs, kws, FD, h1, _, _⟩ := F.c.defS 3 (d := d_NoDeed_init)
  have e : dvs = [] := (h1 (TT K) ON (fun _ => none)).inv0
  subst e
  exact (SK.FunDS.b FD).k1 fun _ _ _ _ _ _ _ _ _ _ _ _ _ => rfl
theorem ex_NoName (F : FT ck dfs tbs w K mg) : ExK K ((TT K).cl 500003) "ValueError" "ValueError.__new__" "ValueError.__init__" veB := exkB_ve (F.c.fact 15)
theorem ex1_NoName (F : FT ck dfs tbs w K mg) : ExC1 K ((TT K).cl 500003) (He.fAd K ("NoName", some "__init__")) := exkB_1 (F.c.fact 15)
theorem fldx_name (F : FT ck dfs tbs w K mg) : FldX K (TT K) [500003] 1 := fldXB_ok (by decide +kernel) (by decide) (F.c.fact 16)
abbrev N_NoName_init : List PySem.Str := ["self", "name"]
theorem sc_NoName_init : FnScopeS N_NoName_init ["self", "name"] (defScope (inClass (top 4) 0)) := ⟨rfl, rfl, rfl, by decide +kernel, rfl, by decide +kernel, by decide +kernel, free_of (by decide +kernel)⟩
theorem s_NoName_init (F : FT ck dfs tbs w K mg) : FnOk PR w K mg base CX0 1 (He.fAd K ("NoName", some "__init__")) (fdA K ("NoName", some "__init__")) ["self", "name"] (spEx ((TT K).cl 500003) "name") := by
  obtain ⟨dvs, kws, FD, _, _, _⟩ := F.c.defS 4 (d := d_NoName_init)
  refine fn_exc (k := 0) (N := N_NoName_init) (C := (TT K).cl 500003) FD sc_NoName_init (by decide) (fun cdv A outer s H E ⟨oc, od, dV, kV, doc, pm, an, ct, osl, lk⟩ hcd hr => ?_)
  obtain ⟨cda, S⟩ := supX_ok (CX := CX0) (P := PR) (w := w) (base := base) (N := N_NoName_init) (A := A) (outer := outer) (s := s) (H := H) (E := E) F.ns (F.c.fact 17) lk rfl rfl rfl rfl rfl rfl (by kernel_rfl)
  exact psa_supx (C := (TT K).cl 500003) S (ex_NoName F) (psa_of (pss_one (ps_exf (ex_NoName F) ((fldx_name F).cl 500003 rfl).2 (pe_var rfl (by first | exact .inl rfl | exact .inr (.inl rfl) | exact .inr (.inr rfl))) (pe_var rfl (by first | exact .inl rfl | exact .inr (.inl rfl) | exact .inr (.inr rfl))))))
theorem bk_NoName_init (F : FT ck dfs tbs w K mg) : ∀ (s : Shared) (u0 u1 : Value), K.In s.heap → BindsTo s (fdA K ("NoName", some "__init__")) ⟨[u0], [("name", u1)]⟩ [("self", u0), ("name", u1)] := by
  obtain ⟨dvs, kws, FD, h1, _, _⟩ := F.c.defS 4 (d := d_NoName_init)
  have e : dvs = [] := (h1 (TT K) ON (fun _ => none)).inv0
  subst e
  exact (SK.FunDS.b FD).k1 fun _ _ _ _ _ _ _ _ _ _ _ _ _ => rfl
theorem ex_NoBox (F : FT ck dfs tbs w K mg) : ExK K ((TT K).cl 500002) "ValueError" "ValueError.__new__" "ValueError.__init__" veB := exkB_ve (F.c.fact 19)
theorem ex1_NoBox (F : FT ck dfs tbs w K mg) : ExC1 K ((TT K).cl 500002) (He.fAd K ("NoBox", some "__init__")) := exkB_1 (F.c.fact 19)
theorem fldx_part (F : FT ck dfs tbs w K mg) : FldX K (TT K) [500001, 500002] 0 := fldXB_ok (by decide +kernel) (by decide) (F.c.fact 20)
abbrev N_NoBox_init : List PySem.Str := ["self", "part"]
theorem sc_NoBox_init : FnScopeS N_NoBox_init ["self", "part"] (defScope (inClass (top 3) 0)) := ⟨rfl, rfl, rfl, by decide +kernel, rfl, by decide +kernel, by decide +kernel, free_of (by decide +kernel)⟩
theorem s_NoBox_init (F : FT ck dfs tbs w K mg) : FnOk PR w K mg base CX0 1 (He.fAd K ("NoBox", some "__init__")) (fdA K ("NoBox", some "__init__")) ["self", "part"] (spEx ((TT K).cl 500002) "part") := by
  obtain ⟨dvs, kws, FD, _, _, _⟩ := F.c.defS 5 (d := d_NoBox_init)
  refine fn_exc (k := 0) (N := N_NoBox_init) (C := (TT K).cl 500002) FD sc_NoBox_init (by decide) (fun cdv A outer s H E ⟨oc, od, dV, kV, doc, pm, an, ct, osl, lk⟩ hcd hr => ?_)
  obtain ⟨cda, S⟩ := supX_ok (CX := CX0) (P := PR) (w := w) (base := base) (N := N_NoBox_init) (A := A) (outer := outer) (s := s) (H := H) (E := E) F.ns (F.c.fact 21) lk rfl rfl rfl rfl rfl rfl (by kernel_rfl)
  exact psa_supx (C := (TT K).cl 500002) S (ex_NoBox F) (psa_of (pss_one (ps_exf (ex_NoBox F) ((fldx_part F).cl 500002 rfl).2 (pe_var rfl (by first | exact .inl rfl | exact .inr (.inl rfl) | exact .inr (.inr rfl))) (pe_var rfl (by first | exact .inl rfl | exact .inr (.inl rfl) | exact .inr (.inr rfl))))))
theorem bk_NoBox_init (F : FT ck dfs tbs w K mg) : ∀ (s : Shared) (u0 u1 : Value), K.In s.heap → BindsTo s (fdA K ("NoBox", some "__init__")) ⟨[u0], [("part", u1)]⟩ [("self", u0), ("part", u1)] := by
  obtain ⟨dvs, kws, FD, h1, _, _⟩ := F.c.defS 5 (d := d_NoBox_init)
  have e : dvs = [] := (h1 (TT K) ON (fun _ => none)).inv0
  subst e
  exact (SK.FunDS.b FD).k1 fun _ _ _ _ _ _ _ _ _ _ _ _ _ => rfl
theorem ex_NoThing (F : FT ck dfs tbs w K mg) : ExK K ((TT K).cl 500001) "ValueError" "ValueError.__new__" "ValueError.__init__" veB := exkB_ve (F.c.fact 23)
theorem ex1_NoThing (F : FT ck dfs tbs w K mg) : ExC1 K ((TT K).cl 500001) (He.fAd K ("NoThing", some "__init__")) := exkB_1 (F.c.fact 23)
abbrev N_NoThing_init : List PySem.Str := ["self", "part"]
theorem sc_NoThing_init : FnScopeS N_NoThing_init ["self", "part"] (defScope (inClass (top 2) 0)) := ⟨rfl, rfl, rfl, by decide +kernel, rfl, by decide +kernel, by decide +kernel, free_of (by decide +kernel)⟩
theorem s_NoThing_init (F : FT ck dfs tbs w K mg) : FnOk PR w K mg base CX0 1 (He.fAd K ("NoThing", some "__init__")) (fdA K ("NoThing", some "__init__")) ["self", "part"] (spEx ((TT K).cl 500001) "part") := by
  obtain ⟨dvs, kws, FD, _, _, _⟩ := F.c.defS 6 (d := d_NoThing_init)
  refine fn_exc (k := 0) (N := N_NoThing_init) (C := (TT K).cl 500001) FD sc_NoThing_init (by decide) (fun cdv A outer s H E ⟨oc, od, dV, kV, doc, pm, an, ct, osl, lk⟩ hcd hr => ?_)
  obtain ⟨cda, S⟩ := supX_ok (CX := CX0) (P := PR) (w := w) (base := base) (N := N_NoThing_init) (A := A) (outer := outer) (s := s) (H := H) (E := E) F.ns (F.c.fact 24) lk rfl rfl rfl rfl rfl rfl (by kernel_rfl)
  exact psa_supx (C := (TT K).cl 500001) S (ex_NoThing F) (psa_of (pss_one (ps_exf (ex_NoThing F) ((fldx_part F).cl 500001 rfl).2 (pe_var rfl (by first | exact .inl rfl | exact .inr (.inl rfl) | exact .inr (.inr rfl))) (pe_var rfl (by first | exact .inl rfl | exact .inr (.inl rfl) | exact .inr (.inr rfl))))))
theorem bk_NoThing_init (F : FT ck dfs tbs w K mg) : ∀ (s : Shared) (u0 u1 : Value), K.In s.heap → BindsTo s (fdA K ("NoThing", some "__init__")) ⟨[u0], [("part", u1)]⟩ [("self", u0), ("part", u1)] := by
  obtain ⟨dvs, kws, FD, h1, _, _⟩ := F.c.defS 6 (d := d_NoThing_init)
  have e : dvs = [] := (h1 (TT K) ON (fun _ => none)).inv0
  subst e
  exact (SK.FunDS.b FD).k1 fun _ _ _ _ _ _ _ _ _ _ _ _ _ => rfl
theorem ex_NothingBack (F : FT ck dfs tbs w K mg) : ExK K ((TT K).cl 500009) "ValueError" "ValueError.__new__" "ValueError.__init__" veB := exkB_ve (F.c.fact 26)
theorem ex1_NothingBack (F : FT ck dfs tbs w K mg) : ExC1 K ((TT K).cl 500009) (He.fAd K ("NothingBack", some "__init__")) := exkB_1 (F.c.fact 26)
theorem fldx_many (F : FT ck dfs tbs w K mg) : FldX K (TT K) [500009] 7 := fldXB_ok (by decide +kernel) (by decide) (F.c.fact 27)
abbrev N_NothingBack_init : List PySem.Str := ["self", "many"]
theorem sc_NothingBack_init : FnScopeS N_NothingBack_init ["self", "many"] (defScope (inClass (top 10) 0)) := ⟨rfl, rfl, rfl, by decide +kernel, rfl, by decide +kernel, by decide +kernel, free_of (by decide +kernel)⟩
theorem s_NothingBack_init (F : FT ck dfs tbs w K mg) : FnOk PR w K mg base CX0 1 (He.fAd K ("NothingBack", some "__init__")) (fdA K ("NothingBack", some "__init__")) ["self", "many"] (spEx ((TT K).cl 500009) "many") := by
  obtain ⟨dvs, kws, FD, _, _, _⟩ := F.c.defS 7 (d := d_NothingBack_init)
  refine fn_exc (k := 0) (N := N_NothingBack_init) (C := (TT K).cl 500009) FD sc_NothingBack_init (by decide) (fun cdv A outer s H E ⟨oc, od, dV, kV, doc, pm, an, ct, osl, lk⟩ hcd hr => ?_)
  obtain ⟨cda, S⟩ := supX_ok (CX := CX0) (P := PR) (w := w) (base := base) (N := N_NothingBack_init) (A := A) (outer := outer) (s := s) (H := H) (E := E) F.ns (F.c.fact 28) lk rfl rfl rfl rfl rfl rfl (by kernel_rfl)
  exact psa_supx (C := (TT K).cl 500009) S (ex_NothingBack F) (psa_of (pss_one (ps_exf (ex_NothingBack F) ((fldx_many F).cl 500009 rfl).2 (pe_var rfl (by first | exact .inl rfl | exact .inr (.inl rfl) | exact .inr (.inr rfl))) (pe_var rfl (by first | exact .inl rfl | exact .inr (.inl rfl) | exact .inr (.inr rfl))))))
theorem bk_NothingBack_init (F : FT ck dfs tbs w K mg) : ∀ (s : Shared) (u0 u1 : Value), K.In s.heap → BindsTo s (fdA K ("NothingBack", some "__init__")) ⟨[u0], [("many", u1)]⟩ [("self", u0), ("many", u1)] := by
  obtain ⟨dvs, kws, FD, h1, _, _⟩ := F.c.defS 7 (d := d_NothingBack_init)
  have e : dvs = [] := (h1 (TT K) ON (fun _ => none)).inv0
  subst e
  exact (SK.FunDS.b FD).k1 fun _ _ _ _ _ _ _ _ _ _ _ _ _ => rfl
theorem ex_NoMove (F : FT ck dfs tbs w K mg) : ExK K ((TT K).cl 500008) "ValueError" "ValueError.__new__" "ValueError.__init__" veB := exkB_ve (F.c.fact 30)
theorem ex1_NoMove (F : FT ck dfs tbs w K mg) : ExC1 K ((TT K).cl 500008) (He.fAd K ("NoMove", some "__init__")) := exkB_1 (F.c.fact 30)
theorem fldx_index (F : FT ck dfs tbs w K mg) : FldX K (TT K) [500008] 6 := fldXB_ok (by decide +kernel) (by decide) (F.c.fact 31)
abbrev N_NoMove_init : List PySem.Str := ["self", "index"]
theorem sc_NoMove_init : FnScopeS N_NoMove_init ["self", "index"] (defScope (inClass (top 9) 0)) := ⟨rfl, rfl, rfl, by decide +kernel, rfl, by decide +kernel, by decide +kernel, free_of (by decide +kernel)⟩
theorem s_NoMove_init (F : FT ck dfs tbs w K mg) : FnOk PR w K mg base CX0 1 (He.fAd K ("NoMove", some "__init__")) (fdA K ("NoMove", some "__init__")) ["self", "index"] (spEx ((TT K).cl 500008) "index") := by
  obtain ⟨dvs, kws, FD, _, _, _⟩ := F.c.defS 8 (d := d_NoMove_init)
  refine fn_exc (k := 0) (N := N_NoMove_init) (C := (TT K).cl 500008) FD sc_NoMove_init (by decide) (fun cdv A outer s H E ⟨oc, od, dV, kV, doc, pm, an, ct, osl, lk⟩ hcd hr => ?_)
  obtain ⟨cda, S⟩ := supX_ok (CX := CX0) (P := PR) (w := w) (base := base) (N := N_NoMove_init) (A := A) (outer := outer) (s := s) (H := H) (E := E) F.ns (F.c.fact 32) lk rfl rfl rfl rfl rfl rfl (by kernel_rfl)
  exact psa_supx (C := (TT K).cl 500008) S (ex_NoMove F) (psa_of (pss_one (ps_exf (ex_NoMove F) ((fldx_index F).cl 500008 rfl).2 (pe_var rfl (by first | exact .inl rfl | exact .inr (.inl rfl) | exact .inr (.inr rfl))) (pe_var rfl (by first | exact .inl rfl | exact .inr (.inl rfl) | exact .inr (.inr rfl))))))
theorem bk_NoMove_init (F : FT ck dfs tbs w K mg) : ∀ (s : Shared) (u0 u1 : Value), K.In s.heap → BindsTo s (fdA K ("NoMove", some "__init__")) ⟨[u0], [("index", u1)]⟩ [("self", u0), ("index", u1)] := by
  obtain ⟨dvs, kws, FD, h1, _, _⟩ := F.c.defS 8 (d := d_NoMove_init)
  have e : dvs = [] := (h1 (TT K) ON (fun _ => none)).inv0
  subst e
  exact (SK.FunDS.b FD).k1 fun _ _ _ _ _ _ _ _ _ _ _ _ _ => rfl
theorem ex_NoSetting (F : FT ck dfs tbs w K mg) : ExK K ((TT K).cl 500007) "ValueError" "ValueError.__new__" "ValueError.__init__" veB := exkB_ve (F.c.fact 34)
theorem ex1_NoSetting (F : FT ck dfs tbs w K mg) : ExC1 K ((TT K).cl 500007) (He.fAd K ("NoSetting", some "__init__")) := exkB_1 (F.c.fact 34)
theorem fldx_setting (F : FT ck dfs tbs w K mg) : FldX K (TT K) [500007] 5 := fldXB_ok (by decide +kernel) (by decide) (F.c.fact 35)
abbrev N_NoSetting_init : List PySem.Str := ["self", "setting"]
theorem sc_NoSetting_init : FnScopeS N_NoSetting_init ["self", "setting"] (defScope (inClass (top 8) 0)) := ⟨rfl, rfl, rfl, by decide +kernel, rfl, by decide +kernel, by decide +kernel, free_of (by decide +kernel)⟩
theorem s_NoSetting_init (F : FT ck dfs tbs w K mg) : FnOk PR w K mg base CX0 1 (He.fAd K ("NoSetting", some "__init__")) (fdA K ("NoSetting", some "__init__")) ["self", "setting"] (spEx ((TT K).cl 500007) "setting") := by
  obtain ⟨dvs, kws, FD, _, _, _⟩ := F.c.defS 9 (d := d_NoSetting_init)
  refine fn_exc (k := 0) (N := N_NoSetting_init) (C := (TT K).cl 500007) FD sc_NoSetting_init (by decide) (fun cdv A outer s H E ⟨oc, od, dV, kV, doc, pm, an, ct, osl, lk⟩ hcd hr => ?_)
  obtain ⟨cda, S⟩ := supX_ok (CX := CX0) (P := PR) (w := w) (base := base) (N := N_NoSetting_init) (A := A) (outer := outer) (s := s) (H := H) (E := E) F.ns (F.c.fact 36) lk rfl rfl rfl rfl rfl rfl (by kernel_rfl)
  exact psa_supx (C := (TT K).cl 500007) S (ex_NoSetting F) (psa_of (pss_one (ps_exf (ex_NoSetting F) ((fldx_setting F).cl 500007 rfl).2 (pe_var rfl (by first | exact .inl rfl | exact .inr (.inl rfl) | exact .inr (.inr rfl))) (pe_var rfl (by first | exact .inl rfl | exact .inr (.inl rfl) | exact .inr (.inr rfl))))))
theorem bk_NoSetting_init (F : FT ck dfs tbs w K mg) : ∀ (s : Shared) (u0 u1 : Value), K.In s.heap → BindsTo s (fdA K ("NoSetting", some "__init__")) ⟨[u0], [("setting", u1)]⟩ [("self", u0), ("setting", u1)] := by
  obtain ⟨dvs, kws, FD, h1, _, _⟩ := F.c.defS 9 (d := d_NoSetting_init)
  have e : dvs = [] := (h1 (TT K) ON (fun _ => none)).inv0
  subst e
  exact (SK.FunDS.b FD).k1 fun _ _ _ _ _ _ _ _ _ _ _ _ _ => rfl
theorem ex_NoManual (F : FT ck dfs tbs w K mg) : ExK K ((TT K).cl 500006) "ValueError" "ValueError.__new__" "ValueError.__init__" veB := exkB_ve (F.c.fact 38)
theorem ex1_NoManual (F : FT ck dfs tbs w K mg) : ExC1 K ((TT K).cl 500006) (He.fAd K ("NoManual", some "__init__")) := exkB_1 (F.c.fact 38)
theorem fldx_item (F : FT ck dfs tbs w K mg) : FldX K (TT K) [500006] 4 := fldXB_ok (by decide +kernel) (by decide) (F.c.fact 39)
abbrev N_NoManual_init : List PySem.Str := ["self", "item"]
theorem sc_NoManual_init : FnScopeS N_NoManual_init ["self", "item"] (defScope (inClass (top 7) 0)) := ⟨rfl, rfl, rfl, by decide +kernel, rfl, by decide +kernel, by decide +kernel, free_of (by decide +kernel)⟩
theorem s_NoManual_init (F : FT ck dfs tbs w K mg) : FnOk PR w K mg base CX0 1 (He.fAd K ("NoManual", some "__init__")) (fdA K ("NoManual", some "__init__")) ["self", "item"] (spEx ((TT K).cl 500006) "item") := by
  obtain ⟨dvs, kws, FD, _, _, _⟩ := F.c.defS 10 (d := d_NoManual_init)
  refine fn_exc (k := 0) (N := N_NoManual_init) (C := (TT K).cl 500006) FD sc_NoManual_init (by decide) (fun cdv A outer s H E ⟨oc, od, dV, kV, doc, pm, an, ct, osl, lk⟩ hcd hr => ?_)
  obtain ⟨cda, S⟩ := supX_ok (CX := CX0) (P := PR) (w := w) (base := base) (N := N_NoManual_init) (A := A) (outer := outer) (s := s) (H := H) (E := E) F.ns (F.c.fact 40) lk rfl rfl rfl rfl rfl rfl (by kernel_rfl)
  exact psa_supx (C := (TT K).cl 500006) S (ex_NoManual F) (psa_of (pss_one (ps_exf (ex_NoManual F) ((fldx_item F).cl 500006 rfl).2 (pe_var rfl (by first | exact .inl rfl | exact .inr (.inl rfl) | exact .inr (.inr rfl))) (pe_var rfl (by first | exact .inl rfl | exact .inr (.inl rfl) | exact .inr (.inr rfl))))))
theorem bk_NoManual_init (F : FT ck dfs tbs w K mg) : ∀ (s : Shared) (u0 u1 : Value), K.In s.heap → BindsTo s (fdA K ("NoManual", some "__init__")) ⟨[u0], [("item", u1)]⟩ [("self", u0), ("item", u1)] := by
  obtain ⟨dvs, kws, FD, h1, _, _⟩ := F.c.defS 10 (d := d_NoManual_init)
  have e : dvs = [] := (h1 (TT K) ON (fun _ => none)).inv0
  subst e
  exact (SK.FunDS.b FD).k1 fun _ _ _ _ _ _ _ _ _ _ _ _ _ => rfl
theorem ex_NoSeen (F : FT ck dfs tbs w K mg) : ExK K ((TT K).cl 500013) "ValueError" "ValueError.__new__" "ValueError.__init__" veB := exkB_ve (F.c.fact 42)
theorem ex1_NoSeen (F : FT ck dfs tbs w K mg) : ExC1 K ((TT K).cl 500013) (He.fAd K ("NoSeen", some "__init__")) := exkB_1 (F.c.fact 42)
theorem fldx_seen (F : FT ck dfs tbs w K mg) : FldX K (TT K) [500013] 11 := fldXB_ok (by decide +kernel) (by decide) (F.c.fact 43)
abbrev N_NoSeen_init : List PySem.Str := ["self", "seen"]
theorem sc_NoSeen_init : FnScopeS N_NoSeen_init ["self", "seen"] (defScope (inClass (top 14) 0)) := ⟨rfl, rfl, rfl, by decide +kernel, rfl, by decide +kernel, by decide +kernel, free_of (by decide +kernel)⟩
theorem s_NoSeen_init (F : FT ck dfs tbs w K mg) : FnOk PR w K mg base CX0 1 (He.fAd K ("NoSeen", some "__init__")) (fdA K ("NoSeen", some "__init__")) ["self", "seen"] (spEx ((TT K).cl 500013) "seen") := by
  obtain ⟨dvs, kws, FD, _, _, _⟩ := F.c.defS 11 (d := d_NoSeen_init)
  refine fn_exc (k := 0) (N := N_NoSeen_init) (C := (TT K).cl 500013) FD sc_NoSeen_init (by decide) (fun cdv A outer s H E ⟨oc, od, dV, kV, doc, pm, an, ct, osl, lk⟩ hcd hr => ?_)
  obtain ⟨cda, S⟩ := supX_ok (CX := CX0) (P := PR) (w := w) (base := base) (N := N_NoSeen_init) (A := A) (outer := outer) (s := s) (H := H) (E := E) F.ns (F.c.fact 44) lk rfl rfl rfl rfl rfl rfl (by kernel_rfl)
  exact psa_supx (C := (TT K).cl 500013) S (ex_NoSeen F) (psa_of (pss_one (ps_exf (ex_NoSeen F) ((fldx_seen F).cl 500013 rfl).2 (pe_var rfl (by first | exact .inl rfl | exact .inr (.inl rfl) | exact .inr (.inr rfl))) (pe_var rfl (by first | exact .inl rfl | exact .inr (.inl rfl) | exact .inr (.inr rfl))))))
theorem bk_NoSeen_init (F : FT ck dfs tbs w K mg) : ∀ (s : Shared) (u0 u1 : Value), K.In s.heap → BindsTo s (fdA K ("NoSeen", some "__init__")) ⟨[u0], [("seen", u1)]⟩ [("self", u0), ("seen", u1)] := by
  obtain ⟨dvs, kws, FD, h1, _, _⟩ := F.c.defS 11 (d := d_NoSeen_init)
  have e : dvs = [] := (h1 (TT K) ON (fun _ => none)).inv0
  subst e
  exact (SK.FunDS.b FD).k1 fun _ _ _ _ _ _ _ _ _ _ _ _ _ => rfl
theorem ex_NoNumber (F : FT ck dfs tbs w K mg) : ExK K ((TT K).cl 500012) "ValueError" "ValueError.__new__" "ValueError.__init__" veB := exkB_ve (F.c.fact 46)
theorem ex1_NoNumber (F : FT ck dfs tbs w K mg) : ExC1 K ((TT K).cl 500012) (He.fAd K ("NoNumber", some "__init__")) := exkB_1 (F.c.fact 46)
theorem fldx_value (F : FT ck dfs tbs w K mg) : FldX K (TT K) [500012] 10 := fldXB_ok (by decide +kernel) (by decide) (F.c.fact 47)
abbrev N_NoNumber_init : List PySem.Str := ["self", "value"]
theorem sc_NoNumber_init : FnScopeS N_NoNumber_init ["self", "value"] (defScope (inClass (top 13) 0)) := ⟨rfl, rfl, rfl, by decide +kernel, rfl, by decide +kernel, by decide +kernel, free_of (by decide +kernel)⟩
theorem s_NoNumber_init (F : FT ck dfs tbs w K mg) : FnOk PR w K mg base CX0 1 (He.fAd K ("NoNumber", some "__init__")) (fdA K ("NoNumber", some "__init__")) ["self", "value"] (spEx ((TT K).cl 500012) "value") := by
  obtain ⟨dvs, kws, FD, _, _, _⟩ := F.c.defS 12 (d := d_NoNumber_init)
  refine fn_exc (k := 0) (N := N_NoNumber_init) (C := (TT K).cl 500012) FD sc_NoNumber_init (by decide) (fun cdv A outer s H E ⟨oc, od, dV, kV, doc, pm, an, ct, osl, lk⟩ hcd hr => ?_)
  obtain ⟨cda, S⟩ := supX_ok (CX := CX0) (P := PR) (w := w) (base := base) (N := N_NoNumber_init) (A := A) (outer := outer) (s := s) (H := H) (E := E) F.ns (F.c.fact 48) lk rfl rfl rfl rfl rfl rfl (by kernel_rfl)
  exact psa_supx (C := (TT K).cl 500012) S (ex_NoNumber F) (psa_of (pss_one (ps_exf (ex_NoNumber F) ((fldx_value F).cl 500012 rfl).2 (pe_var rfl (by first | exact .inl rfl | exact .inr (.inl rfl) | exact .inr (.inr rfl))) (pe_var rfl (by first | exact .inl rfl | exact .inr (.inl rfl) | exact .inr (.inr rfl))))))
theorem bk_NoNumber_init (F : FT ck dfs tbs w K mg) : ∀ (s : Shared) (u0 u1 : Value), K.In s.heap → BindsTo s (fdA K ("NoNumber", some "__init__")) ⟨[u0], [("value", u1)]⟩ [("self", u0), ("value", u1)] := by
  obtain ⟨dvs, kws, FD, h1, _, _⟩ := F.c.defS 12 (d := d_NoNumber_init)
  have e : dvs = [] := (h1 (TT K) ON (fun _ => none)).inv0
  subst e
  exact (SK.FunDS.b FD).k1 fun _ _ _ _ _ _ _ _ _ _ _ _ _ => rfl
theorem ex_NoPlace (F : FT ck dfs tbs w K mg) : ExK K ((TT K).cl 500011) "ValueError" "ValueError.__new__" "ValueError.__init__" veB := exkB_ve (F.c.fact 50)
theorem ex1_NoPlace (F : FT ck dfs tbs w K mg) : ExC1 K ((TT K).cl 500011) (He.fAd K ("NoPlace", some "__init__")) := exkB_1 (F.c.fact 50)
theorem fldx_place (F : FT ck dfs tbs w K mg) : FldX K (TT K) [500011] 9 := fldXB_ok (by decide +kernel) (by decide) (F.c.fact 51)
abbrev N_NoPlace_init : List PySem.Str := ["self", "place"]
theorem sc_NoPlace_init : FnScopeS N_NoPlace_init ["self", "place"] (defScope (inClass (top 12) 0)) := ⟨rfl, rfl, rfl, by decide +kernel, rfl, by decide +kernel, by decide +kernel, free_of (by decide +kernel)⟩
theorem s_NoPlace_init (F : FT ck dfs tbs w K mg) : FnOk PR w K mg base CX0 1 (He.fAd K ("NoPlace", some "__init__")) (fdA K ("NoPlace", some "__init__")) ["self", "place"] (spEx ((TT K).cl 500011) "place") := by
  obtain ⟨dvs, kws, FD, _, _, _⟩ := F.c.defS 13 (d := d_NoPlace_init)
  refine fn_exc (k := 0) (N := N_NoPlace_init) (C := (TT K).cl 500011) FD sc_NoPlace_init (by decide) (fun cdv A outer s H E ⟨oc, od, dV, kV, doc, pm, an, ct, osl, lk⟩ hcd hr => ?_)
  obtain ⟨cda, S⟩ := supX_ok (CX := CX0) (P := PR) (w := w) (base := base) (N := N_NoPlace_init) (A := A) (outer := outer) (s := s) (H := H) (E := E) F.ns (F.c.fact 52) lk rfl rfl rfl rfl rfl rfl (by kernel_rfl)
  exact psa_supx (C := (TT K).cl 500011) S (ex_NoPlace F) (psa_of (pss_one (ps_exf (ex_NoPlace F) ((fldx_place F).cl 500011 rfl).2 (pe_var rfl (by first | exact .inl rfl | exact .inr (.inl rfl) | exact .inr (.inr rfl))) (pe_var rfl (by first | exact .inl rfl | exact .inr (.inl rfl) | exact .inr (.inr rfl))))))
theorem bk_NoPlace_init (F : FT ck dfs tbs w K mg) : ∀ (s : Shared) (u0 u1 : Value), K.In s.heap → BindsTo s (fdA K ("NoPlace", some "__init__")) ⟨[u0], [("place", u1)]⟩ [("self", u0), ("place", u1)] := by
  obtain ⟨dvs, kws, FD, h1, _, _⟩ := F.c.defS 13 (d := d_NoPlace_init)
  have e : dvs = [] := (h1 (TT K) ON (fun _ => none)).inv0
  subst e
  exact (SK.FunDS.b FD).k1 fun _ _ _ _ _ _ _ _ _ _ _ _ _ => rfl
theorem ex_NoFault (F : FT ck dfs tbs w K mg) : ExK K ((TT K).cl 500010) "ValueError" "ValueError.__new__" "ValueError.__init__" veB := exkB_ve (F.c.fact 54)
theorem ex1_NoFault (F : FT ck dfs tbs w K mg) : ExC1 K ((TT K).cl 500010) (He.fAd K ("NoFault", some "__init__")) := exkB_1 (F.c.fact 54)
theorem fldx_word (F : FT ck dfs tbs w K mg) : FldX K (TT K) [500010] 8 := fldXB_ok (by decide +kernel) (by decide) (F.c.fact 55)
abbrev N_NoFault_init : List PySem.Str := ["self", "word"]
theorem sc_NoFault_init : FnScopeS N_NoFault_init ["self", "word"] (defScope (inClass (top 11) 0)) := ⟨rfl, rfl, rfl, by decide +kernel, rfl, by decide +kernel, by decide +kernel, free_of (by decide +kernel)⟩
theorem s_NoFault_init (F : FT ck dfs tbs w K mg) : FnOk PR w K mg base CX0 1 (He.fAd K ("NoFault", some "__init__")) (fdA K ("NoFault", some "__init__")) ["self", "word"] (spEx ((TT K).cl 500010) "word") := by
  obtain ⟨dvs, kws, FD, _, _, _⟩ := F.c.defS 14 (d := d_NoFault_init)
  refine fn_exc (k := 0) (N := N_NoFault_init) (C := (TT K).cl 500010) FD sc_NoFault_init (by decide) (fun cdv A outer s H E ⟨oc, od, dV, kV, doc, pm, an, ct, osl, lk⟩ hcd hr => ?_)
  obtain ⟨cda, S⟩ := supX_ok (CX := CX0) (P := PR) (w := w) (base := base) (N := N_NoFault_init) (A := A) (outer := outer) (s := s) (H := H) (E := E) F.ns (F.c.fact 56) lk rfl rfl rfl rfl rfl rfl (by kernel_rfl)
  exact psa_supx (C := (TT K).cl 500010) S (ex_NoFault F) (psa_of (pss_one (ps_exf (ex_NoFault F) ((fldx_word F).cl 500010 rfl).2 (pe_var rfl (by first | exact .inl rfl | exact .inr (.inl rfl) | exact .inr (.inr rfl))) (pe_var rfl (by first | exact .inl rfl | exact .inr (.inl rfl) | exact .inr (.inr rfl))))))
theorem bk_NoFault_init (F : FT ck dfs tbs w K mg) : ∀ (s : Shared) (u0 u1 : Value), K.In s.heap → BindsTo s (fdA K ("NoFault", some "__init__")) ⟨[u0], [("word", u1)]⟩ [("self", u0), ("word", u1)] := by
  obtain ⟨dvs, kws, FD, h1, _, _⟩ := F.c.defS 14 (d := d_NoFault_init)
  have e : dvs = [] := (h1 (TT K) ON (fun _ => none)).inv0
  subst e
  exact (SK.FunDS.b FD).k1 fun _ _ _ _ _ _ _ _ _ _ _ _ _ => rfl
theorem ex_NoNote (F : FT ck dfs tbs w K mg) : ExK K ((TT K).cl 500014) "ValueError" "ValueError.__new__" "ValueError.__init__" veB := exkB_ve (F.c.fact 58)
theorem ex1_NoNote (F : FT ck dfs tbs w K mg) : ExC1 K ((TT K).cl 500014) (He.fAd K ("NoNote", some "__init__")) := exkB_1 (F.c.fact 58)
theorem fldx_line (F : FT ck dfs tbs w K mg) : FldX K (TT K) [500014] 12 := fldXB_ok (by decide +kernel) (by decide) (F.c.fact 59)
abbrev N_NoNote_init : List PySem.Str := ["self", "line"]
theorem sc_NoNote_init : FnScopeS N_NoNote_init ["self", "line"] (defScope (inClass (top 15) 0)) := ⟨rfl, rfl, rfl, by decide +kernel, rfl, by decide +kernel, by decide +kernel, free_of (by decide +kernel)⟩
theorem s_NoNote_init (F : FT ck dfs tbs w K mg) : FnOk PR w K mg base CX0 1 (He.fAd K ("NoNote", some "__init__")) (fdA K ("NoNote", some "__init__")) ["self", "line"] (spEx ((TT K).cl 500014) "line") := by
  obtain ⟨dvs, kws, FD, _, _, _⟩ := F.c.defS 15 (d := d_NoNote_init)
  refine fn_exc (k := 0) (N := N_NoNote_init) (C := (TT K).cl 500014) FD sc_NoNote_init (by decide) (fun cdv A outer s H E ⟨oc, od, dV, kV, doc, pm, an, ct, osl, lk⟩ hcd hr => ?_)
  obtain ⟨cda, S⟩ := supX_ok (CX := CX0) (P := PR) (w := w) (base := base) (N := N_NoNote_init) (A := A) (outer := outer) (s := s) (H := H) (E := E) F.ns (F.c.fact 60) lk rfl rfl rfl rfl rfl rfl (by kernel_rfl)
  exact psa_supx (C := (TT K).cl 500014) S (ex_NoNote F) (psa_of (pss_one (ps_exf (ex_NoNote F) ((fldx_line F).cl 500014 rfl).2 (pe_var rfl (by first | exact .inl rfl | exact .inr (.inl rfl) | exact .inr (.inr rfl))) (pe_var rfl (by first | exact .inl rfl | exact .inr (.inl rfl) | exact .inr (.inr rfl))))))
theorem bk_NoNote_init (F : FT ck dfs tbs w K mg) : ∀ (s : Shared) (u0 u1 : Value), K.In s.heap → BindsTo s (fdA K ("NoNote", some "__init__")) ⟨[u0], [("line", u1)]⟩ [("self", u0), ("line", u1)] := by
  obtain ⟨dvs, kws, FD, h1, _, _⟩ := F.c.defS 15 (d := d_NoNote_init)
  have e : dvs = [] := (h1 (TT K) ON (fun _ => none)).inv0
  subst e
  exact (SK.FunDS.b FD).k1 fun _ _ _ _ _ _ _ _ _ _ _ _ _ => rfl
theorem bd_law_named (F : FT ck dfs tbs w K mg) : Binds K (fdA K ("_law_named", none)) ["_law_thing"] [] := by
  obtain ⟨dvs, kws, FD, h1, _, _⟩ := F.c.def_ 16 (d := d_law_named)
  have e : dvs = [] := (h1 (TT K) ON (fun _ => none)).inv0
  subst e
  exact (SK.FunD.b FD).n0 fun _ _ _ _ _ _ _ _ _ _ _ us hl => match us, hl with | [_], _ => rfl
theorem kp_law_named (F : FT ck dfs tbs w K mg) : PySem.W.keepIn K (.ref (He.fAd K ("_law_named", none))) = true := by
  obtain ⟨_, _, FD, _⟩ := F.c.def_ 16 (d := d_law_named)
  exact FD.kp
theorem bd_NoManual_init (F : FT ck dfs tbs w K mg) : Binds K (fdA K ("NoManual", some "__init__")) ["self", "item"] [] := by
  obtain ⟨dvs, kws, FD, h1, _, _⟩ := F.c.defS 10 (d := d_NoManual_init)
  have e : dvs = [] := (h1 (TT K) ON (fun _ => none)).inv0
  subst e
  exact (SK.FunDS.b FD).n0 fun _ _ _ _ _ _ _ _ _ _ _ us hl => match us, hl with | [_, _], _ => rfl
theorem bd_NoStand_init (F : FT ck dfs tbs w K mg) : Binds K (fdA K ("NoStand", some "__init__")) ["self", "stand"] [] := by
  obtain ⟨dvs, kws, FD, h1, _, _⟩ := F.c.defS 2 (d := d_NoStand_init)
  have e : dvs = [] := (h1 (TT K) ON (fun _ => none)).inv0
  subst e
  exact (SK.FunDS.b FD).n0 fun _ _ _ _ _ _ _ _ _ _ _ us hl => match us, hl with | [_, _], _ => rfl
theorem bd_NoDeed_init (F : FT ck dfs tbs w K mg) : Binds K (fdA K ("NoDeed", some "__init__")) ["self", "deed"] [] := by
  obtain ⟨dvs, kws, FD, h1, _, _⟩ := F.c.defS 3 (d := d_NoDeed_init)
  have e : dvs = [] := (h1 (TT K) ON (fun _ => none)).inv0
  subst e
  exact (SK.FunDS.b FD).n0 fun _ _ _ _ _ _ _ _ _ _ _ us hl => match us, hl with | [_, _], _ => rfl
theorem bd_NoName_init (F : FT ck dfs tbs w K mg) : Binds K (fdA K ("NoName", some "__init__")) ["self", "name"] [] := by
  obtain ⟨dvs, kws, FD, h1, _, _⟩ := F.c.defS 4 (d := d_NoName_init)
  have e : dvs = [] := (h1 (TT K) ON (fun _ => none)).inv0
  subst e
  exact (SK.FunDS.b FD).n0 fun _ _ _ _ _ _ _ _ _ _ _ us hl => match us, hl with | [_, _], _ => rfl
theorem bd_NoBox_init (F : FT ck dfs tbs w K mg) : Binds K (fdA K ("NoBox", some "__init__")) ["self", "part"] [] := by
  obtain ⟨dvs, kws, FD, h1, _, _⟩ := F.c.defS 5 (d := d_NoBox_init)
  have e : dvs = [] := (h1 (TT K) ON (fun _ => none)).inv0
  subst e
  exact (SK.FunDS.b FD).n0 fun _ _ _ _ _ _ _ _ _ _ _ us hl => match us, hl with | [_, _], _ => rfl
theorem bd_NoThing_init (F : FT ck dfs tbs w K mg) : Binds K (fdA K ("NoThing", some "__init__")) ["self", "part"] [] := by
  obtain ⟨dvs, kws, FD, h1, _, _⟩ := F.c.defS 6 (d := d_NoThing_init)
  have e : dvs = [] := (h1 (TT K) ON (fun _ => none)).inv0
  subst e
  exact (SK.FunDS.b FD).n0 fun _ _ _ _ _ _ _ _ _ _ _ us hl => match us, hl with | [_, _], _ => rfl
theorem bd_NoPlace_init (F : FT ck dfs tbs w K mg) : Binds K (fdA K ("NoPlace", some "__init__")) ["self", "place"] [] := by
  obtain ⟨dvs, kws, FD, h1, _, _⟩ := F.c.defS 13 (d := d_NoPlace_init)
  have e : dvs = [] := (h1 (TT K) ON (fun _ => none)).inv0
  subst e
  exact (SK.FunDS.b FD).n0 fun _ _ _ _ _ _ _ _ _ _ _ us hl => match us, hl with | [_, _], _ => rfl
theorem bd_NoFault_init (F : FT ck dfs tbs w K mg) : Binds K (fdA K ("NoFault", some "__init__")) ["self", "word"] [] := by
  obtain ⟨dvs, kws, FD, h1, _, _⟩ := F.c.defS 14 (d := d_NoFault_init)
  have e : dvs = [] := (h1 (TT K) ON (fun _ => none)).inv0
  subst e
  exact (SK.FunDS.b FD).n0 fun _ _ _ _ _ _ _ _ _ _ _ us hl => match us, hl with | [_, _], _ => rfl
theorem bd_NothingBack_init (F : FT ck dfs tbs w K mg) : Binds K (fdA K ("NothingBack", some "__init__")) ["self", "many"] [] := by
  obtain ⟨dvs, kws, FD, h1, _, _⟩ := F.c.defS 7 (d := d_NothingBack_init)
  have e : dvs = [] := (h1 (TT K) ON (fun _ => none)).inv0
  subst e
  exact (SK.FunDS.b FD).n0 fun _ _ _ _ _ _ _ _ _ _ _ us hl => match us, hl with | [_, _], _ => rfl
theorem bd_NoMove_init (F : FT ck dfs tbs w K mg) : Binds K (fdA K ("NoMove", some "__init__")) ["self", "index"] [] := by
  obtain ⟨dvs, kws, FD, h1, _, _⟩ := F.c.defS 8 (d := d_NoMove_init)
  have e : dvs = [] := (h1 (TT K) ON (fun _ => none)).inv0
  subst e
  exact (SK.FunDS.b FD).n0 fun _ _ _ _ _ _ _ _ _ _ _ us hl => match us, hl with | [_, _], _ => rfl
theorem bd_NoSetting_init (F : FT ck dfs tbs w K mg) : Binds K (fdA K ("NoSetting", some "__init__")) ["self", "setting"] [] := by
  obtain ⟨dvs, kws, FD, h1, _, _⟩ := F.c.defS 9 (d := d_NoSetting_init)
  have e : dvs = [] := (h1 (TT K) ON (fun _ => none)).inv0
  subst e
  exact (SK.FunDS.b FD).n0 fun _ _ _ _ _ _ _ _ _ _ _ us hl => match us, hl with | [_, _], _ => rfl
theorem bd_NoNote_init (F : FT ck dfs tbs w K mg) : Binds K (fdA K ("NoNote", some "__init__")) ["self", "line"] [] := by
  obtain ⟨dvs, kws, FD, h1, _, _⟩ := F.c.defS 15 (d := d_NoNote_init)
  have e : dvs = [] := (h1 (TT K) ON (fun _ => none)).inv0
  subst e
  exact (SK.FunDS.b FD).n0 fun _ _ _ _ _ _ _ _ _ _ _ us hl => match us, hl with | [_, _], _ => rfl
theorem bd_NoSeen_init (F : FT ck dfs tbs w K mg) : Binds K (fdA K ("NoSeen", some "__init__")) ["self", "seen"] [] := by
  obtain ⟨dvs, kws, FD, h1, _, _⟩ := F.c.defS 11 (d := d_NoSeen_init)
  have e : dvs = [] := (h1 (TT K) ON (fun _ => none)).inv0
  subst e
  exact (SK.FunDS.b FD).n0 fun _ _ _ _ _ _ _ _ _ _ _ us hl => match us, hl with | [_, _], _ => rfl
theorem bd_NoNumber_init (F : FT ck dfs tbs w K mg) : Binds K (fdA K ("NoNumber", some "__init__")) ["self", "value"] [] := by
  obtain ⟨dvs, kws, FD, h1, _, _⟩ := F.c.defS 12 (d := d_NoNumber_init)
  have e : dvs = [] := (h1 (TT K) ON (fun _ => none)).inv0
  subst e
  exact (SK.FunDS.b FD).n0 fun _ _ _ _ _ _ _ _ _ _ _ us hl => match us, hl with | [_, _], _ => rfl
theorem bd_law_all (F : FT ck dfs tbs w K mg) : Binds K (fdA K ("_law_all", none)) ["_law_thing"] [] := by
  obtain ⟨dvs, kws, FD, h1, _, _⟩ := F.c.def_ 17 (d := d_law_all)
  have e : dvs = [] := (h1 (TT K) ON (fun _ => none)).inv0
  subst e
  exact (SK.FunD.b FD).n0 fun _ _ _ _ _ _ _ _ _ _ _ us hl => match us, hl with | [_], _ => rfl
theorem kp_law_all (F : FT ck dfs tbs w K mg) : PySem.W.keepIn K (.ref (He.fAd K ("_law_all", none))) = true := by
  obtain ⟨_, _, FD, _⟩ := F.c.def_ 17 (d := d_law_all)
  exact FD.kp
theorem bd_law_kept (F : FT ck dfs tbs w K mg) : Binds K (fdA K ("_law_kept", none)) ["_law_some"] [] := by
  obtain ⟨dvs, kws, FD, h1, _, _⟩ := F.c.def_ 18 (d := d_law_kept)
  have e : dvs = [] := (h1 (TT K) ON (fun _ => none)).inv0
  subst e
  exact (SK.FunD.b FD).n0 fun _ _ _ _ _ _ _ _ _ _ _ us hl => match us, hl with | [_], _ => rfl
theorem kp_law_kept (F : FT ck dfs tbs w K mg) : PySem.W.keepIn K (.ref (He.fAd K ("_law_kept", none))) = true := by
  obtain ⟨_, _, FD, _⟩ := F.c.def_ 18 (d := d_law_kept)
  exact FD.kp
theorem bd_law_classes (F : FT ck dfs tbs w K mg) : Binds K (fdA K ("_law_classes", none)) ["_law_e"] [] := by
  obtain ⟨dvs, kws, FD, h1, _, _⟩ := F.c.def_ 19 (d := d_law_classes)
  have e : dvs = [] := (h1 (TT K) ON (fun _ => none)).inv0
  subst e
  exact (SK.FunD.b FD).n0 fun _ _ _ _ _ _ _ _ _ _ _ us hl => match us, hl with | [_], _ => rfl
theorem kp_law_classes (F : FT ck dfs tbs w K mg) : PySem.W.keepIn K (.ref (He.fAd K ("_law_classes", none))) = true := by
  obtain ⟨_, _, FD, _⟩ := F.c.def_ 19 (d := d_law_classes)
  exact FD.kp
theorem ex_TooMany (F : FT ck dfs tbs w K mg) : ExK K ((TT K).cl 500015) "OverflowError" "OverflowError.__new__" "OverflowError.__init__" ovB := exkB_ov (F.c.fact 91)
theorem ex1_TooMany (F : FT ck dfs tbs w K mg) : ExC1 K ((TT K).cl 500015) (He.fAd K ("TooMany", some "__init__")) := exkB_1 (F.c.fact 91)
theorem fldx_most (F : FT ck dfs tbs w K mg) : FldX K (TT K) [500015] 13 := fldXB_ok (by decide +kernel) (by decide) (F.c.fact 92)
abbrev N_TooMany_init : List PySem.Str := ["self", "most"]
theorem sc_TooMany_init : FnScopeS N_TooMany_init ["self", "most"] (defScope (inClass (top 16) 0)) := ⟨rfl, rfl, rfl, by decide +kernel, rfl, by decide +kernel, by decide +kernel, free_of (by decide +kernel)⟩
theorem s_TooMany_init (F : FT ck dfs tbs w K mg) : FnOk PR w K mg base CX0 1 (He.fAd K ("TooMany", some "__init__")) (fdA K ("TooMany", some "__init__")) ["self", "most"] (spEx ((TT K).cl 500015) "most") := by
  obtain ⟨dvs, kws, FD, _, _, _⟩ := F.c.defS 20 (d := d_TooMany_init)
  refine fn_exc (k := 0) (N := N_TooMany_init) (C := (TT K).cl 500015) FD sc_TooMany_init (by decide) (fun cdv A outer s H E ⟨oc, od, dV, kV, doc, pm, an, ct, osl, lk⟩ hcd hr => ?_)
  obtain ⟨cda, S⟩ := supX_ok (CX := CX0) (P := PR) (w := w) (base := base) (N := N_TooMany_init) (A := A) (outer := outer) (s := s) (H := H) (E := E) F.ns (F.c.fact 93) lk rfl rfl rfl rfl rfl rfl (by kernel_rfl)
  exact psa_supx (C := (TT K).cl 500015) S (ex_TooMany F) (psa_of (pss_one (ps_exf (ex_TooMany F) ((fldx_most F).cl 500015 rfl).2 (pe_var rfl (by first | exact .inl rfl | exact .inr (.inl rfl) | exact .inr (.inr rfl))) (pe_var rfl (by first | exact .inl rfl | exact .inr (.inl rfl) | exact .inr (.inr rfl))))))
theorem bk_TooMany_init (F : FT ck dfs tbs w K mg) : ∀ (s : Shared) (u0 u1 : Value), K.In s.heap → BindsTo s (fdA K ("TooMany", some "__init__")) ⟨[u0], [("most", u1)]⟩ [("self", u0), ("most", u1)] := by
  obtain ⟨dvs, kws, FD, h1, _, _⟩ := F.c.defS 20 (d := d_TooMany_init)
  have e : dvs = [] := (h1 (TT K) ON (fun _ => none)).inv0
  subst e
  exact (SK.FunDS.b FD).k1 fun _ _ _ _ _ _ _ _ _ _ _ _ _ => rfl
theorem bd_TooMany_init (F : FT ck dfs tbs w K mg) : Binds K (fdA K ("TooMany", some "__init__")) ["self", "most"] [] := by
  obtain ⟨dvs, kws, FD, h1, _, _⟩ := F.c.defS 20 (d := d_TooMany_init)
  have e : dvs = [] := (h1 (TT K) ON (fun _ => none)).inv0
  subst e
  exact (SK.FunDS.b FD).n0 fun _ _ _ _ _ _ _ _ _ _ _ us hl => match us, hl with | [_, _], _ => rfl
theorem bd_law (F : FT ck dfs tbs w K mg) : Binds K (fdA K ("law", none)) ["_law_script"] [] := by
  obtain ⟨dvs, kws, FD, h1, _, _⟩ := F.c.def_ 21 (d := d_law)
  have e : dvs = [] := (h1 (TT K) ON (fun _ => none)).inv0
  subst e
  exact (SK.FunD.b FD).n0 fun _ _ _ _ _ _ _ _ _ _ _ us hl => match us, hl with | [_], _ => rfl
abbrev N_law_pool : List PySem.Str := ["_law_script", "_law_k", "_law_cell", "_law_big", "_law_mixed"]
theorem sc_law_pool : FnScope N_law_pool ["_law_script", "_law_k"] (defScope (top 18)) := ⟨rfl, rfl, rfl, by decide +kernel, rfl, by decide +kernel, by decide +kernel⟩
def mu_law_pool_o (i : Nat) : Bool := [1000000].contains i
def b_law_pool_o : SM := sSeq (sSet 2 (eC (.int 0))) (sSeq (sIf (tBl (e2 vLt (eV 1) (eN vLen (aC (eV 0) (aN))))) (sSet 2 (e2 vIx (eV 0) (eV 1))) (sNil)) (sSeq (sSet 3 (eN vMax (aC (eN vInt (aC (eV 2) (aN))) (aC (eN vInt (aC (e2 vSub (e1 vNeg (eC (.int 1))) (eV 2)) (aN))) (aN))))) (sSeq (sSet 4 (e2 vMod (eN vInt (aC (e2 vMul (e2 vAdd (e2 vAdd (e2 vAdd (e2 vMod (eN vInt (aC (eV 3) (aN))) (eC (.int 2147483629))) (e2 vMul (e2 vMul (eC (.int 7919)) (eV 1)) (eV 1))) (e2 vMul (eC (.int 31)) (eV 1))) (eC (.int 17))) (eC (.int 48271))) (aN))) (eC (.int 2147483647)))) (sRet (eLst (aC (e2 vMul (eV 3) (eN vInt (aC (e2 vGe (eV 3) (e2 vPow (eC (.int 10)) (eC (.int 18)))) (aN)))) (aC (eV 4) (aN))))))))
def m_law_pool_o : FnM := runF 5 [] true b_law_pool_o
theorem s_law_pool_o (F : FT ck dfs tbs w K mg) : FnOk PR w K mg base CX0 1 (He.fAd K ("_law_pool", none)) (fdA K ("_law_pool", none)) ["_law_script", "_law_k"] (spG K (TT K) [] [] true 2 m_law_pool_o) := by
  obtain ⟨dvs, kws, FD, _, _, _⟩ := F.c.def_ 0 (d := d_law_pool)
  exact fn_ok (N := N_law_pool) (ps := ["_law_script", "_law_k"]) (k := 0) (mu := mu_law_pool_o) (m := b_law_pool_o) FD sc_law_pool (by decide) (by decide) (by decide) (by decide) rfl (fun cdv A outer s H vs E hr =>
    (ss_cons (ss_set (i := 2) (hN := sc_law_pool.nd) (he := se_int))
    (ss_cons (ss_if (st_cmp o_lt (se_v (i := 1)) (se_callB (hc := c_len) (hm := (F.free 0)) (ha := (sa_cons (se_v (i := 0)) sa_nil)))) (ss_one (ss_set (i := 2) (hN := sc_law_pool.nd) (he := (se_ix (se_v (i := 0)) (se_v (i := 1)))))) ss_nil)
    (ss_cons (ss_set (i := 3) (hN := sc_law_pool.nd) (he := (se_callB (hc := (c_max rfl)) (hm := (F.free 2)) (ha := (sa_cons (se_callTy (hc := c_int) (hm := (F.free 4)) (ha := (sa_cons (se_v (i := 2)) sa_nil))) (sa_cons (se_callTy (hc := c_int) (hm := (F.free 4)) (ha := (sa_cons (se_op o_sub (se_un o_neg se_int) (se_v (i := 2))) sa_nil))) sa_nil))))))
    (ss_cons (ss_set (i := 4) (hN := sc_law_pool.nd) (he := (se_op o_mod (se_callTy (hc := c_int) (hm := (F.free 4)) (ha := (sa_cons (se_op o_mul (se_op o_add (se_op o_add (se_op o_add (se_op o_mod (se_callTy (hc := c_int) (hm := (F.free 4)) (ha := (sa_cons (se_v (i := 3)) sa_nil))) se_int) (se_op o_mul (se_op o_mul se_int (se_v (i := 1))) (se_v (i := 1)))) (se_op o_mul se_int (se_v (i := 1)))) se_int) se_int) sa_nil))) se_int)))
    (ss_one (ss_retO (he := (so_lst (sa_cons (se_op o_mul (se_v (i := 3)) (se_callTy (hc := c_int) (hm := (F.free 4)) (ha := (sa_cons (se_cmp o_ge (se_v (i := 3)) (se_op o_pow se_int se_int)) sa_nil)))) (sa_cons (se_v (i := 4)) sa_nil)))))))))))
abbrev N_law_take : List PySem.Str := ["_law_pool_here", "_law_bound", "_law_result"]
theorem sc_law_take : FnScope N_law_take ["_law_pool_here", "_law_bound"] (defScope (top 19)) := ⟨rfl, rfl, rfl, by decide +kernel, rfl, by decide +kernel, by decide +kernel⟩
def mu_law_take (i : Nat) : Bool := [0].contains i
def b_law_take : SM := sSeq (sIf (tBl (e2 vGt (eIxS 0 (eC (.int 0))) (eC (.int 0)))) (sSeq (sSet 2 (e2 vMod (eN vInt (aC (eIxS 0 (eC (.int 0))) (aN))) (eV 1))) (sSeq (sSetL 0 (e2 vDiv (eIxS 0 (eC (.int 0))) (eV 1)) (eC (.int 0))) (sRet (eV 2)))) (sNil)) (sSeq (sSetL 0 (e2 vMod (eN vInt (aC (e2 vAdd (e2 vMul (eIxS 0 (eC (.int 1))) (eC (.int 39373))) (eC (.int 7))) (aN))) (eC (.int 2147483647))) (eC (.int 1))) (sRet (e2 vMod (eN vInt (aC (e2 vDiv (e2 vMod (eN vInt (aC (e2 vMul (eIxS 0 (eC (.int 1))) (eIxS 0 (eC (.int 1)))) (aN))) (eC (.int 2147483629))) (eC (.int 32))) (aN))) (eV 1))))
def m_law_take : FnM := runF 3 [0] false b_law_take
theorem s_law_take (F : FT ck dfs tbs w K mg) : FnOk PR w K mg base CX0 1 (He.fAd K ("_law_take", none)) (fdA K ("_law_take", none)) ["_law_pool_here", "_law_bound"] (spG K (TT K) [0] [] false 2 m_law_take) := by
  obtain ⟨dvs, kws, FD, _, _, _⟩ := F.c.def_ 1 (d := d_law_take)
  exact fn_ok (N := N_law_take) (ps := ["_law_pool_here", "_law_bound"]) (k := 0) (mu := mu_law_take) (m := b_law_take) FD sc_law_take (by decide) (by decide) (by decide) (by decide) rfl (fun cdv A outer s H vs E hr =>
    (ss_cons (ss_if (st_cmp o_gt (se_ixS (slm 0) se_int) se_int) (ss_cons (ss_set (i := 2) (hN := sc_law_take.nd) (he := (se_op o_mod (se_callTy (hc := c_int) (hm := (F.free 4)) (ha := (sa_cons (se_ixS (slm 0) se_int) sa_nil))) (se_v (i := 1)))))
    (ss_cons (ss_setL (k := 0) (s := slm 0) (hv := (se_op o_div (se_ixS (slm 0) se_int) (se_v (i := 1)))) (hb := se_int))
    (ss_one (ss_ret (he := (se_v (i := 2))))))) ss_nil)
    (ss_cons (ss_setL (k := 0) (s := slm 0) (hv := (se_op o_mod (se_callTy (hc := c_int) (hm := (F.free 4)) (ha := (sa_cons (se_op o_add (se_op o_mul (se_ixS (slm 0) se_int) se_int) se_int) sa_nil))) se_int)) (hb := se_int))
    (ss_one (ss_ret (he := (se_op o_mod (se_callTy (hc := c_int) (hm := (F.free 4)) (ha := (sa_cons (se_op o_div (se_op o_mod (se_callTy (hc := c_int) (hm := (F.free 4)) (ha := (sa_cons (se_op o_mul (se_ixS (slm 0) se_int) (se_ixS (slm 0) se_int)) sa_nil))) se_int) se_int) sa_nil))) (se_v (i := 1)))))))))
abbrev N_law_named : List PySem.Str := ["_law_thing", "_law_found"]
theorem sc_law_named : FnScope N_law_named ["_law_thing"] (defScope (top 21)) := ⟨rfl, rfl, rfl, by decide +kernel, rfl, by decide +kernel, by decide +kernel⟩
def mu_law_named (i : Nat) : Bool := [].contains i
def b_law_named : SM := sSeq (sSet 1 (eLst (aC (eMkX 500001 0 (eV 0)) (aC (eMkX 500002 0 (eV 0)) (aC (eMkX 500003 1 (eV 0)) (aC (eMkX 500004 2 (eV 0)) (aC (eMkX 500005 3 (eV 0)) (aN)))))))) (sSeq (sSet 1 (e2 vAdd (eV 1) (eLst (aC (eMkX 500006 4 (eV 0)) (aC (eMkX 500007 5 (eV 0)) (aC (eMkX 500008 6 (eV 0)) (aC (eMkX 500009 7 (eV 0)) (aN)))))))) (sSeq (sSet 1 (e2 vAdd (eV 1) (eLst (aC (eMkX 500010 8 (eV 0)) (aC (eMkX 500011 9 (eV 0)) (aC (eMkX 500012 10 (eV 0)) (aC (eMkX 500013 11 (eV 0)) (aN)))))))) (sRet (e2 vAdd (eV 1) (eLst (aC (eMkX 500014 12 (eV 0)) (aN)))))))
def m_law_named : FnM := runF 2 [] false b_law_named
theorem s_law_named (F : FT ck dfs tbs w K mg) : FnOk PR w K mg base CX0 3 (He.fAd K ("_law_named", none)) (fdA K ("_law_named", none)) ["_law_thing"] (spG K (TT K) [] [] false 1 m_law_named) := by
  obtain ⟨dvs, kws, FD, _, _, _⟩ := F.c.def_ 16 (d := d_law_named)
  exact fn_ok (N := N_law_named) (ps := ["_law_thing"]) (k := 2) (mu := mu_law_named) (m := b_law_named) FD sc_law_named (by decide) (by decide) (by decide) (by decide) rfl (fun cdv A outer s H vs E hr =>
    (ss_cons (ss_set (i := 1) (hN := sc_law_named.nd) (he := (se_lst (sa_cons (se_mkXK (c := 500001) (g := 0) (fn := "part") (by decide) (fldx_part F).lt rfl (ex_NoThing F) (ex1_NoThing F).ini (ex1_NoThing F).ty (s_NoThing_init F) (hr.mono (by decide : 2 ≤ 2)) (bk_NoThing_init F) (hm := (F.glo 25)) (ha := (se_v (i := 0)))) (sa_cons (se_mkXK (c := 500002) (g := 0) (fn := "part") (by decide) (fldx_part F).lt rfl (ex_NoBox F) (ex1_NoBox F).ini (ex1_NoBox F).ty (s_NoBox_init F) (hr.mono (by decide : 2 ≤ 2)) (bk_NoBox_init F) (hm := (F.glo 22)) (ha := (se_v (i := 0)))) (sa_cons (se_mkXK (c := 500003) (g := 1) (fn := "name") (by decide) (fldx_name F).lt rfl (ex_NoName F) (ex1_NoName F).ini (ex1_NoName F).ty (s_NoName_init F) (hr.mono (by decide : 2 ≤ 2)) (bk_NoName_init F) (hm := (F.glo 18)) (ha := (se_v (i := 0)))) (sa_cons (se_mkXK (c := 500004) (g := 2) (fn := "deed") (by decide) (fldx_deed F).lt rfl (ex_NoDeed F) (ex1_NoDeed F).ini (ex1_NoDeed F).ty (s_NoDeed_init F) (hr.mono (by decide : 2 ≤ 2)) (bk_NoDeed_init F) (hm := (F.glo 14)) (ha := (se_v (i := 0)))) (sa_cons (se_mkXK (c := 500005) (g := 3) (fn := "stand") (by decide) (fldx_stand F).lt rfl (ex_NoStand F) (ex1_NoStand F).ini (ex1_NoStand F).ty (s_NoStand_init F) (hr.mono (by decide : 2 ≤ 2)) (bk_NoStand_init F) (hm := (F.glo 10)) (ha := (se_v (i := 0)))) sa_nil))))))))
    (ss_cons (ss_set (i := 1) (hN := sc_law_named.nd) (he := (se_op o_add (se_v (i := 1)) (se_lst (sa_cons (se_mkXK (c := 500006) (g := 4) (fn := "item") (by decide) (fldx_item F).lt rfl (ex_NoManual F) (ex1_NoManual F).ini (ex1_NoManual F).ty (s_NoManual_init F) (hr.mono (by decide : 2 ≤ 2)) (bk_NoManual_init F) (hm := (F.glo 41)) (ha := (se_v (i := 0)))) (sa_cons (se_mkXK (c := 500007) (g := 5) (fn := "setting") (by decide) (fldx_setting F).lt rfl (ex_NoSetting F) (ex1_NoSetting F).ini (ex1_NoSetting F).ty (s_NoSetting_init F) (hr.mono (by decide : 2 ≤ 2)) (bk_NoSetting_init F) (hm := (F.glo 37)) (ha := (se_v (i := 0)))) (sa_cons (se_mkXK (c := 500008) (g := 6) (fn := "index") (by decide) (fldx_index F).lt rfl (ex_NoMove F) (ex1_NoMove F).ini (ex1_NoMove F).ty (s_NoMove_init F) (hr.mono (by decide : 2 ≤ 2)) (bk_NoMove_init F) (hm := (F.glo 33)) (ha := (se_v (i := 0)))) (sa_cons (se_mkXK (c := 500009) (g := 7) (fn := "many") (by decide) (fldx_many F).lt rfl (ex_NothingBack F) (ex1_NothingBack F).ini (ex1_NothingBack F).ty (s_NothingBack_init F) (hr.mono (by decide : 2 ≤ 2)) (bk_NothingBack_init F) (hm := (F.glo 29)) (ha := (se_v (i := 0)))) sa_nil))))))))
    (ss_cons (ss_set (i := 1) (hN := sc_law_named.nd) (he := (se_op o_add (se_v (i := 1)) (se_lst (sa_cons (se_mkXK (c := 500010) (g := 8) (fn := "word") (by decide) (fldx_word F).lt rfl (ex_NoFault F) (ex1_NoFault F).ini (ex1_NoFault F).ty (s_NoFault_init F) (hr.mono (by decide : 2 ≤ 2)) (bk_NoFault_init F) (hm := (F.glo 57)) (ha := (se_v (i := 0)))) (sa_cons (se_mkXK (c := 500011) (g := 9) (fn := "place") (by decide) (fldx_place F).lt rfl (ex_NoPlace F) (ex1_NoPlace F).ini (ex1_NoPlace F).ty (s_NoPlace_init F) (hr.mono (by decide : 2 ≤ 2)) (bk_NoPlace_init F) (hm := (F.glo 53)) (ha := (se_v (i := 0)))) (sa_cons (se_mkXK (c := 500012) (g := 10) (fn := "value") (by decide) (fldx_value F).lt rfl (ex_NoNumber F) (ex1_NoNumber F).ini (ex1_NoNumber F).ty (s_NoNumber_init F) (hr.mono (by decide : 2 ≤ 2)) (bk_NoNumber_init F) (hm := (F.glo 49)) (ha := (se_v (i := 0)))) (sa_cons (se_mkXK (c := 500013) (g := 11) (fn := "seen") (by decide) (fldx_seen F).lt rfl (ex_NoSeen F) (ex1_NoSeen F).ini (ex1_NoSeen F).ty (s_NoSeen_init F) (hr.mono (by decide : 2 ≤ 2)) (bk_NoSeen_init F) (hm := (F.glo 45)) (ha := (se_v (i := 0)))) sa_nil))))))))
    (ss_one (ss_ret (he := (se_op o_add (se_v (i := 1)) (se_lst (sa_cons (se_mkXK (c := 500014) (g := 12) (fn := "line") (by decide) (fldx_line F).lt rfl (ex_NoNote F) (ex1_NoNote F).ini (ex1_NoNote F).ty (s_NoNote_init F) (hr.mono (by decide : 2 ≤ 2)) (bk_NoNote_init F) (hm := (F.glo 61)) (ha := (se_v (i := 0)))) sa_nil))))))))))
abbrev N_law_all : List PySem.Str := ["_law_thing", "_law_found"]
theorem sc_law_all : FnScope N_law_all ["_law_thing"] (defScope (top 20)) := ⟨rfl, rfl, rfl, by decide +kernel, rfl, by decide +kernel, by decide +kernel⟩
def mu_law_all (i : Nat) : Bool := [].contains i
def b_law_all : SM := sSeq (sSet 1 (eLst (aC (eMkX 500001 0 (eV 0)) (aC (eMkX 500002 0 (eV 0)) (aC (eMkX 500003 1 (eV 0)) (aC (eMkX 500004 2 (eV 0)) (aC (eMkX 500005 3 (eV 0)) (aC (eMkX 500006 4 (eV 0)) (aN))))))))) (sSeq (sSet 1 (e2 vAdd (eV 1) (eLst (aC (eMkX 500007 5 (eV 0)) (aC (eMkX 500008 6 (eV 0)) (aC (eMkX 500009 7 (eV 0)) (aC (eMkX 500010 8 (eV 0)) (aC (eMkX 500011 9 (eV 0)) (aN))))))))) (sRet (e2 vAdd (eV 1) (eLst (aC (eMkX 500012 10 (eV 0)) (aC (eMkX 500013 11 (eV 0)) (aC (eMkX 500014 12 (eV 0)) (aN))))))))
def m_law_all : FnM := runF 2 [] false b_law_all
theorem s_law_all (F : FT ck dfs tbs w K mg) : FnOk PR w K mg base CX0 3 (He.fAd K ("_law_all", none)) (fdA K ("_law_all", none)) ["_law_thing"] (spG K (TT K) [] [] false 1 m_law_all) := by
  obtain ⟨dvs, kws, FD, _, _, _⟩ := F.c.def_ 17 (d := d_law_all)
  exact fn_ok (N := N_law_all) (ps := ["_law_thing"]) (k := 2) (mu := mu_law_all) (m := b_law_all) FD sc_law_all (by decide) (by decide) (by decide) (by decide) rfl (fun cdv A outer s H vs E hr =>
    (ss_cons (ss_set (i := 1) (hN := sc_law_all.nd) (he := (se_lst (sa_cons (se_mkX (c := 500001) (g := 0) (fn := "part") (by decide) (fldx_part F).lt rfl (ex_NoThing F) (ex1_NoThing F).ini (ex1_NoThing F).ty (s_NoThing_init F) (hr.mono (by decide : 2 ≤ 2)) (bd_NoThing_init F) (hm := (F.glo 25)) (ha := (se_v (i := 0)))) (sa_cons (se_mkX (c := 500002) (g := 0) (fn := "part") (by decide) (fldx_part F).lt rfl (ex_NoBox F) (ex1_NoBox F).ini (ex1_NoBox F).ty (s_NoBox_init F) (hr.mono (by decide : 2 ≤ 2)) (bd_NoBox_init F) (hm := (F.glo 22)) (ha := (se_v (i := 0)))) (sa_cons (se_mkX (c := 500003) (g := 1) (fn := "name") (by decide) (fldx_name F).lt rfl (ex_NoName F) (ex1_NoName F).ini (ex1_NoName F).ty (s_NoName_init F) (hr.mono (by decide : 2 ≤ 2)) (bd_NoName_init F) (hm := (F.glo 18)) (ha := (se_v (i := 0)))) (sa_cons (se_mkX (c := 500004) (g := 2) (fn := "deed") (by decide) (fldx_deed F).lt rfl (ex_NoDeed F) (ex1_NoDeed F).ini (ex1_NoDeed F).ty (s_NoDeed_init F) (hr.mono (by decide : 2 ≤ 2)) (bd_NoDeed_init F) (hm := (F.glo 14)) (ha := (se_v (i := 0)))) (sa_cons (se_mkX (c := 500005) (g := 3) (fn := "stand") (by decide) (fldx_stand F).lt rfl (ex_NoStand F) (ex1_NoStand F).ini (ex1_NoStand F).ty (s_NoStand_init F) (hr.mono (by decide : 2 ≤ 2)) (bd_NoStand_init F) (hm := (F.glo 10)) (ha := (se_v (i := 0)))) (sa_cons (se_mkX (c := 500006) (g := 4) (fn := "item") (by decide) (fldx_item F).lt rfl (ex_NoManual F) (ex1_NoManual F).ini (ex1_NoManual F).ty (s_NoManual_init F) (hr.mono (by decide : 2 ≤ 2)) (bd_NoManual_init F) (hm := (F.glo 41)) (ha := (se_v (i := 0)))) sa_nil)))))))))
    (ss_cons (ss_set (i := 1) (hN := sc_law_all.nd) (he := (se_op o_add (se_v (i := 1)) (se_lst (sa_cons (se_mkX (c := 500007) (g := 5) (fn := "setting") (by decide) (fldx_setting F).lt rfl (ex_NoSetting F) (ex1_NoSetting F).ini (ex1_NoSetting F).ty (s_NoSetting_init F) (hr.mono (by decide : 2 ≤ 2)) (bd_NoSetting_init F) (hm := (F.glo 37)) (ha := (se_v (i := 0)))) (sa_cons (se_mkX (c := 500008) (g := 6) (fn := "index") (by decide) (fldx_index F).lt rfl (ex_NoMove F) (ex1_NoMove F).ini (ex1_NoMove F).ty (s_NoMove_init F) (hr.mono (by decide : 2 ≤ 2)) (bd_NoMove_init F) (hm := (F.glo 33)) (ha := (se_v (i := 0)))) (sa_cons (se_mkX (c := 500009) (g := 7) (fn := "many") (by decide) (fldx_many F).lt rfl (ex_NothingBack F) (ex1_NothingBack F).ini (ex1_NothingBack F).ty (s_NothingBack_init F) (hr.mono (by decide : 2 ≤ 2)) (bd_NothingBack_init F) (hm := (F.glo 29)) (ha := (se_v (i := 0)))) (sa_cons (se_mkX (c := 500010) (g := 8) (fn := "word") (by decide) (fldx_word F).lt rfl (ex_NoFault F) (ex1_NoFault F).ini (ex1_NoFault F).ty (s_NoFault_init F) (hr.mono (by decide : 2 ≤ 2)) (bd_NoFault_init F) (hm := (F.glo 57)) (ha := (se_v (i := 0)))) (sa_cons (se_mkX (c := 500011) (g := 9) (fn := "place") (by decide) (fldx_place F).lt rfl (ex_NoPlace F) (ex1_NoPlace F).ini (ex1_NoPlace F).ty (s_NoPlace_init F) (hr.mono (by decide : 2 ≤ 2)) (bd_NoPlace_init F) (hm := (F.glo 53)) (ha := (se_v (i := 0)))) sa_nil)))))))))
    (ss_one (ss_ret (he := (se_op o_add (se_v (i := 1)) (se_lst (sa_cons (se_mkX (c := 500012) (g := 10) (fn := "value") (by decide) (fldx_value F).lt rfl (ex_NoNumber F) (ex1_NoNumber F).ini (ex1_NoNumber F).ty (s_NoNumber_init F) (hr.mono (by decide : 2 ≤ 2)) (bd_NoNumber_init F) (hm := (F.glo 49)) (ha := (se_v (i := 0)))) (sa_cons (se_mkX (c := 500013) (g := 11) (fn := "seen") (by decide) (fldx_seen F).lt rfl (ex_NoSeen F) (ex1_NoSeen F).ini (ex1_NoSeen F).ty (s_NoSeen_init F) (hr.mono (by decide : 2 ≤ 2)) (bd_NoSeen_init F) (hm := (F.glo 45)) (ha := (se_v (i := 0)))) (sa_cons (se_mkX (c := 500014) (g := 12) (fn := "line") (by decide) (fldx_line F).lt rfl (ex_NoNote F) (ex1_NoNote F).ini (ex1_NoNote F).ty (s_NoNote_init F) (hr.mono (by decide : 2 ≤ 2)) (bd_NoNote_init F) (hm := (F.glo 61)) (ha := (se_v (i := 0)))) sa_nil)))))))))))
abbrev N_law_kept : List PySem.Str := ["_law_some", "_law_found"]
theorem sc_law_kept : FnScope N_law_kept ["_law_some"] (defScope (top 22)) := ⟨rfl, rfl, rfl, by decide +kernel, rfl, by decide +kernel, by decide +kernel⟩
def mu_law_kept (i : Nat) : Bool := [].contains i
def b_law_kept : SM := sSeq (sSet 1 (eLst (aC (e1 (vAtX [500001, 500002] 0) (e2 vIx (eV 0) (eC (.int 0)))) (aC (e1 (vAtX [500001, 500002] 0) (e2 vIx (eV 0) (eC (.int 1)))) (aC (e1 (vAtX [500003] 1) (e2 vIx (eV 0) (eC (.int 2)))) (aC (e1 (vAtX [500004] 2) (e2 vIx (eV 0) (eC (.int 3)))) (aC (e1 (vAtX [500005] 3) (e2 vIx (eV 0) (eC (.int 4)))) (aC (e1 (vAtX [500006] 4) (e2 vIx (eV 0) (eC (.int 5)))) (aC (e1 (vAtX [500007] 5) (e2 vIx (eV 0) (eC (.int 6)))) (aN)))))))))) (sSeq (sSet 1 (e2 vAdd (eV 1) (eLst (aC (e1 (vAtX [500008] 6) (e2 vIx (eV 0) (eC (.int 7)))) (aC (e1 (vAtX [500009] 7) (e2 vIx (eV 0) (eC (.int 8)))) (aC (e1 (vAtX [500010] 8) (e2 vIx (eV 0) (eC (.int 9)))) (aC (e1 (vAtX [500011] 9) (e2 vIx (eV 0) (eC (.int 10)))) (aC (e1 (vAtX [500012] 10) (e2 vIx (eV 0) (eC (.int 11)))) (aC (e1 (vAtX [500013] 11) (e2 vIx (eV 0) (eC (.int 12)))) (aN)))))))))) (sRet (e2 vAdd (eV 1) (eLst (aC (e1 (vAtX [500014] 12) (e2 vIx (eV 0) (eC (.int 13)))) (aN))))))
def m_law_kept : FnM := runF 2 [] false b_law_kept
theorem s_law_kept (F : FT ck dfs tbs w K mg) : FnOk PR w K mg base CX0 1 (He.fAd K ("_law_kept", none)) (fdA K ("_law_kept", none)) ["_law_some"] (spG K (TT K) [] [] false 1 m_law_kept) := by
  obtain ⟨dvs, kws, FD, _, _, _⟩ := F.c.def_ 18 (d := d_law_kept)
  exact fn_ok (N := N_law_kept) (ps := ["_law_some"]) (k := 0) (mu := mu_law_kept) (m := b_law_kept) FD sc_law_kept (by decide) (by decide) (by decide) (by decide) rfl (fun cdv A outer s H vs E hr =>
    (ss_cons (ss_set (i := 1) (hN := sc_law_kept.nd) (he := (se_lst (sa_cons (se_atX (fldx_part F) rfl (se_ix (se_v (i := 0)) se_int)) (sa_cons (se_atX (fldx_part F) rfl (se_ix (se_v (i := 0)) se_int)) (sa_cons (se_atX (fldx_name F) rfl (se_ix (se_v (i := 0)) se_int)) (sa_cons (se_atX (fldx_deed F) rfl (se_ix (se_v (i := 0)) se_int)) (sa_cons (se_atX (fldx_stand F) rfl (se_ix (se_v (i := 0)) se_int)) (sa_cons (se_atX (fldx_item F) rfl (se_ix (se_v (i := 0)) se_int)) (sa_cons (se_atX (fldx_setting F) rfl (se_ix (se_v (i := 0)) se_int)) sa_nil))))))))))
    (ss_cons (ss_set (i := 1) (hN := sc_law_kept.nd) (he := (se_op o_add (se_v (i := 1)) (se_lst (sa_cons (se_atX (fldx_index F) rfl (se_ix (se_v (i := 0)) se_int)) (sa_cons (se_atX (fldx_many F) rfl (se_ix (se_v (i := 0)) se_int)) (sa_cons (se_atX (fldx_word F) rfl (se_ix (se_v (i := 0)) se_int)) (sa_cons (se_atX (fldx_place F) rfl (se_ix (se_v (i := 0)) se_int)) (sa_cons (se_atX (fldx_value F) rfl (se_ix (se_v (i := 0)) se_int)) (sa_cons (se_atX (fldx_seen F) rfl (se_ix (se_v (i := 0)) se_int)) sa_nil))))))))))
    (ss_one (ss_ret (he := (se_op o_add (se_v (i := 1)) (se_lst (sa_cons (se_atX (fldx_line F) rfl (se_ix (se_v (i := 0)) se_int)) sa_nil)))))))))
abbrev N_law_classes : List PySem.Str := ["_law_e", "_law_found"]
theorem sc_law_classes : FnScope N_law_classes ["_law_e"] (defScope (top 23)) := ⟨rfl, rfl, rfl, by decide +kernel, rfl, by decide +kernel, by decide +kernel⟩
def mu_law_classes (i : Nat) : Bool := [].contains i
def b_law_classes : SM := sSeq (sSet 1 (eLst (aC (eIsX [500001, 500002, 500003, 500004, 500005, 500006, 500007, 500008, 500009, 500010, 500011, 500012, 500013, 500014, 500015] [500001] (eV 0)) (aC (eIsX [500001, 500002, 500003, 500004, 500005, 500006, 500007, 500008, 500009, 500010, 500011, 500012, 500013, 500014, 500015] [500002] (eV 0)) (aC (eIsX [500001, 500002, 500003, 500004, 500005, 500006, 500007, 500008, 500009, 500010, 500011, 500012, 500013, 500014, 500015] [500003] (eV 0)) (aC (eIsX [500001, 500002, 500003, 500004, 500005, 500006, 500007, 500008, 500009, 500010, 500011, 500012, 500013, 500014, 500015] [500004] (eV 0)) (aN))))))) (sSeq (sSet 1 (e2 vAdd (eV 1) (eLst (aC (eIsX [500001, 500002, 500003, 500004, 500005, 500006, 500007, 500008, 500009, 500010, 500011, 500012, 500013, 500014, 500015] [500005] (eV 0)) (aC (eIsX [500001, 500002, 500003, 500004, 500005, 500006, 500007, 500008, 500009, 500010, 500011, 500012, 500013, 500014, 500015] [500006] (eV 0)) (aC (eIsX [500001, 500002, 500003, 500004, 500005, 500006, 500007, 500008, 500009, 500010, 500011, 500012, 500013, 500014, 500015] [500007] (eV 0)) (aC (eIsX [500001, 500002, 500003, 500004, 500005, 500006, 500007, 500008, 500009, 500010, 500011, 500012, 500013, 500014, 500015] [500008] (eV 0)) (aN)))))))) (sSeq (sSet 1 (e2 vAdd (eV 1) (eLst (aC (eIsX [500001, 500002, 500003, 500004, 500005, 500006, 500007, 500008, 500009, 500010, 500011, 500012, 500013, 500014, 500015] [500009] (eV 0)) (aC (eIsX [500001, 500002, 500003, 500004, 500005, 500006, 500007, 500008, 500009, 500010, 500011, 500012, 500013, 500014, 500015] [500010] (eV 0)) (aC (eIsX [500001, 500002, 500003, 500004, 500005, 500006, 500007, 500008, 500009, 500010, 500011, 500012, 500013, 500014, 500015] [500011] (eV 0)) (aN))))))) (sRet (e2 vAdd (eV 1) (eLst (aC (eIsX [500001, 500002, 500003, 500004, 500005, 500006, 500007, 500008, 500009, 500010, 500011, 500012, 500013, 500014, 500015] [500012] (eV 0)) (aC (eIsX [500001, 500002, 500003, 500004, 500005, 500006, 500007, 500008, 500009, 500010, 500011, 500012, 500013, 500014, 500015] [500013] (eV 0)) (aC (eIsX [500001, 500002, 500003, 500004, 500005, 500006, 500007, 500008, 500009, 500010, 500011, 500012, 500013, 500014, 500015] [500014] (eV 0)) (aN)))))))))
def m_law_classes : FnM := runF 2 [] false b_law_classes
theorem s_law_classes (F : FT ck dfs tbs w K mg) : FnOk PR w K mg base CX0 1 (He.fAd K ("_law_classes", none)) (fdA K ("_law_classes", none)) ["_law_e"] (spG K (TT K) [] [] false 1 m_law_classes) := by
  obtain ⟨dvs, kws, FD, _, _, _⟩ := F.c.def_ 19 (d := d_law_classes)
  exact fn_ok (N := N_law_classes) (ps := ["_law_e"]) (k := 0) (mu := mu_law_classes) (m := b_law_classes) FD sc_law_classes (by decide) (by decide) (by decide) (by decide) rfl (fun cdv A outer s H vs E hr =>
    (ss_cons (ss_set (i := 1) (hN := sc_law_classes.nd) (he := (se_lst (sa_cons (se_isX (isXB_ok (F.c.fact 72)) (hm := (F.free 69)) (ha := (se_v (i := 0))) (hc := (pe_glob (v := .ref (He.ga K "NoThing")) rfl (F.glo 25) rfl)) (hk := (ClsV.own _))) (sa_cons (se_isX (isXB_ok (F.c.fact 71)) (hm := (F.free 69)) (ha := (se_v (i := 0))) (hc := (pe_glob (v := .ref (He.ga K "NoBox")) rfl (F.glo 22) rfl)) (hk := (ClsV.own _))) (sa_cons (se_isX (isXB_ok (F.c.fact 70)) (hm := (F.free 69)) (ha := (se_v (i := 0))) (hc := (pe_glob (v := .ref (He.ga K "NoName")) rfl (F.glo 18) rfl)) (hk := (ClsV.own _))) (sa_cons (se_isX (isXB_ok (F.c.fact 68)) (hm := (F.free 69)) (ha := (se_v (i := 0))) (hc := (pe_glob (v := .ref (He.ga K "NoDeed")) rfl (F.glo 14) rfl)) (hk := (ClsV.own _))) sa_nil)))))))
    (ss_cons (ss_set (i := 1) (hN := sc_law_classes.nd) (he := (se_op o_add (se_v (i := 1)) (se_lst (sa_cons (se_isX (isXB_ok (F.c.fact 76)) (hm := (F.free 69)) (ha := (se_v (i := 0))) (hc := (pe_glob (v := .ref (He.ga K "NoStand")) rfl (F.glo 10) rfl)) (hk := (ClsV.own _))) (sa_cons (se_isX (isXB_ok (F.c.fact 75)) (hm := (F.free 69)) (ha := (se_v (i := 0))) (hc := (pe_glob (v := .ref (He.ga K "NoManual")) rfl (F.glo 41) rfl)) (hk := (ClsV.own _))) (sa_cons (se_isX (isXB_ok (F.c.fact 74)) (hm := (F.free 69)) (ha := (se_v (i := 0))) (hc := (pe_glob (v := .ref (He.ga K "NoSetting")) rfl (F.glo 37) rfl)) (hk := (ClsV.own _))) (sa_cons (se_isX (isXB_ok (F.c.fact 73)) (hm := (F.free 69)) (ha := (se_v (i := 0))) (hc := (pe_glob (v := .ref (He.ga K "NoMove")) rfl (F.glo 33) rfl)) (hk := (ClsV.own _))) sa_nil))))))))
    (ss_cons (ss_set (i := 1) (hN := sc_law_classes.nd) (he := (se_op o_add (se_v (i := 1)) (se_lst (sa_cons (se_isX (isXB_ok (F.c.fact 79)) (hm := (F.free 69)) (ha := (se_v (i := 0))) (hc := (pe_glob (v := .ref (He.ga K "NothingBack")) rfl (F.glo 29) rfl)) (hk := (ClsV.own _))) (sa_cons (se_isX (isXB_ok (F.c.fact 78)) (hm := (F.free 69)) (ha := (se_v (i := 0))) (hc := (pe_glob (v := .ref (He.ga K "NoFault")) rfl (F.glo 57) rfl)) (hk := (ClsV.own _))) (sa_cons (se_isX (isXB_ok (F.c.fact 77)) (hm := (F.free 69)) (ha := (se_v (i := 0))) (hc := (pe_glob (v := .ref (He.ga K "NoPlace")) rfl (F.glo 53) rfl)) (hk := (ClsV.own _))) sa_nil)))))))
    (ss_one (ss_ret (he := (se_op o_add (se_v (i := 1)) (se_lst (sa_cons (se_isX (isXB_ok (F.c.fact 82)) (hm := (F.free 69)) (ha := (se_v (i := 0))) (hc := (pe_glob (v := .ref (He.ga K "NoNumber")) rfl (F.glo 49) rfl)) (hk := (ClsV.own _))) (sa_cons (se_isX (isXB_ok (F.c.fact 81)) (hm := (F.free 69)) (ha := (se_v (i := 0))) (hc := (pe_glob (v := .ref (He.ga K "NoSeen")) rfl (F.glo 45) rfl)) (hk := (ClsV.own _))) (sa_cons (se_isX (isXB_ok (F.c.fact 80)) (hm := (F.free 69)) (ha := (se_v (i := 0))) (hc := (pe_glob (v := .ref (He.ga K "NoNote")) rfl (F.glo 61) rfl)) (hk := (ClsV.own _))) sa_nil))))))))))))
abbrev N_law : List PySem.Str := ["_law_script", "_law_k", "_law_pool_here", "_law_thing", "_law_some", "_law_spot", "_law_e", "_law_at"]
theorem sc_law : FnScope N_law ["_law_script"] (defScope (top 24)) := ⟨rfl, rfl, rfl, by decide +kernel, rfl, by decide +kernel, by decide +kernel⟩
def mu_law (i : Nat) : Bool := [2].contains i
def b_law : SM := sSeq (sFor (iRg (aC (eN vMax (aC (eC (.int 1)) (aC (eN vMin (aC (eC (.int 3)) (aC (eN vLen (aC (eV 0) (aN))) (aN)))) (aN)))) (aN))) (gN 1) (sSeq (sSet 2 (callC m_law_pool_o [] (aC (eV 0) (aC (eV 1) (aN))))) (sFor (iIt (eLst (aC (callM [0] [] m_law_take [] (lI 2 (lC (eC (.int 99)) (lN)))) (aC (eC .non) (aC (eC (.str [99, 97, 112])) (aC (eTup (aC (eC (.str [98])) (aC (eC (.int 1)) (aN)))) (aC (eLst (aC (eC (.bl true)) (aN))) (aC (eDisp dN) (aN))))))))) (gN 3) (sSeq (sFor (iIt (eLst (aC (callC m_law_all [] (aC (eV 3) (aN))) (aC (callC m_law_named [] (aC (eV 3) (aN))) (aN))))) (gN 4) (sSeq (sIf (tBl (e2 vNe (eN vReprV (aC (callC m_law_kept [] (aC (eV 4) (aN))) (aN))) (eN vReprV (aC (e2 vMul (eLst (aC (eV 3) (aN))) (eC (.int 14))) (aN))))) (sRet (eC (.bl false))) (sNil)) (sFor (iEn (aC (eV 4) (aN))) (gT [gN 5, gN 6]) (sSeq (sIf (tBl (e2 vNe (callC m_law_classes [] (aC (eV 6) (aN))) (eLc [7] (iIt (eLsRg (eC (.int 14)))) (gN 7) (tTrue) (e2 vEq (eV 7) (eV 5))))) (sRet (eC (.bl false))) (sNil)) (sSeq (sIf (tOr (tNo (tV (eIsX [500001, 500002, 500003, 500004, 500005, 500006, 500007, 500008, 500009, 500010, 500011, 500012, 500013, 500014, 500015] [500001, 500002, 500003, 500004, 500005, 500006, 500007, 500008, 500009, 500010, 500011, 500012, 500013, 500014] (eV 6)))) (tNo (tV (eIsX [500001, 500002, 500003, 500004, 500005, 500006, 500007, 500008, 500009, 500010, 500011, 500012, 500013, 500014, 500015] [500001, 500002, 500003, 500004, 500005, 500006, 500007, 500008, 500009, 500010, 500011, 500012, 500013, 500014] (eV 6))))) (sRet (eC (.bl false))) (sNil)) (sIf (tV (eIsX [500001, 500002, 500003, 500004, 500005, 500006, 500007, 500008, 500009, 500010, 500011, 500012, 500013, 500014, 500015] [500015] (eV 6))) (sRet (eC (.bl false))) (sNil))))))) (sFor (iIt (eLst (aC (eMkX 500015 13 (eV 3)) (aC (eMkX 500015 13 (eV 3)) (aN))))) (gN 6) (sSeq (sIf (tBl (e2 vNe (eN vReprV (aC (e1 (vAtX [500015] 13) (eV 6)) (aN))) (eN vReprV (aC (eV 3) (aN))))) (sRet (eC (.bl false))) (sNil)) (sIf (tOr (tNo (tV (eIsX [500001, 500002, 500003, 500004, 500005, 500006, 500007, 500008, 500009, 500010, 500011, 500012, 500013, 500014, 500015] [500015] (eV 6)))) (tV (eIsX [500001, 500002, 500003, 500004, 500005, 500006, 500007, 500008, 500009, 500010, 500011, 500012, 500013, 500014, 500015] [500001, 500002, 500003, 500004, 500005, 500006, 500007, 500008, 500009, 500010, 500011, 500012, 500013, 500014] (eV 6)))) (sRet (eC (.bl false))) (sNil)))))))) (sRet (eC (.bl true)))
def m_law : FnM := runF 8 [] false b_law
theorem s_law (F : FT ck dfs tbs w K mg) : LawOk PR w K mg base CX0 4 (He.fAd K ("law", none)) (fdA K ("law", none)) "_law_script" (spG K (TT K) [] [] false 1 m_law) := by
  obtain ⟨dvs, kws, FD, _, _, _⟩ := F.c.def_ 21 (d := d_law)
  exact fn_lawC (N := N_law) (p := "_law_script") (k := 3) (T := TT K) (mu := mu_law) (m := b_law) FD sc_law (by decide) rfl rfl rfl (fun cdv s H vs E hr hg =>
    (ss_cons (ss_for (ts := [1]) (hi := (si_rg1 (hm := (F.free 3)) (ha := (sa_cons (se_callB (hc := (c_max rfl)) (hm := (F.free 2)) (ha := (sa_cons se_int (sa_cons (se_callB (hc := (c_min rfl)) (hm := (F.free 1)) (ha := (sa_cons se_int (sa_cons (se_callB (hc := c_len) (hm := (F.free 0)) (ha := (sa_cons (se_v (i := 0)) sa_nil))) sa_nil)))) sa_nil)))) sa_nil)))) (hg := (sg_n (i := 1) (hN := sc_law.nd))) (hb := (ss_cons (ss_setO (i := 2) (r := 1000) (hN := sc_law.nd) (he := (so_x (sx_toC (loC (loC loN)) (sx_call (ro := true) (r := 1000) (s_law_pool_o F) (hr.mono (by decide : 1 ≤ 3)) (hm := (F.glo 5)) (hk := (kp_law_pool F)) (hb := (bd_law_pool F)) (hd := .nil) (hdv := (fun O H => VRs.nil)) (ha := (sl_cons (se_v (i := 0)) (sl_cons (se_v (i := 1)) sl_nil))) (hl := hlo (lnC (lnC lnN)) rfl))))) (hl := fun σ h => h ▸ (by decide : N_law.length ≤ 1000)))
    (ss_one (ss_for (ts := [3]) (hi := (si_it (se_lst (sa_cons (se_x (sx_call (ro := false) (r := 0) (s_law_take F) (hr.mono (by decide : 1 ≤ 3)) (hm := (F.glo 6)) (hk := (kp_law_take F)) (hb := (bd_law_take F)) (hd := .nil) (hdv := (fun O H => VRs.nil)) (ha := (sl_lend (i := 2) (hr := (sl_cons se_int sl_nil)))) (hl := hlo (lnI (lnC lnN)) rfl))) (sa_cons se_non (sa_cons (se_str (by decide +kernel)) (sa_cons (se_tup (sa_cons (se_str (by decide +kernel)) (sa_cons se_int sa_nil))) (sa_cons (se_lst (sa_cons se_bl sa_nil)) (sa_cons (se_x (sx_disp0 (ro := false) (r := 0))) sa_nil))))))))) (hg := (sg_n (i := 3) (hN := sc_law.nd))) (hb := (ss_cons (ss_for (ts := [4]) (hi := (si_it (se_lst (sa_cons (se_x (sx_toC (loC loN) (sx_call (ro := false) (r := 0) (s_law_all F) (hr.mono (by decide : 3 ≤ 3)) (hm := (F.glo 63)) (hk := (kp_law_all F)) (hb := (bd_law_all F)) (hd := .nil) (hdv := (fun O H => VRs.nil)) (ha := (sl_cons (se_v (i := 3)) sl_nil)) (hl := hlo (lnC lnN) rfl)))) (sa_cons (se_x (sx_toC (loC loN) (sx_call (ro := false) (r := 0) (s_law_named F) (hr.mono (by decide : 3 ≤ 3)) (hm := (F.glo 62)) (hk := (kp_law_named F)) (hb := (bd_law_named F)) (hd := .nil) (hdv := (fun O H => VRs.nil)) (ha := (sl_cons (se_v (i := 3)) sl_nil)) (hl := hlo (lnC lnN) rfl)))) sa_nil))))) (hg := (sg_n (i := 4) (hN := sc_law.nd))) (hb := (ss_cons (ss_if (st_cmp (o_ne (hu20 hr)) (se_callB (hc := c_reprV (fun _ _ z => z) (F.c.fact 65) (hu16 hr) hg) (hm := (F.free 66)) (ha := (sa_cons (se_x (sx_toC (loC loN) (sx_call (ro := false) (r := 0) (s_law_kept F) (hr.mono (by decide : 1 ≤ 3)) (hm := (F.glo 64)) (hk := (kp_law_kept F)) (hb := (bd_law_kept F)) (hd := .nil) (hdv := (fun O H => VRs.nil)) (ha := (sl_cons (se_v (i := 4)) sl_nil)) (hl := hlo (lnC lnN) rfl)))) sa_nil))) (se_callB (hc := c_reprV (fun _ _ z => z) (F.c.fact 65) (hu16 hr) hg) (hm := (F.free 66)) (ha := (sa_cons (se_op o_mul (se_lst (sa_cons (se_v (i := 3)) sa_nil)) se_int) sa_nil)))) (ss_one (ss_ret (he := se_bl))) ss_nil)
    (ss_one (ss_for (ts := [5, 6]) (hi := (si_en (hm := (F.free 67)) (ha := (sa_cons (se_v (i := 4)) sa_nil)))) (hg := (sg_t (h := (sgs_cons (sg_n (i := 5) (hN := sc_law.nd)) (sgs_cons (sg_n (i := 6) (hN := sc_law.nd)) sgs_nil))))) (hb := (ss_cons (ss_if (st_cmp (o_ne (hu20 hr)) (se_x (sx_toC (loC loN) (sx_call (ro := false) (r := 0) (s_law_classes F) (hr.mono (by decide : 1 ≤ 3)) (hm := (F.glo 83)) (hk := (kp_law_classes F)) (hb := (bd_law_classes F)) (hd := .nil) (hdv := (fun O H => VRs.nil)) (ha := (sl_cons (se_v (i := 6)) sl_nil)) (hl := hlo (lnC lnN) rfl)))) (se_lc (own := [("_law_at", 7)]) (ts := [7]) (hN := sc_law.nd) (hi := (si_it (se_lsRg (ml := (F.free 84)) (mr := (F.free 3)) (ha := se_int)))) (ok := blkOk_by (by rfl)) (hg := fun s H C cl fp => (sg_n (i := 7) (hN := sc_law.nd))) (ht := fun s H C cl fp => sts_nil) (he := fun s H C cl fp => (se_cmp (o_eq (hu20 hr)) (se_v (i := 7)) (se_v (i := 5)))))) (ss_one (ss_ret (he := se_bl))) ss_nil)
    (ss_cons (ss_if (st_w (sw_or (st_not (st_v (se_isX (isXB_ok (F.c.fact 85)) (hm := (F.free 69)) (ha := (se_v (i := 6))) (hc := (pe_glob (v := .ref (He.ga K "LidError")) rfl (F.glo 86) rfl)) (hk := (ClsV.own _))))) (sw_or1 (st_not (st_v (se_isX (isXB_ok (F.c.fact 87)) (hm := (F.free 69)) (ha := (se_v (i := 6))) (hc := (pe_bltn (v := .ty "ValueError") rfl (F.free 88) (by first | rfl | decide +kernel) rfl)) (hk := (ClsV.ty _)))))))) (ss_one (ss_ret (he := se_bl))) ss_nil)
    (ss_one (ss_if (st_v (se_isX (isXB_ok (F.c.fact 89)) (hm := (F.free 69)) (ha := (se_v (i := 6))) (hc := (pe_bltn (v := .ty "OverflowError") rfl (F.free 90) (by first | rfl | decide +kernel) rfl)) (hk := (ClsV.ty _)))) (ss_one (ss_ret (he := se_bl))) ss_nil))))))))))
    (ss_one (ss_for (ts := [6]) (hi := (si_it (se_lst (sa_cons (se_mkX (c := 500015) (g := 13) (fn := "most") (by decide) (fldx_most F).lt rfl (ex_TooMany F) (ex1_TooMany F).ini (ex1_TooMany F).ty (s_TooMany_init F) (hr.mono (by decide : 2 ≤ 3)) (bd_TooMany_init F) (hm := (F.glo 94)) (ha := (se_v (i := 3)))) (sa_cons (se_mkXK (c := 500015) (g := 13) (fn := "most") (by decide) (fldx_most F).lt rfl (ex_TooMany F) (ex1_TooMany F).ini (ex1_TooMany F).ty (s_TooMany_init F) (hr.mono (by decide : 2 ≤ 3)) (bk_TooMany_init F) (hm := (F.glo 94)) (ha := (se_v (i := 3)))) sa_nil))))) (hg := (sg_n (i := 6) (hN := sc_law.nd))) (hb := (ss_cons (ss_if (st_cmp (o_ne (hu20 hr)) (se_callB (hc := c_reprV (fun _ _ z => z) (F.c.fact 65) (hu16 hr) hg) (hm := (F.free 66)) (ha := (sa_cons (se_atX (fldx_most F) rfl (se_v (i := 6))) sa_nil))) (se_callB (hc := c_reprV (fun _ _ z => z) (F.c.fact 65) (hu16 hr) hg) (hm := (F.free 66)) (ha := (sa_cons (se_v (i := 3)) sa_nil)))) (ss_one (ss_ret (he := se_bl))) ss_nil)
    (ss_one (ss_if (st_w (sw_or (st_not (st_v (se_isX (isXB_ok (F.c.fact 89)) (hm := (F.free 69)) (ha := (se_v (i := 6))) (hc := (pe_bltn (v := .ty "OverflowError") rfl (F.free 90) (by first | rfl | decide +kernel) rfl)) (hk := (ClsV.ty _))))) (sw_or1 (st_v (se_isX (isXB_ok (F.c.fact 87)) (hm := (F.free 69)) (ha := (se_v (i := 6))) (hc := (pe_bltn (v := .ty "ValueError") rfl (F.free 88) (by first | rfl | decide +kernel) rfl)) (hk := (ClsV.ty _))))))) (ss_one (ss_ret (he := se_bl))) ss_nil)))))))))))))
    (ss_one (ss_ret (he := se_bl)))))
end
end K29

noncomputable section
namespace K29
open SK
open PySem (seqIndex?)
open PySem.Spec (ltCps)
open L2 (atI ixN)
def RG : IM := (iRg (aC (eN vMax (aC (eC (.int 1)) (aC (eN vMin (aC (eC (.int 3)) (aC (eN vLen (aC (eV 0) (aN))) (aN)))) (aN)))) (aN)))
def PO : SM := (sSet 2 (callC m_law_pool_o [] (aC (eV 0) (aC (eV 1) (aN)))))
def IT : IM := (iIt (eLst (aC (callM [0] [] m_law_take [] (lI 2 (lC (eC (.int 99)) (lN)))) (aC (eC .non) (aC (eC (.str [99, 97, 112])) (aC (eTup (aC (eC (.str [98])) (aC (eC (.int 1)) (aN)))) (aC (eLst (aC (eC (.bl true)) (aN))) (aC (eDisp dN) (aN)))))))))
def IT2 : IM := (iIt (eLst (aC (callC m_law_all [] (aC (eV 3) (aN))) (aC (callC m_law_named [] (aC (eV 3) (aN))) (aN)))))
def IT3 : IM := (iIt (eLst (aC (eMkX 500015 13 (eV 3)) (aC (eMkX 500015 13 (eV 3)) (aN)))))
def PK : EM := (callC m_law_kept [] (aC (eV 4) (aN)))
def QK : EM := (e2 vMul (eLst (aC (eV 3) (aN))) (eC (.int 14)))
def FEI : IM := (iEn (aC (eV 4) (aN)))
def FEG : GM := (gT [gN 5, gN 6])
def FEB : SM := (sSeq (sIf (tBl (e2 vNe (callC m_law_classes [] (aC (eV 6) (aN))) (eLc [7] (iIt (eLsRg (eC (.int 14)))) (gN 7) (tTrue) (e2 vEq (eV 7) (eV 5))))) (sRet (eC (.bl false))) (sNil)) (sSeq (sIf (tOr (tNo (tV (eIsX [500001, 500002, 500003, 500004, 500005, 500006, 500007, 500008, 500009, 500010, 500011, 500012, 500013, 500014, 500015] [500001, 500002, 500003, 500004, 500005, 500006, 500007, 500008, 500009, 500010, 500011, 500012, 500013, 500014] (eV 6)))) (tNo (tV (eIsX [500001, 500002, 500003, 500004, 500005, 500006, 500007, 500008, 500009, 500010, 500011, 500012, 500013, 500014, 500015] [500001, 500002, 500003, 500004, 500005, 500006, 500007, 500008, 500009, 500010, 500011, 500012, 500013, 500014] (eV 6))))) (sRet (eC (.bl false))) (sNil)) (sIf (tV (eIsX [500001, 500002, 500003, 500004, 500005, 500006, 500007, 500008, 500009, 500010, 500011, 500012, 500013, 500014, 500015] [500015] (eV 6))) (sRet (eC (.bl false))) (sNil))))
def R1 : EM := (e1 (vAtX [500015] 13) (eV 6))
def T2 : TM := (tOr (tNo (tV (eIsX [500001, 500002, 500003, 500004, 500005, 500006, 500007, 500008, 500009, 500010, 500011, 500012, 500013, 500014, 500015] [500015] (eV 6)))) (tV (eIsX [500001, 500002, 500003, 500004, 500005, 500006, 500007, 500008, 500009, 500010, 500011, 500012, 500013, 500014, 500015] [500001, 500002, 500003, 500004, 500005, 500006, 500007, 500008, 500009, 500010, 500011, 500012, 500013, 500014] (eV 6))))
def FA (c : TM) : SM := sIf c (sRet (eC (.bl false))) (sNil)
def B2 : SM := sSeq (FA (tBl (e2 vNe (eN vReprV (aC PK (aN))) (eN vReprV (aC QK (aN)))))) (sFor FEI FEG FEB)
def B3 : SM := sSeq (FA (tBl (e2 vNe (eN vReprV (aC R1 (aN))) (eN vReprV (aC (eV 3) (aN)))))) (FA T2)
def BD : SM := sSeq (sFor IT2 (gN 4) B2) (sFor IT3 (gN 6) B3)
theorem b_law_eq : b_law = sSeq (sFor RG (gN 1) (sSeq PO (sFor IT (gN 3) BD))) (sRet (eC (.bl true))) := by kernel_rfl
def ex (v : Val) : List Val := [.ins 500001 [0] [v], .ins 500002 [0] [v], .ins 500003 [1] [v], .ins 500004 [2] [v], .ins 500005 [3] [v], .ins 500006 [4] [v], .ins 500007 [5] [v], .ins 500008 [6] [v], .ins 500009 [7] [v], .ins 500010 [8] [v], .ins 500011 [9] [v], .ins 500012 [10] [v], .ins 500013 [11] [v], .ins 500014 [12] [v]]
def rp (v : Val) : List Val := [v, v, v, v, v, v, v, v, v, v, v, v, v, v]
section
variable (v0 k p v : Val) (o4 o5 o6 o7 : Option Val)
theorem L1 : IT2 [some v0, some k, some p, some v, o4, o5, o6, o7] = .ok ([.lst (ex v), .lst (ex v)], [some v0, some k, some p, some v, o4, o5, o6, o7]) := by kernel_rfl
theorem L2 : PK [some v0, some k, some p, some v, some (.lst (ex v)), o5, o6, o7] = .ok (.lst (rp v), [some v0, some k, some p, some v, some (.lst (ex v)), o5, o6, o7]) := by kernel_rfl
theorem L3 : QK [some v0, some k, some p, some v, o4, o5, o6, o7] = .ok (.lst (rp v), [some v0, some k, some p, some v, o4, o5, o6, o7]) := by kernel_rfl
theorem L5 : sFor FEI FEG FEB [some v0, some k, some p, some v, some (.lst (ex v)), o5, o6, o7] = .ok (.nx, [some v0, some k, some p, some v, some (.lst (ex v)), some (.int 13), some (.ins 500014 [12] [v]), o7]) := by kernel_rfl
theorem L6 : IT3 [some v0, some k, some p, some v, o4, o5, o6, o7] = .ok ([.ins 500015 [13] [v], .ins 500015 [13] [v]], [some v0, some k, some p, some v, o4, o5, o6, o7]) := by kernel_rfl
theorem L7 : R1 [some v0, some k, some p, some v, o4, o5, some (.ins 500015 [13] [v]), o7] = .ok (v, [some v0, some k, some p, some v, o4, o5, some (.ins 500015 [13] [v]), o7]) := by kernel_rfl
theorem L8 : T2 [some v0, some k, some p, some v, o4, o5, some (.ins 500015 [13] [v]), o7] = .ok (false, [some v0, some k, some p, some v, o4, o5, some (.ins 500015 [13] [v]), o7]) := by kernel_rfl
end
def isS (o : Option Val) : Bool := match o with
  | some (.str _) => true
  | _ => false
theorem isS_ok {o : Option Val} (h : isS o = true) : ∃ t, o = some (.str t) := by
  unfold isS at h
  split at h
  · exact ⟨_, rfl⟩
  · cases h
def okv (v : Val) : Bool := isS (vReprV [.lst (rp v)]) && isS (vReprV [v])
theorem ne_str (t : Sg) : vNe (.str t) (.str t) = some (.bl false) := by simp [vNe, eqv]
theorem fa_ok {c : TM} {fr : Fr} (h : c fr = .ok (false, fr)) : FA c fr = .ok (.nx, fr) := by
  unfold FA sIf
  rw [h]
  rfl
theorem cmp_ok {a b : EM} {fr : Fr} {x : Val} {t : Sg} (ha : a fr = .ok (x, fr)) (hb : b fr = .ok (x, fr)) (ht : vReprV [x] = some (.str t)) : FA (tBl (e2 vNe (eN vReprV (aC a (aN))) (eN vReprV (aC b (aN))))) fr = .ok (.nx, fr) := by
  apply fa_ok
  have e : ∀ {c : EM}, c fr = .ok (x, fr) → eN vReprV (aC c aN) fr = .ok (.str t, fr) := fun {c} hc => by
    unfold eN aC aN
    rw [hc]
    show (ofO (vReprV [x])).bind _ = _
    rw [ht]
    rfl
  unfold tBl e2
  rw [e ha]
  simp only [SK.R.bind_ok]
  rw [e hb]
  simp only [SK.R.bind_ok]
  rw [ne_str]
  rfl
theorem seq_ok {m m2 : SM} {fr fr' : Fr} (h : m fr = .ok (.nx, fr')) : sSeq m m2 fr = m2 fr' := by
  unfold sSeq
  rw [h]
  rfl
theorem bd_ok {v : Val} (h : okv v = true) (v0 k p : Val) (o4 o5 o6 o7 : Option Val) : BD [some v0, some k, some p, some v, o4, o5, o6, o7] = .ok (.nx, [some v0, some k, some p, some v, some (.lst (ex v)), some (.int 13), some (.ins 500015 [13] [v]), o7]) := by
  obtain ⟨h1, h2⟩ := Bool.and_eq_true_iff.mp h
  obtain ⟨t1, e1⟩ := isS_ok h1
  obtain ⟨t2, e2'⟩ := isS_ok h2
  have b2 : ∀ o5 o6 o7 : Option Val, B2 [some v0, some k, some p, some v, some (.lst (ex v)), o5, o6, o7] = .ok (.nx, [some v0, some k, some p, some v, some (.lst (ex v)), some (.int 13), some (.ins 500014 [12] [v]), o7]) := fun o5 o6 o7 => by
    have q := cmp_ok (L2 v0 k p v o5 o6 o7) (L3 v0 k p v (some (.lst (ex v))) o5 o6 o7) e1
    have q2 := seq_ok (m2 := sFor FEI FEG FEB) q
    exact q2.trans (L5 ..)
  have b3 : ∀ o4 o5 o7 : Option Val, B3 [some v0, some k, some p, some v, o4, o5, some (.ins 500015 [13] [v]), o7] = .ok (.nx, [some v0, some k, some p, some v, o4, o5, some (.ins 500015 [13] [v]), o7]) := fun o4 o5 o7 => by
    have e3 : eV 3 [some v0, some k, some p, some v, o4, o5, some (.ins 500015 [13] [v]), o7] = .ok (v, [some v0, some k, some p, some v, o4, o5, some (.ins 500015 [13] [v]), o7]) := rfl
    have q := cmp_ok (L7 v0 k p v o4 o5 o7) e3 e2'
    have q2 := seq_ok (m2 := FA T2) q
    exact q2.trans (fa_ok (L8 ..))
  simp only [BD, sSeq, sFor, L1, L6, forL, gN, noX, R.bind, sF_eq, List.set, b2, b3]
theorem lp {v : Val} (h : okv v = true) {xs : List Val} {v0 k p : Val} (hx : ∀ o3 o4 o5 o6 o7 : Option Val, ∃ a b c d e, forL (gN 3) BD xs [some v0, some k, some p, o3, o4, o5, o6, o7] = .ok (.nx, [some v0, some k, some p, a, b, c, d, e])) (o3 o4 o5 o6 o7 : Option Val) :
    ∃ a b c d e, forL (gN 3) BD (v :: xs) [some v0, some k, some p, o3, o4, o5, o6, o7] = .ok (.nx, [some v0, some k, some p, a, b, c, d, e]) := by
  obtain ⟨a, b, c, d, e, q⟩ := hx (some v) (some (.lst (ex v))) (some (.int 13)) (some (.ins 500015 [13] [v])) o7
  refine ⟨a, b, c, d, e, ?_⟩
  have hb := bd_ok h v0 k p o4 o5 o6 o7
  simp only [forL, gN, noX, R.bind, sF_eq, List.set, hb, q]
theorem k_int : ((List.range 99).all fun i => okv (.int (i : Nat))) = true := by decide +kernel
theorem k_non : okv .non = true := by decide +kernel
theorem k_str : okv (.str [99, 97, 112]) = true := by decide +kernel
theorem k_tup : okv (.tup [.str [98], .int 1]) = true := by decide +kernel
theorem k_lst : okv (.lst [.bl true]) = true := by decide +kernel
theorem k_dic : okv (.dic [] []) = true := by decide +kernel
theorem ok_int {r : Int} (h0 : 0 ≤ r) (h1 : r < 99) : okv (.int r) = true := by
  have := List.all_eq_true.mp k_int r.toNat (List.mem_range.mpr (by omega))
  rwa [Int.toNat_of_nonneg h0] at this
theorem take_c {p : Val} {n : Int} {Q : Val × List Val → Prop} (hp : PoolV p) (h0 : 0 < n) (h1 : n < 1073741824) (h : ∀ (r : Int) (p' : Val), PoolV p' → 0 ≤ r → r < n → Q (.int r, [p'])) : Sat (m_law_take [p, .int n]) Q := by
  obtain ⟨b, m, rfl, hb, hm0, hm1⟩ := hp
  by_cases hB : 0 < b
  · simp [gAll, outsOf, fillA, lentP, lentS, setAll, nodupB, borOk, setF, isC, byT, enL, rngL, sat_ok, sat_bind, sat_noX, sat_sSeq, sat_sIf, sat_runF, sat_sFor, sat_sSet, sat_sEx, sat_sRet, thn_nx, thn_rt, thn_bk, thn_ct, br_mk, ret_nx, ret_rt, forK_mk, setK_mk, exK_mk, rtK_mk, m_law_take, b_law_take, atI, ixN, hB, h0, h1]
    exact h _ _ ⟨b / n, m, rfl, Int.ediv_nonneg hb (by omega), hm0, hm1⟩ (Int.emod_nonneg _ (by omega)) (Int.emod_lt_of_pos _ h0)
  · have e1 : 0 ≤ (m * 39373 + 7) % 2147483647 := Int.emod_nonneg _ (by decide)
    have e2' : (m * 39373 + 7) % 2147483647 < 2147483647 := Int.emod_lt_of_pos _ (by decide)
    generalize hq : (m * 39373 + 7) % 2147483647 = q at e1 e2'
    have e3 : -18446744073709551616 < q ∧ q < 18446744073709551616 := by omega
    simp [gAll, outsOf, fillA, lentP, lentS, setAll, nodupB, borOk, setF, isC, byT, enL, rngL, sat_ok, sat_bind, sat_noX, sat_sSeq, sat_sIf, sat_runF, sat_sFor, sat_sSet, sat_sEx, sat_sRet, thn_nx, thn_rt, thn_bk, thn_ct, br_mk, ret_nx, ret_rt, forK_mk, setK_mk, exK_mk, rtK_mk, m_law_take, b_law_take, atI, ixN, hB, h0, h1, hq, e3]
    exact h _ _ ⟨b, q, rfl, hb, e1, e2'⟩ (Int.emod_nonneg _ (by omega)) (Int.emod_lt_of_pos _ h0)
theorem poolV_mk {a b : Int} (h0 : 0 ≤ a) : PoolV (.lst [.int a, .int (b % 2147483647)]) := ⟨a, _, rfl, h0, Int.emod_nonneg _ (by decide), Int.emod_lt_of_pos _ (by decide)⟩
theorem pool_c {ns : List Int} {k : Int} {Q : Val × List Val → Prop} (k0 : 0 ≤ k) (k1 : k < 1000) (h : ∀ p, PoolV p → Q (p, [])) : Sat (m_law_pool_o [.scr ns, .int k]) Q := by
  have hk : -18446744073709551616 < k ∧ k < 18446744073709551616 := by omega
  have hk7 : -18446744073709551616 < 7919 * k ∧ 7919 * k < 18446744073709551616 := by omega
  by_cases hl : k < ns.length
  · obtain ⟨c, _, _, hc⟩ := atI_nat (xs := ns) k0 hl
    have hb : 0 ≤ (if c < -1 - c then -1 - c else c) := by split <;> omega
    generalize hB : (if c < -1 - c then -1 - c else c) = B at hb
    by_cases hg : 1000000000000000000 ≤ B
    · simp [gAll, outsOf, fillA, lentP, lentS, setAll, nodupB, borOk, setF, isC, byT, enL, rngL, sat_ok, sat_bind, sat_noX, sat_sSeq, sat_sIf, sat_runF, sat_sFor, sat_sSet, sat_sEx, sat_sRet, thn_nx, thn_rt, thn_bk, thn_ct, br_mk, ret_nx, ret_rt, forK_mk, setK_mk, exK_mk, rtK_mk, m_law_pool_o, b_law_pool_o, hl, hc, hk, hk7, hB, hg]
      exact h _ (poolV_mk hb)
    · simp [gAll, outsOf, fillA, lentP, lentS, setAll, nodupB, borOk, setF, isC, byT, enL, rngL, sat_ok, sat_bind, sat_noX, sat_sSeq, sat_sIf, sat_runF, sat_sFor, sat_sSet, sat_sEx, sat_sRet, thn_nx, thn_rt, thn_bk, thn_ct, br_mk, ret_nx, ret_rt, forK_mk, setK_mk, exK_mk, rtK_mk, m_law_pool_o, b_law_pool_o, hl, hc, hk, hk7, hB, hg]
      exact h _ (poolV_mk (Int.le_refl _))
  · simp [gAll, outsOf, fillA, lentP, lentS, setAll, nodupB, borOk, setF, isC, byT, enL, rngL, sat_ok, sat_bind, sat_noX, sat_sSeq, sat_sIf, sat_runF, sat_sFor, sat_sSet, sat_sEx, sat_sRet, thn_nx, thn_rt, thn_bk, thn_ct, br_mk, ret_nx, ret_rt, forK_mk, setK_mk, exK_mk, rtK_mk, m_law_pool_o, b_law_pool_o, hl, hk, hk7]
    exact h _ (poolV_mk (Int.le_refl _))
theorem it_ok {v0 k p : Val} {o3 o4 o5 o6 o7 : Option Val} (hp : PoolV p) : ∃ r p', PoolV p' ∧ 0 ≤ r ∧ r < 99 ∧ IT [some v0, some k, some p, o3, o4, o5, o6, o7] = .ok ([.int r, .non, .str [99, 97, 112], .tup [.str [98], .int 1], .lst [.bl true], .dic [] []], [some v0, some k, some p', o3, o4, o5, o6, o7]) := by
  obtain ⟨z, e, r, p', rfl, hp', r0, r1⟩ := take_c (n := 99) (Q := fun z => ∃ r p', z = (.int r, [p']) ∧ PoolV p' ∧ 0 ≤ r ∧ r < 99) hp (by decide) (by decide) fun r p' hp' r0 r1 => ⟨r, p', rfl, hp', r0, r1⟩
  refine ⟨r, p', hp', r0, r1, ?_⟩
  unfold IT
  simp [gAll, outsOf, fillA, lentP, lentS, setAll, nodupB, borOk, setF, isC, byT, enL, rngL, sat_ok, sat_bind, sat_noX, sat_sSeq, sat_sIf, sat_runF, sat_sFor, sat_sSet, sat_sEx, sat_sRet, thn_nx, thn_rt, thn_bk, thn_ct, br_mk, ret_nx, ret_rt, forK_mk, setK_mk, exK_mk, rtK_mk, hp.nfz, e]
  try rfl
theorem law_c (ns : List Int) : Sat (m_law [.scr ns]) fun z => z = (.bl true, []) := by
  generalize hQ : (fun z : Val × List Val => z = (.bl true, [])) = Q
  have hq : Q (.bl true, []) := by rw [← hQ]
  simp [gAll, outsOf, fillA, lentP, lentS, setAll, nodupB, borOk, setF, isC, byT, enL, rngL, sat_ok, sat_bind, sat_noX, sat_sSeq, sat_sIf, sat_runF, sat_sFor, sat_sSet, sat_sEx, sat_sRet, thn_nx, thn_rt, thn_bk, thn_ct, br_mk, ret_nx, ret_rt, forK_mk, setK_mk, exK_mk, rtK_mk, m_law, b_law_eq, RG]
  obtain ⟨n, hn1, hn2⟩ : ∃ n : Nat, n ≤ 3 ∧ (if (1 : Int) < (if (ns.length : Int) < 3 then (ns.length : Int) else 3) then (if (ns.length : Int) < 3 then (ns.length : Int) else 3) else 1) = n := by
    by_cases h1 : (ns.length : Int) < 3
    · simp only [if_pos h1]
      by_cases h2 : (1 : Int) < ns.length
      · exact ⟨ns.length, by omega, by rw [if_pos h2]⟩
      · exact ⟨1, by decide, by rw [if_neg h2]; rfl⟩
    · simp only [if_neg h1]
      exact ⟨3, by decide, by simp⟩
  rw [hn2]
  rw [if_pos (by omega), sat_ok, forK_mk]
  obtain ⟨I, hI⟩ : ∃ I : List Val → Fr → Prop, ∀ l fr, I l fr ↔ ∃ (a1 a2 a3 a4 a5 a6 a7 : Option Val), (∀ x ∈ l, ∃ k : Int, x = .int k ∧ 0 ≤ k ∧ k < 1000) ∧ fr = [some (.scr ns), a1, a2, a3, a4, a5, a6, a7] := ⟨_, fun _ _ => Iff.rfl⟩
  refine forL_sat I ?_ ?_ _ _ ((hI _ _).mpr ⟨_, _, _, _, _, _, _, ?_, rfl⟩)
  · rintro x l fr hfr
    obtain ⟨a1, a2, a3, a4, a5, a6, a7, hl, rfl⟩ := (hI _ _).mp hfr
    obtain ⟨k, rfl, k0, k1⟩ := hl x (List.mem_cons_self ..)
    simp [gAll, outsOf, fillA, lentP, lentS, setAll, nodupB, borOk, setF, isC, byT, enL, rngL, sat_ok, sat_bind, sat_noX, sat_sSeq, sat_sIf, sat_runF, sat_sFor, sat_sSet, sat_sEx, sat_sRet, thn_nx, thn_rt, thn_bk, thn_ct, br_mk, ret_nx, ret_rt, forK_mk, setK_mk, exK_mk, rtK_mk, PO]
    refine pool_c k0 k1 fun p hp => ?_
    obtain ⟨r, p', hp', r0, r1, hit⟩ := it_ok (v0 := .scr ns) (k := .int k) (o3 := a3) (o4 := a4) (o5 := a5) (o6 := a6) (o7 := a7) hp
    obtain ⟨a, b, c, d, e, w⟩ := lp (v0 := .scr ns) (k := .int k) (p := p') (ok_int r0 r1) (lp k_non (lp k_str (lp k_tup (lp k_lst (lp k_dic (xs := []) fun o3 o4 o5 o6 o7 => ⟨o3, o4, o5, o6, o7, by simp only [forL]⟩))))) a3 a4 a5 a6 a7
    simp [gAll, outsOf, fillA, lentP, lentS, setAll, nodupB, borOk, setF, isC, byT, enL, rngL, sat_ok, sat_bind, sat_noX, sat_sSeq, sat_sIf, sat_runF, sat_sFor, sat_sSet, sat_sEx, sat_sRet, thn_nx, thn_rt, thn_bk, thn_ct, br_mk, ret_nx, ret_rt, forK_mk, setK_mk, exK_mk, rtK_mk, hp.nfz, hit, w]
    exact (hI _ _).mpr ⟨_, _, _, _, _, _, _, fun y hy => hl y (List.mem_cons_of_mem _ hy), rfl⟩
  · rintro fr hfr
    obtain ⟨a1, a2, a3, a4, a5, a6, a7, hl, rfl⟩ := (hI _ _).mp hfr
    simp [gAll, outsOf, fillA, lentP, lentS, setAll, nodupB, borOk, setF, isC, byT, enL, rngL, sat_ok, sat_bind, sat_noX, sat_sSeq, sat_sIf, sat_runF, sat_sFor, sat_sSet, sat_sEx, sat_sRet, thn_nx, thn_rt, thn_bk, thn_ct, br_mk, ret_nx, ret_rt, forK_mk, setK_mk, exK_mk, rtK_mk]
    exact hq
  · intro x hx
    obtain ⟨i, hi, rfl⟩ := List.mem_map.mp hx
    have := List.mem_range.mp hi
    exact ⟨i, rfl, by omega, by omega⟩
end K29

set_option maxHeartbeats 0
namespace K29
open PySem PySem.Spec PyProof.Rows L2 SK
abbrev RWx : PySem.W.OpenRow := PySem.W.OpenLaw.row PySem.Challenge.rw_shutlids_k29_errors_told
abbrev qv : Program := PySem.W.view RWx.prog [24]
abbrev hk : PySem.W.Hook := hookY 391 ck dfs tbs
def ob (s : PySem.W.SharedT) : AlY := obsYG 391 ck dfs tbs (HandSHeadRun.getT s)
theorem ob_eq (s : PySem.W.SharedT) : ob s = hk.obs s.abs := obsYG_eq (HandSHeadRun.getT_eq s)
def names0 : List PySem.Str := ["LidError", "NoThing", "NoBox", "NoName", "NoDeed", "NoStand", "NoManual", "NoSetting", "NoMove", "NothingBack", "NoFault", "NoPlace", "NoNumber", "NoSeen", "NoNote", "TooMany", "_law_pool", "_law_take", "_law_all", "_law_named", "_law_kept", "_law_classes"]
def names : List PySem.Str := names0
theorem run (w : World) : HandSHeadRun.RunEq RWx qv hk ob 30000 names w := by
  intro os
  kernel_rfl
end K29

set_option maxHeartbeats 0
noncomputable section
namespace K29
open PySem PySem.Spec PyProof.Rows L2 SK
theorem pure_law (ns : List Int) : ∃ o, m_law [.scr ns] = .ok (.bl true, o) := by
  obtain ⟨z, e, h⟩ := law_c ns
  have h : z = (.bl true, []) := h
  subst h
  exact ⟨[], e⟩
theorem facts {w : World} {K : PySem.W.Frag} {h : Heap} {mg : Str → Option Value} {f : Addr} (X : K.In h) (G : h.Ns mainGlobals mg) (hfa : mg ("law" : Str) = some (.ref f)) (c : SaysY ck dfs tbs w K) :
    ∃ fd : FuncData, (∀ (s : Shared) (v : Value), BindsTo s fd ⟨[v], []⟩ [("_law_script", v)]) ∧ ∀ base : Heap, LawOk PR w K mg base CX0 4 f fd "_law_script" (spG K (TT K) [] [] false 1 m_law) := by
  have F : FT ck dfs tbs w K mg := c.ft ⟨h, X, G⟩
  have e := hfa.symm.trans (F.glo 95 (x := "law"))
  cases e
  obtain ⟨dvs, kws, FD, h1, _, _⟩ := F.c.def_ 21 (d := d_law)
  have e : dvs = [] := (h1 (TT K) ON (fun _ => none)).inv0
  subst e
  have b := FunD.bindsA (ps := ["_law_script"]) FD fun _ _ _ _ _ _ us hl => match us, hl with | [_], _ => rfl
  exact ⟨_, fun s v => b s [v] rfl, fun base => s_law (base := base) F⟩
end K29
open PySem PySem.W PySem.Calls PyProof.Rows
theorem PySem.Challenge.cw_shutlids_k29_errors_told_holds : PySem.Challenge.rw_shutlids_k29_errors_told.Holds := by
  w_on; o_law
  refine HandSHeadRun.head_any (r := OpenLaw.row PySem.Challenge.rw_shutlids_k29_errors_told) (q := view (OpenLaw.row PySem.Challenge.rw_shutlids_k29_errors_told).prog [24]) (H := K29.hk) (ob := K29.ob) (M := 30000) (loose := K29.names) (d := HandSHeadRun.topDef (OpenLaw.row PySem.Challenge.rw_shutlids_k29_errors_told).prog 24) (kwd := []) K29.ob_eq
    (by kernel_rfl) (fun s => by kernel_rfl) K29.run (by kernel_rfl) (by kernel_rfl) (by kernel_rfl) (by rfl) (by first | assumption | decide +kernel) (by decide +kernel) ⟨rfl, rfl, rfl, rfl, rfl, by decide +kernel⟩ ?hw ?hc
  case hw => w_witness2
  case hc =>
    refine SK.walk_ofC (l := PySem.Challenge.rw_shutlids_k29_errors_told) (n := 63) (k := 4) (x := "_law_script") (CX := fun _ => L2.CX0) rfl (by decide) (by kernel_rfl) ⟨rfl, by decide, by decide⟩ ?F (fun _ _ _ _ _ z => z)
    intro w mg fa h Y G hmg0
    obtain ⟨K, KX, c⟩ := Y
    have hmg : mg ("law" : PySem.Str) = some (.ref fa) := by
      have e : (HandSHeadRun.topDef (OpenLaw.row PySem.Challenge.rw_shutlids_k29_errors_told).prog 24).name = ("law" : PySem.Str) := by kernel_rfl
      rw [← e]
      exact hmg0
    obtain ⟨fd, hb, hF⟩ := K29.facts (w := w) KX G hmg c
    refine ⟨K, KX, fd, [], SK.spG K (K29.TT K) [] [] false 1 K29.m_law, (fun p hp => nomatch hp), (fun p hp => nomatch hp), (fun p hp => nomatch hp), hb, fun H a ns hl _ hS => ?_, fun base _ _ _ => hF base⟩
    obtain ⟨o, hp⟩ := K29.pure_law ns
    exact SK.spG_law hS hp

