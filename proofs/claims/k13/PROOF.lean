import PyProof.Rows.All
import Wide.All
import OpenK.AllK
import Wide.FinOn
import HandS.ForExc
import HandS.More
import HandS.Walk
import HandS.Text
import HandS.Iter
import KE.GoesMore
import PyProof.EnumMake
import HandS.Wide
import HandS.TupAny
import HandS.Deep
import HandS.Style
import HandS.Flow
import HandS.ExcOwn
import HandS.IsInst
import HandS.Replace
import HandS.StrMore
import HandS.Strs
import HandS.Zip
import HandS.Small
import HandS.NoneIn
import HandS.Defaults
import HandS.HeadEnd
import HandS.HeadHook4
import HandS.EndBits
import HandS.HeadHook1
import HandS.HeadHook2
import KE.KStateDown
import HandS.Head0
import HandS.Head1
import HandS.Head2
import PySem.Challenge.RW_stopglass_k13_ways_of_rows
set_option Elab.async false
set_option linter.all false
set_option maxRecDepth 100000
set_option maxHeartbeats 0
namespace Sg
open PySem PySem.Spec PyProof.Rows L2

/-! ### values -/
/-- kinds of dict keys: scalars; tuples of scalars -/
inductive DK where
  | sc | tp
  deriving DecidableEq
/-- a frozen value -/
inductive D where
  | non | bl (b : Bool) | int (i : Int) | str (s : Str)
  | tup (ds : List D) | ctup (ds : List D) | lst (ds : List D) | dct (k : DK) (kvs : List (D × D))
  | ref (c : Nat)
  deriving Inhabited
/-- what a name holds: a frozen value; a list, a dict of its own -/
inductive OV where
  | fr (d : D) | ol (ds : List D) | od (k : DK) (kvs : List (D × D)) | bo (d : D)
  deriving Inhabited
def OV.view : OV → D
  | .fr d => d
  | .ol ds => .lst ds
  | .od k kvs => .dct k kvs
  | .bo d => d

def keyOf : D → Option Key
  | .int i => some (.inl i)
  | .str s => some (.inr s)
  | _ => none
def keysOf : List D → Option (List Key)
  | [] => some []
  | d :: ds => match keyOf d, keysOf ds with
    | some k, some ks => some (k :: ks)
    | _, _ => none
def tkeyOf : D → Option (List Key)
  | .tup ds => keysOf ds
  | _ => none

/-- a tuple of the module, without a dict -/
def SqC (K : PySem.W.Frag) (a : Addr) (vs : List V) : Prop := SqT K (fun _ => none) a vs ∧ ∀ o, K.lookup a = some o → o.dict = none
section
variable (K : PySem.W.Frag) (Z : Hp) (mu : Nat → Option Addr)
mutual
def RepD : D → V → Prop
  | .non, v => v = .non
  | .bl b, v => v = .bl b
  | .int i, v => v = .int i
  | .str s, v => v = .str s
  | .ref c, v => ∃ a, mu c = some a ∧ v = .ref a
  | .tup ds, v => ∃ a vs, v = .ref a ∧ Z a = some (.tup vs) ∧ RepDs ds vs
  | .ctup ds, v => ∃ a vs, v = .ref a ∧ SqC K a vs ∧ RepDs ds vs
  | .lst ds, v => ∃ a vs, v = .ref a ∧ SqL K Z a vs ∧ RepDs ds vs
  | .dct .sc kvs, v => ∃ a ws, v = .ref a ∧ Rd Z a (.dK ws) ∧ RepKs kvs ws
  | .dct .tp kvs, v => ∃ a ws, v = .ref a ∧ Rd Z a (.dT ws) ∧ RepKt kvs ws
def RepDs : List D → List V → Prop
  | [], vs => vs = []
  | d :: ds, vs => ∃ v r, vs = v :: r ∧ RepD d v ∧ RepDs ds r
def RepKs : List (D × D) → List (Key × V) → Prop
  | [], ws => ws = []
  | (k, d) :: r, ws => ∃ k' v r', ws = (k', v) :: r' ∧ keyOf k = some k' ∧ RepD d v ∧ RepKs r r'
def RepKt : List (D × D) → List (List Key × V) → Prop
  | [], ws => ws = []
  | (k, d) :: r, ws => ∃ k' v r', ws = (k', v) :: r' ∧ tkeyOf k = some k' ∧ RepD d v ∧ RepKt r r'
end
end

section
variable {K : PySem.W.Frag} {Z Z' : Hp} {mu mu' : Nat → Option Addr}
theorem Rd.le {a : Addr} {u : HO} (hz : ∀ a o, Z a = some o → Z' a = some o) (h : Rd Z a u) : Rd Z' a u := by
  rcases h with h | ⟨o, h⟩
  · exact .inl (hz _ _ h)
  · exact .inr ⟨o, hz _ _ h⟩
theorem SqT.le {a : Addr} {vs : List V} (hz : ∀ a o, Z a = some o → Z' a = some o) (h : SqT K Z a vs) : SqT K Z' a vs := by
  rcases h with h | h
  · exact .inl (Rd.le hz h)
  · exact .inr h
theorem SqL.le {a : Addr} {vs : List V} (hz : ∀ a o, Z a = some o → Z' a = some o) (h : SqL K Z a vs) : SqL K Z' a vs := by
  rcases h with h | h
  · exact .inl (Rd.le hz h)
  · exact .inr h
mutual
theorem RepD.le (hz : ∀ a o, Z a = some o → Z' a = some o) (hm : ∀ c a, mu c = some a → mu' c = some a) : ∀ (d : D) (v : V), RepD K Z mu d v → RepD K Z' mu' d v
  | .non, _, h => h
  | .bl _, _, h => h
  | .int _, _, h => h
  | .str _, _, h => h
  | .ref _, _, ⟨a, h1, h2⟩ => ⟨a, hm _ _ h1, h2⟩
  | .tup ds, _, ⟨a, vs, h1, h2, h3⟩ => ⟨a, vs, h1, hz _ _ h2, RepDs.le hz hm ds vs h3⟩
  | .ctup ds, _, ⟨a, vs, h1, h2, h3⟩ => ⟨a, vs, h1, h2, RepDs.le hz hm ds vs h3⟩
  | .lst ds, _, ⟨a, vs, h1, h2, h3⟩ => ⟨a, vs, h1, SqL.le hz h2, RepDs.le hz hm ds vs h3⟩
  | .dct .sc kvs, _, ⟨a, ws, h1, h2, h3⟩ => ⟨a, ws, h1, Rd.le hz h2, RepKs.le hz hm kvs ws h3⟩
  | .dct .tp kvs, _, ⟨a, ws, h1, h2, h3⟩ => ⟨a, ws, h1, Rd.le hz h2, RepKt.le hz hm kvs ws h3⟩
theorem RepDs.le (hz : ∀ a o, Z a = some o → Z' a = some o) (hm : ∀ c a, mu c = some a → mu' c = some a) : ∀ (ds : List D) (vs : List V), RepDs K Z mu ds vs → RepDs K Z' mu' ds vs
  | [], _, h => h
  | d :: ds, _, ⟨v, r, h1, h2, h3⟩ => ⟨v, r, h1, RepD.le hz hm d v h2, RepDs.le hz hm ds r h3⟩
theorem RepKs.le (hz : ∀ a o, Z a = some o → Z' a = some o) (hm : ∀ c a, mu c = some a → mu' c = some a) : ∀ (ds : List (D × D)) (vs : List (Key × V)), RepKs K Z mu ds vs → RepKs K Z' mu' ds vs
  | [], _, h => h
  | (k, d) :: ds, _, ⟨k', v, r, h1, h0, h2, h3⟩ => ⟨k', v, r, h1, h0, RepD.le hz hm d v h2, RepKs.le hz hm ds r h3⟩
theorem RepKt.le (hz : ∀ a o, Z a = some o → Z' a = some o) (hm : ∀ c a, mu c = some a → mu' c = some a) : ∀ (ds : List (D × D)) (vs : List (List Key × V)), RepKt K Z mu ds vs → RepKt K Z' mu' ds vs
  | [], _, h => h
  | (k, d) :: ds, _, ⟨k', v, r, h1, h0, h2, h3⟩ => ⟨k', v, r, h1, h0, RepD.le hz hm d v h2, RepKt.le hz hm ds r h3⟩
end
theorem RepDs.length : ∀ {ds : List D} {vs : List V}, RepDs K Z mu ds vs → vs.length = ds.length
  | [], _, h => by cases h; rfl
  | d :: ds, _, ⟨v, r, h1, h2, h3⟩ => by subst h1; simp [RepDs.length h3]
theorem RepDs.get : ∀ {ds : List D} {vs : List V} {i : Nat} {d : D}, RepDs K Z mu ds vs → ds[i]? = some d → ∃ v, vs[i]? = some v ∧ RepD K Z mu d v
  | [], _, i, d, h, e => by simp at e
  | d :: ds, _, 0, x, ⟨v, r, h1, h2, h3⟩, e => by
    subst h1; simp at e; subst e; exact ⟨v, by simp, h2⟩
  | d :: ds, _, i + 1, x, ⟨v, r, h1, h2, h3⟩, e => by
    subst h1
    obtain ⟨w, e1, e2⟩ := RepDs.get (i := i) h3 (by simpa using e)
    exact ⟨w, by simpa using e1, e2⟩
theorem RepDs.append : ∀ {ds es : List D} {vs ws : List V}, RepDs K Z mu ds vs → RepDs K Z mu es ws → RepDs K Z mu (ds ++ es) (vs ++ ws)
  | [], _, _, _, h, h' => by cases h; exact h'
  | d :: ds, _, _, _, ⟨v, r, h1, h2, h3⟩, h' => by subst h1; exact ⟨v, _, rfl, h2, RepDs.append h3 h'⟩
theorem RepDs.set {d : D} {v : V} (hd : RepD K Z mu d v) : ∀ {ds : List D} {vs : List V} (i : Nat), RepDs K Z mu ds vs → RepDs K Z mu (ds.set i d) (vs.set i v)
  | [], _, _, h => by cases h; exact rfl
  | e :: ds, _, 0, ⟨w, r, h1, h2, h3⟩ => by subst h1; exact ⟨v, r, rfl, hd, h3⟩
  | e :: ds, _, i + 1, ⟨w, r, h1, h2, h3⟩ => by subst h1; exact ⟨w, _, rfl, h2, RepDs.set hd i h3⟩
theorem RepDs.take : ∀ {ds : List D} {vs : List V} (n : Nat), RepDs K Z mu ds vs → RepDs K Z mu (ds.take n) (vs.take n)
  | _, _, 0, _ => by simp [RepDs]
  | [], _, n + 1, h => by cases h; exact rfl
  | e :: ds, _, n + 1, ⟨w, r, h1, h2, h3⟩ => by subst h1; exact ⟨w, _, rfl, h2, RepDs.take n h3⟩
theorem RepDs.drop : ∀ {ds : List D} {vs : List V} (n : Nat), RepDs K Z mu ds vs → RepDs K Z mu (ds.drop n) (vs.drop n)
  | _, _, 0, h => h
  | [], _, n + 1, h => by cases h; exact rfl
  | e :: ds, _, n + 1, ⟨w, r, h1, h2, h3⟩ => by subst h1; exact RepDs.drop n h3
theorem RepDs.dropLast {ds : List D} {vs : List V} (h : RepDs K Z mu ds vs) : RepDs K Z mu ds.dropLast vs.dropLast := by
  rw [List.dropLast_eq_take, List.dropLast_eq_take, h.length]
  exact h.take _
theorem RepDs.reverse : ∀ {ds : List D} {vs : List V}, RepDs K Z mu ds vs → RepDs K Z mu ds.reverse vs.reverse
  | [], _, h => by cases h; exact rfl
  | e :: ds, _, ⟨w, r, h1, h2, h3⟩ => by
    subst h1
    rw [List.reverse_cons, List.reverse_cons]
    exact (RepDs.reverse h3).append ⟨w, [], rfl, h2, rfl⟩
end

/-! ### worlds -/
structure Wd where
  Z : Hp
  mu : Nat → Option Addr
  L : Addr → Option Nat
  O : Addr → Option (Nat × Option Str)
  Lk : Addr → Option HO := fun _ => none
def Wd.own (W : Wd) (a : Addr) : Prop := W.L a ≠ none ∨ W.O a ≠ none
structure Inw (W : Wd) (H : Hp) : Prop where
  zl : ∀ a o, W.Z a = some o → H a = some o ∨ (Mut (some o) ∧ ∃ ob, H a = some (.frz ob o))
  zo : ∀ a o, W.Z a = some o → ¬ W.own a
  lo : ∀ a i, W.L a = some i → W.O a = none
  ho : ∀ a, W.own a → H a ≠ none
  kh : ∀ a o, W.Lk a = some o → H a = some o ∧ W.O a ≠ none
  ot : ∀ a, W.own a → ∀ vs, H a ≠ some (.tup vs)
/-- what a statement may do -/
structure Post (W : Wd) (H : Hp) (W' : Wd) (H' : Hp) : Prop where
  zm : ∀ a o, W.Z a = some o → W'.Z a = some o
  mm : ∀ c a, W.mu c = some a → W'.mu c = some a
  fr : ∀ a o, H a = some o → ¬ W.own a → H' a = some o
  zn : ∀ a o, W'.Z a = some o → W.Z a = some o ∨ W.own a ∨ H a = none
  on : ∀ a, W'.own a → W.own a ∨ H a = none
  lk : W'.Lk = W.Lk
/-- what an expression may do: the names of this frame keep what they have -/
structure PostE (W : Wd) (H : Hp) (W' : Wd) (H' : Hp) : Prop where
  p : Post W H W' H'
  ll : ∀ a, W'.L a = W.L a
  lh : ∀ a i, W.L a = some i → H' a = H a
theorem Post.refl {W : Wd} {H : Hp} : Post W H W H := ⟨fun _ _ h => h, fun _ _ h => h, fun _ _ h _ => h, fun _ _ h => .inl h, fun _ h => .inl h, rfl⟩
theorem PostE.refl {W : Wd} {H : Hp} : PostE W H W H := ⟨.refl, fun _ => rfl, fun _ _ _ => rfl⟩
section
variable {W W' W'' : Wd} {H H' H'' : Hp}
theorem Post.dead (p : Post W H W' H') {a : Addr} (h : H' a = none) (hl : ¬ W.own a) : H a = none := by
  cases e : H a with
  | none => rfl
  | some o => rw [p.fr a o e hl] at h; cases h
theorem frz_ne {ob : Obj} {o : HO} : HO.frz ob o ≠ o := by
  intro e
  have := congrArg sizeOf e
  simp at this

/-- what is not frozen stays -/
theorem Post.stay (p : Post W H W' H') {a : Addr} {o : HO} (h : H a = some o) (hl : ¬ W.own a) (hz : W.Z a = none) : H' a = some o := p.fr a o h hl
/-- a tuple stays -/
theorem Post.stayT (p : Post W H W' H') {a : Addr} {vs : List V} (h : H a = some (.tup vs)) (hl : ¬ W.own a) : H' a = some (.tup vs) := p.fr a _ h hl
theorem Post.trans (p : Post W H W' H') (q : Post W' H' W'' H'') : Post W H W'' H'' where
  zm := fun a o h => q.zm a o (p.zm a o h)
  mm := fun c a h => q.mm c a (p.mm c a h)
  fr := fun a o h hl => by
    have no : ¬ W'.own a := fun z => by
      rcases p.on a z with y | y
      · exact hl y
      · rw [h] at y; cases y
    exact q.fr a o (p.fr a o h hl) no
  zn := fun a o h => by
    by_cases hl : W.own a
    · exact .inr (.inl hl)
    · rcases q.zn a o h with z | z | z
      · exact p.zn a o z
      · exact .inr (p.on a z)
      · exact .inr (.inr (p.dead z hl))
  on := fun a h => by
    by_cases hl : W.own a
    · exact .inl hl
    · rcases q.on a h with z | z
      · exact p.on a z
      · exact .inr (p.dead z hl)
  lk := q.lk.trans p.lk
theorem PostE.trans (p : PostE W H W' H') (q : PostE W' H' W'' H'') : PostE W H W'' H'' where
  p := p.p.trans q.p
  ll := fun a => (q.ll a).trans (p.ll a)
  lh := fun a i h => (q.lh a i ((p.ll a).trans h)).trans (p.lh a i h)
theorem Rd.up (I : Inw W H) {a : Addr} {u : HO} (h : Rd W.Z a u) : Rd H a u := by
  rcases h with h | ⟨o, h⟩
  · rcases I.zl _ _ h with e | ⟨_, ob, e⟩
    · exact .inl e
    · exact .inr ⟨ob, e⟩
  · rcases I.zl _ _ h with e | ⟨m, _⟩
    · exact .inr ⟨o, e⟩
    · exact absurd m (by intro z; exact z)
theorem SqT.up {K : PySem.W.Frag} (I : Inw W H) {a : Addr} {vs : List V} (h : SqT K W.Z a vs) : SqT K H a vs := by
  rcases h with h | h
  · exact .inl (Rd.up I h)
  · exact .inr h
theorem SqL.up {K : PySem.W.Frag} (I : Inw W H) {a : Addr} {vs : List V} (h : SqL K W.Z a vs) : SqL K H a vs := by
  rcases h with h | h
  · exact .inl (Rd.up I h)
  · exact .inr h
theorem tup_up (I : Inw W H) {a : Addr} {vs : List V} (h : W.Z a = some (.tup vs)) : H a = some (.tup vs) := by
  rcases I.zl _ _ h with e | ⟨m, _⟩
  · exact e
  · exact absurd m (by intro z; exact z)
theorem SqTwr {K : PySem.W.Frag} {H : Hp} {a : Addr} {vs : List V} (h : SqC K a vs) : SqT K H a vs := by
  have h := h.1
  rcases h with (h | ⟨o, h⟩) | h
  · cases h
  · cases h
  · exact .inr h
theorem Inw.newZ (I : Inw W H) {p : Addr} (h : H p = none) : W.Z p = none := by
  cases e : W.Z p with
  | none => rfl
  | some o => rcases I.zl _ _ e with z | ⟨_, _, z⟩ <;> (rw [h] at z; cases z)
theorem Inw.newOO (I : Inw W H) {p : Addr} (h : H p = none) : W.O p = none := by
  cases q : W.O p with
  | none => rfl
  | some z => exact absurd h (I.ho p (.inr (by rw [q]; exact nofun)))
theorem Inw.newOZ (I : Inw W H) {p : Addr} (h : H p = none) : W.O p = none ∧ W.Z p = none := ⟨I.newOO h, I.newZ h⟩
theorem Inw.lZ (I : Inw W H) {a : Addr} {i : Nat} (h : W.L a = some i) : W.O a = none ∧ W.Z a = none := by
  refine ⟨I.lo a i h, ?_⟩
  cases q : W.Z a with
  | none => rfl
  | some z => exact absurd (.inl (by rw [h]; exact nofun)) (I.zo a z q)
theorem Inw.newO (I : Inw W H) {p : Addr} (h : H p = none) : ¬ W.own p := fun z => I.ho p z h
end

/-! ### the store, the names -/
inductive Cell where
  | ins (cls : Str) (fs : List (Str × D))
  | box (lk : Bool) (ov : OV)
structure Sto where
  cells : List Cell
def Sto.get (S : Sto) (c : Nat) : Option Cell := S.cells[c]?
def Sto.put (S : Sto) (c : Nat) (x : Cell) : Sto := ⟨S.cells.set c x⟩
def Sto.add (S : Sto) (x : Cell) : Sto := ⟨S.cells ++ [x]⟩
def Sto.len (S : Sto) : Nat := S.cells.length
def Sto.emp : Sto := ⟨[]⟩
/-- a list's, a dict's content -/
def RepH (K : PySem.W.Frag) (W : Wd) : OV → HO → Prop
  | .ol ds, o => ∃ vs, o = .lst vs ∧ RepDs K W.Z W.mu ds vs
  | .od .sc kvs, o => ∃ ws, o = .dK ws ∧ RepKs K W.Z W.mu kvs ws
  | .od .tp kvs, o => ∃ ws, o = .dT ws ∧ RepKt K W.Z W.mu kvs ws
  | _, _ => False
/-- what the slot i holds -/
def RepS (K : PySem.W.Frag) (W : Wd) (H : Hp) (i : Nat) (ov : OV) (v : V) : Prop :=
  (∃ d, ov = .fr d ∧ RepD K W.Z W.mu d v) ∨ ∃ a o, v = .ref a ∧ W.L a = some i ∧ H a = some o ∧ RepH K W ov o
def CellOk (K : PySem.W.Frag) (ca : Str → Addr) (W : Wd) (H : Hp) (a : Addr) : Cell → Prop
  | .ins cls fs => W.Lk a = none ∧ ∃ dx vfs, H a = some (.ins (ca cls) dx vfs) ∧ vfs.length = fs.length ∧ ∀ f, (∀ d, fs.lookup f = some d → ∃ v, vfs.lookup f = some v ∧ RepD K W.Z W.mu d v) ∧ (fs.lookup f = none → vfs.lookup f = none)
  | .box false ov => W.Lk a = none ∧ ∃ o, H a = some o ∧ RepH K W ov o
  | .box true ov => ∃ o u, W.Lk a = some u ∧ H a = some u ∧ (u = o ∨ ∃ ob, u = .frz ob o) ∧ RepH K W ov o
structure StoOk (K : PySem.W.Frag) (ca : Str → Addr) (W : Wd) (H : Hp) (S : Sto) : Prop where
  cell : ∀ c x, S.get c = some x → ∃ a, W.mu c = some a ∧ W.O a = some (c, none) ∧ CellOk K ca W H a x
  top : ∀ c a, W.mu c = some a → c < S.cells.length
abbrev Env1 := List (Option OV)
structure Slots (K : PySem.W.Frag) (W : Wd) (H : Hp) (ρ : Env1) (σ : L2.St) : Prop where
  len : ρ.length = σ.length
  at_ : ∀ i ov, ρ[i]? = some (some ov) → ∃ v, σ[i]? = some (some v) ∧ RepS K W H i ov v
structure Rel (K : PySem.W.Frag) (ca : Str → Addr) (W : Wd) (H : Hp) (ρ : Env1) (S : Sto) (σ : L2.St) : Prop where
  inw : Inw W H
  sl : Slots K W H ρ σ
  so : StoOk K ca W H S
section
variable {K : PySem.W.Frag} {ca : Str → Addr} {W W' : Wd} {H H' : Hp} {ρ : Env1} {S : Sto} {σ : L2.St}
theorem RepD.post (p : Post W H W' H') {d : D} {v : V} (h : RepD K W.Z W.mu d v) : RepD K W'.Z W'.mu d v := RepD.le p.zm p.mm _ _ h
theorem RepDs.post (p : Post W H W' H') {d : List D} {v : List V} (h : RepDs K W.Z W.mu d v) : RepDs K W'.Z W'.mu d v := RepDs.le p.zm p.mm _ _ h
theorem RepH.le (zm : ∀ a o, W.Z a = some o → W'.Z a = some o) (mm : ∀ c a, W.mu c = some a → W'.mu c = some a) {ov : OV} {o : HO} (h : RepH K W ov o) : RepH K W' ov o := by
  cases ov with
  | fr d => exact h
  | bo d => exact h
  | ol ds => obtain ⟨vs, e, r⟩ := h; exact ⟨vs, e, RepDs.le zm mm _ _ r⟩
  | od k kvs =>
    cases k with
    | sc => obtain ⟨vs, e, r⟩ := h; exact ⟨vs, e, RepKs.le zm mm _ _ r⟩
    | tp => obtain ⟨vs, e, r⟩ := h; exact ⟨vs, e, RepKt.le zm mm _ _ r⟩
theorem RepH.post (p : Post W H W' H') {ov : OV} {o : HO} (h : RepH K W ov o) : RepH K W' ov o := RepH.le p.zm p.mm h
theorem RepH.mut {ov : OV} {o : HO} (h : RepH K W ov o) : Mut (some o) := by
  cases ov with
  | fr d => exact h.elim
  | bo d => exact h.elim
  | ol ds => obtain ⟨vs, e, r⟩ := h; subst e; trivial
  | od k kvs => cases k <;> (obtain ⟨vs, e, r⟩ := h; subst e; trivial)
theorem Slots.post (p : PostE W H W' H') (h : Slots K W H ρ σ) : Slots K W' H' ρ σ := by
  refine ⟨h.len, fun i ov e => ?_⟩
  obtain ⟨v, e1, r⟩ := h.at_ i ov e
  refine ⟨v, e1, ?_⟩
  rcases r with ⟨d, e2, r⟩ | ⟨a, o, e2, l, e3, r⟩
  · exact .inl ⟨d, e2, RepD.post p.p r⟩
  · exact .inr ⟨a, o, e2, (p.ll a).trans l, (p.lh a i l).trans e3, RepH.post p.p r⟩
theorem CellOk.le {a : Addr} {x : Cell} (h : CellOk K ca W H a x) (zm : ∀ a o, W.Z a = some o → W'.Z a = some o) (mm : ∀ c a, W.mu c = some a → W'.mu c = some a) (lk : W'.Lk a = W.Lk a) (hh : H' a = H a) : CellOk K ca W' H' a x := by
  cases x with
  | box k ov =>
    cases k with
    | false => obtain ⟨l, o, e3, r⟩ := h; exact ⟨lk.trans l, o, hh.trans e3, RepH.le zm mm r⟩
    | true => obtain ⟨o, u, e1, e2, e3, r⟩ := h; exact ⟨o, u, lk.trans e1, hh.trans e2, e3, RepH.le zm mm r⟩
  | ins cls fs =>
    obtain ⟨l, dx, vfs, e3, e4, r⟩ := h
    refine ⟨lk.trans l, dx, vfs, hh.trans e3, e4, fun f => ⟨fun ov e4 => ?_, (r f).2⟩⟩
    obtain ⟨v, e5, r5⟩ := (r f).1 ov e4
    exact ⟨v, e5, RepD.le zm mm _ _ r5⟩
/-- the store is kept where its objects are -/
theorem StoOk.keep (h : StoOk K ca W H S) (zm : ∀ a o, W.Z a = some o → W'.Z a = some o) (mm : W'.mu = W.mu) (oo : ∀ a, W.O a ≠ none → W'.O a = W.O a) (hh : ∀ a, W.O a ≠ none → H' a = H a) (lk : W'.Lk = W.Lk := by rfl) : StoOk K ca W' H' S := by
  have hm : ∀ c a, W.mu c = some a → W'.mu c = some a := fun c a e => by rw [mm]; exact e
  refine ⟨fun c x e => ?_, fun c a e => h.top c a (by rw [← mm]; exact e)⟩
  obtain ⟨a, e1, e2, ok⟩ := h.cell c x e
  have ne : W.O a ≠ none := by rw [e2]; exact nofun
  exact ⟨a, hm _ _ e1, (oo a ne).trans e2, ok.le zm hm (by rw [lk]) (hh a ne)⟩
/-- something new is laid and frozen -/
def Wd.frz (W : Wd) (p : Addr) (o : HO) : Wd := { W with Z := upd W.Z p o }
theorem Wd.frz_own {p : Addr} {o : HO} {a : Addr} : (W.frz p o).own a ↔ W.own a := Iff.rfl
theorem zm_frz (I : Inw W H) {p : Addr} {o : HO} (h : H p = none) : ∀ a u, W.Z a = some u → (W.frz p o).Z a = some u := fun a u e => by
  show upd W.Z p o a = some u
  rw [upd_ne (ne_of_none e (I.newZ h))]; exact e
theorem postE_new (I : Inw W H) {p : Addr} {o : HO} (h : H p = none) : PostE W H (W.frz p o) (upd H p o) := by
  refine ⟨⟨zm_frz I h, fun _ _ e => e, fun a u e _ => ?_, fun a u e => ?_, fun a e => .inl e, rfl⟩, fun _ => rfl, fun a i e => ?_⟩
  · rw [upd_ne (ne_of_none e h)]; exact e
  · by_cases q : a = p
    · subst q; exact .inr (.inr h)
    · have e' : upd W.Z p o a = some u := e
      rw [upd_ne q] at e'
      exact .inl e'
  · rw [upd_ne]
    rintro rfl
    exact I.newO h (.inl (by rw [e]; exact nofun))
theorem inw_new (I : Inw W H) {p : Addr} {o : HO} (h : H p = none) : Inw (W.frz p o) (upd H p o) := by
  refine ⟨fun a u e => ?_, fun a u e => ?_, I.lo, fun a e => ?_, fun a u e => ?_, fun a e vs => ?_⟩
  · have e' : upd W.Z p o a = some u := e
    by_cases q : a = p
    · subst q
      rw [upd_same] at e'
      rw [upd_same]; exact .inl e'
    · rw [upd_ne q] at e'
      rw [upd_ne q]; exact I.zl a u e'
  · have e' : upd W.Z p o a = some u := e
    by_cases q : a = p
    · subst q; exact I.newO h
    · rw [upd_ne q] at e'
      exact I.zo a u e'
  · by_cases q : a = p
    · subst q; exact absurd e (I.newO h)
    · rw [upd_ne q]; exact I.ho a e
  · have y := I.kh a u e
    rw [upd_ne (ne_of_none y.1 h)]; exact y
  · have q : a ≠ p := by rintro rfl; exact I.newO h e
    rw [upd_ne q]; exact I.ot a e vs
theorem sto_new (I : Inw W H) (so : StoOk K ca W H S) {p : Addr} {o : HO} (h : H p = none) : StoOk K ca (W.frz p o) (upd H p o) S :=
  so.keep (zm_frz I h) rfl (fun _ _ => rfl) fun a e => by
    rw [upd_ne]
    rintro rfl
    exact I.newO h (.inr e)
/-- something new is laid, not yet anyone's -/
theorem postE_lay (I : Inw W H) {p : Addr} {o : HO} (h : H p = none) : PostE W H W (upd H p o) := by
  refine ⟨⟨fun _ _ e => e, fun _ _ e => e, fun a u e _ => ?_, fun a u e => .inl e, fun a e => .inl e, rfl⟩, fun _ => rfl, fun a i e => ?_⟩
  · rw [upd_ne (ne_of_none e h)]; exact e
  · rw [upd_ne]
    rintro rfl
    exact I.newO h (.inl (by rw [e]; exact nofun))
theorem inw_lay (I : Inw W H) {p : Addr} {o : HO} (h : H p = none) : Inw W (upd H p o) := by
  refine ⟨fun a u e => ?_, I.zo, I.lo, fun a e => ?_, fun a u e => ?_, fun a e vs => ?_⟩
  · have q : a ≠ p := ne_of_none e (I.newZ h)
    rw [upd_ne q]; exact I.zl a u e
  · by_cases q : a = p
    · subst q; exact absurd e (I.newO h)
    · rw [upd_ne q]; exact I.ho a e
  · have y := I.kh a u e
    rw [upd_ne (ne_of_none y.1 h)]; exact y
  · have q : a ≠ p := by rintro rfl; exact I.newO h e
    rw [upd_ne q]; exact I.ot a e vs
theorem sto_lay (I : Inw W H) (so : StoOk K ca W H S) {p : Addr} {o : HO} (h : H p = none) : StoOk K ca W (upd H p o) S :=
  so.keep (fun _ _ e => e) rfl (fun _ _ => rfl) fun a e => by
    rw [upd_ne]
    rintro rfl
    exact I.newO h (.inr e)
/-- what stands alone is frozen -/
theorem zm_ice {p : Addr} {o : HO} (h : W.Z p = none) : ∀ a u, W.Z a = some u → (W.frz p o).Z a = some u := fun a u e => by
  show upd W.Z p o a = some u
  rw [upd_ne (ne_of_none e h)]; exact e
theorem inw_ice (I : Inw W H) {p : Addr} {o : HO} (h : H p = some o) (hn : ¬ W.own p) : Inw (W.frz p o) H := by
  refine ⟨fun a u e => ?_, fun a u e => ?_, I.lo, I.ho, I.kh, I.ot⟩
  · have e' : upd W.Z p o a = some u := e
    by_cases q : a = p
    · subst q
      rw [upd_same] at e'; cases e'; exact .inl h
    · rw [upd_ne q] at e'
      exact I.zl a u e'
  · have e' : upd W.Z p o a = some u := e
    by_cases q : a = p
    · subst q; exact hn
    · rw [upd_ne q] at e'
      exact I.zo a u e'
end
end Sg
namespace Sg
open PySem PySem.Spec PyProof.Rows L2
/-! ### enumerate of a tuple -/
theorem enm_newB {v : Value} {o : Obj} {H : Heap → Prop} (B : Begins v o H) :
    Meets (Builtin.«enumerate.__new__» ⟨[.type "enumerate", v], []⟩) (fun _ R s => H s.heap ∧
      R (.ok (.ret (.ref (s.heap.push o).objs.size))) { s with heap := (s.heap.push o).push { cls := .type "enumerate", data := .fields #[.none, .bool false, .ref s.heap.objs.size, rawInt 0, .none, .none] } }) :=
  .of_wp fun prog w A R s h => by
    obtain ⟨hp, g, d, tk, os⟩ := s
    obtain ⟨h1, h⟩ := h
    have hsub := sub_enumerate
    have q1 : ∀ {A' : Around} {E : Value → Shared → Prop} {Q : Value → Shared → Prop}, Q (.ref hp.objs.size) ⟨(hp.push o), g, d, tk, os⟩ → wpAny (model prog w) A' (pyIter v) Q E ⟨hp, g, d, tk, os⟩ :=
      fun q => B.iter prog w _ _ ⟨hp, g, d, tk, os⟩ _ (B.keeps _ _ h1 fun b o' e => e) q
    wp_walk
    refine wpAny_stack_any fun st => wpAny_pure ?_
    split
    · rename_i c _ _ _ _ _
      cases (c == Value.type "enumerate")
      · wp_walk using q1
        exact ⟨_, rfl, h⟩
      · wp_walk using q1
        exact ⟨_, rfl, h⟩
    · wp_walk using q1
      exact ⟨_, rfl, h⟩
section
variable {prog : Program} {w : World} {A : Around} {E : Value → Shared → Prop} {s : Shared}
theorem call_enm_tup {l : Addr} {items : Array Value} {Q : Value → Shared → Prop} (hL : s.heap.IsTuple l items)
    (h : ∀ h', IsEnum h' (s.heap.objs.size + 1) s.heap.objs.size 0 .none → h'.IsTupleIter s.heap.objs.size l 0 → h'.objs.size = s.heap.objs.size + 2 →
      (∀ b o, s.heap.get? b = some o → h'.get? b = some o) → Q (.ref (s.heap.objs.size + 1)) { s with heap := h' }) :
    wpAny (model prog w) A (call (.type "enumerate") [.ref l]) Q E s := by
  refine callType_new F.called_enumerate (by decide) (F.typeCall_enumerate_1 _) (F.newCall_enumerate_1 _) (fun obj => F.args_object_init_2 obj _) F.entry_enumerate_new
    (enm_newB (begins_tuple l items)) ⟨hL, ?_⟩
  have hz : (s.heap.push { cls := .type "tuple_iterator", data := .fields #[.ref l, .int 0 0] }).objs.size = s.heap.objs.size + 1 := Heap.size_push ..
  show _ ∧ _
  rw [hz]
  have he : IsEnum ((s.heap.push { cls := .type "tuple_iterator", data := .fields #[.ref l, .int 0 0] }).push
      { cls := .type "enumerate", data := .fields #[.none, .bool false, .ref s.heap.objs.size, rawInt 0, .none, .none] }) (s.heap.objs.size + 1) s.heap.objs.size 0 .none := by
    have := Heap.get?_push_size (s.heap.push { cls := .type "tuple_iterator", data := .fields #[.ref l, .int 0 0] })
      (o := { cls := .type "enumerate", data := .fields #[.none, .bool false, .ref s.heap.objs.size, rawInt 0, .none, .none] }) rfl
    rw [hz] at this; exact this
  refine ⟨⟨_, he, rfl⟩, h _ he ⟨_, Heap.get?_push_of_some _ (Heap.get?_push_size _ rfl), rfl, rfl⟩ (by rw [Heap.size_push, hz]) fun b o x => Heap.get?_push_of_some _ (Heap.get?_push_of_some _ x)⟩
end
/-- the tuple at a, each item in a new pair -/
def Iet (K : PySem.W.Frag) (a : Addr) : L2.It :=
  ⟨fun i H => ∃ (xs : List V) (x : V), SqT K H a xs ∧ xs[i]? = some x, fun i H v H' => ∃ T x, v = .ref T ∧ H T = none ∧ H' = upd H T (.tup [.int (i : Nat), x]) ∧ ∀ xs, SqT K H a xs → xs[i]? = some x, fun i H => ∃ xs : List V, SqT K H a xs ∧ xs.length ≤ i⟩
theorem turn_enumT {P : Program} {w : World} {K : PySem.W.Frag} {elts : List Expr} {kk : Nat} {tpos : Pos} (a e it : Addr) :
    Turn P w K (.Tuple elts kk tpos) (Iet K a) [e, it] e (fun i h => (∃ old, IsEnum h e it ((i : Nat) : Int) old) ∧ h.IsTupleIter it a i ∧ e ≠ it) where
  mem := by simp
  obj := fun i h st b hb => by
    obtain ⟨⟨old, he⟩, ⟨o, ho, hc, hd⟩, _⟩ := st
    have e' : b = e ∨ b = it := by simpa using hb
    rcases e' with z | z
    · rw [z]; exact ⟨_, he, fun v q => nomatch q⟩
    · rw [z]; exact ⟨o, ho, fun v q => by rw [hd] at q; cases q⟩
  keep := fun i h h' st k => let ⟨⟨old, he⟩, hi, hne⟩ := st; ⟨⟨old, k e (by simp) _ he⟩, hi.at fun o q => k it (by simp) o q, hne⟩
  item := by
    intro X hP hw hK hc i pins s σ H E I hf st hg
    subst hP hw hK
    obtain ⟨⟨old, he⟩, hit, hne⟩ := st
    obtain ⟨xs, x, hq, hx⟩ := hg
    obtain ⟨its, rv, p, hz⟩ := I.tuple hq
    obtain ⟨u, hu, ru⟩ := rv.get hx
    have hel : e < s.heap.objs.size := Heap.lt_size he
    have hil : it < s.heap.objs.size := by obtain ⟨_, q, _⟩ := hit; exact Heap.lt_size q
    have hai : a ≠ it := fun z => by
      obtain ⟨o, e1, c1, _⟩ := p
      obtain ⟨o', e2, c2, _⟩ := hit
      rw [z, e2] at e1
      cases e1
      rw [c1] at c2
      exact absurd c2 (by decide)
    have hae : e ≠ a := fun z => by
      obtain ⟨o, e1, c1, _⟩ := p
      have he := he
      unfold IsEnum at he
      rw [z, e1] at he
      cases he
      have c1 : Value.type "enumerate" = Value.type "tuple" := c1
      injection c1 with c2
      exact absurd c2 (by decide)
    have hp : s.heap.IsTuple a its.toArray := p
    have D := Draws.tuple (prog := X.prog) (w := X.w) (A := X.A.in1) (I.ok.hd hc) it a hai its.toArray
    have hlt : i < its.toArray.size := by
      have := (List.getElem?_eq_some_iff.mp hu).1
      simpa using this
    refine wpAny_pyNext_enum_itemD D he ⟨hit, hp⟩ hlt hne (by simp [hne, hae]) fun x' h' tk hx' ho st' hT hsz hk => ?_
    have ex : x' = u := by
      have hu' : its.toArray[i]? = some u := by simpa using hu
      rw [hu'] at hx'; exact (Option.some.inj hx').symm
    subst ex
    have hit' := st'.1
    refine ⟨_, rfl, wpAny_letOwnedTupleGo_enum (s := { s with heap := h', toks := tk + 1 }) ho fun h'' he' sb => ?_⟩
    have hT2 : h''.get? s.heap.objs.size = some { cls := .type "tuple", data := .seq #[.int i tk, x'] } := (sb.2 _ (Nat.ne_of_gt hel)).trans hT
    have new : ObjOk X.prog X.w (upd H s.heap.objs.size (.tup [.int (i : Nat), x])) h'' s.heap.objs.size (.tup [.int (i : Nat), x]) :=
      ⟨by show 2 ≤ sizeLine; decide, [.int i tk, x'], .cons ⟨_, rfl⟩ (.cons ru .nil), ⟨_, hT2, rfl, _, rfl⟩⟩
    have I1 : Inv X pins σ (upd H s.heap.objs.size (.tup [.int (i : Nat), x])) { s with heap := h'', toks := tk + 1 } :=
      I.turnedNew (t' := tk + 1) (ch := [e, it]) (fun b ob hb q => (sb.2 b (fun z => hb (by simp [z]))).trans (hk b ob (fun z => hb (by simp [z])) (fun z => hb (by simp [z])) q)) hf (Nat.le_refl _) new
    refine ⟨.ref s.heap.objs.size, _, I1, rfl, ⟨_, x, rfl, I.hok.fresh (Nat.le_refl _), rfl, fun ys hy => by rw [I.tuple_inj hy hq]; exact hx⟩, ⟨⟨x', ?_⟩, hit'.at fun o q => (sb.2 it (Ne.symm hne)).trans q, hne⟩, fun b hb => ?_⟩
    · have e1 : ((i + 1 : Nat) : Int) = (i : Int) + 1 := by omega
      rw [e1]; exact he'
    · have hb' : b < s.heap.objs.size := by
        have e' : b = e ∨ b = it := by simpa using hb
        rcases e' with z | z
        · rw [z]; exact hel
        · rw [z]; exact hil
      rw [upd_ne (Nat.ne_of_lt hb')]
      exact (hf b hb).1
  done := by
    intro X hP hw hK hc i pins s σ H E I hf st hg
    subst hP hw hK
    obtain ⟨⟨old, he⟩, hit, hne⟩ := st
    obtain ⟨xs, hq, hx⟩ := hg
    obtain ⟨its, rv, p, hz⟩ := I.tuple hq
    obtain ⟨f0, f1, f2, f3, f4, f5⟩ := hf it (by simp)
    have hl := rv.length
    have hai : a ≠ it := fun z => by
      obtain ⟨o, e1, c1, _⟩ := p
      obtain ⟨o', e2, c2, _⟩ := hit
      rw [z, e2] at e1
      cases e1
      rw [c1] at c2
      exact absurd c2 (by decide)
    have hp : s.heap.IsTuple a its.toArray := p
    have gone : its.toArray[i]? = none := by simp; omega
    have hT : s.TypeIs (.ref e) "enumerate" := ⟨_, he, rfl⟩
    unfold pyNext
    refine wpAny_bind (wpAny_attempt (wpAny_callSpecial?_slot (name := Str.ofString "__next__") hT F.slot_enumerate_next
      (wpAny_call_entry F.slot_enumerate_next hT F.entry_enumerate_next ?_ (F.args_enumerate_next_1 _))))
    show wpAny _ _ (PySem.field (.ref e) 2 >>= _) _ _ _
    refine wpAny_bind (wpAny_field he rfl (x := .ref it) rfl ?_)
    refine wpAny_bind (PySem.wpAny_nextOf_tuple_end (I.ok.hd hc) hit hp gone fun h' x he' hx' => ?_)
    obtain ⟨o, ho, hc⟩ := hx'
    refine wpAny_bind (wpAny_isInstance (T := "StopIteration") (b := true) ⟨o, ho, hc⟩ isSubtype_stop ?_)
    exact wpAny_pure ⟨rfl, I.turned (t' := s.toks) (fun b o hb q => he' b o hb q) f0 f1 f3 f4 f5⟩
  self := fun A i s Q E st h => let ⟨⟨_, he⟩, _⟩ := st; wpAny_pyIter_enum he h
def iEnmT (K : PySem.W.Frag) (ta : TA) : TI := fun σ H R => ta σ H fun vs H1 => ∃ a xs, vs = [.ref a] ∧ SqT K H1 a xs ∧ R (Iet K a) H1
theorem pi_enmT {X : Cx} {e : Expr} {ta : TA} {p pos tpos : Pos} {elts : List Expr} {kk : Nat} (hg : Gl X "enumerate") (hm : X.mg "enumerate" = none) (ha : PA X [e] ta) (hs : starEach [e] X.env = [(false, eval e X.env)] := by rfl) :
    PI X (.Tuple elts kk tpos) (.Call (.Name "enumerate" p) [e] [] pos) (iEnmT X.K ta) := by
  refine ⟨fun pins s σ H R I h => ?_⟩
  refine Call_ (ld_blt I hg hm boot_enumerate (PyProof.Rows.callWith_type1 (thn (ha.run pos pins s σ H _ I h) fun us s1 ⟨vs, H1, I1, r1, q1⟩ => ?_) hs rfl))
  obtain ⟨a, xs, ex, hq, q⟩ := q1
  subst ex
  cases r1 with
  | cons r rr =>
    cases rr
    cases r
    obtain ⟨its, rv, p', hz⟩ := I1.tuple hq
    refine call_enm_tup (show s1.heap.IsTuple a its.toArray from p') fun h' he hit hsz hk => wpAny_pyIter_enum he ?_
    have I2 : Inv X pins σ H1 { s1 with heap := h' } := I1.kept (t' := s1.toks) hk
    refine ⟨s1.heap.objs.size + 1, [s1.heap.objs.size + 1, s1.heap.objs.size], _, _, H1, rfl, I2, turn_enumT a (s1.heap.objs.size + 1) s1.heap.objs.size, ⟨⟨.none, he⟩, hit, Nat.succ_ne_self _⟩, fun b hb => ?_, q⟩
    have e' : b = s1.heap.objs.size + 1 ∨ b = s1.heap.objs.size := by simpa using hb
    have hle : s1.heap.objs.size ≤ b := by
      rcases e' with z | z
      · rw [z]; exact Nat.le_add_right _ _
      · rw [z]; exact Nat.le_refl _
    exact I1.fpOk hle (I1.hok.fresh hle)
theorem walk_enumT {K : PySem.W.Frag} {a : Addr} {xs : List V} : Walk (Iet K a) xs.length (fun H => SqT K H a xs) (YPair (fun i => some (.int (i : Nat))) (fun i => xs[i]?)) := by
  refine ⟨fun i _ hi q => ⟨xs, xs[i], q, by simp [hi]⟩, fun _ q => ⟨xs, q, Nat.le_refl _⟩, fun i H v H' _ q y => ?_⟩
  obtain ⟨T, x, h1, h2, h3, h4⟩ := y
  exact ⟨T, .int (i : Nat), x, h1, h2, h3, rfl, h4 xs q⟩
end Sg
namespace Sg
open PySem PySem.Spec PyProof.Rows L2

/-! ### the small language -/
inductive Op2 where
  | add | sub | mul | fdiv | mod | pow | band | bor | bxor | shl | shr
  | eq | ne | lt | le | gt | ge | inn | nin
  deriving DecidableEq
inductive Tg where
  | one (i : Nat) | many (is : List Nat)
  deriving DecidableEq
/-- built-in functions and types that are called by name -/
inductive Bi where
  | len | int | str | list | tuple | sorted | min | max | sum | any | all | abs | dict | divmod | bool
  deriving DecidableEq
/-- built-in types that isinstance is asked of -/
inductive Ty where
  | int | bool | str | tuple | list | dict
  deriving DecidableEq
def Ty.s : Ty → String
  | .int => "int" | .bool => "bool" | .str => "str" | .tuple => "tuple" | .list => "list" | .dict => "dict"
def Bi.s : Bi → String
  | .len => "len" | .int => "int" | .str => "str" | .list => "list" | .tuple => "tuple" | .sorted => "sorted" | .min => "min" | .max => "max" | .sum => "sum" | .any => "any" | .all => "all" | .abs => "abs" | .dict => "dict" | .divmod => "divmod" | .bool => "bool"
/-- methods of built-in types that change nothing -/
inductive Bm where
  | join | get | index | split | values | items | keys | count | find | tindex | replace | startswith
  deriving DecidableEq
/-- methods that change a list, a dict -/
inductive Mm where
  | append | extend | pop | insert | clear | reverse | update
  deriving DecidableEq
mutual
inductive E where
  | var (i : Nat) | int (i : Int) | bl (b : Bool) | non | str (s : Str) | cst (x : Str) (d : D)
  | op (o : Op2) (a b : E) | cmp3 (o1 o2 : Op2) (a b c : E)
  | neg (a : E) | tru (a : E) | isN (n : Bool) (a : E) | isB (n : Bool) (a : E) (b : Bool)
  | and (es : Es) | or (es : Es) | not (a : E) | ite (c a b : E)
  | tup (es : Es) | lst (es : Es) | dnew (k : DK)
  | idx (a b : E) | sl (a : E) (lo hi : Eo)
  | isT (a : E) (T : Ty)
  | bi (b : Bi) (es : Es)
  | bm (a : E) (m : Bm) (es : Es)
  | call (f : Str) (es : Es)
  | lc (vs : List Nat) (g : Tg) (it : It) (c : E) (e : E)
  | fld (a : E) (f : Str)
  | meth (a : E) (m : Str) (es : Es)
  | make (C : Str) (es : Es)
  | brw (is : List Nat) (e : E)
  | cat (a b : E) | rep (a b : E) | dlt (es : Es)
  | bad
inductive Eo where
  | no | some (e : E)
inductive Es where
  | nil | cons (e : E) (es : Es)
inductive It where
  | seq (e : E) | rng (es : Es) | enm (e : E) | zp (a b : E) | itm (a : E) | vls (a : E) | rev (a : E)
end
mutual
inductive St where
  | asg (i : Nat) (e : E) | own (i : Nat) (e : E) | asgT (is : List Nat) (e : E) | par (is : List Nat) (es : Es)
  | setI (i : Nat) (k e : E) | setS (i : Nat) (lo hi : Eo) (e : E)
  | mc (t : Option Nat) (i : Nat) (m : Mm) (es : Es)
  | setM (i : Nat) (k : E) (j : Nat) (m : Mm) (es : Es)
  | aug (i : Nat) (o : Op2) (e : E)
  | augI (i : Nat) (k : E) (o : Op2) (e : E)
  | ite (c : E) (a b : Sts)
  | for (g : Tg) (it : It) (b : Sts)
  | while (c : E) (b : Sts)
  | ret (e : E) | retN | expr (e : E) | brk | cont | pass
  | frz (is : List Nat)
  | raise (C : Str) (es : Es)
  | fldI (a : E) (f : Str) (e : E) | fldO (a : E) (f : Str) (e : E)
  | fldM (a : E) (f : Str) (m : Mm) (es : Es) | fldK (a : E) (f : Str) (k e : E)
  | forI (g : Tg) (i : Nat) (b : Sts) | mcE (e : E) (m : Mm) (es : Es)
  | setP (i : Nat) (k : E) (j : Nat) | bad
inductive Sts where
  | nil | cons (s : St) (r : Sts)
end

/-! ### results -/
structure Exn where
  cls : Str
  fs : List (Str × D)
inductive Rs (α : Type) where
  | ok (a : α) (S : Sto) | exc (x : Exn) (S : Sto) | stk
def Rs.bind {α β : Type} : Rs α → (α → Sto → Rs β) → Rs β
  | .ok a S, k => k a S
  | .exc x S, _ => .exc x S
  | .stk, _ => .stk
def ofO {α : Type} (S : Sto) : Option α → Rs α
  | some a => .ok a S
  | none => .stk
abbrev Res := Rs OV
inductive Out where
  | nx (ρ : Env1) (S : Sto) | rt (ov : OV) (S : Sto) | bk (ρ : Env1) (S : Sto) | ct (ρ : Env1) (S : Sto) | ex (x : Exn) (ρ : Env1) (S : Sto) | stk

/-! ### what is reckoned -/
def lim : Nat := 16777216
mutual
def toPy : D → PyData
  | .non => .none
  | .bl b => .bool b
  | .int i => .int i
  | .str s => .str s
  | .tup ds => .tuple (toPys ds)
  | .ctup ds => .tuple (toPys ds)
  | .lst ds => .list (toPys ds)
  | .dct _ _ => .none
  | .ref _ => .none
def toPys : List D → List PyData
  | [] => []
  | d :: ds => toPy d :: toPys ds
end
mutual
/-- what may be compared by == : no dicts, no objects, texts of signs -/
def okD : D → Bool
  | .non => true
  | .bl _ => true
  | .int _ => true
  | .str s => PyData.strOk s
  | .tup ds => okDs ds
  | .ctup ds => okDs ds
  | .lst ds => okDs ds
  | .dct _ _ => false
  | .ref _ => false
def okDs : List D → Bool
  | [] => true
  | d :: ds => okD d && okDs ds
end
mutual
def depD : D → Nat
  | .tup ds => depDs ds + 1
  | .ctup ds => depDs ds + 1
  | .lst ds => depDs ds + 1
  | _ => 0
def depDs : List D → Nat
  | [] => 0
  | d :: ds => max (depD d) (depDs ds)
end
def eqv (a b : D) : Bool := PyData.eqv (toPy a) (toPy b)
def dget (kvs : List (D × D)) (k : Key) : Option D := (kvs.find? fun p => decide (keyOf p.1 = some k)).map (·.2)
/-- two dicts: each key of the first one in the second, with a like value -/
def hitD (ls : List (D × D)) : List (D × D) → Option Bool
  | [] => some true
  | p :: r => match keyOf p.1 with
    | none => none
    | some q => match dget ls q with
      | none => some false
      | some e => if okD p.2 && okD e && decide (min (depD p.2) (depD e) ≤ 100) then (hitD ls r).map fun b => eqv p.2 e && b else none
def eqDct (ks ls : List (D × D)) : Option Bool := if ks.length = ls.length then hitD ls ks else some false
/-- == -/
def eqD (a b : D) : Option Bool := match a, b with
  | .int i, .int j => some (decide (i = j))
  | .str s, .str t => some (decide (s = t))
  | .bl s, .bl t => some (decide (s = t))
  | .non, .non => some true
  | .dct .sc ks, .dct .sc ls => eqDct ks ls
  | a, b => if okD a && okD b && decide (min (depD a) (depD b) ≤ 100) then some (eqv a b) else none
def mulOk (i j : Int) : Bool := (decide (-(2 ^ 64) < i) && decide (i < 2 ^ 64)) || (decide (-(2 ^ 64) < j) && decide (j < 2 ^ 64))
def dgett (kvs : List (D × D)) (k : List Key) : Option D := (kvs.find? fun p => decide (tkeyOf p.1 = some k)).map (·.2)
def dlook : DK → List (D × D) → D → Option (Option D)
  | .sc, kvs, k => (keyOf k).map (dget kvs)
  | .tp, kvs, k => (tkeyOf k).map (dgett kvs)
def dput (kvs : List (D × D)) (k : D) (c : D → Bool) (v : D) : List (D × D) :=
  if kvs.any (fun p => c p.1) then kvs.map (fun p => if c p.1 then (p.1, v) else p) else kvs ++ [(k, v)]
def dset : DK → List (D × D) → D → D → Option (List (D × D))
  | .sc, kvs, k, v => (keyOf k).map fun q => dput kvs k (fun x => decide (keyOf x = some q)) v
  | .tp, kvs, k, v => (tkeyOf k).map fun q => dput kvs k (fun x => decide (tkeyOf x = some q)) v
def flatD : D → Bool
  | .non => true
  | .bl _ => true
  | .int _ => true
  | .str _ => true
  | _ => false
def anyEq (x : D) (ds : List D) : Option Bool := if (flatD x && ds.all flatD) || (okD x && okDs ds && decide (depD x ≤ 100)) then some (ds.any fun z => eqv z x) else none
def inD (x : D) : D → Option Bool
  | .lst ds => anyEq x ds
  | .tup ds => anyEq x ds
  | .ctup ds => anyEq x ds
  | .str t => match x with
    | .str s => some (!(Builtin.Str.occurrences t s 0 t.length 1).isEmpty)
    | _ => none
  | .dct k kvs => (dlook k kvs x).map (·.isSome)
  | _ => none
def op2 (o : Op2) (x y : D) : Option D := match o with
  | .add => match x, y with
    | .int i, .int j => some (.int (i + j))
    | .str s, .str t => if s.length + t.length ≤ lim then some (.str (s ++ t)) else none
    | .tup s, .tup t => if s.length + t.length ≤ lim then some (.tup (s ++ t)) else none
    | .lst s, .lst t => if s.length + t.length ≤ lim then some (.lst (s ++ t)) else none
    | _, _ => none
  | .sub => match x, y with | .int i, .int j => some (.int (i - j)) | _, _ => none
  | .mul => match x, y with | .int i, .int j => if mulOk i j then some (.int (i * j)) else none | _, _ => none
  | .fdiv => match x, y with | .int i, .int j => if decide (0 < j) && decide (j < 2 ^ 64) then some (.int (i / j)) else none | _, _ => none
  | .mod => match x, y with | .int i, .int j => if 0 < j then some (.int (i % j)) else none | _, _ => none
  | .pow => match x, y with | .int i, .int j => if decide (0 ≤ j) && decide (j ≤ 1000000) && decide (i.natAbs < 2 ^ 64) then some (.int (i ^ j.toNat)) else none | _, _ => none
  | .band => match x, y with | .int i, .int j => some (.int (Builtin.bitAnd i j)) | _, _ => none
  | .bor => match x, y with | .int i, .int j => some (.int (Builtin.bitOr i j)) | _, _ => none
  | .bxor => match x, y with | .int i, .int j => some (.int (Builtin.bitXor i j)) | _, _ => none
  | .shl => match x, y with | .int i, .int j => if decide (0 ≤ j) && decide (j ≤ 1000000) && decide (i.natAbs < 2 ^ 64) then some (.int (i * 2 ^ j.toNat)) else none | _, _ => none
  | .shr => match x, y with | .int i, .int j => if 0 ≤ j then some (.int (i / 2 ^ j.toNat)) else none | _, _ => none
  | .eq => (eqD x y).map .bl
  | .ne => (eqD x y).map fun b => .bl (!b)
  | .lt => match x, y with | .int i, .int j => some (.bl (decide (i < j))) | _, _ => none
  | .le => match x, y with | .int i, .int j => some (.bl (decide (i ≤ j))) | _, _ => none
  | .gt => match x, y with | .int i, .int j => some (.bl (decide (j < i))) | _, _ => none
  | .ge => match x, y with | .int i, .int j => some (.bl (decide (j ≤ i))) | _, _ => none
  | .inn => (inD x y).map .bl
  | .nin => (inD x y).map fun b => .bl (!b)
def idxD (a k : D) : Option D := match a with
  | .lst ds => match k with | .int i => atI ds i | _ => none
  | .tup ds => match k with | .int i => atI ds i | _ => none
  | .ctup ds => match k with | .int i => atI ds i | _ => none
  | .str s => match k with | .int i => if s.length ≤ lim then (atI s.cps.toList i).map fun c => .str ⟨#[c]⟩ else none | _ => none
  | .dct q kvs => (dlook q kvs k).bind id
  | _ => none
def cutD (xs : List D) (lo hi : Option Int) : List D := (xs.drop (HT.sIx xs.length 0 lo)).take (HT.sIx xs.length xs.length hi - HT.sIx xs.length 0 lo)
def slO (a : D) (lo hi : Option Int) : Option OV := match a with
  | .lst ds => some (.ol (cutD ds lo hi))
  | .tup ds => some (.fr (.tup (cutD ds lo hi)))
  | .str z => if z.length ≤ lim then some (.fr (.str (cutS z lo hi))) else none
  | _ => none
/-- isinstance of a built-in type by its name -/
def isTy (d : D) (T : Ty) : Option Bool := match d with
  | .non => some false
  | .bl _ => some (decide (T = .bool) || decide (T = .int))
  | .int _ => some (decide (T = .int))
  | .str _ => some (decide (T = .str))
  | .tup _ => some (decide (T = .tuple))
  | .ctup _ => some (decide (T = .tuple))
  | .lst _ => some (decide (T = .list))
  | .dct _ _ => some (decide (T = .dict))
  | .ref _ => none
/-- the truth of a value -/
def truO : D → Option Bool
  | .non => some false
  | .bl b => some b
  | .int i => some (i != 0)
  | .str s => if s.length ≤ lim then some ((s.length : Int) != 0) else none
  | .lst ds => some (!ds.isEmpty)
  | .tup ds => some (!ds.isEmpty)
  | .ctup ds => some (!ds.isEmpty)
  | _ => none
def intsOf : List D → Option (List Int)
  | [] => some []
  | .int i :: ds => (intsOf ds).map (i :: ·)
  | _ :: _ => none
def blsOf : List D → Option (List Bool)
  | [] => some []
  | .bl i :: ds => (blsOf ds).map (i :: ·)
  | _ :: _ => none
def biO (b : Bi) (xs : List D) : Option OV := match b with
  | .len => match xs with
    | [.lst ds] => some (.fr (.int ds.length))
    | [.tup ds] => some (.fr (.int ds.length))
    | [.ctup ds] => some (.fr (.int ds.length))
    | [.str s] => if s.length ≤ lim then some (.fr (.int s.length)) else none
    | [.dct .sc kvs] => some (.fr (.int kvs.length))
    | _ => none
  | .int => match xs with
    | [.int i] => some (.fr (.int i))
    | [.bl b] => some (.fr (.int (if b then 1 else 0)))
    | [.str s] => if s.length ≤ 640 then (intText? s).map fun n => .fr (.int n) else none
    | _ => none
  | .list => match xs with
    | [.lst ds] => some (.ol ds)
    | [.tup ds] => some (.ol ds)
    | [.ctup ds] => some (.ol ds)
    | _ => none
  | .tuple => match xs with
    | [.lst ds] => some (.fr (.tup ds))
    | [.tup ds] => some (.fr (.tup ds))
    | [.ctup ds] => some (.fr (.ctup ds))
    | _ => none
  | .str => match xs with
    | [.int i] => if i.natAbs < 2 ^ 64 then some (.fr (.str (Str.ofString (toString i)))) else none
    | _ => none
  | .min => match xs with
    | [.int i, .int j] => some (.fr (.int (if j < i then j else i)))
    | _ => none
  | .max => match xs with
    | [.int i, .int j] => some (.fr (.int (if j > i then j else i)))
    | _ => none
  | .abs => match xs with
    | [.int i] => some (.fr (.int (if i < 0 then -i else i)))
    | _ => none
  | .dict => match xs with
    | [.dct .sc kvs] => some (.od .sc kvs)
    | _ => none
  | .sum => match xs with
    | [.lst ds] => (intsOf ds).map fun ns => .fr (.int ns.sum)
    | _ => none
  | .any => match xs with
    | [.lst ds] => (blsOf ds).map fun ns => .fr (.bl (ns.any id))
    | _ => none
  | .all => match xs with
    | [.lst ds] => (blsOf ds).map fun ns => .fr (.bl (ns.all id))
    | _ => none
  | _ => none
/-- the texts of a list -/
def strsOf : List D → Option (List Str)
  | [] => some []
  | .str s :: ds => (strsOf ds).map (s :: ·)
  | _ :: _ => none
def joinO (a : Str) : Option (List Str) → Option OV
  | some ys => if (ys.map (·.length)).sum + ys.length * a.length ≤ 16777216 then some (.fr (.str (Txt.join a ys))) else none
  | none => none
/-- the first place of an equal one -/
def idxOf (x : D) : List D → Option Nat
  | [] => none
  | d :: ds => if eqv d x then some 0 else (idxOf x ds).map (· + 1)
/-- the first place of a text among texts -/
def sIdx (z : Str) : List Str → Option Nat
  | [] => none
  | y :: ys => if y = z then some 0 else (sIdx z ys).map (· + 1)
def sIdxO (y : D) (ys : Option (List Str)) : Option OV := match y, ys with
  | .str z, some ys => (sIdx z ys).map fun i => .fr (.int (i : Nat))
  | _, _ => none
/-- has the value this method -/
def bmT (m : Bm) (x : D) : Bool := match m, x with
  | .get, .dct _ _ => true
  | .join, .str _ => true
  | .index, .str _ => true
  | .index, .lst _ => true
  | .tindex, .ctup _ => true
  | .find, .str _ => true
  | _, _ => false
def bmO (m : Bm) (x : D) (xs : List OV) : Option OV := match m with
  | .get => match x with
    | .dct q kvs => (match xs with
      | [k] => (dlook q kvs k.view).map fun o => .fr (o.getD .non)
      | [k, .fr d] => (dlook q kvs k.view).map fun o => .fr (o.getD d)
      | _ => none)
    | _ => none
  | .join => match x with
    | .str a => (match xs with
      | [y] => (match y.view with
        | .lst ds => joinO a (strsOf ds)
        | .tup ds => joinO a (strsOf ds)
        | .ctup ds => joinO a (strsOf ds)
        | _ => none)
      | _ => none)
    | _ => none
  | .index => match xs with
    | [y] => (match x with
      | .str a => (match y.view with
        | .str b => (match Builtin.Str.occurrences a b 0 a.length 1 with
          | i :: _ => some (.fr (.int (i : Nat)))
          | [] => none)
        | _ => none)
      | .lst ds => if flatD y.view && ds.all flatD then (idxOf y.view ds).map fun i => .fr (.int (i : Nat)) else none
      | _ => none)
    | _ => none
  | .tindex => match xs with
    | [y] => (match x with
      | .ctup ds => sIdxO y.view (strsOf ds)
      | _ => none)
    | _ => none
  | .find => match x with
    | .str a => (match xs with
      | [y] => (match y.view with
        | .str b => some (.fr (.int (Txt.find a b)))
        | _ => none)
      | _ => none)
    | _ => none
  | _ => none
/-- list + list, list * number, as something new -/
def catO (a b : D) : Option OV := match a, b with
  | .lst s, .lst t => if s.length + t.length ≤ lim then some (.ol (s ++ t)) else none
  | _, _ => none
def repO (ds : List D) (k : OV) : Option OV := match k with
  | .fr (.int k) => if decide (-1000 ≤ k) && decide (k ≤ 1000) && decide (ds.length ≤ 1000) then some (.ol (List.replicate k.toNat ds).flatten) else none
  | _ => none
/-- a dict that is written out: keys and values by turns -/
def dltO : List (D × D) → List D → Option (List (D × D))
  | kvs, [] => some kvs
  | _, [_] => none
  | kvs, k :: v :: r => match dset .sc kvs k v with
    | some kvs => dltO kvs r
    | none => none
def need (f : Bool) : OV → Option D
  | .fr d => some d
  | .ol ds => if f then some (.lst ds) else none
  | .od k kvs => if f then some (.dct k kvs) else none
  | .bo _ => none
def OV.isBo : OV → Bool
  | .bo _ => true
  | _ => false
def OV.isFr : OV → Bool
  | .fr _ => true
  | _ => false

/-! ### what changes nothing; what makes a new list or dict -/
mutual
def quiet : E → Bool
  | .var _ => true
  | .int _ => true
  | .bl _ => true
  | .non => true
  | .str _ => true
  | .cst _ _ => true
  | .op o a b => decide (o ≠ .add) && quiet a && quiet b
  | .neg a => quiet a
  | .tru a => quiet a
  | .isN _ a => quiet a
  | .idx a b => quiet a && quiet b
  | .fld a _ => quiet a
  | .bi b es => decide (b = .len) && quiets es
  | _ => false
def quiets : Es → Bool
  | .nil => true
  | .cons e es => quiet e && quiets es
end
def fresh : E → Bool
  | .lst _ => true
  | .dnew _ => true
  | .sl _ _ _ => true
  | .bi _ _ => true
  | .lc _ _ _ _ _ => true
  | .call _ _ => true
  | .meth _ _ _ => true
  | .cat _ _ => true
  | .rep _ _ => true
  | .dlt _ => true
  | _ => false

/-! ### names -/
def putAll : List Nat → List D → Env1 → Option Env1
  | [], [], ρ => some ρ
  | i :: is, d :: ds, ρ => putAll is ds (ρ.set i (some (.fr d)))
  | _, _, _ => none
def Tg.put : Tg → D → Env1 → Option Env1
  | .one i, d, ρ => some (ρ.set i (some (.fr d)))
  | .many is, .tup ds, ρ => putAll is ds ρ
  | .many is, .lst ds, ρ => putAll is ds ρ
  | _, _, _ => none
def wipeR (ρ : Env1) : List Nat → Env1
  | [] => ρ
  | v :: vs => (wipeR ρ vs).set v none
def enumD : Nat → List D → List D
  | _, [] => []
  | k, d :: ds => .tup [.int k, d] :: enumD (k + 1) ds
def zipD : List D → List D → List D
  | a :: as, b :: bs => .tup [a, b] :: zipD as bs
  | _, _ => []
def rngD (lo : Int) : Nat → List D
  | 0 => []
  | n + 1 => .int lo :: rngD (lo + 1) n
def rngC (lo c : Int) : Nat → List D
  | 0 => []
  | n + 1 => .int lo :: rngC (lo + c) c n
def rngOk (i : Int) : Bool := decide (-(2 ^ 62) ≤ i) && decide (i < 2 ^ 62)
def rngO : List D → Option (List D)
  | [.int j] => if rngOk j then some (rngD 0 j.toNat) else none
  | [.int i, .int j] => if rngOk i && rngOk j then some (rngD i (j - i).toNat) else none
  | [.int i, .int j, .int c] => if rngOk i && rngOk j && decide (0 < c) && decide (c < 1073741824) then some (rngC i c ((j - i + c - 1) / c).toNat) else none
  | _ => none
def seqD : D → Option (List D)
  | .lst ds => some ds
  | .tup ds => some ds
  | .ctup ds => some ds
  | _ => none
/-- a text's signs -/
def chsD (s : Str) : List D := s.cps.toList.map fun c => .str ⟨#[c]⟩
/-- what a for walks -/
def wlkD : D → Option (List D)
  | .str s => some (chsD s)
  | d => seqD d
/-- enumerate of a list; zip of two lists or of two tuples -/
def enmO : D → Option (List D)
  | .lst ds => some (enumD 0 ds)
  | .tup ds => some (enumD 0 ds)
  | .ctup ds => some (enumD 0 ds)
  | _ => none
def isL : D → Bool
  | .lst _ => true
  | _ => false
def zipO (a b : D) : Option (List D) := match seqD a, seqD b with
  | some as, some bs => if isL a == isL b then some (zipD as bs) else none
  | _, _ => none
/-- the loop of a comprehension -/
def lcGo (c e : Env1 → Sto → Res) (f : Bool) (g : Tg) (ρ : Env1) : List D → List D → Sto → Rs (List D)
  | [], acc, S => .ok acc S
  | d :: ds, acc, S => match g.put d ρ with
    | none => .stk
    | some ρ1 => match c ρ1 S with
      | .ok (.fr (.bl true)) S1 => match e ρ1 S1 with
        | .ok ov S2 => match need f ov with
          | some y => if acc.length < lim then lcGo c e f g ρ ds (acc ++ [y]) S2 else .stk
          | none => .stk
        | _ => .stk
      | .ok (.fr (.bl false)) S1 => lcGo c e f g ρ ds acc S1
      | _ => .stk

def frzR (ρ : Env1) : List Nat → Env1
  | [] => ρ
  | i :: is => match ρ[i]? with
    | some (some ov) => (match need true ov with
      | some d => frzR (ρ.set i (some (.fr d))) is
      | none => frzR ρ is)
    | _ => frzR ρ is
/-! ### expressions -/
section
variable (cl : Str → List D → Sto → Res)
mutual
def ev : E → Env1 → Sto → Res
  | .var i, ρ, S => match ρ[i]? with
    | some (some ov) => .ok ov S
    | _ => .stk
  | .int i, _, S => .ok (.fr (.int i)) S
  | .bl b, _, S => .ok (.fr (.bl b)) S
  | .non, _, S => .ok (.fr .non) S
  | .str s, _, S => .ok (.fr (.str s)) S
  | .cst _ d, _, S => .ok (.fr d) S
  | .op o a b, ρ, S => (ev a ρ S).bind fun x S1 => if !x.isBo || quiet b then (ev b ρ S1).bind fun y S2 => (ofO S2 (op2 o x.view y.view)).bind fun d S3 => .ok (.fr d) S3 else .stk
  | .cmp3 o1 o2 a b c, ρ, S => (ev a ρ S).bind fun x S1 => (ev b ρ S1).bind fun y S2 => if x.isFr && y.isFr then (match op2 o1 x.view y.view with
      | some (.bl true) => (ev c ρ S2).bind fun z S3 => (ofO S3 (op2 o2 y.view z.view)).bind fun d S4 => .ok (.fr d) S4
      | some (.bl false) => .ok (.fr (.bl false)) S2
      | _ => .stk) else .stk
  | .neg a, ρ, S => (ev a ρ S).bind fun x S1 => match x with
    | .fr (.int i) => .ok (.fr (.int (-i))) S1
    | _ => .stk
  | .tru a, ρ, S => (ev a ρ S).bind fun x S1 => (ofO S1 (truO x.view)).bind fun b S2 => .ok (.fr (.bl b)) S2
  | .isN n a, ρ, S => (ev a ρ S).bind fun x S1 => .ok (.fr (.bl (match x with | .fr .non => !n | _ => n))) S1
  | .isB n a b, ρ, S => (ev a ρ S).bind fun x S1 => match x with
    | .fr (.bl c) => .ok (.fr (.bl (if n then !decide (c = b) else decide (c = b)))) S1
    | _ => .stk
  | .and es, ρ, S => evA es ρ S
  | .or es, ρ, S => evR es ρ S
  | .not a, ρ, S => (ev a ρ S).bind fun x S1 => match x with
    | .fr (.bl c) => .ok (.fr (.bl (!c))) S1
    | _ => .stk
  | .ite c a b, ρ, S => (ev c ρ S).bind fun x S1 => match x with
    | .fr (.bl true) => ev a ρ S1
    | .fr (.bl false) => ev b ρ S1
    | _ => .stk
  | .tup es, ρ, S => (evs es ρ S).bind fun ds S1 => .ok (.fr (.tup ds)) S1
  | .lst es, ρ, S => (evs es ρ S).bind fun ds S1 => .ok (.ol ds) S1
  | .dnew k, _, S => .ok (.od k []) S
  | .idx a b, ρ, S => (ev a ρ S).bind fun x S1 => if !x.isBo || quiet b then (ev b ρ S1).bind fun y S2 => (ofO S2 (idxD x.view y.view)).bind fun d S3 => .ok (.fr d) S3 else .stk
  | .sl a lo hi, ρ, S => (ev a ρ S).bind fun x S1 => if x.isBo then .stk else (evo lo ρ S1).bind fun l S2 => (evo hi ρ S2).bind fun h S3 => ofO S3 (slO x.view l h)
  | .isT a T, ρ, S => (ev a ρ S).bind fun x S1 => (ofO S1 (isTy x.view T)).bind fun b S2 => .ok (.fr (.bl b)) S2
  | .bi b es, ρ, S => (evv es ρ S).bind fun xs S1 => ofO S1 (biO b (xs.map OV.view))
  | .bm a m es, ρ, S => (ev a ρ S).bind fun x S1 => if bmT m x.view && (!x.isBo || quiets es) then (evv es ρ S1).bind fun xs S2 => ofO S2 (bmO m x.view xs) else .stk
  | .call f es, ρ, S => (evs es ρ S).bind fun ds S1 => cl f ds S1
  | .lc vs g it c e, ρ, S => (evi it ρ S).bind fun ds S1 => (lcGo (fun ρ S => ev c ρ S) (fun ρ S => ev e ρ S) (fresh e) g (wipeR ρ vs) ds [] S1).bind fun rs S2 => .ok (.ol rs) S2
  | .fld _ _, _, _ => .stk
  | .meth _ _ _, _, _ => .stk
  | .make _ _, _, _ => .stk
  | .brw is e, ρ, S => if S.cells.isEmpty = true then (match ev e (frzR ρ is) S with
    | .ok (.fr d) S1 => if flatD d && S1.cells.isEmpty then .ok (.fr d) S1 else .stk
    | _ => .stk) else .stk
  | .cat a b, ρ, S => (ev a ρ S).bind fun x S1 => if !x.isBo || quiet b then (ev b ρ S1).bind fun y S2 => ofO S2 (catO x.view y.view) else .stk
  | .rep a b, ρ, S => (ev a ρ S).bind fun x S1 => match x with
    | .ol ds => (ev b ρ S1).bind fun y S2 => ofO S2 (repO ds y)
    | _ => .stk
  | .dlt es, ρ, S => (evs es ρ S).bind fun ds S1 => ofO S1 ((dltO [] ds).map (.od .sc))
  | .bad, _, _ => .stk
/-- and, or -/
def evA : Es → Env1 → Sto → Res
  | .nil, _, _ => .stk
  | .cons e es, ρ, S => match es with
    | .nil => ev e ρ S
    | .cons _ _ => (ev e ρ S).bind fun x S1 => match x with
      | .fr (.bl true) => evA es ρ S1
      | .fr (.bl false) => .ok (.fr (.bl false)) S1
      | _ => .stk
def evR : Es → Env1 → Sto → Res
  | .nil, _, _ => .stk
  | .cons e es, ρ, S => match es with
    | .nil => ev e ρ S
    | .cons _ _ => (ev e ρ S).bind fun x S1 => match x with
      | .fr (.bl true) => .ok (.fr (.bl true)) S1
      | .fr (.bl false) => evR es ρ S1
      | _ => .stk
/-- parts of a slice -/
def evo : Eo → Env1 → Sto → Rs (Option Int)
  | .no, _, S => .ok none S
  | .some e, ρ, S => (ev e ρ S).bind fun x S1 => match x with
    | .fr (.int i) => .ok (some i) S1
    | _ => .stk
/-- values that are kept -/
def evs : Es → Env1 → Sto → Rs (List D)
  | .nil, _, S => .ok [] S
  | .cons e es, ρ, S => (ev e ρ S).bind fun x S1 => (ofO S1 (need (fresh e) x)).bind fun d S2 => (evs es ρ S2).bind fun ds S3 => .ok (d :: ds) S3
/-- values that are looked at -/
def evv : Es → Env1 → Sto → Rs (List OV)
  | .nil, _, S => .ok [] S
  | .cons e es, ρ, S => (ev e ρ S).bind fun x S1 => if !x.isBo || quiets es then (evv es ρ S1).bind fun xs S2 => .ok (x :: xs) S2 else .stk
/-- what is walked: the items, of something frozen -/
def evi : It → Env1 → Sto → Rs (List D)
  | .seq e, ρ, S => (ev e ρ S).bind fun x S1 => ofO S1 ((need (fresh e) x).bind wlkD)
  | .rng es, ρ, S => (evs es ρ S).bind fun ds S1 => ofO S1 (rngO ds)
  | .enm e, ρ, S => (ev e ρ S).bind fun x S1 => (ofO S1 (need (fresh e) x)).bind fun d S2 => ofO S2 (enmO d)
  | .zp a b, ρ, S => (ev a ρ S).bind fun x S1 => (ofO S1 (need (fresh a) x)).bind fun d1 S2 => (ev b ρ S2).bind fun y S3 => (ofO S3 (need (fresh b) y)).bind fun d2 S4 => ofO S4 (zipO d1 d2)
  | .itm _, _, _ => .stk
  | .vls _, _, _ => .stk
  | .rev _, _, _ => .stk
end
end
end Sg
namespace Sg
open PySem PySem.Spec PyProof.Rows L2

/-- x[k] = v -/
def setO (ov : OV) (k v : D) : Option OV := match ov with
  | .ol ds => (match k with
    | .int i => (ixN ds.length i).map fun j => .ol (ds.set j v)
    | _ => none)
  | .od q kvs => if kvs.length < lim then (dset q kvs k v).map (.od q) else none
  | _ => none
/-- a method that changes: what it hands back, what is left -/
def mmO (m : Mm) (ov : OV) (xs : List D) : Option (D × OV) := match m with
  | .append => match ov, xs with
    | .ol ds, [d] => if ds.length < lim then some (.non, .ol (ds ++ [d])) else none
    | _, _ => none
  | .extend => match ov, xs with
    | .ol ds, [.lst es] => if ds.length + es.length ≤ lim then some (.non, .ol (ds ++ es)) else none
    | _, _ => none
  | .pop => match ov, xs with
    | .ol ds, [] => match ds[ds.length - 1]? with
      | some d => some (d, .ol ds.dropLast)
      | none => none
    | _, _ => none
  | .clear => match ov, xs with
    | .ol _, [] => some (.non, .ol [])
    | _, _ => none
  | .reverse => match ov, xs with
    | .ol ds, [] => some (.non, .ol ds.reverse)
    | _, _ => none
  | _ => none
/-- x[lo:hi] = es -/
def spliceO (ov : OV) (lo hi : Option Int) (es : List D) : Option OV := match ov, lo, hi with
  | .ol ds, some a, some c => if decide (0 ≤ a) && decide (a ≤ c) && decide (c ≤ ds.length) && decide (ds.length + es.length ≤ lim) then some (.ol (ds.take a.toNat ++ es ++ ds.drop c.toNat)) else none
  | _, _, _ => none
def isVar : E → Bool
  | .var _ => true
  | _ => false
def OV.isOwn : OV → Bool
  | .ol _ => true
  | .od _ _ => true
  | _ => false

def Rs.out {α : Type} (r : Rs α) (ρ : Env1) (k : α → Sto → Out) : Out := match r with
  | .ok a S => k a S
  | .exc x S => .ex x ρ S
  | .stk => .stk
def forGo (f : Env1 → Sto → Out) (g : Tg) : List D → Env1 → Sto → Out
  | [], ρ, S => .nx ρ S
  | d :: ds, ρ, S => match g.put d ρ with
    | none => .stk
    | some ρ1 => match f ρ1 S with
      | .nx ρ2 S2 => forGo f g ds ρ2 S2
      | .ct ρ2 S2 => forGo f g ds ρ2 S2
      | .bk ρ2 S2 => .nx ρ2 S2
      | .rt ov S2 => .rt ov S2
      | .ex x ρ2 S2 => .ex x ρ2 S2
      | .stk => .stk
def whGo (c : Env1 → Sto → Res) (f : Env1 → Sto → Out) : Nat → Env1 → Sto → Out
  | 0, _, _ => .stk
  | n + 1, ρ, S => match c ρ S with
    | .ok (.fr (.bl true)) S1 => (match f ρ S1 with
      | .nx ρ2 S2 => whGo c f n ρ2 S2
      | .ct ρ2 S2 => whGo c f n ρ2 S2
      | .bk ρ2 S2 => .nx ρ2 S2
      | .rt ov S2 => .rt ov S2
      | .ex x ρ2 S2 => .ex x ρ2 S2
      | .stk => .stk)
    | .ok (.fr (.bl false)) S1 => .nx ρ S1
    | .exc x S1 => .ex x ρ S1
    | _ => .stk
/-- op= of whole numbers -/
def augV (o : Op2) (a : D) (y : OV) : Option D := match o with
  | .add => (match a, y with
    | .int i, .fr (.int j) => some (.int (i + j))
    | _, _ => none)
  | .sub => (match a, y with
    | .int i, .fr (.int j) => some (.int (i - j))
    | _, _ => none)
  | _ => none
def noEx : Out → Out
  | .ex _ _ _ => .stk
  | o => o
def itmD (kvs : List (D × D)) : List D := kvs.map fun p => .tup [p.1, p.2]
section
variable (cl : Str → List D → Sto → Res) (wf : Nat)
mutual
def exec : St → Env1 → Sto → Out
  | .asg i e, ρ, S => (ev cl e ρ S).out ρ fun x S1 => (ofO S1 (need (fresh e) x)).out ρ fun d S2 => .nx (ρ.set i (some (.fr d))) S2
  | .own i e, ρ, S => (ev cl e ρ S).out ρ fun x S1 => if fresh e && !x.isBo then .nx (ρ.set i (some x)) S1 else .stk
  | .asgT is e, ρ, S => (ev cl e ρ S).out ρ fun x S1 => (ofO S1 (need (fresh e) x)).out ρ fun d S2 => match (Tg.many is).put d ρ with
    | some ρ2 => .nx ρ2 S2
    | none => .stk
  | .par is es, ρ, S => (evs cl es ρ S).out ρ fun ds S1 => match putAll is ds ρ with
    | some ρ2 => .nx ρ2 S1
    | none => .stk
  | .setI i k e, ρ, S => (ev cl e ρ S).out ρ fun x S1 => (ofO S1 (need (fresh e) x)).out ρ fun d S2 => match ρ[i]? with
    | some (some ov) => (ev cl k ρ S2).out ρ fun q S3 => (match need false q with
      | some q => (match setO ov q d with
        | some ov2 => .nx (ρ.set i (some ov2)) S3
        | none => .stk)
      | none => .stk)
    | _ => .stk
  | .setS i lo hi e, ρ, S => (ev cl e ρ S).out ρ fun x S1 => match x with
    | .ol es => if fresh e = true then (match ρ[i]? with
      | some (some (.ol xs)) => (evo cl lo ρ S1).out ρ fun l S3 => (evo cl hi ρ S3).out ρ fun h S4 => (match spliceO (.ol xs) l h es with
        | some ov2 => .nx (ρ.set i (some ov2)) S4
        | none => .stk)
      | _ => .stk) else .stk
    | _ => .stk
  | .mc t i m es, ρ, S => match ρ[i]? with
    | some (some (.ol xs)) => (evs cl es ρ S).out ρ fun ds S1 => (match mmO m (.ol xs) ds with
      | some (d, ov2) => .nx (match t with | some j => (ρ.set i (some ov2)).set j (some (.fr d)) | none => ρ.set i (some ov2)) S1
      | none => .stk)
    | _ => .stk
  | .setM _ _ _ _ _, _, _ => .stk
  | .aug i o e, ρ, S => match ρ[i]? with
    | some (some (.fr a)) => (ev cl e ρ S).out ρ fun x S1 => match x with
      | .fr b => (match a, b with
        | .int _, .int _ => (match o with
          | .add => (ofO S1 (op2 o a b)).out ρ fun d S2 => .nx (ρ.set i (some (.fr d))) S2
          | .sub => (ofO S1 (op2 o a b)).out ρ fun d S2 => .nx (ρ.set i (some (.fr d))) S2
          | _ => .stk)
        | _, _ => .stk)
      | _ => .stk
    | _ => .stk
  | .augI i k o e, ρ, S => match ρ[i]? with
    | some (some ov) => if ov.isOwn = true then (ev cl k ρ S).out ρ fun q S1 => (match need false q with
      | some q => (match idxD ov.view q with
        | some a => (ev cl e ρ S1).out ρ fun y S2 => (match augV o a y with
          | some d => (match setO ov q d with
            | some ov2 => .nx (ρ.set i (some ov2)) S2
            | none => .stk)
          | none => .stk)
        | none => .stk)
      | none => .stk) else .stk
    | _ => .stk
  | .ite c a b, ρ, S => (ev cl c ρ S).out ρ fun x S1 => match x with
    | .fr (.bl true) => execs a ρ S1
    | .fr (.bl false) => execs b ρ S1
    | _ => .stk
  | .for g it b, ρ, S => (evi cl it ρ S).out ρ fun ds S1 => forGo (fun ρ S => execs b ρ S) g ds ρ S1
  | .while c b, ρ, S => whGo (fun ρ S => ev cl c ρ S) (fun ρ S => execs b ρ S) wf ρ S
  | .ret e, ρ, S => (ev cl e ρ S).out ρ fun x S1 => if !x.isBo && (fresh e || isVar e || x.isFr) then .rt x S1 else .stk
  | .retN, _, S => .rt (.fr .non) S
  | .expr e, ρ, S => (ev cl e ρ S).out ρ fun _ S1 => .nx ρ S1
  | .brk, ρ, S => .bk ρ S
  | .cont, ρ, S => .ct ρ S
  | .pass, ρ, S => .nx ρ S
  | .frz is, ρ, S => .nx (frzR ρ is) S
  | .raise _ _, _, _ => .stk
  | .fldI _ _ _, _, _ => .stk
  | .fldO _ _ _, _, _ => .stk
  | .fldM _ _ _ _, _, _ => .stk
  | .fldK _ _ _ _, _, _ => .stk
  | .forI g i b, ρ, S => match ρ[i]? with
    | some (some (.fr (.dct .sc kvs))) => noEx (forGo (fun ρ S => execs b ρ S) g (itmD kvs) ρ S)
    | _ => .stk
  | .mcE e m es, ρ, S => if fresh e = true then (ev cl e ρ S).out ρ fun x S1 => match x with
    | .ol xs => (evs cl es ρ S1).out ρ fun ds S2 => (match mmO m (.ol xs) ds with
      | some _ => .nx ρ S2
      | none => .stk)
    | _ => .stk
    else .stk
  | .setP i k j, ρ, S => match ρ[j]? with
    | some (some (.ol xs)) => (match mmO .pop (.ol xs) [] with
      | some (d, ov1) => (match (ρ.set j (some ov1))[i]? with
        | some (some ov) => (ev cl k (ρ.set j (some ov1)) S).out (ρ.set j (some ov1)) fun q S3 => (match need false q with
          | some q => (match setO ov q d with
            | some ov2 => .nx ((ρ.set j (some ov1)).set i (some ov2)) S3
            | none => .stk)
          | none => .stk)
        | _ => .stk)
      | none => .stk)
    | _ => .stk
  | .bad, _, _ => .stk
def execs : Sts → Env1 → Sto → Out
  | .nil, ρ, S => .nx ρ S
  | .cons s r, ρ, S => match exec s ρ S with
    | .nx ρ1 S1 => execs r ρ1 S1
    | .rt ov S1 => .rt ov S1
    | .bk ρ1 S1 => .bk ρ1 S1
    | .ct ρ1 S1 => .ct ρ1 S1
    | .ex x ρ1 S1 => .ex x ρ1 S1
    | .stk => .stk
end
end
/-! ### functions -/
structure Fn where
  ps : Nat
  ns : Nat
  body : Sts
def startR (f : Fn) (ds : List D) : Env1 := ds.map (fun d => some (.fr d)) ++ List.replicate (f.ns - f.ps) none
def Out.res : Out → Res
  | .nx _ S => .ok (.fr .non) S
  | .rt ov S => .ok ov S
  | .ex x _ S => .exc x S
  | _ => .stk
/-- the call of a function, at most n deep -/
def run (G : Str → Option Fn) (wf : Nat) : Nat → Str → List D → Sto → Res
  | 0, _, _, _ => .stk
  | n + 1, f, ds, S => match G f with
    | some fn => if ds.length = fn.ps then (execs (run G wf n) wf fn.body (startR fn ds) S).res else .stk
    | none => .stk
end Sg
namespace Sg
open PySem PySem.Spec PyProof.Rows L2
/-! ### the small language, step by step (first order, for simp) -/
@[simp] theorem ofString_inj (a b : String) : (Str.ofString a = Str.ofString b) = (a = b) := by
  apply propext
  refine ⟨fun h => ?_, fun h => by rw [h]⟩
  rw [Str.ofString_eq_toList, Str.ofString_eq_toList] at h
  injection h with h
  have h2 : a.toList.map Char.toNat = b.toList.map Char.toNat := by simpa using congrArg Array.toList h
  have h3 : a.toList = b.toList := by
    have inj : ∀ (l l' : List Char), l.map Char.toNat = l'.map Char.toNat → l = l' := by
      intro l
      induction l with
      | nil => intro l' e; cases l' with
        | nil => rfl
        | cons c r => simp at e
      | cons c r ih => intro l' e; cases l' with
        | nil => simp at e
        | cons c' r' =>
          simp only [List.map_cons, List.cons.injEq] at e
          rw [ih r' e.2]
          have : c = c' := by
            have := e.1
            exact Char.ext (UInt32.toNat_inj.mp this)
          rw [this]
    exact inj _ _ h2
  exact String.ext h3
section
variable {cl : Str → List D → Sto → Res} {wf : Nat} {ρ : Env1} {S S1 S2 : Sto} {x y : OV} {d : D} {ds : List D} {xn : Exn}
@[simp] theorem view_fr : (OV.fr d).view = d := rfl
@[simp] theorem view_ol : (OV.ol ds).view = .lst ds := rfl
@[simp] theorem view_od {k kvs} : (OV.od k kvs).view = .dct k kvs := rfl
@[simp] theorem isBo_fr : (OV.fr d).isBo = false := rfl
@[simp] theorem isBo_ol : (OV.ol ds).isBo = false := rfl
@[simp] theorem isBo_od {k kvs} : (OV.od k kvs).isBo = false := rfl
@[simp] theorem isFr_fr : (OV.fr d).isFr = true := rfl
@[simp] theorem isFr_ol : (OV.ol ds).isFr = false := rfl
@[simp] theorem isFr_od {k kvs} : (OV.od k kvs).isFr = false := rfl
@[simp] theorem need_fr {f : Bool} : need f (.fr d) = some d := rfl
@[simp] theorem need_ol : need true (.ol ds) = some (.lst ds) := rfl
@[simp] theorem need_od {k kvs} : need true (.od k kvs) = some (.dct k kvs) := rfl
@[simp] theorem ofO_some {α : Type} {a : α} : ofO S (some a) = .ok a S := rfl
@[simp] theorem ofO_none {α : Type} : ofO S (none : Option α) = .stk := rfl

/-! continuations -/
def rO (S : Sto) : Option D → Res
  | some d => .ok (.fr d) S
  | none => .stk
@[simp] theorem rO_some : rO S (some d) = .ok (.fr d) S := rfl
def whn {α : Type} : Bool → Rs α → Rs α
  | true, r => r
  | false, _ => .stk
@[simp] theorem whn_t {α : Type} {r : Rs α} : whn true r = r := rfl
def kOpB (o : Op2) (x : OV) : Res → Res
  | .ok y S2 => rO S2 (op2 o x.view y.view)
  | .exc x S => .exc x S
  | .stk => .stk
@[simp] theorem kOpB_ok {o : Op2} : kOpB o x (.ok y S) = rO S (op2 o x.view y.view) := rfl
def kOpA (cl : Str → List D → Sto → Res) (o : Op2) (b : E) (ρ : Env1) : Res → Res
  | .ok x S1 => whn (!x.isBo || quiet b) (kOpB o x (ev cl b ρ S1))
  | .exc x S => .exc x S
  | .stk => .stk
@[simp] theorem kOpA_fr {o : Op2} {b : E} : kOpA cl o b ρ (.ok (.fr d) S) = kOpB o (.fr d) (ev cl b ρ S) := rfl
@[simp] theorem kOpA_ol {o : Op2} {b : E} : kOpA cl o b ρ (.ok (.ol ds) S) = kOpB o (.ol ds) (ev cl b ρ S) := rfl
@[simp] theorem kOpA_od {o : Op2} {b : E} {k kvs} : kOpA cl o b ρ (.ok (.od k kvs) S) = kOpB o (.od k kvs) (ev cl b ρ S) := rfl
theorem ofO_rO {S : Sto} {o : Option D} : ((ofO S o).bind fun d S3 => Rs.ok (OV.fr d) S3) = rO S o := by cases o <;> rfl
@[simp] theorem ev_op {o : Op2} {a b : E} : ev cl (.op o a b) ρ S = kOpA cl o b ρ (ev cl a ρ S) := by
  show (ev cl a ρ S).bind _ = _
  cases ev cl a ρ S with
  | ok x S1 =>
    simp only [Rs.bind, kOpA]
    cases h : (!x.isBo || quiet b) with
    | false => rfl
    | true =>
      simp only [whn, if_true]
      cases ev cl b ρ S1 with
      | ok y S2 => simp only [kOpB, ← ofO_rO]; rfl
      | exc x S => rfl
      | stk => rfl
  | exc x S => rfl
  | stk => rfl
def kIxB (x : OV) : Res → Res
  | .ok y S2 => rO S2 (idxD x.view y.view)
  | .exc x S => .exc x S
  | .stk => .stk
@[simp] theorem kIxB_ok : kIxB x (.ok y S) = rO S (idxD x.view y.view) := rfl
def kIxA (cl : Str → List D → Sto → Res) (b : E) (ρ : Env1) : Res → Res
  | .ok x S1 => whn (!x.isBo || quiet b) (kIxB x (ev cl b ρ S1))
  | .exc x S => .exc x S
  | .stk => .stk
@[simp] theorem kIxA_fr {b : E} : kIxA cl b ρ (.ok (.fr d) S) = kIxB (.fr d) (ev cl b ρ S) := rfl
@[simp] theorem kIxA_ol {b : E} : kIxA cl b ρ (.ok (.ol ds) S) = kIxB (.ol ds) (ev cl b ρ S) := rfl
@[simp] theorem kIxA_od {b : E} {k kvs} : kIxA cl b ρ (.ok (.od k kvs) S) = kIxB (.od k kvs) (ev cl b ρ S) := rfl
@[simp] theorem ev_idx {a b : E} : ev cl (.idx a b) ρ S = kIxA cl b ρ (ev cl a ρ S) := by
  show (ev cl a ρ S).bind _ = _
  cases ev cl a ρ S with
  | ok x S1 =>
    simp only [Rs.bind, kIxA]
    cases h : (!x.isBo || quiet b) with
    | false => rfl
    | true =>
      simp only [whn, if_true]
      cases ev cl b ρ S1 with
      | ok y S2 => simp only [kIxB, ← ofO_rO]; rfl
      | exc x S => rfl
      | stk => rfl
  | exc x S => rfl
  | stk => rfl
/-- a name -/
def rV (S : Sto) : Option (Option OV) → Res
  | some (some ov) => .ok ov S
  | _ => .stk
@[simp] theorem rV_some : rV S (some (some x)) = .ok x S := rfl
@[simp] theorem ev_var {i : Nat} : ev cl (.var i) ρ S = rV S ρ[i]? := by
  show (match ρ[i]? with | some (some ov) => Rs.ok ov S | _ => .stk) = _
  unfold rV
  rcases ρ[i]? with _ | _ | _ <;> rfl
@[simp] theorem ev_int {i : Int} : ev cl (.int i) ρ S = .ok (.fr (.int i)) S := rfl
@[simp] theorem ev_bl {i : Bool} : ev cl (.bl i) ρ S = .ok (.fr (.bl i)) S := rfl
@[simp] theorem ev_non : ev cl .non ρ S = .ok (.fr .non) S := rfl
@[simp] theorem ev_str {i : Str} : ev cl (.str i) ρ S = .ok (.fr (.str i)) S := rfl
@[simp] theorem ev_cst {i : Str} : ev cl (.cst i d) ρ S = .ok (.fr d) S := rfl
/-- argument lists -/
def kEsC (d : D) : Rs (List D) → Rs (List D)
  | .ok ds S => .ok (d :: ds) S
  | .exc x S => .exc x S
  | .stk => .stk
@[simp] theorem kEsC_ok : kEsC d (.ok ds S) = .ok (d :: ds) S := rfl
def kEsB (cl : Str → List D → Sto → Res) (es : Es) (ρ : Env1) (S : Sto) : Option D → Rs (List D)
  | some d => kEsC d (evs cl es ρ S)
  | none => .stk
@[simp] theorem kEsB_some {es : Es} : kEsB cl es ρ S (some d) = kEsC d (evs cl es ρ S) := rfl
def kEsA (cl : Str → List D → Sto → Res) (f : Bool) (es : Es) (ρ : Env1) : Res → Rs (List D)
  | .ok x S1 => kEsB cl es ρ S1 (need f x)
  | .exc x S => .exc x S
  | .stk => .stk
@[simp] theorem kEsA_ok {f : Bool} {es : Es} : kEsA cl f es ρ (.ok x S) = kEsB cl es ρ S (need f x) := rfl
@[simp] theorem evs_nil : evs cl .nil ρ S = .ok [] S := rfl
@[simp] theorem evs_cons {e : E} {es : Es} : evs cl (.cons e es) ρ S = kEsA cl (fresh e) es ρ (ev cl e ρ S) := by
  show (ev cl e ρ S).bind _ = _
  cases ev cl e ρ S with
  | ok x S1 =>
    simp only [Rs.bind, kEsA]
    cases need (fresh e) x with
    | none => rfl
    | some d =>
      simp only [ofO, kEsB]
      cases evs cl es ρ S1 <;> rfl
  | exc x S => rfl
  | stk => rfl
def kEvB (x : OV) : Rs (List OV) → Rs (List OV)
  | .ok ds S => .ok (x :: ds) S
  | .exc x S => .exc x S
  | .stk => .stk
@[simp] theorem kEvB_ok {xs : List OV} : kEvB x (.ok xs S) = .ok (x :: xs) S := rfl
def kEvA (cl : Str → List D → Sto → Res) (es : Es) (ρ : Env1) : Res → Rs (List OV)
  | .ok x S1 => whn (!x.isBo || quiets es) (kEvB x (evv cl es ρ S1))
  | .exc x S => .exc x S
  | .stk => .stk
@[simp] theorem kEvA_fr {es : Es} : kEvA cl es ρ (.ok (.fr d) S) = kEvB (.fr d) (evv cl es ρ S) := rfl
@[simp] theorem kEvA_ol {es : Es} : kEvA cl es ρ (.ok (.ol ds) S) = kEvB (.ol ds) (evv cl es ρ S) := rfl
@[simp] theorem kEvA_od {es : Es} {k kvs} : kEvA cl es ρ (.ok (.od k kvs) S) = kEvB (.od k kvs) (evv cl es ρ S) := rfl
@[simp] theorem evv_nil : evv cl .nil ρ S = .ok [] S := rfl
@[simp] theorem evv_cons {e : E} {es : Es} : evv cl (.cons e es) ρ S = kEvA cl es ρ (ev cl e ρ S) := by
  show (ev cl e ρ S).bind _ = _
  cases ev cl e ρ S with
  | ok x S1 =>
    simp only [Rs.bind, kEvA]
    cases h : (!x.isBo || quiets es) with
    | false => rfl
    | true =>
      simp only [whn, if_true]
      cases evv cl es ρ S1 <;> rfl
  | exc x S => rfl
  | stk => rfl
def rOV (S : Sto) : Option OV → Res
  | some ov => .ok ov S
  | none => .stk
@[simp] theorem rOV_some : rOV S (some x) = .ok x S := rfl
def kBi (b : Bi) : Rs (List OV) → Res
  | .ok xs S => rOV S (biO b (xs.map OV.view))
  | .exc x S => .exc x S
  | .stk => .stk
@[simp] theorem kBi_ok {b : Bi} {xs : List OV} : kBi b (.ok xs S) = rOV S (biO b (xs.map OV.view)) := rfl
@[simp] theorem ev_bi {b : Bi} {es : Es} : ev cl (.bi b es) ρ S = kBi b (evv cl es ρ S) := by
  show (evv cl es ρ S).bind _ = _
  cases evv cl es ρ S with
  | ok xs S1 =>
    simp only [Rs.bind, kBi]
    cases biO b (xs.map OV.view) <;> rfl
  | exc x S => rfl
  | stk => rfl
def kTup : Rs (List D) → Res
  | .ok ds S => .ok (.fr (.tup ds)) S
  | .exc x S => .exc x S
  | .stk => .stk
@[simp] theorem kTup_ok : kTup (.ok ds S) = .ok (.fr (.tup ds)) S := rfl
@[simp] theorem ev_tup {es : Es} : ev cl (.tup es) ρ S = kTup (evs cl es ρ S) := by
  show (evs cl es ρ S).bind _ = _
  cases evs cl es ρ S <;> rfl
def kLst : Rs (List D) → Res
  | .ok ds S => .ok (.ol ds) S
  | .exc x S => .exc x S
  | .stk => .stk
@[simp] theorem kLst_ok : kLst (.ok ds S) = .ok (.ol ds) S := rfl
@[simp] theorem ev_lst {es : Es} : ev cl (.lst es) ρ S = kLst (evs cl es ρ S) := by
  show (evs cl es ρ S).bind _ = _
  cases evs cl es ρ S <;> rfl
@[simp] theorem ev_dnew {k : DK} : ev cl (.dnew k) ρ S = .ok (.od k []) S := rfl
def kCall (cl : Str → List D → Sto → Res) (f : Str) : Rs (List D) → Res
  | .ok ds S => cl f ds S
  | .exc x S => .exc x S
  | .stk => .stk
@[simp] theorem kCall_ok {f : Str} : kCall cl f (.ok ds S) = cl f ds S := rfl
@[simp] theorem ev_call {f : Str} {es : Es} : ev cl (.call f es) ρ S = kCall cl f (evs cl es ρ S) := by
  show (evs cl es ρ S).bind _ = _
  cases evs cl es ρ S <;> rfl
def kNeg : Res → Res
  | .ok x S => (match x with
    | .fr (.int i) => .ok (.fr (.int (-i))) S
    | _ => .stk)
  | .exc x S => .exc x S
  | .stk => .stk
@[simp] theorem kNeg_ok {i : Int} : kNeg (.ok (.fr (.int i)) S) = .ok (.fr (.int (-i))) S := rfl
@[simp] theorem ev_neg {a : E} : ev cl (.neg a) ρ S = kNeg (ev cl a ρ S) := by
  show (ev cl a ρ S).bind _ = _
  cases ev cl a ρ S <;> rfl
def isNon : OV → Bool
  | .fr .non => true
  | _ => false
@[simp] theorem isNon_non : isNon (.fr .non) = true := rfl
@[simp] theorem isNon_bl {b : Bool} : isNon (.fr (.bl b)) = false := rfl
@[simp] theorem isNon_int {b : Int} : isNon (.fr (.int b)) = false := rfl
@[simp] theorem isNon_str {b : Str} : isNon (.fr (.str b)) = false := rfl
@[simp] theorem isNon_tup {b : List D} : isNon (.fr (.tup b)) = false := rfl
@[simp] theorem isNon_lst {b : List D} : isNon (.fr (.lst b)) = false := rfl
@[simp] theorem isNon_ol {b : List D} : isNon (.ol b) = false := rfl
def kIsN (n : Bool) : Res → Res
  | .ok x S => .ok (.fr (.bl (n != isNon x))) S
  | .exc x S => .exc x S
  | .stk => .stk
@[simp] theorem kIsN_ok {n : Bool} : kIsN n (.ok x S) = .ok (.fr (.bl (n != isNon x))) S := rfl
@[simp] theorem ev_isN {n : Bool} {a : E} : ev cl (.isN n a) ρ S = kIsN n (ev cl a ρ S) := by
  show (ev cl a ρ S).bind _ = _
  cases ev cl a ρ S with
  | ok x S => 
    cases x with
    | fr d => cases d <;> cases n <;> rfl
    | _ => cases n <;> rfl
  | exc x S => rfl
  | stk => rfl
def kIsB (n b : Bool) : Res → Res
  | .ok x S => (match x with
    | .fr (.bl c) => .ok (.fr (.bl (if n then !decide (c = b) else decide (c = b)))) S
    | _ => .stk)
  | .exc x S => .exc x S
  | .stk => .stk
@[simp] theorem kIsB_ok {n b c : Bool} : kIsB n b (.ok (.fr (.bl c)) S) = .ok (.fr (.bl (if n then !decide (c = b) else decide (c = b)))) S := rfl
@[simp] theorem ev_isB {n b : Bool} {a : E} : ev cl (.isB n a b) ρ S = kIsB n b (ev cl a ρ S) := by
  show (ev cl a ρ S).bind _ = _
  cases ev cl a ρ S <;> rfl
/-- two ways -/
def brR (t f : Res) : Bool → Res
  | true => t
  | false => f
@[simp] theorem brR_t {t f : Res} : brR t f true = t := rfl
@[simp] theorem brR_f {t f : Res} : brR t f false = f := rfl
def kAnd (cl : Str → List D → Sto → Res) (b : Es) (ρ : Env1) : Res → Res
  | .ok x S => (match x with
    | .fr (.bl true) => evA cl b ρ S
    | .fr (.bl false) => .ok (.fr (.bl false)) S
    | _ => .stk)
  | .exc x S => .exc x S
  | .stk => .stk
@[simp] theorem kAnd_t {b : Es} : kAnd cl b ρ (.ok (.fr (.bl true)) S) = evA cl b ρ S := rfl
@[simp] theorem kAnd_f {b : Es} : kAnd cl b ρ (.ok (.fr (.bl false)) S) = .ok (.fr (.bl false)) S := rfl
@[simp] theorem ev_and {es : Es} : ev cl (.and es) ρ S = evA cl es ρ S := rfl
@[simp] theorem evA_one {a : E} : evA cl (.cons a .nil) ρ S = ev cl a ρ S := rfl
@[simp] theorem evA_cons {a b : E} {es : Es} : evA cl (.cons a (.cons b es)) ρ S = kAnd cl (.cons b es) ρ (ev cl a ρ S) := by
  show (ev cl a ρ S).bind _ = _
  cases ev cl a ρ S <;> rfl
def kOr (cl : Str → List D → Sto → Res) (b : Es) (ρ : Env1) : Res → Res
  | .ok x S => (match x with
    | .fr (.bl true) => .ok (.fr (.bl true)) S
    | .fr (.bl false) => evR cl b ρ S
    | _ => .stk)
  | .exc x S => .exc x S
  | .stk => .stk
@[simp] theorem kOr_t {b : Es} : kOr cl b ρ (.ok (.fr (.bl true)) S) = .ok (.fr (.bl true)) S := rfl
@[simp] theorem kOr_f {b : Es} : kOr cl b ρ (.ok (.fr (.bl false)) S) = evR cl b ρ S := rfl
@[simp] theorem ev_or {es : Es} : ev cl (.or es) ρ S = evR cl es ρ S := rfl
@[simp] theorem evR_one {a : E} : evR cl (.cons a .nil) ρ S = ev cl a ρ S := rfl
@[simp] theorem evR_cons {a b : E} {es : Es} : evR cl (.cons a (.cons b es)) ρ S = kOr cl (.cons b es) ρ (ev cl a ρ S) := by
  show (ev cl a ρ S).bind _ = _
  cases ev cl a ρ S <;> rfl
def kNot : Res → Res
  | .ok x S => (match x with
    | .fr (.bl c) => .ok (.fr (.bl (!c))) S
    | _ => .stk)
  | .exc x S => .exc x S
  | .stk => .stk
@[simp] theorem kNot_ok {b : Bool} : kNot (.ok (.fr (.bl b)) S) = .ok (.fr (.bl (!b))) S := rfl
@[simp] theorem ev_not {a : E} : ev cl (.not a) ρ S = kNot (ev cl a ρ S) := by
  show (ev cl a ρ S).bind _ = _
  cases ev cl a ρ S <;> rfl
def kIf (cl : Str → List D → Sto → Res) (a b : E) (ρ : Env1) : Res → Res
  | .ok x S => (match x with
    | .fr (.bl true) => ev cl a ρ S
    | .fr (.bl false) => ev cl b ρ S
    | _ => .stk)
  | .exc x S => .exc x S
  | .stk => .stk
@[simp] theorem kIf_t {a b : E} : kIf cl a b ρ (.ok (.fr (.bl true)) S) = ev cl a ρ S := rfl
@[simp] theorem kIf_f {a b : E} : kIf cl a b ρ (.ok (.fr (.bl false)) S) = ev cl b ρ S := rfl
@[simp] theorem ev_ite {c a b : E} : ev cl (.ite c a b) ρ S = kIf cl a b ρ (ev cl c ρ S) := by
  show (ev cl c ρ S).bind _ = _
  cases ev cl c ρ S <;> rfl
def kBmB (m : Bm) (x : D) : Rs (List OV) → Res
  | .ok xs S => rOV S (bmO m x xs)
  | .exc x S => .exc x S
  | .stk => .stk
@[simp] theorem kBmB_ok {m : Bm} {x : D} {xs : List OV} : kBmB m x (.ok xs S) = rOV S (bmO m x xs) := rfl
def kBmA (cl : Str → List D → Sto → Res) (m : Bm) (es : Es) (ρ : Env1) : Res → Res
  | .ok x S => whn (bmT m x.view && (!x.isBo || quiets es)) (kBmB m x.view (evv cl es ρ S))
  | .exc x S => .exc x S
  | .stk => .stk
@[simp] theorem kBmA_ok {m : Bm} {es : Es} : kBmA cl m es ρ (.ok x S) = whn (bmT m x.view && (!x.isBo || quiets es)) (kBmB m x.view (evv cl es ρ S)) := rfl
@[simp] theorem ev_bm {a : E} {m : Bm} {es : Es} : ev cl (.bm a m es) ρ S = kBmA cl m es ρ (ev cl a ρ S) := by
  show (ev cl a ρ S).bind _ = _
  cases ev cl a ρ S with
  | ok x S =>
    simp only [Rs.bind, kBmA]
    cases h : (bmT m x.view && (!x.isBo || quiets es)) with
    | false => rfl
    | true =>
      simp only [whn, if_true]
      cases evv cl es ρ S with
      | ok xs S => simp only [kBmB, rOV]; cases bmO m x.view xs <;> rfl
      | exc x S => rfl
      | stk => rfl
  | exc x S => rfl
  | stk => rfl
def kCatB (x : OV) : Res → Res
  | .ok y S => rOV S (catO x.view y.view)
  | .exc x S => .exc x S
  | .stk => .stk
@[simp] theorem kCatB_ok : kCatB x (.ok y S) = rOV S (catO x.view y.view) := rfl
def kCatA (cl : Str → List D → Sto → Res) (b : E) (ρ : Env1) : Res → Res
  | .ok x S1 => whn (!x.isBo || quiet b) (kCatB x (ev cl b ρ S1))
  | .exc x S => .exc x S
  | .stk => .stk
@[simp] theorem kCatA_fr {b : E} : kCatA cl b ρ (.ok (.fr d) S) = kCatB (.fr d) (ev cl b ρ S) := rfl
@[simp] theorem kCatA_ol {b : E} : kCatA cl b ρ (.ok (.ol ds) S) = kCatB (.ol ds) (ev cl b ρ S) := rfl
@[simp] theorem ev_cat {a b : E} : ev cl (.cat a b) ρ S = kCatA cl b ρ (ev cl a ρ S) := by
  show (ev cl a ρ S).bind _ = _
  cases ev cl a ρ S with
  | ok x S1 =>
    simp only [Rs.bind, kCatA]
    cases h : (!x.isBo || quiet b) with
    | false => rfl
    | true =>
      simp only [whn, if_true]
      cases ev cl b ρ S1 with
      | ok y S2 => simp only [kCatB, rOV]; cases catO x.view y.view <;> rfl
      | exc x S => rfl
      | stk => rfl
  | exc x S => rfl
  | stk => rfl
def kRepB (ds : List D) : Res → Res
  | .ok y S => rOV S (repO ds y)
  | .exc x S => .exc x S
  | .stk => .stk
@[simp] theorem kRepB_ok : kRepB ds (.ok y S) = rOV S (repO ds y) := rfl
def kRepA (cl : Str → List D → Sto → Res) (b : E) (ρ : Env1) : Res → Res
  | .ok (.ol ds) S1 => kRepB ds (ev cl b ρ S1)
  | .ok _ _ => .stk
  | .exc x S => .exc x S
  | .stk => .stk
@[simp] theorem kRepA_ol {b : E} : kRepA cl b ρ (.ok (.ol ds) S) = kRepB ds (ev cl b ρ S) := rfl
@[simp] theorem ev_rep {a b : E} : ev cl (.rep a b) ρ S = kRepA cl b ρ (ev cl a ρ S) := by
  show (ev cl a ρ S).bind _ = _
  cases ev cl a ρ S with
  | ok x S1 =>
    cases x with
    | ol ds =>
      show (ev cl b ρ S1).bind _ = kRepB ds (ev cl b ρ S1)
      cases ev cl b ρ S1 with
      | ok y S2 =>
        show ofO S2 (repO ds y) = rOV S2 (repO ds y)
        cases repO ds y <;> rfl
      | exc x S => rfl
      | stk => rfl
    | _ => rfl
  | exc x S => rfl
  | stk => rfl
def kDlt : Rs (List D) → Res
  | .ok ds S => rOV S ((dltO [] ds).map (.od .sc))
  | .exc x S => .exc x S
  | .stk => .stk
@[simp] theorem kDlt_ok : kDlt (.ok ds S) = rOV S ((dltO [] ds).map (.od .sc)) := rfl
@[simp] theorem ev_dlt {es : Es} : ev cl (.dlt es) ρ S = kDlt (evs cl es ρ S) := by
  show (evs cl es ρ S).bind _ = _
  cases evs cl es ρ S with
  | ok ds S =>
    show ofO S ((dltO [] ds).map (.od .sc)) = rOV S ((dltO [] ds).map (.od .sc))
    cases (dltO [] ds).map (OV.od .sc) <;> rfl
  | exc x S => rfl
  | stk => rfl
@[simp] theorem emp_cells : Sto.emp.cells = [] := rfl
def kBrw : Res → Res
  | .ok x S => (match x with
    | .fr d => if flatD d && S.cells.isEmpty then .ok (.fr d) S else .stk
    | _ => .stk)
  | _ => .stk
def kBrwS : Bool → Res → Res
  | true, r => kBrw r
  | false, _ => .stk
@[simp] theorem kBrwS_t {r : Res} : kBrwS true r = kBrw r := rfl
@[simp] theorem kBrw_ok (h : (flatD d && S.cells.isEmpty) = true) : kBrw (.ok (.fr d) S) = .ok (.fr d) S := by simp only [kBrw, if_pos h]
@[simp] theorem flatD_bl {b : Bool} : flatD (.bl b) = true := rfl
@[simp] theorem flatD_int {b : Int} : flatD (.int b) = true := rfl
@[simp] theorem flatD_str {b : Str} : flatD (.str b) = true := rfl
@[simp] theorem flatD_non : flatD .non = true := rfl
@[simp] theorem ev_brw {is : List Nat} {e : E} : ev cl (.brw is e) ρ S = kBrwS S.cells.isEmpty (ev cl e (frzR ρ is) S) := by
  show (if S.cells.isEmpty = true then _ else _) = _
  cases S.cells.isEmpty with
  | false => rfl
  | true =>
    rw [if_pos rfl]
    show (match ev cl e (frzR ρ is) S with
      | .ok (.fr d) S1 => if flatD d && S1.cells.isEmpty then Rs.ok (OV.fr d) S1 else .stk
      | _ => .stk) = kBrw (ev cl e (frzR ρ is) S)
    cases ev cl e (frzR ρ is) S with
    | ok x S => cases x <;> rfl
    | exc x S => rfl
    | stk => rfl
def frz1 (ρ : Env1) (i : Nat) : Option (Option OV) → Env1
  | some (some ov) => (match need true ov with
    | some d => ρ.set i (some (.fr d))
    | none => ρ)
  | _ => ρ
@[simp] theorem frz1_ol {i : Nat} : frz1 ρ i (some (some (.ol ds))) = ρ.set i (some (.fr (.lst ds))) := rfl
@[simp] theorem frz1_od {i : Nat} {k kvs} : frz1 ρ i (some (some (.od k kvs))) = ρ.set i (some (.fr (.dct k kvs))) := rfl
@[simp] theorem frz1_fr {i : Nat} : frz1 ρ i (some (some (.fr d))) = ρ.set i (some (.fr d)) := rfl
@[simp] theorem frzR_nil : frzR ρ [] = ρ := rfl
@[simp] theorem frzR_cons {i : Nat} {is : List Nat} : frzR ρ (i :: is) = frzR (frz1 ρ i ρ[i]?) is := by
  rw [frzR]
  rcases ρ[i]? with _ | _ | ov
  · rfl
  · rfl
  · simp only [frz1]
    cases need true ov <;> rfl
def kTru : Res → Res
  | .ok x S => rO S ((truO x.view).map .bl)
  | .exc x S => .exc x S
  | .stk => .stk
@[simp] theorem kTru_ok : kTru (.ok x S) = rO S ((truO x.view).map .bl) := rfl
@[simp] theorem ev_tru {a : E} : ev cl (.tru a) ρ S = kTru (ev cl a ρ S) := by
  show (ev cl a ρ S).bind _ = _
  cases ev cl a ρ S with
  | ok x S => simp only [Rs.bind, kTru]; cases truO x.view <;> rfl
  | exc x S => rfl
  | stk => rfl
def kIsT (T : Ty) : Res → Res
  | .ok x S => rO S ((isTy x.view T).map .bl)
  | .exc x S => .exc x S
  | .stk => .stk
@[simp] theorem kIsT_ok {T : Ty} : kIsT T (.ok x S) = rO S ((isTy x.view T).map .bl) := rfl
@[simp] theorem ev_isT {T : Ty} {a : E} : ev cl (.isT a T) ρ S = kIsT T (ev cl a ρ S) := by
  show (ev cl a ρ S).bind _ = _
  cases ev cl a ρ S with
  | ok x S => simp only [Rs.bind, kIsT]; cases isTy x.view T <;> rfl
  | exc x S => rfl
  | stk => rfl
def kSlC (x : OV) (l : Option Int) : Rs (Option Int) → Res
  | .ok h S => rOV S (slO x.view l h)
  | .exc x S => .exc x S
  | .stk => .stk
@[simp] theorem kSlC_ok {l h : Option Int} : kSlC x l (.ok h S) = rOV S (slO x.view l h) := rfl
def kSlB (cl : Str → List D → Sto → Res) (x : OV) (hi : Eo) (ρ : Env1) : Rs (Option Int) → Res
  | .ok l S => kSlC x l (evo cl hi ρ S)
  | .exc x S => .exc x S
  | .stk => .stk
@[simp] theorem kSlB_ok {l : Option Int} {hi : Eo} : kSlB cl x hi ρ (.ok l S) = kSlC x l (evo cl hi ρ S) := rfl
def kSlA (cl : Str → List D → Sto → Res) (lo hi : Eo) (ρ : Env1) : Res → Res
  | .ok x S => whn (!x.isBo) (kSlB cl x hi ρ (evo cl lo ρ S))
  | .exc x S => .exc x S
  | .stk => .stk
@[simp] theorem kSlA_fr {lo hi : Eo} : kSlA cl lo hi ρ (.ok (.fr d) S) = kSlB cl (.fr d) hi ρ (evo cl lo ρ S) := rfl
@[simp] theorem kSlA_ol {lo hi : Eo} : kSlA cl lo hi ρ (.ok (.ol ds) S) = kSlB cl (.ol ds) hi ρ (evo cl lo ρ S) := rfl
@[simp] theorem ev_sl {a : E} {lo hi : Eo} : ev cl (.sl a lo hi) ρ S = kSlA cl lo hi ρ (ev cl a ρ S) := by
  show (ev cl a ρ S).bind _ = _
  cases ev cl a ρ S with
  | ok x S =>
    simp only [Rs.bind, kSlA]
    cases h : x.isBo with
    | true => rfl
    | false =>
      show (evo cl lo ρ S).bind _ = kSlB cl x hi ρ (evo cl lo ρ S)
      cases evo cl lo ρ S with
      | ok l S =>
        show (evo cl hi ρ S).bind _ = kSlC x l (evo cl hi ρ S)
        cases evo cl hi ρ S with
        | ok q S => simp only [Rs.bind, kSlC]; cases slO x.view l q <;> rfl
        | exc x S => rfl
        | stk => rfl
      | exc x S => rfl
      | stk => rfl
  | exc x S => rfl
  | stk => rfl
def kEo : Res → Rs (Option Int)
  | .ok x S => (match x with
    | .fr (.int i) => .ok (some i) S
    | _ => .stk)
  | .exc x S => .exc x S
  | .stk => .stk
@[simp] theorem kEo_ok {i : Int} : kEo (.ok (.fr (.int i)) S) = .ok (some i) S := rfl
@[simp] theorem evo_no : evo cl .no ρ S = .ok none S := rfl
@[simp] theorem evo_some {e : E} : evo cl (.some e) ρ S = kEo (ev cl e ρ S) := by
  show (ev cl e ρ S).bind _ = _
  cases ev cl e ρ S <;> rfl
/-- a comprehension -/
def kLcB : Rs (List D) → Res
  | .ok rs S => .ok (.ol rs) S
  | .exc x S => .exc x S
  | .stk => .stk
@[simp] theorem kLcB_ok : kLcB (.ok ds S) = .ok (.ol ds) S := rfl
def kLcA (cl : Str → List D → Sto → Res) (vs : List Nat) (g : Tg) (c e : E) (ρ : Env1) : Rs (List D) → Res
  | .ok ds S => kLcB (lcGo (ev cl c) (ev cl e) (fresh e) g (wipeR ρ vs) ds [] S)
  | .exc x S => .exc x S
  | .stk => .stk
@[simp] theorem kLcA_ok {vs : List Nat} {g : Tg} {c e : E} : kLcA cl vs g c e ρ (.ok ds S) = kLcB (lcGo (ev cl c) (ev cl e) (fresh e) g (wipeR ρ vs) ds [] S) := rfl
@[simp] theorem ev_lc {vs : List Nat} {g : Tg} {it : It} {c e : E} : ev cl (.lc vs g it c e) ρ S = kLcA cl vs g c e ρ (evi cl it ρ S) := by
  show (evi cl it ρ S).bind _ = _
  cases evi cl it ρ S with
  | ok ds S => 
    simp only [Rs.bind, kLcA]
    show (lcGo (ev cl c) (ev cl e) (fresh e) g (wipeR ρ vs) ds [] S).bind _ = _
    cases (lcGo (ev cl c) (ev cl e) (fresh e) g (wipeR ρ vs) ds [] S) <;> rfl
  | exc x S => rfl
  | stk => rfl
def rL (S : Sto) : Option (List D) → Rs (List D)
  | some ds => .ok ds S
  | none => .stk
@[simp] theorem rL_some : rL S (some ds) = .ok ds S := rfl
@[simp] theorem seqD_lst : seqD (.lst ds) = some ds := rfl
@[simp] theorem seqD_tup : seqD (.tup ds) = some ds := rfl
@[simp] theorem wlkD_lst : wlkD (.lst ds) = some ds := rfl
@[simp] theorem wlkD_tup : wlkD (.tup ds) = some ds := rfl
@[simp] theorem wlkD_ctup : wlkD (.ctup ds) = some ds := rfl
@[simp] theorem wlkD_str {s : Str} : wlkD (.str s) = some (chsD s) := rfl
def kSeqI (f : Bool) : Res → Rs (List D)
  | .ok x S => rL S ((need f x).bind wlkD)
  | .exc x S => .exc x S
  | .stk => .stk
@[simp] theorem kSeqI_ok {f : Bool} : kSeqI f (.ok x S) = rL S ((need f x).bind wlkD) := rfl
@[simp] theorem evi_seq {e : E} : evi cl (.seq e) ρ S = kSeqI (fresh e) (ev cl e ρ S) := by
  show (ev cl e ρ S).bind _ = _
  cases ev cl e ρ S with
  | ok x S => simp only [Rs.bind, kSeqI]; cases (need (fresh e) x).bind wlkD <;> rfl
  | exc x S => rfl
  | stk => rfl
def kEnm : Rs (List D) → Rs (List D)
  | .ok [d] S => rL S (enmO d)
  | .exc x S => .exc x S
  | _ => .stk
@[simp] theorem kEnm_ok {d : D} : kEnm (.ok [d] S) = rL S (enmO d) := rfl
@[simp] theorem evi_enm {e : E} : evi cl (.enm e) ρ S = kEnm (evs cl (.cons e .nil) ρ S) := by
  show (ev cl e ρ S).bind _ = kEnm ((ev cl e ρ S).bind _)
  cases ev cl e ρ S with
  | ok x S =>
    simp only [Rs.bind]
    cases need (fresh e) x with
    | none => rfl
    | some d =>
      show ofO S (enmO d) = rL S (enmO d)
      cases enmO d <;> rfl
  | exc x S => rfl
  | stk => rfl
def kRng : Rs (List D) → Rs (List D)
  | .ok ds S => rL S (rngO ds)
  | .exc x S => .exc x S
  | .stk => .stk
@[simp] theorem kRng_ok : kRng (.ok ds S) = rL S (rngO ds) := rfl
@[simp] theorem evi_rng {es : Es} : evi cl (.rng es) ρ S = kRng (evs cl es ρ S) := by
  show (evs cl es ρ S).bind _ = _
  cases evs cl es ρ S with
  | ok x S => simp only [Rs.bind, kRng]; cases rngO x <;> rfl
  | exc x S => rfl
  | stk => rfl
def kZp : Rs (List D) → Rs (List D)
  | .ok [d1, d2] S => rL S (zipO d1 d2)
  | .exc x S => .exc x S
  | _ => .stk
@[simp] theorem kZp_ok {d1 d2 : D} : kZp (.ok [d1, d2] S) = rL S (zipO d1 d2) := rfl
@[simp] theorem evi_zp {a b : E} : evi cl (.zp a b) ρ S = kZp (evs cl (.cons a (.cons b .nil)) ρ S) := by
  show (ev cl a ρ S).bind _ = kZp ((ev cl a ρ S).bind fun x S1 => (ofO S1 (need (fresh a) x)).bind fun d S2 => ((ev cl b ρ S2).bind _).bind fun ds S3 => .ok (d :: ds) S3)
  cases ev cl a ρ S with
  | ok x S =>
    simp only [Rs.bind]
    cases need (fresh a) x with
    | none => rfl
    | some d1 =>
      simp only [ofO]
      cases ev cl b ρ S with
      | ok y S =>
        simp only [Rs.bind]
        cases need (fresh b) y with
        | none => rfl
        | some d2 =>
          show ofO S (zipO d1 d2) = rL S (zipO d1 d2)
          cases zipO d1 d2 <;> rfl
      | exc x S => rfl
      | stk => rfl
  | exc x S => rfl
  | stk => rfl
def kC2 (o2 : Op2) (y : OV) : Res → Res
  | .ok z S => rO S (op2 o2 y.view z.view)
  | .exc x S => .exc x S
  | .stk => .stk
@[simp] theorem kC2_ok {o2 : Op2} : kC2 o2 y (.ok x S) = rO S (op2 o2 y.view x.view) := rfl
def kC1 (cl : Str → List D → Sto → Res) (o2 : Op2) (y : OV) (c : E) (ρ : Env1) (S : Sto) : Option D → Res
  | some (.bl true) => kC2 o2 y (ev cl c ρ S)
  | some (.bl false) => .ok (.fr (.bl false)) S
  | _ => .stk
@[simp] theorem kC1_t {o2 : Op2} {c : E} : kC1 cl o2 y c ρ S (some (.bl true)) = kC2 o2 y (ev cl c ρ S) := rfl
@[simp] theorem kC1_f {o2 : Op2} {c : E} : kC1 cl o2 y c ρ S (some (.bl false)) = .ok (.fr (.bl false)) S := rfl
def kCB (cl : Str → List D → Sto → Res) (o1 o2 : Op2) (x : OV) (c : E) (ρ : Env1) : Res → Res
  | .ok y S => whn (x.isFr && y.isFr) (kC1 cl o2 y c ρ S (op2 o1 x.view y.view))
  | .exc x S => .exc x S
  | .stk => .stk
@[simp] theorem kCB_ok {o1 o2 : Op2} {c : E} : kCB cl o1 o2 x c ρ (.ok y S) = whn (x.isFr && y.isFr) (kC1 cl o2 y c ρ S (op2 o1 x.view y.view)) := rfl
def kCA (cl : Str → List D → Sto → Res) (o1 o2 : Op2) (b c : E) (ρ : Env1) : Res → Res
  | .ok x S => kCB cl o1 o2 x c ρ (ev cl b ρ S)
  | .exc x S => .exc x S
  | .stk => .stk
@[simp] theorem kCA_ok {o1 o2 : Op2} {b c : E} : kCA cl o1 o2 b c ρ (.ok x S) = kCB cl o1 o2 x c ρ (ev cl b ρ S) := rfl
@[simp] theorem ev_cmp3 {o1 o2 : Op2} {a b c : E} : ev cl (.cmp3 o1 o2 a b c) ρ S = kCA cl o1 o2 b c ρ (ev cl a ρ S) := by
  show (ev cl a ρ S).bind _ = _
  cases ev cl a ρ S with
  | ok x S =>
    show (ev cl b ρ S).bind _ = kCB cl o1 o2 x c ρ (ev cl b ρ S)
    cases ev cl b ρ S with
    | ok y S =>
      simp only [Rs.bind, kCB]
      cases h : (x.isFr && y.isFr) with
      | false => rfl
      | true =>
        simp only [if_true, whn]
        cases op2 o1 x.view y.view with
        | none => rfl
        | some d =>
          cases d with
          | bl b =>
            cases b with
            | false => rfl
            | true =>
              show (ev cl c ρ S).bind _ = kC2 o2 y (ev cl c ρ S)
              cases ev cl c ρ S with
              | ok z S => simp only [Rs.bind, kC2, ← ofO_rO]
              | exc x S => rfl
              | stk => rfl
          | _ => rfl
    | exc x S => rfl
    | stk => rfl
  | exc x S => rfl
  | stk => rfl

/-! statements -/
def kSeq (cl : Str → List D → Sto → Res) (wf : Nat) (r : Sts) : Out → Out
  | .nx ρ1 S1 => execs cl wf r ρ1 S1
  | .rt ov S1 => .rt ov S1
  | .bk ρ1 S1 => .bk ρ1 S1
  | .ct ρ1 S1 => .ct ρ1 S1
  | .ex x ρ1 S1 => .ex x ρ1 S1
  | .stk => .stk
@[simp] theorem kSeq_nx {r : Sts} : kSeq cl wf r (.nx ρ S) = execs cl wf r ρ S := rfl
@[simp] theorem kSeq_rt {r : Sts} : kSeq cl wf r (.rt x S) = .rt x S := rfl
@[simp] theorem kSeq_bk {r : Sts} : kSeq cl wf r (.bk ρ S) = .bk ρ S := rfl
@[simp] theorem kSeq_ct {r : Sts} : kSeq cl wf r (.ct ρ S) = .ct ρ S := rfl
@[simp] theorem kSeq_ex {r : Sts} : kSeq cl wf r (.ex xn ρ S) = .ex xn ρ S := rfl
@[simp] theorem execs_nil : execs cl wf .nil ρ S = .nx ρ S := rfl
@[simp] theorem execs_cons {s : St} {r : Sts} : execs cl wf (.cons s r) ρ S = kSeq cl wf r (exec cl wf s ρ S) := by
  show (match exec cl wf s ρ S with
    | .nx ρ1 S1 => execs cl wf r ρ1 S1
    | .rt ov S1 => .rt ov S1
    | .bk ρ1 S1 => .bk ρ1 S1
    | .ct ρ1 S1 => .ct ρ1 S1
    | .ex x ρ1 S1 => .ex x ρ1 S1
    | .stk => .stk) = _
  cases exec cl wf s ρ S <;> rfl
def kAsgB (i : Nat) (ρ : Env1) (S : Sto) : Option D → Out
  | some d => .nx (ρ.set i (some (.fr d))) S
  | none => .stk
@[simp] theorem kAsgB_some {i : Nat} : kAsgB i ρ S (some d) = .nx (ρ.set i (some (.fr d))) S := rfl
def kAsg (f : Bool) (i : Nat) (ρ : Env1) : Res → Out
  | .ok x S => kAsgB i ρ S (need f x)
  | .exc x S => .ex x ρ S
  | .stk => .stk
@[simp] theorem kAsg_ok {f : Bool} {i : Nat} : kAsg f i ρ (.ok x S) = kAsgB i ρ S (need f x) := rfl
@[simp] theorem exec_asg {i : Nat} {e : E} : exec cl wf (.asg i e) ρ S = kAsg (fresh e) i ρ (ev cl e ρ S) := by
  show (ev cl e ρ S).out ρ _ = _
  cases ev cl e ρ S with
  | ok x S => simp only [Rs.out, kAsg]; cases need (fresh e) x <;> rfl
  | exc x S => rfl
  | stk => rfl
def kOwn (f : Bool) (i : Nat) (ρ : Env1) : Res → Out
  | .ok x S => if f && !x.isBo then .nx (ρ.set i (some x)) S else .stk
  | .exc x S => .ex x ρ S
  | .stk => .stk
@[simp] theorem kOwn_ol {i : Nat} : kOwn true i ρ (.ok (.ol ds) S) = .nx (ρ.set i (some (.ol ds))) S := rfl
@[simp] theorem kOwn_od {i : Nat} {k kvs} : kOwn true i ρ (.ok (.od k kvs) S) = .nx (ρ.set i (some (.od k kvs))) S := rfl
@[simp] theorem kOwn_fr {i : Nat} : kOwn true i ρ (.ok (.fr d) S) = .nx (ρ.set i (some (.fr d))) S := rfl
@[simp] theorem exec_own {i : Nat} {e : E} : exec cl wf (.own i e) ρ S = kOwn (fresh e) i ρ (ev cl e ρ S) := by
  show (ev cl e ρ S).out ρ _ = _
  cases ev cl e ρ S <;> rfl
def rP (S : Sto) : Option Env1 → Out
  | some ρ => .nx ρ S
  | none => .stk
@[simp] theorem rP_some : rP S (some ρ) = .nx ρ S := rfl
def putT (is : List Nat) (ρ : Env1) : Option D → Option Env1
  | some d => (Tg.many is).put d ρ
  | none => none
@[simp] theorem putT_some {is : List Nat} : putT is ρ (some (.tup ds)) = putAll is ds ρ := rfl
def kAsgT (f : Bool) (is : List Nat) (ρ : Env1) : Res → Out
  | .ok x S => rP S (putT is ρ (need f x))
  | .exc x S => .ex x ρ S
  | .stk => .stk
@[simp] theorem kAsgT_ok {f : Bool} {is : List Nat} : kAsgT f is ρ (.ok x S) = rP S (putT is ρ (need f x)) := rfl
@[simp] theorem exec_asgT {is : List Nat} {e : E} : exec cl wf (.asgT is e) ρ S = kAsgT (fresh e) is ρ (ev cl e ρ S) := by
  show (ev cl e ρ S).out ρ _ = _
  cases ev cl e ρ S with
  | ok x S =>
    simp only [Rs.out, kAsgT]
    cases need (fresh e) x with
    | none => rfl
    | some d =>
      simp only [ofO, putT, rP]
      all_goals (cases (Tg.many is).put d ρ <;> rfl)
  | exc x S => rfl
  | stk => rfl
def kPar (is : List Nat) (ρ : Env1) : Rs (List D) → Out
  | .ok ds S => rP S (putAll is ds ρ)
  | .exc x S => .ex x ρ S
  | .stk => .stk
@[simp] theorem kPar_ok {is : List Nat} : kPar is ρ (.ok ds S) = rP S (putAll is ds ρ) := rfl
@[simp] theorem exec_par {is : List Nat} {es : Es} : exec cl wf (.par is es) ρ S = kPar is ρ (evs cl es ρ S) := by
  show (evs cl es ρ S).out ρ _ = _
  cases evs cl es ρ S with
  | ok x S => simp only [Rs.out, kPar]; cases putAll is x ρ <;> rfl
  | exc x S => rfl
  | stk => rfl
def setQ (i : Nat) (ρ : Env1) : Option OV → Option Env1
  | some ov => some (ρ.set i (some ov))
  | none => none
@[simp] theorem setQ_some {i : Nat} : setQ i ρ (some x) = some (ρ.set i (some x)) := rfl
def setR (i : Nat) (ρ : Env1) (d : D) (ov : OV) : Option D → Option Env1
  | some q => setQ i ρ (setO ov q d)
  | none => none
@[simp] theorem setR_some {i : Nat} {q : D} : setR i ρ d x (some q) = setQ i ρ (setO x q d) := rfl
def kSetC (i : Nat) (ρ : Env1) (d : D) (ov : OV) : Res → Out
  | .ok q S => rP S (setR i ρ d ov (need false q))
  | .exc x S => .ex x ρ S
  | .stk => .stk
@[simp] theorem kSetC_ok {i : Nat} {q : OV} : kSetC i ρ d x (.ok q S) = rP S (setR i ρ d x (need false q)) := rfl
def kSetO (cl : Str → List D → Sto → Res) (i : Nat) (k : E) (ρ : Env1) (S : Sto) (d : D) : Option (Option OV) → Out
  | some (some ov) => kSetC i ρ d ov (ev cl k ρ S)
  | _ => .stk
@[simp] theorem kSetO_some {i : Nat} {k : E} : kSetO cl i k ρ S d (some (some x)) = kSetC i ρ d x (ev cl k ρ S) := rfl
def kSetB (cl : Str → List D → Sto → Res) (i : Nat) (k : E) (ρ : Env1) (S : Sto) : Option D → Out
  | some d => kSetO cl i k ρ S d ρ[i]?
  | none => .stk
@[simp] theorem kSetB_some {i : Nat} {k : E} : kSetB cl i k ρ S (some d) = kSetO cl i k ρ S d ρ[i]? := rfl
def kSetA (cl : Str → List D → Sto → Res) (f : Bool) (i : Nat) (k : E) (ρ : Env1) : Res → Out
  | .ok x S => kSetB cl i k ρ S (need f x)
  | .exc x S => .ex x ρ S
  | .stk => .stk
@[simp] theorem kSetA_ok {f : Bool} {i : Nat} {k : E} : kSetA cl f i k ρ (.ok x S) = kSetB cl i k ρ S (need f x) := rfl
@[simp] theorem exec_setI {i : Nat} {k e : E} : exec cl wf (.setI i k e) ρ S = kSetA cl (fresh e) i k ρ (ev cl e ρ S) := by
  show (ev cl e ρ S).out ρ _ = _
  cases ev cl e ρ S with
  | ok x S =>
    simp only [Rs.out, kSetA]
    cases need (fresh e) x with
    | none => rfl
    | some d =>
      simp only [kSetB, ofO]
      rcases h : ρ[i]? with _ | _ | ov
      · rfl
      · rfl
      · simp only [kSetO]
        cases ev cl k ρ S with
        | ok q S =>
          simp only [kSetC]
          cases hq : need false q with
          | none => rfl
          | some q =>
            simp only [setR, setQ]
            cases setO ov q d <;> rfl
        | exc x S => rfl
        | stk => rfl
  | exc x S => rfl
  | stk => rfl
def kSpD (i : Nat) (ρ : Env1) (xs es : List D) (l : Option Int) : Rs (Option Int) → Out
  | .ok h S => rP S (setQ i ρ (spliceO (.ol xs) l h es))
  | .exc x S => .ex x ρ S
  | .stk => .stk
@[simp] theorem kSpD_ok {i : Nat} {xs es : List D} {l h : Option Int} : kSpD i ρ xs es l (.ok h S) = rP S (setQ i ρ (spliceO (.ol xs) l h es)) := rfl
def kSpC (cl : Str → List D → Sto → Res) (i : Nat) (hi : Eo) (ρ : Env1) (xs es : List D) : Rs (Option Int) → Out
  | .ok l S => kSpD i ρ xs es l (evo cl hi ρ S)
  | .exc x S => .ex x ρ S
  | .stk => .stk
@[simp] theorem kSpC_ok {i : Nat} {l : Option Int} {hi : Eo} {xs es : List D} : kSpC cl i hi ρ xs es (.ok l S) = kSpD i ρ xs es l (evo cl hi ρ S) := rfl
def kSpB (cl : Str → List D → Sto → Res) (i : Nat) (lo hi : Eo) (ρ : Env1) (S : Sto) (es : List D) : Option (Option OV) → Out
  | some (some (.ol xs)) => kSpC cl i hi ρ xs es (evo cl lo ρ S)
  | _ => .stk
@[simp] theorem kSpB_some {i : Nat} {lo hi : Eo} {xs es : List D} : kSpB cl i lo hi ρ S es (some (some (.ol xs))) = kSpC cl i hi ρ xs es (evo cl lo ρ S) := rfl
def kSpA (cl : Str → List D → Sto → Res) (f : Bool) (i : Nat) (lo hi : Eo) (ρ : Env1) : Res → Out
  | .ok x S => (match x with
    | .ol es => (match f with
      | true => kSpB cl i lo hi ρ S es ρ[i]?
      | false => .stk)
    | _ => .stk)
  | .exc x S => .ex x ρ S
  | .stk => .stk
@[simp] theorem kSpA_ok {i : Nat} {lo hi : Eo} : kSpA cl true i lo hi ρ (.ok (.ol ds) S) = kSpB cl i lo hi ρ S ds ρ[i]? := rfl
@[simp] theorem exec_setS {i : Nat} {lo hi : Eo} {e : E} : exec cl wf (.setS i lo hi e) ρ S = kSpA cl (fresh e) i lo hi ρ (ev cl e ρ S) := by
  show (ev cl e ρ S).out ρ (fun x S1 => match x with
    | .ol es => if fresh e = true then (match ρ[i]? with
      | some (some (.ol xs)) => (evo cl lo ρ S1).out ρ fun l S3 => (evo cl hi ρ S3).out ρ fun h S4 => (match spliceO (.ol xs) l h es with
        | some ov2 => .nx (ρ.set i (some ov2)) S4
        | none => .stk)
      | _ => .stk) else .stk
    | _ => .stk) = _
  cases ev cl e ρ S with
  | ok x S =>
    cases x with
    | ol es =>
      simp only [Rs.out, kSpA]
      cases fresh e with
      | false => rfl
      | true =>
        simp only [if_true]
        rcases h : ρ[i]? with _ | _ | ov
        · rfl
        · rfl
        · cases ov with
          | ol xs =>
            simp only [kSpB]
            cases evo cl lo ρ S with
            | ok l S =>
              simp only [kSpC]
              cases evo cl hi ρ S with
              | ok h S => simp only [kSpD]; cases spliceO (.ol xs) l h es <;> rfl
              | exc x S => rfl
              | stk => rfl
            | exc x S => rfl
            | stk => rfl
          | _ => rfl
    | _ => rfl
  | exc x S => rfl
  | stk => rfl
def kPopB (cl : Str → List D → Sto → Res) (i : Nat) (k : E) (j : Nat) (ρ : Env1) (S : Sto) : Option (D × OV) → Out
  | some (d, ov1) => kSetO cl i k (ρ.set j (some ov1)) S d (ρ.set j (some ov1))[i]?
  | none => .stk
@[simp] theorem kPopB_some {i j : Nat} {k : E} : kPopB cl i k j ρ S (some (d, x)) = kSetO cl i k (ρ.set j (some x)) S d (ρ.set j (some x))[i]? := rfl
def kPopO (cl : Str → List D → Sto → Res) (i : Nat) (k : E) (j : Nat) (ρ : Env1) (S : Sto) : Option (Option OV) → Out
  | some (some (.ol xs)) => kPopB cl i k j ρ S (mmO .pop (.ol xs) [])
  | _ => .stk
@[simp] theorem kPopO_some {i j : Nat} {k : E} {xs : List D} : kPopO cl i k j ρ S (some (some (.ol xs))) = kPopB cl i k j ρ S (mmO .pop (.ol xs) []) := rfl
@[simp] theorem exec_setP {i j : Nat} {k : E} : exec cl wf (.setP i k j) ρ S = kPopO cl i k j ρ S ρ[j]? := by
  show (match ρ[j]? with
    | some (some (.ol xs)) => (match mmO .pop (.ol xs) [] with
      | some (d, ov1) => _
      | none => Out.stk)
    | _ => Out.stk) = _
  rcases h : ρ[j]? with _ | _ | ov
  · rfl
  · rfl
  · cases ov with
    | ol xs =>
      simp only [kPopO]
      cases mmO .pop (.ol xs) [] with
      | none => rfl
      | some q =>
        obtain ⟨d, ov1⟩ := q
        simp only [kPopB]
        rcases h2 : (ρ.set j (some ov1))[i]? with _ | _ | ov
        · rfl
        · rfl
        · simp only [kSetO]
          cases ev cl k (ρ.set j (some ov1)) S with
          | ok q S =>
            simp only [kSetC, Rs.out]
            cases hq : need false q with
            | none => rfl
            | some q2 => cases hs : setO ov q2 d <;> simp [hs, setR, setQ, rP]
          | exc x S => rfl
          | stk => rfl
    | _ => rfl
def mcR (t : Option Nat) (i : Nat) (ρ : Env1) : Option (D × OV) → Option Env1
  | some (d, ov) => some (match t with | some j => (ρ.set i (some ov)).set j (some (.fr d)) | none => ρ.set i (some ov))
  | none => none
@[simp] theorem mcR_none {i : Nat} : mcR none i ρ (some (d, x)) = some (ρ.set i (some x)) := rfl
@[simp] theorem mcR_some {i j : Nat} : mcR (some j) i ρ (some (d, x)) = some ((ρ.set i (some x)).set j (some (.fr d))) := rfl
def kMc (t : Option Nat) (i : Nat) (m : Mm) (ρ : Env1) (xs : List D) : Rs (List D) → Out
  | .ok ds S => rP S (mcR t i ρ (mmO m (.ol xs) ds))
  | .exc x S => .ex x ρ S
  | .stk => .stk
@[simp] theorem kMc_ok {i : Nat} {t : Option Nat} {m : Mm} {xs : List D} : kMc t i m ρ xs (.ok ds S) = rP S (mcR t i ρ (mmO m (.ol xs) ds)) := rfl
def kMcO (cl : Str → List D → Sto → Res) (t : Option Nat) (i : Nat) (m : Mm) (es : Es) (ρ : Env1) (S : Sto) : Option (Option OV) → Out
  | some (some (.ol xs)) => kMc t i m ρ xs (evs cl es ρ S)
  | _ => .stk
@[simp] theorem kMcO_some {i : Nat} {t : Option Nat} {m : Mm} {es : Es} {xs : List D} : kMcO cl t i m es ρ S (some (some (.ol xs))) = kMc t i m ρ xs (evs cl es ρ S) := rfl
@[simp] theorem exec_mc {i : Nat} {t : Option Nat} {m : Mm} {es : Es} : exec cl wf (.mc t i m es) ρ S = kMcO cl t i m es ρ S ρ[i]? := by
  show (match ρ[i]? with
    | some (some (.ol xs)) => (evs cl es ρ S).out ρ fun ds S1 => _
    | _ => Out.stk) = _
  rcases h : ρ[i]? with _ | _ | ov
  · rfl
  · rfl
  · cases ov with
    | ol xs =>
      simp only [kMcO]
      cases evs cl es ρ S with
      | ok ds S =>
        simp only [Rs.out, kMc, mcR]
        rcases mmO m (.ol xs) ds with _ | ⟨d, o⟩ <;> rfl
      | exc x S => rfl
      | stk => rfl
    | _ => rfl
def kAiC (i : Nat) (ρ : Env1) (o : Op2) (ov : OV) (q a : D) : Res → Out
  | .ok y S => (match augV o a y with
    | some d => rP S (setQ i ρ (setO ov q d))
    | none => .stk)
  | .exc x S => .ex x ρ S
  | .stk => .stk
@[simp] theorem kAiC_add {i : Nat} {ov : OV} {q : D} {a b : Int} : kAiC i ρ .add ov q (.int a) (.ok (.fr (.int b)) S) = rP S (setQ i ρ (setO ov q (.int (a + b)))) := rfl
@[simp] theorem kAiC_sub {i : Nat} {ov : OV} {q : D} {a b : Int} : kAiC i ρ .sub ov q (.int a) (.ok (.fr (.int b)) S) = rP S (setQ i ρ (setO ov q (.int (a - b)))) := rfl
def kAiB (cl : Str → List D → Sto → Res) (i : Nat) (ρ : Env1) (o : Op2) (e : E) (ov : OV) (q : D) (S : Sto) : Option D → Out
  | some a => kAiC i ρ o ov q a (ev cl e ρ S)
  | none => .stk
@[simp] theorem kAiB_some {i : Nat} {o : Op2} {e : E} {ov : OV} {q a : D} : kAiB cl i ρ o e ov q S (some a) = kAiC i ρ o ov q a (ev cl e ρ S) := rfl
def kAiA (cl : Str → List D → Sto → Res) (i : Nat) (ρ : Env1) (o : Op2) (e : E) (ov : OV) : Res → Out
  | .ok q S => (match need false q with
    | some q => kAiB cl i ρ o e ov q S (idxD ov.view q)
    | none => .stk)
  | .exc x S => .ex x ρ S
  | .stk => .stk
@[simp] theorem kAiA_ok {i : Nat} {o : Op2} {e : E} {ov : OV} {q : D} : kAiA cl i ρ o e ov (.ok (.fr q) S) = kAiB cl i ρ o e ov q S (idxD ov.view q) := rfl
def kAiO (cl : Str → List D → Sto → Res) (i : Nat) (k : E) (o : Op2) (e : E) (ρ : Env1) (S : Sto) : Option (Option OV) → Out
  | some (some ov) => (match ov.isOwn with
    | true => kAiA cl i ρ o e ov (ev cl k ρ S)
    | false => .stk)
  | _ => .stk
@[simp] theorem kAiO_ol {i : Nat} {k : E} {o : Op2} {e : E} : kAiO cl i k o e ρ S (some (some (.ol ds))) = kAiA cl i ρ o e (.ol ds) (ev cl k ρ S) := rfl
@[simp] theorem kAiO_od {i : Nat} {k : E} {o : Op2} {e : E} {q kvs} : kAiO cl i k o e ρ S (some (some (.od q kvs))) = kAiA cl i ρ o e (.od q kvs) (ev cl k ρ S) := rfl
@[simp] theorem exec_augI {i : Nat} {k : E} {o : Op2} {e : E} : exec cl wf (.augI i k o e) ρ S = kAiO cl i k o e ρ S ρ[i]? := by
  show (match ρ[i]? with
    | some (some ov) => if ov.isOwn = true then (ev cl k ρ S).out ρ fun q S1 => _ else Out.stk
    | _ => Out.stk) = _
  rcases h : ρ[i]? with _ | _ | ov
  · rfl
  · rfl
  · simp only [kAiO]
    cases hw : ov.isOwn with
    | false => simp
    | true =>
      simp only [if_true]
      cases ev cl k ρ S with
      | ok q S =>
        simp only [Rs.out, kAiA]
        cases need false q with
        | none => rfl
        | some q =>
          simp only
          cases idxD ov.view q with
          | none => rfl
          | some a =>
            simp only [kAiB]
            cases ev cl e ρ S with
            | ok y S =>
              simp only [kAiC]
              cases augV o a y with
              | none => rfl
              | some d => simp only [setQ]; cases setO ov q d <;> rfl
            | exc x S => rfl
            | stk => rfl
      | exc x S => rfl
      | stk => rfl
def augR (o : Op2) (a : D) (i : Nat) (ρ : Env1) : OV → Option Env1
  | .fr b => (match a, b with
    | .int _, .int _ => (match o with
      | .add => (op2 o a b).map fun d => ρ.set i (some (.fr d))
      | .sub => (op2 o a b).map fun d => ρ.set i (some (.fr d))
      | _ => none)
    | _, _ => none)
  | _ => none
@[simp] theorem augR_add {a b : Int} {i : Nat} : augR .add (.int a) i ρ (.fr (.int b)) = some (ρ.set i (some (.fr (.int (a + b))))) := rfl
@[simp] theorem augR_sub {a b : Int} {i : Nat} : augR .sub (.int a) i ρ (.fr (.int b)) = some (ρ.set i (some (.fr (.int (a - b))))) := rfl
def kAugB (o : Op2) (a : D) (i : Nat) (ρ : Env1) : Res → Out
  | .ok x S => rP S (augR o a i ρ x)
  | .exc x S => .ex x ρ S
  | .stk => .stk
@[simp] theorem kAugB_ok {o : Op2} {a : D} {i : Nat} : kAugB o a i ρ (.ok x S) = rP S (augR o a i ρ x) := rfl
def kAug (cl : Str → List D → Sto → Res) (o : Op2) (e : E) (i : Nat) (ρ : Env1) (S : Sto) : Option (Option OV) → Out
  | some (some (.fr a)) => kAugB o a i ρ (ev cl e ρ S)
  | _ => .stk
@[simp] theorem kAug_some {o : Op2} {a : D} {i : Nat} {e : E} : kAug cl o e i ρ S (some (some (.fr a))) = kAugB o a i ρ (ev cl e ρ S) := rfl
@[simp] theorem exec_aug {i : Nat} {o : Op2} {e : E} : exec cl wf (.aug i o e) ρ S = kAug cl o e i ρ S ρ[i]? := by
  show (match ρ[i]? with
    | some (some (.fr a)) => (ev cl e ρ S).out ρ fun x S1 => _
    | _ => Out.stk) = _
  rcases h : ρ[i]? with _ | _ | ov
  · rfl
  · rfl
  · cases ov with
    | fr a =>
      show (ev cl e ρ S).out ρ _ = kAugB o a i ρ (ev cl e ρ S)
      cases ev cl e ρ S with
      | ok x S =>
        simp only [Rs.out, kAugB]
        cases x with
        | fr b =>
          cases a with
          | int a =>
            cases b with
            | int b => cases o <;> rfl
            | _ => rfl
          | _ => rfl
        | _ => rfl
      | exc x S => rfl
      | stk => rfl
    | _ => rfl
def kIte (cl : Str → List D → Sto → Res) (wf : Nat) (a b : Sts) (ρ : Env1) : Res → Out
  | .ok x S => (match x with
    | .fr (.bl true) => execs cl wf a ρ S
    | .fr (.bl false) => execs cl wf b ρ S
    | _ => .stk)
  | .exc x S => .ex x ρ S
  | .stk => .stk
@[simp] theorem kIte_t {a b : Sts} : kIte cl wf a b ρ (.ok (.fr (.bl true)) S) = execs cl wf a ρ S := rfl
@[simp] theorem kIte_f {a b : Sts} : kIte cl wf a b ρ (.ok (.fr (.bl false)) S) = execs cl wf b ρ S := rfl
@[simp] theorem exec_ite {c : E} {a b : Sts} : exec cl wf (.ite c a b) ρ S = kIte cl wf a b ρ (ev cl c ρ S) := by
  show (ev cl c ρ S).out ρ _ = _
  cases ev cl c ρ S <;> rfl
def kFor (cl : Str → List D → Sto → Res) (wf : Nat) (g : Tg) (b : Sts) (ρ : Env1) : Rs (List D) → Out
  | .ok ds S => forGo (execs cl wf b) g ds ρ S
  | .exc x S => .ex x ρ S
  | .stk => .stk
@[simp] theorem kFor_ok {g : Tg} {b : Sts} : kFor cl wf g b ρ (.ok ds S) = forGo (execs cl wf b) g ds ρ S := rfl
@[simp] theorem exec_for {g : Tg} {it : It} {b : Sts} : exec cl wf (.for g it b) ρ S = kFor cl wf g b ρ (evi cl it ρ S) := by
  show (evi cl it ρ S).out ρ _ = _
  cases evi cl it ρ S <;> rfl
def kForI (cl : Str → List D → Sto → Res) (wf : Nat) (g : Tg) (b : Sts) (ρ : Env1) (S : Sto) : Option (Option OV) → Out
  | some (some (.fr (.dct .sc kvs))) => noEx (forGo (execs cl wf b) g (itmD kvs) ρ S)
  | _ => .stk
@[simp] theorem kForI_some {g : Tg} {b : Sts} {kvs : List (D × D)} : kForI cl wf g b ρ S (some (some (.fr (.dct .sc kvs)))) = noEx (forGo (execs cl wf b) g (itmD kvs) ρ S) := rfl
@[simp] theorem noEx_nx : noEx (.nx ρ S) = .nx ρ S := rfl
@[simp] theorem noEx_rt : noEx (.rt x S) = .rt x S := rfl
@[simp] theorem exec_forI {g : Tg} {i : Nat} {b : Sts} : exec cl wf (.forI g i b) ρ S = kForI cl wf g b ρ S ρ[i]? := by
  show (match ρ[i]? with
    | some (some (.fr (.dct .sc kvs))) => noEx (forGo (execs cl wf b) g (itmD kvs) ρ S)
    | _ => Out.stk) = _
  rcases h : ρ[i]? with _ | _ | ov
  · rfl
  · rfl
  · cases ov with
    | fr d => 
      cases d with
      | dct k kvs => cases k <;> rfl
      | _ => rfl
    | _ => rfl
def kMeC (ρ : Env1) (S : Sto) : Option (D × OV) → Out
  | some _ => .nx ρ S
  | none => .stk
@[simp] theorem kMeC_some {p : D × OV} : kMeC ρ S (some p) = .nx ρ S := rfl
def kMeB (m : Mm) (ρ : Env1) (xs : List D) : Rs (List D) → Out
  | .ok ds S => kMeC ρ S (mmO m (.ol xs) ds)
  | .exc x S => .ex x ρ S
  | .stk => .stk
@[simp] theorem kMeB_ok {m : Mm} {xs : List D} : kMeB m ρ xs (.ok ds S) = kMeC ρ S (mmO m (.ol xs) ds) := rfl
def kMeA (cl : Str → List D → Sto → Res) (m : Mm) (es : Es) (ρ : Env1) : Res → Out
  | .ok (.ol xs) S => kMeB m ρ xs (evs cl es ρ S)
  | .ok _ _ => .stk
  | .exc x S => .ex x ρ S
  | .stk => .stk
@[simp] theorem kMeA_ok {m : Mm} {es : Es} {xs : List D} : kMeA cl m es ρ (.ok (.ol xs) S) = kMeB m ρ xs (evs cl es ρ S) := rfl
@[simp] theorem exec_mcE {e : E} {m : Mm} {es : Es} (hf : fresh e = true) : exec cl wf (.mcE e m es) ρ S = kMeA cl m es ρ (ev cl e ρ S) := by
  show (if fresh e = true then _ else _) = _
  rw [if_pos hf]
  cases ev cl e ρ S with
  | ok x S1 =>
    cases x with
    | ol xs =>
      show (evs cl es ρ S1).out ρ _ = kMeB m ρ xs (evs cl es ρ S1)
      cases evs cl es ρ S1 with
      | ok ds S2 =>
        show (match mmO m (.ol xs) ds with | some _ => Out.nx ρ S2 | none => .stk) = kMeC ρ S2 (mmO m (.ol xs) ds)
        cases mmO m (.ol xs) ds <;> rfl
      | exc x S => rfl
      | stk => rfl
    | _ => rfl
  | exc x S => rfl
  | stk => rfl
@[simp] theorem exec_while {c : E} {b : Sts} : exec cl wf (.while c b) ρ S = whGo (ev cl c) (execs cl wf b) wf ρ S := rfl
def kRet (f : Bool) (ρ : Env1) : Res → Out
  | .ok x S => if !x.isBo && (f || x.isFr) then .rt x S else .stk
  | .exc x S => .ex x ρ S
  | .stk => .stk
@[simp] theorem kRet_fr {f : Bool} : kRet f ρ (.ok (.fr d) S) = .rt (.fr d) S := by cases f <;> rfl
@[simp] theorem kRet_ol : kRet true ρ (.ok (.ol ds) S) = .rt (.ol ds) S := rfl
@[simp] theorem kRet_od {k kvs} : kRet true ρ (.ok (.od k kvs) S) = .rt (.od k kvs) S := rfl
@[simp] theorem exec_ret {e : E} : exec cl wf (.ret e) ρ S = kRet (fresh e || isVar e) ρ (ev cl e ρ S) := by
  show (ev cl e ρ S).out ρ _ = _
  cases ev cl e ρ S <;> rfl
@[simp] theorem exec_retN : exec cl wf .retN ρ S = .rt (.fr .non) S := rfl
def kExpr (ρ : Env1) : Res → Out
  | .ok _ S => .nx ρ S
  | .exc x S => .ex x ρ S
  | .stk => .stk
@[simp] theorem kExpr_ok : kExpr ρ (.ok x S) = .nx ρ S := rfl
@[simp] theorem exec_expr {e : E} : exec cl wf (.expr e) ρ S = kExpr ρ (ev cl e ρ S) := by
  show (ev cl e ρ S).out ρ _ = _
  cases ev cl e ρ S <;> rfl
@[simp] theorem exec_brk : exec cl wf .brk ρ S = .bk ρ S := rfl
@[simp] theorem exec_cont : exec cl wf .cont ρ S = .ct ρ S := rfl
@[simp] theorem exec_pass : exec cl wf .pass ρ S = .nx ρ S := rfl
@[simp] theorem exec_frz {is : List Nat} : exec cl wf (.frz is) ρ S = .nx (frzR ρ is) S := rfl
/-! loops -/
def kForB (f : Env1 → Sto → Out) (g : Tg) (ds : List D) : Out → Out
  | .nx ρ2 S2 => forGo f g ds ρ2 S2
  | .ct ρ2 S2 => forGo f g ds ρ2 S2
  | .bk ρ2 S2 => .nx ρ2 S2
  | .rt ov S2 => .rt ov S2
  | .ex x ρ2 S2 => .ex x ρ2 S2
  | .stk => .stk
@[simp] theorem kForB_nx {f g} : kForB f g ds (.nx ρ S) = forGo f g ds ρ S := rfl
@[simp] theorem kForB_ct {f g} : kForB f g ds (.ct ρ S) = forGo f g ds ρ S := rfl
@[simp] theorem kForB_bk {f g} : kForB f g ds (.bk ρ S) = .nx ρ S := rfl
@[simp] theorem kForB_rt {f g} : kForB f g ds (.rt x S) = .rt x S := rfl
@[simp] theorem kForB_ex {f g} : kForB f g ds (.ex xn ρ S) = .ex xn ρ S := rfl
def kForA (f : Env1 → Sto → Out) (g : Tg) (ds : List D) (S : Sto) : Option Env1 → Out
  | some ρ1 => kForB f g ds (f ρ1 S)
  | none => .stk
@[simp] theorem kForA_some {f g} : kForA f g ds S (some ρ) = kForB f g ds (f ρ S) := rfl
theorem forGo_nil {f g} : forGo f g [] ρ S = .nx ρ S := rfl
theorem forGo_cons {f g} : forGo f g (d :: ds) ρ S = kForA f g ds S (g.put d ρ) := by
  show (match g.put d ρ with | none => Out.stk | some ρ1 => _) = _
  cases g.put d ρ with
  | none => rfl
  | some ρ1 => simp only [kForA]; cases f ρ1 S <;> rfl
@[simp] theorem put_one {i : Nat} : (Tg.one i).put d ρ = some (ρ.set i (some (.fr d))) := rfl
@[simp] theorem put_many {is : List Nat} : (Tg.many is).put (.tup ds) ρ = putAll is ds ρ := rfl
@[simp] theorem put_manyL {is : List Nat} : (Tg.many is).put (.lst ds) ρ = putAll is ds ρ := rfl
theorem putAll_nil : putAll [] [] ρ = some ρ := rfl
theorem putAll_cons {i : Nat} {is : List Nat} : putAll (i :: is) (d :: ds) ρ = putAll is ds (ρ.set i (some (.fr d))) := rfl
def kWhB (c : Env1 → Sto → Res) (f : Env1 → Sto → Out) (n : Nat) : Out → Out
  | .nx ρ2 S2 => whGo c f n ρ2 S2
  | .ct ρ2 S2 => whGo c f n ρ2 S2
  | .bk ρ2 S2 => .nx ρ2 S2
  | .rt ov S2 => .rt ov S2
  | .ex x ρ2 S2 => .ex x ρ2 S2
  | .stk => .stk
@[simp] theorem kWhB_nx {c f n} : kWhB c f n (.nx ρ S) = whGo c f n ρ S := rfl
@[simp] theorem kWhB_ct {c f n} : kWhB c f n (.ct ρ S) = whGo c f n ρ S := rfl
@[simp] theorem kWhB_bk {c f n} : kWhB c f n (.bk ρ S) = .nx ρ S := rfl
@[simp] theorem kWhB_rt {c f n} : kWhB c f n (.rt x S) = .rt x S := rfl
@[simp] theorem kWhB_ex {c f n} : kWhB c f n (.ex xn ρ S) = .ex xn ρ S := rfl
def kWhA (c : Env1 → Sto → Res) (f : Env1 → Sto → Out) (n : Nat) (ρ : Env1) : Res → Out
  | .ok x S => (match x with
    | .fr (.bl true) => kWhB c f n (f ρ S)
    | .fr (.bl false) => .nx ρ S
    | _ => .stk)
  | .exc x S => .ex x ρ S
  | .stk => .stk
@[simp] theorem kWhA_t {c f n} : kWhA c f n ρ (.ok (.fr (.bl true)) S) = kWhB c f n (f ρ S) := rfl
@[simp] theorem kWhA_f {c f n} : kWhA c f n ρ (.ok (.fr (.bl false)) S) = .nx ρ S := rfl
theorem whGo_succ {c f n} : whGo c f (n + 1) ρ S = kWhA c f n ρ (c ρ S) := by
  unfold whGo
  cases c ρ S with
  | ok x S =>
    cases x with
    | fr d =>
      cases d with
      | bl b =>
        cases b with
        | true => simp only [kWhA]; cases f ρ S <;> rfl
        | false => rfl
      | _ => rfl
    | _ => rfl
  | exc x S => rfl
  | stk => rfl
def kLcD (c e : Env1 → Sto → Res) (f : Bool) (g : Tg) (ρ : Env1) (ds acc : List D) (S : Sto) : Option D → Rs (List D)
  | some y => if acc.length < lim then lcGo c e f g ρ ds (acc ++ [y]) S else .stk
  | none => .stk
def kLcC (c e : Env1 → Sto → Res) (f : Bool) (g : Tg) (ρ : Env1) (ds acc : List D) : Res → Rs (List D)
  | .ok ov S2 => kLcD c e f g ρ ds acc S2 (need f ov)
  | _ => .stk
def kLcT (c e : Env1 → Sto → Res) (f : Bool) (g : Tg) (ρ ρ1 : Env1) (ds acc : List D) : Res → Rs (List D)
  | .ok x S1 => (match x with
    | .fr (.bl true) => kLcC c e f g ρ ds acc (e ρ1 S1)
    | .fr (.bl false) => lcGo c e f g ρ ds acc S1
    | _ => .stk)
  | _ => .stk
def kLcP (c e : Env1 → Sto → Res) (f : Bool) (g : Tg) (ρ : Env1) (ds acc : List D) (S : Sto) : Option Env1 → Rs (List D)
  | some ρ1 => kLcT c e f g ρ ρ1 ds acc (c ρ1 S)
  | none => .stk
theorem lcGo_nil {c e f g} {acc : List D} : lcGo c e f g ρ [] acc S = .ok acc S := rfl
theorem lcGo_cons {c e f g} {acc : List D} : lcGo c e f g ρ (d :: ds) acc S = kLcP c e f g ρ ds acc S (g.put d ρ) := by
  rw [lcGo]
  cases g.put d ρ with
  | none => rfl
  | some ρ1 =>
    simp only [kLcP]
    cases c ρ1 S with
    | ok x S1 =>
      cases x with
      | fr q =>
        cases q with
        | bl b =>
          cases b with
          | false => rfl
          | true =>
            simp only [kLcT]
            cases e ρ1 S1 with
            | ok ov S2 => simp only [kLcC]; cases need f ov <;> rfl
            | exc x S => rfl
            | stk => rfl
        | _ => rfl
      | _ => rfl
    | exc x S => rfl
    | stk => rfl
@[simp] theorem kLcD_some {c e f g} {acc : List D} {y : D} (h : acc.length < lim) : kLcD c e f g ρ ds acc S (some y) = lcGo c e f g ρ ds (acc ++ [y]) S := by
  simp only [kLcD, if_pos h]
@[simp] theorem kLcC_ok {c e f g} {acc : List D} : kLcC c e f g ρ ds acc (.ok x S) = kLcD c e f g ρ ds acc S (need f x) := rfl
@[simp] theorem kLcT_t {c e f g} {ρ1 : Env1} {acc : List D} : kLcT c e f g ρ ρ1 ds acc (.ok (.fr (.bl true)) S) = kLcC c e f g ρ ds acc (e ρ1 S) := rfl
@[simp] theorem kLcT_f {c e f g} {ρ1 : Env1} {acc : List D} : kLcT c e f g ρ ρ1 ds acc (.ok (.fr (.bl false)) S) = lcGo c e f g ρ ds acc S := rfl
@[simp] theorem kLcP_some {c e f g} {ρ1 : Env1} {acc : List D} : kLcP c e f g ρ ds acc S (some ρ1) = kLcT c e f g ρ ρ1 ds acc (c ρ1 S) := rfl
@[simp] theorem res_nx : (Out.nx ρ S).res = .ok (.fr .non) S := rfl
@[simp] theorem res_rt : (Out.rt x S).res = .ok x S := rfl
@[simp] theorem res_ex : (Out.ex xn ρ S).res = .exc xn S := rfl
/-- a call -/
theorem run_succ {G : Str → Option Fn} {n : Nat} {f : Str} {fn : Fn} (h : G f = some fn) (hl : ds.length = fn.ps) : run G wf (n + 1) f ds S = (execs (run G wf n) wf fn.body (startR fn ds) S).res := by
  simp only [run, h, if_pos hl]
end
end Sg
namespace Sg
open PySem PySem.Spec PyProof.Rows L2

/-! ### what a result stands for -/
inductive RepW (K : PySem.W.Frag) (f : Bool) (W0 : Wd) (H0 : Hp) (W : Wd) (H : Hp) : OV → V → Prop
  | fr {d v} : RepD K W.Z W.mu d v → RepW K f W0 H0 W H (.fr d) v
  | bo {ov a o} : Rd H a o → RepH K W ov o → RepW K f W0 H0 W H (.bo ov.view) (.ref a)
  | ow {ov a o} : H a = some o → RepH K W ov o → (W.O a = none ∧ W.Z a = none) → (f = true → W.Z a = none ∧ ¬ W.own a ∧ (W0.own a ∨ H0 a = none)) → RepW K f W0 H0 W H ov (.ref a)
/-- a value to be looked at -/
def RepV (K : PySem.W.Frag) (W : Wd) (H : Hp) : D → V → Prop
  | .tup ds, v => ∃ a vs, v = .ref a ∧ H a = some (.tup vs) ∧ W.Z a = some (.tup vs) ∧ RepDs K W.Z W.mu ds vs
  | .lst ds, v => ∃ a vs, v = .ref a ∧ SqL K H a vs ∧ RepDs K W.Z W.mu ds vs
  | .dct .sc kvs, v => ∃ a ws, v = .ref a ∧ Rd H a (.dK ws) ∧ RepKs K W.Z W.mu kvs ws
  | .dct .tp kvs, v => ∃ a ws, v = .ref a ∧ Rd H a (.dT ws) ∧ RepKt K W.Z W.mu kvs ws
  | d, v => RepD K W.Z W.mu d v
def RepX (K : PySem.W.Frag) (ca : Str → Addr) (W : Wd) (H : Hp) (x : Exn) (cls : Value) (dx : Option Addr) : Prop :=
  cls = .ref (ca x.cls) ∧ (x.fs ≠ [] → ∃ dd vfs, dx = some dd ∧ H dd = some (.xd vfs) ∧ ∀ f d, x.fs.lookup f = some d → ∃ v, vfs.lookup f = some v ∧ RepD K W.Z W.mu d v)
section
variable {K : PySem.W.Frag} {ca : Str → Addr} {f : Bool} {W0 W W' : Wd} {H0 H H' : Hp} {ov : OV} {v : V} {d : D}
theorem RepD.toV (I : Inw W H) (h : RepD K W.Z W.mu d v) : RepV K W H d v := by
  cases d with
  | tup ds => obtain ⟨a, vs, e, s, r⟩ := h; exact ⟨a, vs, e, tup_up I s, s, r⟩
  | lst ds => obtain ⟨a, vs, e, s, r⟩ := h; exact ⟨a, vs, e, SqL.up I s, r⟩
  | dct k kvs => cases k <;> (obtain ⟨a, vs, e, s, r⟩ := h; exact ⟨a, vs, e, Rd.up I s, r⟩)
  | _ => exact h
theorem RepH.toVR {a : Addr} {o : HO} (e : Rd H a o) (h : RepH K W ov o) : RepV K W H ov.view (.ref a) := by
  cases ov with
  | fr d => exact h.elim
  | bo d => exact h.elim
  | ol ds => obtain ⟨vs, rfl, r⟩ := h; exact ⟨a, vs, rfl, .inl e, r⟩
  | od k kvs => cases k <;> (obtain ⟨ws, rfl, r⟩ := h; exact ⟨a, ws, rfl, e, r⟩)
theorem RepH.toV {a : Addr} {o : HO} (e : H a = some o) (h : RepH K W ov o) : RepV K W H ov.view (.ref a) := RepH.toVR (.inl e) h
theorem RepW.toV (I : Inw W H) (h : RepW K f W0 H0 W H ov v) : RepV K W H ov.view v := by
  cases h with
  | fr h => exact RepD.toV I h
  | @bo ov' a o e r => exact RepH.toVR (ov := ov') e r
  | ow e r _ _ => exact r.toV e
theorem RepW.toD (h : RepW K f W0 H0 W H (.fr d) v) : RepD K W.Z W.mu d v := by
  cases h with
  | fr h => exact h
  | ow e r _ _ => exact r.elim
/-- what is not borrowed stays -/
theorem RepW.stay (I : Inw W H) (I' : Inw W' H') (p : PostE W H W' H') (nb : ov.isBo = false) (h : RepW K f W0 H0 W H ov v) : RepW K f W0 H0 W' H' ov v := by
  cases h with
  | fr h => exact .fr (h.post p.p)
  | bo e r => cases nb
  | @ow _ a o e r hO hf =>
    have e' : H' a = some o := by
      cases hl : W.L a with
      | none => exact p.p.stay e (by rintro (z | z); exact z hl; exact z hO.1) hO.2
      | some i => rw [p.lh a i hl]; exact e
    have hZ' : W'.Z a = none := by
      cases q : W'.Z a with
      | none => rfl
      | some z =>
        cases hl : W.L a with
        | some i => exact absurd (.inl (by rw [p.ll a, hl]; exact nofun)) (I'.zo a z q)
        | none =>
          rcases p.p.zn a z q with y | (y | y) | y
          · rw [hO.2] at y; cases y
          · exact absurd hl y
          · exact absurd hO.1 y
          · rw [e] at y; cases y
    have hO' : W'.O a = none := by
      cases hl : W.L a with
      | some i => exact I'.lo a i ((p.ll a).trans hl)
      | none =>
        cases q : W'.O a with
        | none => rfl
        | some z =>
          rcases p.p.on a (.inr (by rw [q]; exact nofun)) with (y | y) | y
          · exact absurd hl y
          · exact absurd hO.1 y
          · rw [e] at y; cases y
    refine .ow e' (r.post p.p) ⟨hO', hZ'⟩ fun t => ?_
    obtain ⟨h1, h2, h3⟩ := hf t
    refine ⟨?_, ?_, h3⟩
    · cases q : W'.Z a with
      | none => rfl
      | some z =>
        rcases p.p.zn a z q with y | y | y
        · rw [h1] at y; cases y
        · exact absurd y h2
        · rw [e] at y; cases y
    · intro z
      rcases p.p.on a z with y | y
      · exact h2 y
      · rw [e] at y; cases y
/-- the start moved ahead -/
theorem RepW.back {W1 : Wd} {H1 : Hp} (p : PostE W H W1 H1) (h : RepW K f W1 H1 W' H' ov v) : RepW K f W H W' H' ov v := by
  cases h with
  | fr h => exact .fr h
  | bo e r => exact .bo e r
  | @ow _ a o e r hO hf =>
    refine .ow e r hO fun t => ?_
    obtain ⟨h1, h2, h3⟩ := hf t
    refine ⟨h1, h2, ?_⟩
    by_cases hw : W.own a
    · exact .inl hw
    · rcases h3 with z | z
      · exact p.p.on a z
      · exact .inr (p.p.dead z hw)
theorem RepW.ff (h : RepW K f W0 H0 W H ov v) : RepW K false W0 H0 W H ov v := by
  cases h with
  | fr h => exact .fr h
  | bo e r => exact .bo e r
  | ow e r hO _ => exact .ow e r hO nofun
end

/-! ### answers -/
section
variable (K : PySem.W.Frag) (ca : Str → Addr) (Wx : WX)
def Ans {α β : Type} (rp : Wd → Hp → α → β → Prop) (q : Bool) (W : Wd) (H : Hp) (S : Sto) (σ : L2.St) (Q : β → Hp → Prop) : Rs α → Prop
  | .ok a S' => ∀ b H' W', PostE W H W' H' → Inw W' H' → StoOk K ca W' H' S' → rp W' H' a b → (q = true → W' = W ∧ H' = H ∧ S' = S) → Q b H'
  | .exc x S' => ∀ cls dx H' W', PostE W H W' H' → Inw W' H' → StoOk K ca W' H' S' → RepX K ca W' H' x cls dx → Wx cls dx σ H'
  | .stk => False
variable (cl : Str → List D → Sto → Res)
def tE (e : E) : TE := fun σ H Q => ∃ W ρ S, Rel K ca W H ρ S σ ∧ Ans K ca Wx (RepW K (fresh e) W H) (quiet e) W H S σ Q (ev cl e ρ S)
def tEA (es : Es) : TE := fun σ H Q => ∃ W ρ S, Rel K ca W H ρ S σ ∧ Ans K ca Wx (RepW K false W H) false W H S σ Q (evA cl es ρ S)
def tER (es : Es) : TE := fun σ H Q => ∃ W ρ S, Rel K ca W H ρ S σ ∧ Ans K ca Wx (RepW K false W H) false W H S σ Q (evR cl es ρ S)
def tEs (es : Es) : TA := fun σ H Q => ∃ W ρ S, Rel K ca W H ρ S σ ∧ Ans K ca Wx (fun W' _ ds vs => RepDs K W'.Z W'.mu ds vs) false W H S σ Q (evs cl es ρ S)
inductive RepWs (K : PySem.W.Frag) (W : Wd) (H : Hp) : List OV → List V → Prop
  | nil : RepWs K W H [] []
  | cons {ov v ovs vs} : RepW K false W H W H ov v → RepWs K W H ovs vs → RepWs K W H (ov :: ovs) (v :: vs)
def tEv (es : Es) : TA := fun σ H Q => ∃ W ρ S, Rel K ca W H ρ S σ ∧ Ans K ca Wx (RepWs K) (quiets es) W H S σ Q (evv cl es ρ S)
def tEo (e : Eo) : TO := fun σ H Q => ∃ W ρ S, Rel K ca W H ρ S σ ∧ Ans K ca Wx (fun _ _ (a b : Option Int) => a = b) false W H S σ Q (evo cl e ρ S)
end
section
variable {K : PySem.W.Frag} {ca : Str → Addr} {Wx : WX} {α β γ δ : Type} {rp : Wd → Hp → α → β → Prop} {rp1 : Wd → Hp → γ → δ → Prop} {q q1 q2 : Bool} {W W1 : Wd} {H H1 : Hp} {S S1 : Sto} {σ : L2.St} {Q : β → Hp → Prop} {Q1 : δ → Hp → Prop}
theorem Ans.bind {r : Rs γ} {k : γ → Sto → Rs α} (h : Ans K ca Wx rp q W H S σ Q (r.bind k))
    (hk : ∀ a S1 b H1 W1, r = .ok a S1 → PostE W H W1 H1 → Inw W1 H1 → StoOk K ca W1 H1 S1 → rp1 W1 H1 a b → (q1 = true → W1 = W ∧ H1 = H ∧ S1 = S) → Ans K ca Wx rp q W H S σ Q (k a S1) → Q1 b H1) :
    Ans K ca Wx rp1 q1 W H S σ Q1 r := by
  cases r with
  | ok a S1 => exact fun b H' W' p i s r g => hk a S1 b H' W' rfl p i s r g h
  | exc x S1 => exact h
  | stk => exact h
/-- the start moved on -/
theorem Ans.move {r : Rs α} (h : Ans K ca Wx rp q W H S σ Q r) (p : PostE W H W1 H1) (g : q2 = true → q = true → W1 = W ∧ H1 = H ∧ S1 = S) (hq : q = true → q2 = true) : Ans K ca Wx rp q2 W1 H1 S1 σ Q r := by
  cases r with
  | ok a S2 =>
    refine fun b H' W' p' i s r' g' => h b H' W' (p.trans p') i s r' fun t => ?_
    obtain ⟨e1, e2, e3⟩ := g (hq t) t
    obtain ⟨e4, e5, e6⟩ := g' (hq t)
    exact ⟨e4.trans e1, e5.trans e2, e6.trans e3⟩
  | exc x S2 => exact fun cls dx H' W' p' i s r' => h cls dx H' W' (p.trans p') i s r'
  | stk => exact h
theorem PEi {X : Cx} {e : Expr} {t t' : TE} (h : PE X e t) (i : ∀ σ H Q, t' σ H Q → t σ H Q) : PE X e t' := ⟨fun pins s σ H Q I hq => h.run pins s σ H Q I (i σ H Q hq)⟩
theorem PTi {X : Cx} {e : Expr} {t t' : TT} (h : PT X e t) (i : ∀ σ H Q, t' σ H Q → t σ H Q) : PT X e t' := ⟨fun pins s σ H Q I hq => h.run pins s σ H Q I (i σ H Q hq)⟩
theorem PWi {X : Cx} {e : Expr} {t t' : TT} (h : PW X e t) (i : ∀ σ H Q, t' σ H Q → t σ H Q) : PW X e t' := ⟨fun wh pins s σ H Q I hq => h.run wh pins s σ H Q I (i σ H Q hq)⟩
theorem PSi {X : Cx} {e : Stmt} {t t' : TS} (h : PS X e t) (i : ∀ D σ H, t' D σ H → t D σ H) : PS X e t' := ⟨fun pins s σ H D I hq => h.run pins s σ H D I (i D σ H hq)⟩
theorem PSsi {X : Cx} {e : List Stmt} {t t' : TS} (h : PSs X e t) (i : ∀ D σ H, t' D σ H → t D σ H) : PSs X e t' := ⟨fun pins s σ H D I hq => h.run pins s σ H D I (i D σ H hq)⟩
theorem PEor {X : Cx} {e : Expr} {t t' : TE} (h : PE X e t) (h' : PE X e t') : PE X e (fun σ H Q => t σ H Q ∨ t' σ H Q) := ⟨fun pins s σ H Q I hq => hq.elim (h.run pins s σ H Q I) (h'.run pins s σ H Q I)⟩
theorem PIor {X : Cx} {tg e : Expr} {t t' : TI} (h : PI X tg e t) (h' : PI X tg e t') : PI X tg e (fun σ H Q => t σ H Q ∨ t' σ H Q) := ⟨fun pins s σ H Q I hq => hq.elim (h.run pins s σ H Q I) (h'.run pins s σ H Q I)⟩
theorem PIi {X : Cx} {tg e : Expr} {t t' : TI} (h : PI X tg e t) (i : ∀ σ H Q, t' σ H Q → t σ H Q) : PI X tg e t' := ⟨fun pins s σ H Q I hq => h.run pins s σ H Q I (i σ H Q hq)⟩
theorem OpRi {X : Cx} {f : Value → Value → Sem Value} {r r' : R2} (h : OpR X f r) (i : ∀ x y H Q, r' x y H Q → r x y H Q) : OpR X f r' := fun pins s σ H x y v u Q I r1 r2 hq => h pins s σ H x y v u Q I r1 r2 (i x y H Q hq)
end
end Sg
namespace Sg
open PySem PySem.Spec PyProof.Rows L2

/-! ### operators -/
section
variable {K : PySem.W.Frag} {Z : Hp} {mu : Nat → Option Addr} {H : Hp}
mutual
theorem toDp (hT : ∀ a vs, Z a = some (.tup vs) → H a = some (.tup vs)) (hL : ∀ a vs, SqL K Z a vs → SqL K H a vs) : ∀ (d : D) (v : V), RepD K Z mu d v → okD d = true → Dp K H v (toPy d)
  | .non, _, h, _ => by cases h; exact .non
  | .bl b, _, h, _ => by cases h; exact .bl b
  | .int b, _, h, _ => by cases h; exact .int b
  | .str b, _, h, _ => by cases h; exact .str b
  | .tup ds, _, ⟨a, vs, e, s, r⟩, o => by subst e; exact .tup (SqT.of (hT _ _ s)) (toDps hT hL ds vs r o)
  | .ctup ds, _, ⟨a, vs, e, s, r⟩, o => by subst e; exact .tup (SqTwr s) (toDps hT hL ds vs r o)
  | .lst ds, _, ⟨a, vs, e, s, r⟩, o => by subst e; exact .lst (hL _ _ s) (toDps hT hL ds vs r o)
  | .dct _ _, _, _, o => by cases o
  | .ref _, _, _, o => by cases o
theorem toDps (hT : ∀ a vs, Z a = some (.tup vs) → H a = some (.tup vs)) (hL : ∀ a vs, SqL K Z a vs → SqL K H a vs) : ∀ (ds : List D) (vs : List V), RepDs K Z mu ds vs → okDs ds = true → DpAll K H vs (toPys ds)
  | [], _, h, _ => by cases h; exact .nil
  | d :: ds, _, ⟨v, r, e, h1, h2⟩, o => by
    subst e
    have o' : (okD d && okDs ds) = true := o
    rw [Bool.and_eq_true] at o'
    exact .cons (toDp hT hL d v h1 o'.1) (toDps hT hL ds r h2 o'.2)
end
mutual
theorem lay_of : ∀ d : D, okD d = true → (toPy d).canLay0 = true
  | .non, _ => rfl
  | .bl b, _ => rfl
  | .int b, _ => rfl
  | .str b, h => h
  | .tup ds, o => lays_of ds o
  | .ctup ds, o => lays_of ds o
  | .lst ds, o => lays_of ds o
  | .dct _ _, o => by cases o
  | .ref _, o => by cases o
theorem lays_of : ∀ d : List D, okDs d = true → PyData.canLayAll0 (toPys d) = true
  | [], _ => rfl
  | d :: ds, o => by
    have o' : (okD d && okDs ds) = true := o
    rw [Bool.and_eq_true] at o'
    show ((toPy d).canLay0 && PyData.canLayAll0 (toPys ds)) = true
    rw [lay_of d o'.1, lays_of ds o'.2]; rfl
end
mutual
theorem dep_of : ∀ d : D, okD d = true → (toPy d).depth = depD d
  | .non, _ => rfl
  | .bl b, _ => rfl
  | .int b, _ => rfl
  | .str b, h => rfl
  | .tup ds, o => by show PyData.depthAll (toPys ds) + 1 = depDs ds + 1; rw [deps_of ds o]
  | .ctup ds, o => by show PyData.depthAll (toPys ds) + 1 = depDs ds + 1; rw [deps_of ds o]
  | .lst ds, o => by show PyData.depthAll (toPys ds) + 1 = depDs ds + 1; rw [deps_of ds o]
  | .dct _ _, o => by cases o
  | .ref _, o => by cases o
theorem deps_of : ∀ d : List D, okDs d = true → PyData.depthAll (toPys d) = depDs d
  | [], _ => rfl
  | d :: ds, o => by
    have o' : (okD d && okDs ds) = true := o
    rw [Bool.and_eq_true] at o'
    show max (toPy d).depth (PyData.depthAll (toPys ds)) = max (depD d) (depDs ds)
    rw [dep_of d o'.1, deps_of ds o'.2]
end
end
section
variable {X : Cx}
/-- == of data, the depth of one of both small -/
def rEqG (K : PySem.W.Frag) : R2 := fun x y H Q => ∃ d e, Dp K H x d ∧ Dp K H y e ∧ d.canLay0 = true ∧ e.canLay0 = true ∧ min d.depth e.depth ≤ 100 ∧ Q (.bl (PyData.eqv d e)) H
def rNeG (K : PySem.W.Frag) : R2 := fun x y H Q => ∃ d e, Dp K H x d ∧ Dp K H y e ∧ d.canLay0 = true ∧ e.canLay0 = true ∧ min d.depth e.depth ≤ 100 ∧ Q (.bl (!PyData.eqv d e)) H
theorem op_eqG (hu : X.A.units + 200 < cLine) : OpR X (compareOp .Eq) (rEqG X.K) := by
  intro pins s σ H x y v u Q I rx ry h
  obtain ⟨d, e, hd, he, sd, se, dp, q⟩ := h
  obtain ⟨as, r1⟩ := Dp.reads I d x v hd rx
  obtain ⟨bs, r2⟩ := Dp.reads I e y u he ry
  exact SeqAt.compareEq_reads r1 r2 sd se (by omega) ⟨.bl _, H, I, rfl, q⟩
theorem op_neG (hu : X.A.units + 200 < cLine) : OpR X (compareOp .NotEq) (rNeG X.K) := by
  intro pins s σ H x y v u Q I rx ry h
  obtain ⟨d, e, hd, he, sd, se, dp, q⟩ := h
  obtain ⟨as, r1⟩ := Dp.reads I d x v hd rx
  obtain ⟨bs, r2⟩ := Dp.reads I e y u he ry
  exact SeqAt.compareNe_reads r1 r2 sd se (by omega) ⟨.bl _, H, I, rfl, q⟩
/-- == of dicts -/
inductive HitsD (K : PySem.W.Frag) (H : Hp) (ls : List (Key × V)) : List (Key × V) → Bool → Prop
  | nil : HitsD K H ls [] true
  | miss {k : Key} {v : V} {r : List (Key × V)} : valV ls k = none → HitsD K H ls ((k, v) :: r) false
  | hit {k : Key} {v y : V} {r : List (Key × V)} {d e : PyData} {b : Bool} : valV ls k = some y → Dp K H v d → Dp K H y e → d.canLay0 = true → e.canLay0 = true → min d.depth e.depth ≤ 100 → HitsD K H ls r b → HitsD K H ls ((k, v) :: r) (PyData.eqv d e && b)
theorem hitsD_run {pins : List (Addr × Obj)} {σ : L2.St} {H : Hp} {s : Shared} (I : Inv X pins σ H s) {A : Around} (hu : A.units + 150 < cLine) {ls : List (Key × V)} {vb : List (Key × Value)} (rb : KV ls vb) {ks : List (Key × V)} {r : Bool} (h : HitsD X.K H ls ks r) :
    ∀ {va : List (Key × Value)}, KV ks va → PySem.W.KeqHits A s vb va r := by
  induction h with
  | nil => intro va ra; cases ra; exact .nil
  | @miss k v r hn =>
    intro va ra
    cases ra with
    | @cons _ q _ qs a b =>
      obtain ⟨k2, u⟩ := q
      obtain ⟨h1, h2⟩ := a
      cases (show k = k2 from h1)
      exact .miss (RelO.none_of (by rw [← hn]; exact rb.val k))
  | @hit k v y r d e b hy hd he cd ce dp _ ih =>
    intro va ra
    cases ra with
    | @cons _ q _ qs a b =>
      obtain ⟨k2, u⟩ := q
      obtain ⟨h1, h2⟩ := a
      cases (show k = k2 from h1)
      have rr : RelO (some y) (valueAt vb k) := by rw [← hy]; exact rb.val k
      obtain ⟨w, hw, rw'⟩ := rr.some_of
      obtain ⟨as, r1⟩ := Dp.reads I d v u hd h2
      obtain ⟨bs, r2⟩ := Dp.reads I e y w he rw'
      exact .hit hw (SeqAt.eqAt_reads d e A s u w as bs r1 r2 cd ce (by omega)) (ih b)
def rEqM (K : PySem.W.Frag) (g : Bool → Bool) : R2 := fun x y H Q => ∃ a b ks ls r, x = .ref a ∧ y = .ref b ∧ Rd H a (.dK ks) ∧ Rd H b (.dK ls) ∧ (ks.length = ls.length → HitsD K H ls ks r) ∧ Q (.bl (g (ks.length == ls.length && r))) H
theorem op_eqM (hu : X.A.units + 200 < cLine) : OpR X (compareOp .Eq) (rEqM X.K id) := by
  intro pins s σ H x y v u Q I rx ry h
  obtain ⟨a, b, ks, ls, r, rfl, rfl, ea, eb, hits, q⟩ := h
  obtain rfl : v = Value.ref a := rx
  obtain rfl : u = Value.ref b := ry
  obtain ⟨_, ya, va, ra, da⟩ := dk_rd I.hok ea
  obtain ⟨_, yb, vb, rb, db⟩ := dk_rd I.hok eb
  refine PySem.W.keq_eq (knd := mixKind X.prog X.w) (r := r) ya yb da db (by omega) (fun hl => hitsD_run I (by show X.A.units + 1 + 150 < cLine; omega) rb (hits (by rw [ra.length, rb.length]; exact hl)) ra) ?_
  refine ⟨.bl _, H, I, ?_, q⟩
  rw [← ra.length, ← rb.length]
  rfl
theorem op_neM (hu : X.A.units + 200 < cLine) : OpR X (compareOp .NotEq) (rEqM X.K fun b => !b) := by
  intro pins s σ H x y v u Q I rx ry h
  obtain ⟨a, b, ks, ls, r, rfl, rfl, ea, eb, hits, q⟩ := h
  obtain rfl : v = Value.ref a := rx
  obtain rfl : u = Value.ref b := ry
  obtain ⟨_, ya, va, ra, da⟩ := dk_rd I.hok ea
  obtain ⟨_, yb, vb, rb, db⟩ := dk_rd I.hok eb
  refine PySem.W.keq_ne (knd := mixKind X.prog X.w) (r := r) ya yb da db (by omega) (fun hl => hitsD_run I (by show X.A.units + 1 + 150 < cLine; omega) rb (hits (by rw [ra.length, rb.length]; exact hl)) ra) ?_
  refine ⟨.bl _, H, I, ?_, q⟩
  rw [← ra.length, ← rb.length]
  rfl
def rInG (K : PySem.W.Frag) (neg : Bool) : R2 := fun x y H Q => ∃ d ds, Dp K H x d ∧ (Dp K H y (.list ds) ∨ Dp K H y (.tuple ds)) ∧ d.canLay0 = true ∧ PyData.canLayAll0 ds = true ∧ d.depth ≤ 100 ∧ Q (.bl (if neg then !(ds.any fun z => PyData.eqv z d) else ds.any fun z => PyData.eqv z d)) H
theorem op_inG (hu : X.A.units + 200 < cLine) : OpR X (compareOp .In) (rInG X.K false) := by
  intro pins s σ H x y v u Q I rx ry h
  obtain ⟨d, ds, hd, he, sd, se, dp, q⟩ := h
  obtain ⟨as, r1⟩ := Dp.reads I d x v hd rx
  rcases he with he | he
  · obtain ⟨bs, r2⟩ := Dp.reads I (.list ds) y u he ry
    exact SeqAt.in_list_reads r2 r1 se sd (by omega) ⟨.bl _, H, I, rfl, q⟩
  · obtain ⟨bs, r2⟩ := Dp.reads I (.tuple ds) y u he ry
    cases r2 with
    | tuple h1 h2 h3 h4 => exact SeqAt.in_tupleAt _ ⟨_, h1, h2, _, h3⟩ (SeqAt.items_eqAt h4 r1 se sd (by omega)) (by rw [SeqAt.any_by_data h4 se]; exact ⟨.bl _, H, I, rfl, q⟩)
theorem op_notInG (hu : X.A.units + 200 < cLine) : OpR X (compareOp .NotIn) (rInG X.K true) := by
  intro pins s σ H x y v u Q I rx ry h
  obtain ⟨d, ds, hd, he, sd, se, dp, q⟩ := h
  obtain ⟨as, r1⟩ := Dp.reads I d x v hd rx
  rcases he with he | he
  · obtain ⟨bs, r2⟩ := Dp.reads I (.list ds) y u he ry
    exact SeqAt.notIn_list_reads r2 r1 se sd (by omega) ⟨.bl _, H, I, rfl, q⟩
  · obtain ⟨bs, r2⟩ := Dp.reads I (.tuple ds) y u he ry
    cases r2 with
    | tuple h1 h2 h3 h4 => exact SeqAt.notIn_tupleAt _ ⟨_, h1, h2, _, h3⟩ (SeqAt.items_eqAt h4 r1 se sd (by omega)) (by rw [SeqAt.any_by_data h4 se]; exact ⟨.bl _, H, I, rfl, q⟩)
def rInDc (neg : Bool) : R2 := fun x y H Q => ∃ a o, y = .ref a ∧ DGet H a x o ∧ Q (.bl (if neg then !o.isSome else o.isSome)) H
theorem op_inDc (hu : X.A.units + 200 < cLine) : OpR X (compareOp .In) (rInDc false) := by
  intro pins s σ H x y v u Q I rx ry h
  obtain ⟨a, o, rfl, g, q⟩ := h
  cases ry
  exact d_in (by omega) I g rx fun s' I' => ⟨.bl _, H, I', rfl, q⟩
theorem op_notInDc (hu : X.A.units + 200 < cLine) : OpR X (compareOp .NotIn) (rInDc true) := by
  intro pins s σ H x y v u Q I rx ry h
  obtain ⟨a, o, rfl, g, q⟩ := h
  cases ry
  exact d_notIn (by omega) I g rx fun s' I' => ⟨.bl _, H, I', rfl, q⟩
/-- list + list -/
def rCatG (K : PySem.W.Frag) : R2 := fun x y H Q => ∃ l b xs zs, x = .ref l ∧ y = .ref b ∧ SqL K H l xs ∧ SqL K H b zs ∧ xs.length + zs.length ≤ sizeLine ∧ ∀ p, H p = none → Q (.ref p) (upd H p (.lst (xs ++ zs)))
theorem op_catG : OpR X (binaryOp .Add) (rCatG X.K) := by
  intro pins s σ H x y v u Q I rx ry h
  obtain ⟨l, b, xs, zs, rfl, rfl, hH, hB, hz, q⟩ := h
  cases rx
  cases ry
  obtain ⟨its, r, pl, _⟩ := I.list hH
  obtain ⟨its2, r2, pl2, _⟩ := I.list hB
  have hl := r.length
  have hl2 := r2.length
  obtain ⟨⟨cls, dd, data, sl⟩, ho, hc, n, hd⟩ := pl.isList
  obtain ⟨⟨cls2, dd2, data2, sl2⟩, ho2, hc2, n2, hd2⟩ := pl2.isList
  simp only at hc hd hc2 hd2
  subst hc hd hc2 hd2
  have e : its.toArray ++ its2.toArray = (its ++ its2).toArray := by simp
  refine concat_meets ⟨_, ho, rfl⟩ ⟨_, ho2, rfl⟩ noFill_list_add seq_list_add PySem.F.slot_list_add PySem.F.entry_list_add (PySem.F.args_list_add_2 _ _) (list_addW l b its.toArray its2.toArray n n2 dd dd2 sl sl2 (by simp only [List.size_toArray]; omega)) ⟨ho, ho2, ?_⟩
  rw [e]
  exact ⟨.ref _, _, I.lnew (t' := s.toks) (r.append r2) (by rw [List.length_append]; omega), rfl, q _ I.fresh⟩
/-- what an operator asks -/
def fop : Op2 → Value → Value → Sem Value
  | .add => binaryOp .Add | .sub => binaryOp .Sub | .mul => binaryOp .Mult | .fdiv => binaryOp .FloorDiv | .mod => binaryOp .Mod | .pow => binaryOp .Pow
  | .band => binaryOp .BitAnd | .bor => binaryOp .BitOr | .bxor => binaryOp .BitXor | .shl => binaryOp .LShift | .shr => binaryOp .RShift
  | .eq => compareOp .Eq | .ne => compareOp .NotEq | .lt => compareOp .Lt | .le => compareOp .LtE | .gt => compareOp .Gt | .ge => compareOp .GtE
  | .inn => compareOp .In | .nin => compareOp .NotIn
def rOp (K : PySem.W.Frag) : Op2 → R2
  | .add => fun x y H Q => rI0 (fun i j => .int (i + j)) x y H Q ∨ (∃ i j, x = .str i ∧ y = .str j ∧ i.length + j.length ≤ sizeLine ∧ Q (.str (i ++ j)) H) ∨ rCatA K x y H Q ∨ rCatG K x y H Q
  | .sub => rI0 (fun i j => .int (i - j))
  | .mul => rI CMul (fun i j => .int (i * j))
  | .fdiv => rI CDivW (fun i j => .int (i / j))
  | .mod => rI (fun _ j => 0 < j) (fun i j => .int (i % j))
  | .pow => rI CPow (fun i j => .int (i ^ j.toNat))
  | .band => rI0 (fun i j => .int (Builtin.bitAnd i j))
  | .bor => rI0 (fun i j => .int (Builtin.bitOr i j))
  | .bxor => rI0 (fun i j => .int (Builtin.bitXor i j))
  | .shl => rI CPow (fun i j => .int (i * 2 ^ j.toNat))
  | .shr => rI (fun _ j => 0 ≤ j) (fun i j => .int (i / 2 ^ j.toNat))
  | .eq => fun x y H Q => rEq x y H Q ∨ rEqG K x y H Q ∨ rEqM K id x y H Q
  | .ne => fun x y H Q => rNe x y H Q ∨ rNeG K x y H Q ∨ rEqM K (fun b => !b) x y H Q
  | .lt => rI0 (fun i j => .bl (decide (i < j)))
  | .le => rI0 (fun i j => .bl (decide (i ≤ j)))
  | .gt => rI0 (fun i j => .bl (decide (j < i)))
  | .ge => rI0 (fun i j => .bl (decide (j ≤ i)))
  | .inn => fun x y H Q => rIn K false x y H Q ∨ rInG K false x y H Q ∨ (∃ i j, x = .str i ∧ y = .str j ∧ Q (.bl (!(Builtin.Str.occurrences j i 0 j.length 1).isEmpty)) H) ∨ rInDc false x y H Q
  | .nin => fun x y H Q => rIn K true x y H Q ∨ rInG K true x y H Q ∨ (∃ i j, x = .str i ∧ y = .str j ∧ Q (.bl (!(!(Builtin.Str.occurrences j i 0 j.length 1).isEmpty))) H) ∨ rInDc true x y H Q
theorem op_rule (hu : X.A.units + 200 < cLine) : ∀ o : Op2, OpR X (fop o) (rOp X.K o)
  | .add => op_add.or (op_add_str.or (op_catA.or op_catG))
  | .sub => op_sub | .mul => op_mul | .fdiv => op_fdivW | .mod => op_mod | .pow => op_pow | .band => op_and | .bor => op_or | .bxor => op_xor | .shl => op_shl | .shr => op_shr
  | .eq => op_eq.or ((op_eqG hu).or (op_eqM hu)) | .ne => op_ne.or ((op_neG hu).or (op_neM hu)) | .lt => op_lt | .le => op_le | .gt => op_gt | .ge => op_ge
  | .inn => op_in_seq.or ((op_inG hu).or (op_in_str.or (op_inDc hu)))
  | .nin => op_notIn_seq.or ((op_notInG hu).or (op_notIn_str.or (op_notInDc hu)))
end
end Sg
namespace Sg
open PySem PySem.Spec PyProof.Rows L2
section
variable {K : PySem.W.Frag} {ca : Str → Addr} {W : Wd} {H : Hp} {S : Sto} {vx vy : V}
theorem RepV.dp (I : Inw W H) {d : D} {v : V} (h : RepV K W H d v) (o : okD d = true) : Dp K H v (toPy d) := by
  cases d with
  | tup ds => obtain ⟨a, vs, rfl, s, _, r⟩ := h; exact .tup (SqT.of s) (toDps (fun _ _ => tup_up I) (fun _ _ => SqL.up I) ds vs r o)
  | ctup ds => obtain ⟨a, vs, rfl, s, r⟩ := h; exact .tup (SqTwr s) (toDps (fun _ _ => tup_up I) (fun _ _ => SqL.up I) ds vs r o)
  | lst ds => obtain ⟨a, vs, rfl, s, r⟩ := h; exact .lst s (toDps (fun _ _ => tup_up I) (fun _ _ => SqL.up I) ds vs r o)
  | non => cases h; exact .non
  | bl b => cases h; exact .bl b
  | int b => cases h; exact .int b
  | str b => cases h; exact .str b
  | dct k kvs => cases o
  | ref c => cases o
theorem flat_eq {Z : Hp} {mu : Nat → Option Addr} {y x : D} {vy vx : V} (hy : RepD K Z mu y vy) (hx : RepD K Z mu x vx) (fy : flatD y = true) (fx : flatD x = true) : eqV vy vx = eqv y x := by
  cases y <;> (first | cases fy | skip) <;> cases x <;> (first | cases fx | skip) <;> (cases hy; cases hx; rfl)
theorem flat_V {Z : Hp} {mu : Nat → Option Addr} {x : D} {vx : V} (hx : RepD K Z mu x vx) (fx : flatD x = true) : flatV vx = true := by
  cases x <;> (first | cases fx | skip) <;> (cases hx; rfl)
theorem flats_V {Z : Hp} {mu : Nat → Option Addr} : ∀ {ds : List D} {vs : List V}, RepDs K Z mu ds vs → ds.all flatD = true → vs.all flatV = true
  | [], _, h, _ => by cases h; rfl
  | d :: ds, _, ⟨v, r, e, h1, h2⟩, f => by
    subst e
    rw [List.all_cons, Bool.and_eq_true] at f ⊢
    exact ⟨flat_V h1 f.1, flats_V h2 f.2⟩
theorem flats_in {Z : Hp} {mu : Nat → Option Addr} {x : D} {vx : V} (hx : RepD K Z mu x vx) (fx : flatD x = true) : ∀ {ds : List D} {vs : List V}, RepDs K Z mu ds vs → ds.all flatD = true → inV vx vs = ds.any fun z => eqv z x
  | [], _, h, _ => by cases h; rfl
  | d :: ds, _, ⟨v, r, e, h1, h2⟩, f => by
    subst e
    rw [List.all_cons, Bool.and_eq_true] at f
    show (eqV v vx || inV vx r) = _
    rw [List.any_cons, flat_eq h1 hx f.1 fx, flats_in hx fx h2 f.2]
theorem RepV.flat {x : D} {v : V} (h : RepV K W H x v) (f : flatD x = true) : RepD K W.Z W.mu x v := by
  cases x <;> (first | cases f | skip) <;> exact h
/-! dicts -/
theorem keyOf_V {Z : Hp} {mu : Nat → Option Addr} {d : D} {v : V} {k : Key} (h : RepD K Z mu d v) (e : keyOf d = some k) : v = kV k := by
  cases d <;> (try (cases e)) <;> (cases h; rfl)
theorem keysOf_V {Z : Hp} {mu : Nat → Option Addr} : ∀ {ds : List D} {vs : List V} {ks : List Key}, RepDs K Z mu ds vs → keysOf ds = some ks → vs = ks.map kV
  | [], _, ks, h, e => by cases h; cases e; rfl
  | d :: ds, _, ks, ⟨v, r, e1, h1, h2⟩, e => by
    subst e1
    unfold keysOf at e
    split at e
    · rename_i k ks' e2 e3
      cases e
      rw [List.map_cons, keyOf_V h1 e2, keysOf_V h2 e3]
    · cases e
theorem dget_ok {Z : Hp} {mu : Nat → Option Addr} (k : Key) : ∀ {kvs : List (D × D)} {ws : List (Key × V)}, RepKs K Z mu kvs ws → (∀ d, dget kvs k = some d → ∃ v, valV ws k = some v ∧ RepD K Z mu d v) ∧ (dget kvs k = none → valV ws k = none)
  | [], _, h => by
    cases h
    refine ⟨fun d e => ?_, fun _ => rfl⟩
    cases e
  | (q, d) :: kvs, _, ⟨k', v, r, e, e1, h1, h2⟩ => by
    subst e
    have ih := dget_ok k h2
    unfold dget
    rw [List.find?_cons]
    by_cases hk : k' = k
    · subst hk
      have e2 : decide (keyOf q = some k') = true := decide_eq_true e1
      simp only [e2]
      rw [valV_pos (p := (k', v)) rfl]
      exact ⟨fun d' e3 => by cases e3; exact ⟨v, rfl, h1⟩, fun e3 => by cases e3⟩
    · have e2 : decide (keyOf q = some k) = false := decide_eq_false (by rw [e1]; intro z; exact hk (Option.some.inj z))
      simp only [e2]
      rw [valV_neg (p := (k', v)) hk]
      exact ih
theorem dgett_ok {Z : Hp} {mu : Nat → Option Addr} (k : List Key) : ∀ {kvs : List (D × D)} {ws : List (List Key × V)}, RepKt K Z mu kvs ws → (∀ d, dgett kvs k = some d → ∃ v, valV ws k = some v ∧ RepD K Z mu d v) ∧ (dgett kvs k = none → valV ws k = none)
  | [], _, h => by
    cases h
    refine ⟨fun d e => ?_, fun _ => rfl⟩
    cases e
  | (q, d) :: kvs, _, ⟨k', v, r, e, e1, h1, h2⟩ => by
    subst e
    have ih := dgett_ok k h2
    unfold dgett
    rw [List.find?_cons]
    by_cases hk : k' = k
    · subst hk
      have e2 : decide (tkeyOf q = some k') = true := decide_eq_true e1
      simp only [e2]
      rw [valV_pos (p := (k', v)) rfl]
      exact ⟨fun d' e3 => by cases e3; exact ⟨v, rfl, h1⟩, fun e3 => by cases e3⟩
    · have e2 : decide (tkeyOf q = some k) = false := decide_eq_false (by rw [e1]; intro z; exact hk (Option.some.inj z))
      simp only [e2]
      rw [valV_neg (p := (k', v)) hk]
      exact ih
theorem dlook_ok {q : DK} {kvs : List (D × D)} {k : D} {o : Option D} (h : dlook q kvs k = some o) (hx : RepV K W H (.dct q kvs) vx) (hk : RepV K W H k vy) :
    ∃ a r, vx = .ref a ∧ DGet H a vy r ∧ (∀ d, o = some d → ∃ v, r = some v ∧ RepD K W.Z W.mu d v) ∧ (o = none → r = none) := by
  cases q with
  | sc =>
    obtain ⟨a, ws, rfl, e, r⟩ := hx
    unfold dlook at h
    obtain ⟨k', e1, e2⟩ := Option.map_eq_some_iff.mp h
    subst e2
    have ek : vy = kV k' := by
      cases k <;> (try (cases e1)) <;> (cases hk; rfl)
    have g := dget_ok k' r
    refine ⟨a, valV ws k', rfl, .inl ⟨ws, k', e, ek, rfl⟩, g.1, g.2⟩
  | tp =>
    obtain ⟨a, ws, rfl, e, r⟩ := hx
    unfold dlook at h
    obtain ⟨k', e1, e2⟩ := Option.map_eq_some_iff.mp h
    subst e2
    cases k with
    | tup ds =>
      obtain ⟨b, vs, rfl, s, _, rr⟩ := hk
      have ek := keysOf_V rr e1
      subst ek
      have g := dgett_ok k' r
      exact ⟨a, valV ws k', rfl, .inr ⟨ws, k', b, e, rfl, s, rfl⟩, g.1, g.2⟩
    | _ => cases e1
end
end Sg
namespace Sg
open PySem PySem.Spec PyProof.Rows L2
section
variable {K : PySem.W.Frag} {ca : Str → Addr} {W : Wd} {H : Hp} {S : Sto} {vx vy : V} {Q : VK}
/-- what is asked behind an operator -/
def Fin (K : PySem.W.Frag) (ca : Str → Addr) (W : Wd) (H : Hp) (S : Sto) (al : Prop) (d : D) (Q : VK) : Prop :=
  ∀ v H' W', PostE W H W' H' → Inw W' H' → StoOk K ca W' H' S → RepD K W'.Z W'.mu d v → (¬ al → W' = W ∧ H' = H) → Q v H'
theorem Fin.here {al : Prop} {d : D} {v : V} (h : Fin K ca W H S al d Q) (I : Inw W H) (so : StoOk K ca W H S) (r : RepD K W.Z W.mu d v) : Q v H := h v H W .refl I so r fun _ => ⟨rfl, rfl⟩
theorem Fin.new {d : D} {o : HO} (h : Fin K ca W H S True d Q) (I : Inw W H) (so : StoOk K ca W H S) {p : Addr} (hp : H p = none) (r : RepD K (W.frz p o).Z W.mu d (.ref p)) : Q (.ref p) (upd H p o) :=
  h _ _ _ (postE_new I hp) (inw_new I hp) (sto_new I so hp) r fun z => absurd trivial z
theorem lim_le {n : Nat} (h : n ≤ lim) : n ≤ sizeLine := by rw [sizeLine_eq]; exact h
theorem lim_lt {n : Nat} (h : n < lim) : n < sizeLine := by rw [sizeLine_eq]; exact h
theorem mulOk_ok {i j : Int} (h : mulOk i j = true) : CMul i j := by
  unfold mulOk at h
  simp only [Bool.or_eq_true, Bool.and_eq_true, decide_eq_true_eq] at h
  exact h
theorem log2_small {n : Nat} (h : n < 2 ^ 64) : n.log2 < 9000 := by
  by_cases h0 : n = 0
  · subst h0; decide
  · have := (Nat.log2_lt h0).mpr h
    omega
theorem nil_of {Z : Hp} {mu : Nat → Option Addr} {ds : List D} (h : RepDs K Z mu ds []) : ds = [] := by
  cases ds with
  | nil => rfl
  | cons d ds => obtain ⟨v, r, e, _⟩ := h; cases e
theorem cat_tup_sound {s t : List D} (I : Inw W H) (so : StoOk K ca W H S) (hx : RepV K W H (.tup s) vx) (hy : RepV K W H (.tup t) vy) (hl : s.length + t.length ≤ lim) (h : Fin K ca W H S True (.tup (s ++ t)) Q) : rCatA K vx vy H Q := by
  obtain ⟨a, xs, rfl, ha, za, rx⟩ := hx
  obtain ⟨b, ys, rfl, hb, zb, ry⟩ := hy
  refine ⟨a, b, xs, ys, rfl, rfl, SqT.of ha, SqT.of hb, by rw [rx.length, ry.length]; exact lim_le hl, fun e => ?_, fun _ e => ?_, fun _ _ p hp => ?_⟩
  · subst e
    have := nil_of rx
    subst this
    exact h.here I so ⟨b, ys, rfl, zb, ry⟩
  · subst e
    have := nil_of ry
    subst this
    rw [List.append_nil] at h
    exact h.here I so ⟨a, xs, rfl, za, rx⟩
  · exact h.new I so hp ⟨p, _, rfl, upd_same, RepDs.le (zm_frz I hp) (fun _ _ e => e) _ _ (rx.append ry)⟩
theorem cat_lst_sound {s t : List D} (I : Inw W H) (so : StoOk K ca W H S) (hx : RepV K W H (.lst s) vx) (hy : RepV K W H (.lst t) vy) (hl : s.length + t.length ≤ lim) (h : Fin K ca W H S True (.lst (s ++ t)) Q) : rCatG K vx vy H Q := by
  obtain ⟨a, xs, rfl, ha, rx⟩ := hx
  obtain ⟨b, ys, rfl, hb, ry⟩ := hy
  refine ⟨a, b, xs, ys, rfl, rfl, ha, hb, by rw [rx.length, ry.length]; exact lim_le hl, fun p hp => ?_⟩
  exact h.new I so hp ⟨p, _, rfl, SqL.of upd_same, RepDs.le (zm_frz I hp) (fun _ _ e => e) _ _ (rx.append ry)⟩
theorem Fin.mono {al : Prop} {d : D} (h : Fin K ca W H S al d Q) (z : al → False) : Fin K ca W H S False d Q := fun v H' W' p i s r g => h v H' W' p i s r fun n => g nofun
/-- int results -/
theorem rI0_sound {g : Int → Int → V} {i j : Int} (h : Q (g i j) H) : rI0 g (.int i) (.int j) H Q := ⟨i, j, rfl, rfl, h⟩
theorem rI_sound {C : Int → Int → Prop} {g : Int → Int → V} {i j : Int} (c : C i j) (h : Q (g i j) H) : rI C g (.int i) (.int j) H Q := ⟨i, j, rfl, rfl, c, h⟩
section
variable {Z : Hp} {mu : Nat → Option Addr}
theorem RepKs.len : ∀ {kvs : List (D × D)} {ws : List (Key × V)}, RepKs K Z mu kvs ws → ws.length = kvs.length
  | [], _, h => by cases h; rfl
  | (k, d) :: r, _, ⟨k', v, r', e, _, _, h⟩ => by subst e; simp [RepKs.len h]
end
theorem hitD_sound (I : Inw W H) {ls : List (D × D)} {wl : List (Key × V)} (rl : RepKs K W.Z W.mu ls wl) : ∀ {ks : List (D × D)} {wk : List (Key × V)} {b : Bool}, hitD ls ks = some b → RepKs K W.Z W.mu ks wk → HitsD K H wl wk b
  | [], _, b, e, r => by cases e; cases r; exact .nil
  | (q, d) :: ks, _, b, e, ⟨k', v, r, e0, e1, h1, h2⟩ => by
    subst e0
    have e' : (match keyOf q with | none => none | some q => match dget ls q with | none => some false | some e => if okD d && okD e && decide (min (depD d) (depD e) ≤ 100) then (hitD ls ks).map fun b => eqv d e && b else none) = some b := e
    rw [e1] at e'
    have g := dget_ok k' rl
    cases hg : dget ls k' with
    | none =>
      simp only [hg] at e'
      cases e'
      exact .miss (g.2 hg)
    | some x =>
      simp only [hg] at e'
      split at e'
      · rename_i c
        simp only [Bool.and_eq_true, decide_eq_true_eq] at c
        obtain ⟨b', e2, e3⟩ := Option.map_eq_some_iff.mp e'
        subst e3
        obtain ⟨y, hy, ry⟩ := g.1 x hg
        exact .hit hy (toDp (fun _ _ => tup_up I) (fun _ _ => SqL.up I) _ _ h1 c.1.1) (toDp (fun _ _ => tup_up I) (fun _ _ => SqL.up I) _ _ ry c.1.2) (lay_of _ c.1.1) (lay_of _ c.1.2) (by rw [dep_of _ c.1.1, dep_of _ c.1.2]; exact c.2) (hitD_sound I rl e2 h2)
      · cases e'
theorem eqD_sound (I : Inw W H) (so : StoOk K ca W H S) {x y : D} {b : Bool} (e : eqD x y = some b) (hx : RepV K W H x vx) (hy : RepV K W H y vy) {g : Bool → Bool} {al : Prop} (h : Fin K ca W H S al (.bl (g b)) Q) :
    (scal vx vy = true ∧ Q (.bl (g (decide (vx = vy)))) H) ∨ (∃ d e, Dp K H vx d ∧ Dp K H vy e ∧ d.canLay0 = true ∧ e.canLay0 = true ∧ min d.depth e.depth ≤ 100 ∧ Q (.bl (g (PyData.eqv d e))) H) ∨ rEqM K g vx vy H Q := by
  have gen : ∀ (x y : D), (if okD x && okD y && decide (min (depD x) (depD y) ≤ 100) then some (eqv x y) else none) = some b → RepV K W H x vx → RepV K W H y vy →
      ∃ d e, Dp K H vx d ∧ Dp K H vy e ∧ d.canLay0 = true ∧ e.canLay0 = true ∧ min d.depth e.depth ≤ 100 ∧ Q (.bl (g (PyData.eqv d e))) H := by
    intro x y e hx hy
    split at e
    · rename_i c
      simp only [Bool.and_eq_true, decide_eq_true_eq] at c
      cases e
      refine ⟨_, _, hx.dp I c.1.1, hy.dp I c.1.2, lay_of _ c.1.1, lay_of _ c.1.2, by rw [dep_of _ c.1.1, dep_of _ c.1.2]; exact c.2, ?_⟩
      exact h.here I so rfl
    · cases e
  cases x with
  | int i =>
    cases y with
    | int j =>
      cases hx; cases hy; cases e
      refine .inl ⟨rfl, ?_⟩
      have e2 : decide (V.int i = V.int j) = decide (i = j) := by simp
      rw [e2]; exact h.here I so rfl
    | _ => (refine .inr (.inl (gen _ _ ?_ hx hy)); exact e)
  | str i =>
    cases y with
    | str j =>
      cases hx; cases hy; cases e
      refine .inl ⟨rfl, ?_⟩
      have e2 : decide (V.str i = V.str j) = decide (i = j) := by simp
      rw [e2]; exact h.here I so rfl
    | _ => (refine .inr (.inl (gen _ _ ?_ hx hy)); exact e)
  | bl i =>
    cases y with
    | bl j =>
      cases hx; cases hy; cases e
      refine .inl ⟨rfl, ?_⟩
      have e2 : decide (V.bl i = V.bl j) = decide (i = j) := by simp
      rw [e2]; exact h.here I so rfl
    | _ => (refine .inr (.inl (gen _ _ ?_ hx hy)); exact e)
  | non =>
    cases y with
    | non =>
      cases hx; cases hy; cases e
      exact .inl ⟨rfl, h.here I so rfl⟩
    | _ => (refine .inr (.inl (gen _ _ ?_ hx hy)); exact e)
  | dct q ks =>
    cases q with
    | sc =>
      cases y with
      | dct p ls =>
        cases p with
        | sc =>
          refine .inr (.inr ?_)
          obtain ⟨a, wk, rfl, sa, rk⟩ := hx
          obtain ⟨c, wl, rfl, sc, rl⟩ := hy
          have e' : (if ks.length = ls.length then hitD ls ks else some false) = some b := e
          by_cases hl : ks.length = ls.length
          · rw [if_pos hl] at e'
            refine ⟨a, c, wk, wl, b, rfl, rfl, sa, sc, fun _ => hitD_sound I rl e' rk, ?_⟩
            rw [show (wk.length == wl.length) = true by rw [rk.len, rl.len, hl]; simp, Bool.true_and]
            exact h.here I so rfl
          · rw [if_neg hl] at e'
            cases e'
            refine ⟨a, c, wk, wl, false, rfl, rfl, sa, sc, fun z => absurd (by rw [rk.len, rl.len] at z; exact z) hl, ?_⟩
            rw [Bool.and_false]
            exact h.here I so rfl
        | tp => (refine .inr (.inl (gen _ _ ?_ hx hy)); exact e)
      | _ => (refine .inr (.inl (gen _ _ ?_ hx hy)); exact e)
    | tp => (refine .inr (.inl (gen _ _ ?_ hx hy)); exact e)
  | _ => (refine .inr (.inl (gen _ _ ?_ hx hy)); exact e)
theorem inD_sound (I : Inw W H) (so : StoOk K ca W H S) {x y : D} {b : Bool} (e : inD x y = some b) (hx : RepV K W H x vx) (hy : RepV K W H y vy) {n : Bool} {al : Prop} (h : Fin K ca W H S al (.bl (if n then !b else b)) Q) :
    rIn K n vx vy H Q ∨ rInG K n vx vy H Q ∨ (∃ i j, vx = .str i ∧ vy = .str j ∧ Q (.bl (if n then !(!(Builtin.Str.occurrences j i 0 j.length 1).isEmpty) else !(Builtin.Str.occurrences j i 0 j.length 1).isEmpty)) H) ∨ rInDc n vx vy H Q := by
  have seq : ∀ (ds : List D) (a : Addr) (vs : List V), anyEq x ds = some b → vy = .ref a → RepDs K W.Z W.mu ds vs → (SqL K H a vs ∨ SqT K H a vs) → rIn K n vx vy H Q ∨ rInG K n vx vy H Q := by
    intro ds a vs e ey r sq
    subst ey
    unfold anyEq at e
    split at e
    · rename_i c
      cases e
      rw [Bool.or_eq_true] at c
      rcases c with c | c
      · rw [Bool.and_eq_true] at c
        have hx' := hx.flat c.1
        refine .inl ⟨a, vs, rfl, sq, flat_V hx' c.1, flats_V r c.2, ?_⟩
        rw [flats_in hx' c.1 r c.2]
        exact h.here I so rfl
      · simp only [Bool.and_eq_true, decide_eq_true_eq] at c
        have all := toDps (H := H) (fun _ _ => tup_up I) (fun _ _ => SqL.up I) ds vs r c.1.2
        have ee : ∀ l : List D, (toPys l).any (fun z => PyData.eqv z (toPy x)) = l.any fun z => eqv z x := by
          intro l
          induction l with
          | nil => rfl
          | cons z l ih => show (PyData.eqv (toPy z) (toPy x) || (toPys l).any _) = (eqv z x || _); rw [ih]; rfl
        refine .inr ⟨toPy x, toPys ds, hx.dp I c.1.1, ?_, lay_of _ c.1.1, lays_of _ c.1.2, by rw [dep_of _ c.1.1]; exact c.2, ?_⟩
        · rcases sq with sq | sq
          · exact .inl (.lst sq all)
          · exact .inr (.tup sq all)
        · rw [ee]; exact h.here I so rfl
    · cases e
  cases y with
  | lst ds =>
    obtain ⟨a, vs, rfl, sq, r⟩ := hy
    rcases seq ds a vs e rfl r (.inl sq) with z | z
    · exact .inl z
    · exact .inr (.inl z)
  | tup ds =>
    obtain ⟨a, vs, rfl, sq, _, r⟩ := hy
    rcases seq ds a vs e rfl r (.inr (SqT.of sq)) with z | z
    · exact .inl z
    · exact .inr (.inl z)
  | ctup ds =>
    obtain ⟨a, vs, rfl, sq, r⟩ := hy
    rcases seq ds a vs e rfl r (.inr (SqTwr sq)) with z | z
    · exact .inl z
    · exact .inr (.inl z)
  | str t =>
    cases x with
    | str s =>
      cases hx; cases hy; cases e
      exact .inr (.inr (.inl ⟨s, t, rfl, rfl, h.here I so rfl⟩))
    | _ => cases e
  | dct q kvs =>
    obtain ⟨o, e1, e2⟩ := Option.map_eq_some_iff.mp (show (dlook q kvs x).map (·.isSome) = some b from e)
    obtain ⟨a, r, rfl, g, g1, g2⟩ := dlook_ok e1 hy hx
    refine .inr (.inr (.inr ⟨a, r, rfl, g, ?_⟩))
    have e3 : r.isSome = b := by
      subst e2
      cases o with
      | none => rw [g2 rfl]; rfl
      | some d => obtain ⟨v, e4, _⟩ := g1 d rfl; rw [e4]; rfl
    rw [e3]
    exact h.here I so rfl
  | _ => cases e
theorem op_sound (I : Inw W H) (so : StoOk K ca W H S) {o : Op2} {x y d : D} (e : op2 o x y = some d) (hx : RepV K W H x vx) (hy : RepV K W H y vy) (h : Fin K ca W H S (o = .add) d Q) : rOp K o vx vy H Q := by
  cases o with
  | add =>
    have h' : Fin K ca W H S True d Q := fun v H' W' p i s r g => h v H' W' p i s r fun n => absurd rfl n
    cases x with
    | int i => cases y with
      | int j => cases hx; cases hy; cases e; exact .inl ⟨i, j, rfl, rfl, h.here I so rfl⟩
      | _ => cases e
    | str i => cases y with
      | str j =>
        cases hx; cases hy
        have e' : (if i.length + j.length ≤ lim then some (D.str (i ++ j)) else none) = some d := e
        split at e'
        · rename_i c; cases e'; exact .inr (.inl ⟨i, j, rfl, rfl, lim_le c, h.here I so rfl⟩)
        · cases e'
      | _ => cases e
    | tup i => cases y with
      | tup j =>
        have e' : (if i.length + j.length ≤ lim then some (D.tup (i ++ j)) else none) = some d := e
        split at e'
        · rename_i c; cases e'; exact .inr (.inr (.inl (cat_tup_sound I so hx hy c h')))
        · cases e'
      | _ => cases e
    | lst i => cases y with
      | lst j =>
        have e' : (if i.length + j.length ≤ lim then some (D.lst (i ++ j)) else none) = some d := e
        split at e'
        · rename_i c; cases e'; exact .inr (.inr (.inr (cat_lst_sound I so hx hy c h')))
        · cases e'
      | _ => cases e
    | _ => cases e
  | eq =>
    obtain ⟨b, e1, e2⟩ := Option.map_eq_some_iff.mp e
    subst e2
    exact eqD_sound I so e1 hx hy (g := id) h
  | ne =>
    obtain ⟨b, e1, e2⟩ := Option.map_eq_some_iff.mp e
    subst e2
    exact eqD_sound I so e1 hx hy (g := fun b => !b) h
  | inn =>
    obtain ⟨b, e1, e2⟩ := Option.map_eq_some_iff.mp e
    subst e2
    exact inD_sound I so e1 hx hy (n := false) h
  | nin =>
    obtain ⟨b, e1, e2⟩ := Option.map_eq_some_iff.mp e
    subst e2
    exact inD_sound I so e1 hx hy (n := true) h
  | sub => cases x <;> (try (cases e)) <;> cases y <;> (try (cases e)) <;> (cases hx; cases hy; exact ⟨_, _, rfl, rfl, h.here I so rfl⟩)
  | band => cases x <;> (try (cases e)) <;> cases y <;> (try (cases e)) <;> (cases hx; cases hy; exact ⟨_, _, rfl, rfl, h.here I so rfl⟩)
  | bor => cases x <;> (try (cases e)) <;> cases y <;> (try (cases e)) <;> (cases hx; cases hy; exact ⟨_, _, rfl, rfl, h.here I so rfl⟩)
  | bxor => cases x <;> (try (cases e)) <;> cases y <;> (try (cases e)) <;> (cases hx; cases hy; exact ⟨_, _, rfl, rfl, h.here I so rfl⟩)
  | lt => cases x <;> (try (cases e)) <;> cases y <;> (try (cases e)) <;> (cases hx; cases hy; exact ⟨_, _, rfl, rfl, h.here I so rfl⟩)
  | le => cases x <;> (try (cases e)) <;> cases y <;> (try (cases e)) <;> (cases hx; cases hy; exact ⟨_, _, rfl, rfl, h.here I so rfl⟩)
  | gt => cases x <;> (try (cases e)) <;> cases y <;> (try (cases e)) <;> (cases hx; cases hy; exact ⟨_, _, rfl, rfl, h.here I so rfl⟩)
  | ge => cases x <;> (try (cases e)) <;> cases y <;> (try (cases e)) <;> (cases hx; cases hy; exact ⟨_, _, rfl, rfl, h.here I so rfl⟩)
  | mul =>
    cases x <;> (try (cases e)) <;> cases y <;> (try (cases e))
    rename_i i j
    have e' : (if mulOk i j then some (D.int (i * j)) else none) = some d := e
    split at e'
    · rename_i c; cases e'; cases hx; cases hy; exact ⟨_, _, rfl, rfl, mulOk_ok c, h.here I so rfl⟩
    · cases e'
  | fdiv =>
    cases x <;> (try (cases e)) <;> cases y <;> (try (cases e))
    rename_i i j
    have e' : (if decide (0 < j) && decide (j < 2 ^ 64) then some (D.int (i / j)) else none) = some d := e
    split at e'
    · rename_i c
      simp only [Bool.and_eq_true, decide_eq_true_eq] at c
      cases e'; cases hx; cases hy; exact ⟨_, _, rfl, rfl, ⟨c.1, log2_small (by omega)⟩, h.here I so rfl⟩
    · cases e'
  | mod =>
    cases x <;> (try (cases e)) <;> cases y <;> (try (cases e))
    rename_i i j
    have e' : (if 0 < j then some (D.int (i % j)) else none) = some d := e
    split at e'
    · rename_i c; cases e'; cases hx; cases hy; exact ⟨_, _, rfl, rfl, c, h.here I so rfl⟩
    · cases e'
  | shr =>
    cases x <;> (try (cases e)) <;> cases y <;> (try (cases e))
    rename_i i j
    have e' : (if 0 ≤ j then some (D.int (i / 2 ^ j.toNat)) else none) = some d := e
    split at e'
    · rename_i c; cases e'; cases hx; cases hy; exact ⟨_, _, rfl, rfl, c, h.here I so rfl⟩
    · cases e'
  | pow =>
    cases x <;> (try (cases e)) <;> cases y <;> (try (cases e))
    rename_i i j
    have e' : (if decide (0 ≤ j) && decide (j ≤ 1000000) && decide (i.natAbs < 2 ^ 64) then some (D.int (i ^ j.toNat)) else none) = some d := e
    split at e'
    · rename_i c
      simp only [Bool.and_eq_true, decide_eq_true_eq] at c
      cases e'; cases hx; cases hy; exact ⟨_, _, rfl, rfl, ⟨c.1.1, c.1.2, c.2⟩, h.here I so rfl⟩
    · cases e'
  | shl =>
    cases x <;> (try (cases e)) <;> cases y <;> (try (cases e))
    rename_i i j
    have e' : (if decide (0 ≤ j) && decide (j ≤ 1000000) && decide (i.natAbs < 2 ^ 64) then some (D.int (i * 2 ^ j.toNat)) else none) = some d := e
    split at e'
    · rename_i c
      simp only [Bool.and_eq_true, decide_eq_true_eq] at c
      cases e'; cases hx; cases hy; exact ⟨_, _, rfl, rfl, ⟨c.1.1, c.1.2, c.2⟩, h.here I so rfl⟩
    · cases e'
end
end Sg
namespace Sg
open PySem PySem.Spec PyProof.Rows L2
section
variable {X : Cx}
def rIxD : R2 := fun x y H Q => ∃ a v, x = .ref a ∧ DGet H a y (some v) ∧ Q v H
theorem ix_dict (hu : X.A.units + 200 < cLine) : IxR X rIxD := by
  intro value slice pins s σ H x y v u Q I rx ry h hs
  obtain ⟨a, z, rfl, g, q⟩ := h
  cases rx
  exact tail_any (dict_typeIs I g) PySem.F.slot_dict_getitem.lookup (d_getItem (by omega) I g ry fun w' s' I' rw' => ⟨z, H, I', rw', q⟩) hs
def rIxA (K : PySem.W.Frag) : R2 := fun x y H Q => rIx K x y H Q ∨ rIxD x y H Q
theorem ix_all (hu : X.A.units + 200 < cLine) : IxR X (rIxA X.K) := ix_seq.or (ix_dict hu)
end
section
variable {K : PySem.W.Frag} {ca : Str → Addr} {W : Wd} {H : Hp} {S : Sto} {vx vy : V} {Q : VK}
theorem atI_rep {Z : Hp} {mu : Nat → Option Addr} {ds : List D} {vs : List V} {i : Int} {d : D} (r : RepDs K Z mu ds vs) (h : atI ds i = some d) : ∃ v, atI vs i = some v ∧ RepD K Z mu d v := by
  unfold atI at h ⊢
  rw [r.length]
  cases e : ixN ds.length i with
  | none => rw [e] at h; cases h
  | some j =>
    rw [e] at h
    exact r.get h
theorem idx_sound (I : Inw W H) (so : StoOk K ca W H S) {x y d : D} (e : idxD x y = some d) (hx : RepV K W H x vx) (hy : RepV K W H y vy) {al : Prop} (h : Fin K ca W H S al d Q) : rIxA K vx vy H Q := by
  cases x with
  | lst ds =>
    obtain ⟨a, vs, rfl, s, r⟩ := hx
    cases y with
    | int i =>
      cases hy
      obtain ⟨v, e1, r1⟩ := atI_rep r e
      exact .inl (.inl ⟨a, vs, i, v, rfl, rfl, s, e1, h.here I so r1⟩)
    | _ => cases e
  | tup ds =>
    obtain ⟨a, vs, rfl, s, _, r⟩ := hx
    cases y with
    | int i =>
      cases hy
      obtain ⟨v, e1, r1⟩ := atI_rep r e
      exact .inl (.inr (.inl ⟨a, vs, i, v, rfl, rfl, SqT.of s, e1, h.here I so r1⟩))
    | _ => cases e
  | ctup ds =>
    obtain ⟨a, vs, rfl, s, r⟩ := hx
    cases y with
    | int i =>
      cases hy
      obtain ⟨v, e1, r1⟩ := atI_rep r e
      exact .inl (.inr (.inl ⟨a, vs, i, v, rfl, rfl, SqTwr s, e1, h.here I so r1⟩))
    | _ => cases e
  | str z =>
    cases y with
    | int i =>
      cases hx; cases hy
      have e' : (if z.length ≤ lim then (atI z.cps.toList i).map fun c => D.str ⟨#[c]⟩ else none) = some d := e
      split at e'
      · rename_i c
        obtain ⟨q, e1, e2⟩ := Option.map_eq_some_iff.mp e'
        subst e2
        exact .inl (.inr (.inr ⟨z, i, q, rfl, rfl, lim_le c, e1, h.here I so rfl⟩))
      · cases e'
    | _ => cases e
  | dct q kvs =>
    obtain ⟨o, e1, e2⟩ := Option.bind_eq_some_iff.mp (show (dlook q kvs y).bind id = some d from e)
    obtain ⟨a, r, rfl, g, g1, g2⟩ := dlook_ok e1 hx hy
    obtain ⟨v, e3, r3⟩ := g1 d e2
    subst e3
    exact .inr ⟨a, v, rfl, g, h.here I so r3⟩
  | _ => cases e
theorem cutD_rep {Z : Hp} {mu : Nat → Option Addr} {ds : List D} {vs : List V} (r : RepDs K Z mu ds vs) (lo hi : Option Int) : RepDs K Z mu (cutD ds lo hi) (cutV vs lo hi) := by
  unfold cutD cutV
  rw [r.length]
  exact (r.drop _).take _
theorem cut_whole (ds : List D) (lo hi : Option Int) (h : HT.sIx ds.length 0 lo = 0 ∧ HT.sIx ds.length ds.length hi = ds.length) : cutD ds lo hi = ds := by
  unfold cutD
  rw [h.1, h.2, List.drop_zero, Nat.sub_zero, List.take_length]
/-- what is asked where a new list may come -/
def FinO (K : PySem.W.Frag) (ca : Str → Addr) (W : Wd) (H : Hp) (S : Sto) (al : Prop) (ov : OV) (Q : VK) : Prop :=
  ∀ v H' W', PostE W H W' H' → Inw W' H' → StoOk K ca W' H' S → RepW K true W H W' H' ov v → (¬ al → W' = W ∧ H' = H) → Q v H'
theorem FinO.here {al : Prop} {d : D} {v : V} (h : FinO K ca W H S al (.fr d) Q) (I : Inw W H) (so : StoOk K ca W H S) (r : RepD K W.Z W.mu d v) : Q v H := h v H W .refl I so (.fr r) fun _ => ⟨rfl, rfl⟩
theorem FinO.newF {al : Prop} {d : D} {o : HO} (h : FinO K ca W H S al (.fr d) Q) (a : al) (I : Inw W H) (so : StoOk K ca W H S) {p : Addr} (hp : H p = none) (r : RepD K (W.frz p o).Z W.mu d (.ref p)) : Q (.ref p) (upd H p o) :=
  h _ _ _ (postE_new I hp) (inw_new I hp) (sto_new I so hp) (.fr r) fun n => absurd a n
theorem FinO.new {al : Prop} {ov : OV} {o : HO} (h : FinO K ca W H S al ov Q) (a : al) (I : Inw W H) (so : StoOk K ca W H S) {p : Addr} (hp : H p = none) (r : RepH K W ov o) : Q (.ref p) (upd H p o) := by
  refine h _ _ _ (postE_lay I hp) (inw_lay I hp) (sto_lay I so hp) (.ow upd_same r (I.newOZ hp) fun _ => ⟨I.newZ hp, I.newO hp, .inr hp⟩) fun n => absurd a n
def rSlG (K : PySem.W.Frag) : V → Option Int → Option Int → Hp → VK → Prop := fun x lo hi H Q => rSlL K x lo hi H Q ∨ rSlA K x lo hi H Q ∨ rSlS x lo hi H Q
theorem sl_all {X : Cx} : SlR X (rSlG X.K) := sl_list.or (sl_tupA.or sl_str)
theorem sl_sound (I : Inw W H) (so : StoOk K ca W H S) {x : D} {lo hi : Option Int} {ov : OV} (e : slO x lo hi = some ov) (hx : RepV K W H x vx) (h : FinO K ca W H S True ov Q) : rSlG K vx lo hi H Q := by
  cases x with
  | lst ds =>
    cases e
    obtain ⟨a, vs, rfl, s, r⟩ := hx
    exact .inl ⟨a, vs, rfl, s, fun p hp => h.new trivial I so hp ⟨_, rfl, cutD_rep r lo hi⟩⟩
  | tup ds =>
    cases e
    obtain ⟨a, vs, rfl, s, z, r⟩ := hx
    refine .inr (.inl ⟨a, vs, rfl, SqT.of s, fun q => ?_, fun q p hp => ?_⟩)
    · have e2 : cutD ds lo hi = ds := cut_whole ds lo hi (by rw [← r.length]; exact q)
      rw [e2] at h
      exact h.here I so ⟨a, vs, rfl, z, r⟩
    · exact h.newF trivial I so hp ⟨p, _, rfl, upd_same, RepDs.le (zm_frz I hp) (fun _ _ e => e) _ _ (cutD_rep r lo hi)⟩
  | str z =>
    cases hx
    have e' : (if z.length ≤ lim then some (OV.fr (.str (cutS z lo hi))) else none) = some ov := e
    split at e'
    · rename_i hl
      cases e'
      exact .inr (.inr ⟨z, rfl, lim_le hl, h.here I so rfl⟩)
    · cases e'
  | _ => cases e
end
/-! ### isinstance of a built-in type -/
section
variable {X : Cx} {K : PySem.W.Frag} {ca : Str → Addr} {W : Wd} {H : Hp} {S : Sto}
def tyS : D → Option String
  | .non => some "NoneType"
  | .bl _ => some "bool"
  | .int _ => some "int"
  | .str _ => some "str"
  | .tup _ => some "tuple"
  | .ctup _ => some "tuple"
  | .lst _ => some "list"
  | .dct _ _ => some "dict"
  | .ref _ => none
end
end Sg
namespace Sg
open PySem PySem.Spec PyProof.Rows L2
/-! ### the context of a body, as it is needed -/
structure CK where
  N : List Str
  sc : Scope
  fns : Str → Bool
  free : Str → Bool
  cst : Str → Option D
  top : Bool
/-- what a def of one's own promises -/
def spOf (K : PySem.W.Frag) (ca : Str → Addr) (ps : Nat) (f : List D → Sto → Res) : Sp := fun vs H Q E => ∃ W S ds, Inw W H ∧ (∀ a, W.L a = none) ∧ StoOk K ca W H S ∧ RepDs K W.Z W.mu ds vs ∧ ds.length = ps ∧ match f ds S with
  | .ok ov S' => ∀ v H' W', Post W H W' H' → Inw W' H' → StoOk K ca W' H' S' → RepW K true W H W' H' ov v → Q v H'
  | .exc x S' => ∀ cls dx H' W', Post W H W' H' → Inw W' H' → StoOk K ca W' H' S' → RepX K ca W' H' x cls dx → E cls dx H'
  | .stk => False
structure XOk (K : PySem.W.Frag) (ca : Str → Addr) (Wx : WX) (cl : Str → List D → Sto → Res) (c : CK) (X : Cx) : Prop where
  kk : X.K = K
  nn : X.N = c.N
  nd : c.N.Nodup
  scp : X.env.scope = c.sc
  calm : X.calm = true
  tk : Takes X Wx
  room : X.A.units + 200 < cLine
  po : PassesOwn (model X.prog X.w) X.A X.env X.xe
  fnt : c.top = true → ∀ x, X.fn x = true
  fr : ∀ x, c.free x = true → X.mg x = none
  cs : ∀ x d, c.cst x = some d → ∃ u v, X.mg x = some u ∧ RelV v u ∧ ∀ Z mu, RepD K Z mu d v
  fn : ∀ f, c.fns f = true → ∃ n fa fd ps, X.mg f = some (.ref fa) ∧ PySem.W.keepIn K (.ref fa) = true ∧ Binds K fd ps [] ∧ FnOk X.prog X.w K X.mg X.base (L2.CX X.prog X.w) n fa fd ps (spOf K ca ps.length (cl f)) ∧ Room n X.A ∧ ∀ ds S, ds.length ≠ ps.length → cl f ds S = .stk

section
variable {K : PySem.W.Frag} {ca : Str → Addr} {Wx : WX} {cl : Str → List D → Sto → Res} {c : CK} {X : Cx} {pos : Pos}
def visB (sc : Scope) (x : Str) : Bool := match sc.names.lookup x with
  | some .local => true
  | some .cell => true
  | some .free => true
  | _ => false
def glB (sc : Scope) (x : Str) : Bool := match sc.names.lookup x with
  | some .globalImplicit => true
  | _ => false
def nm (x : Str) : Bool := decide ((x == ("__debug__" : Str)) = false) && decide ((x == ("__classdict__" : Str)) = false) && decide (x ≠ "__name__")
theorem nm_d {x : Str} (h : nm x = true) : (x == ("__debug__" : Str)) = false := by
  unfold nm at h; simp only [Bool.and_eq_true, decide_eq_true_eq] at h; exact h.1.1
theorem nm_c {x : Str} (h : nm x = true) : (x == ("__classdict__" : Str)) = false := by
  unfold nm at h; simp only [Bool.and_eq_true, decide_eq_true_eq] at h; exact h.1.2
theorem nm_n {x : Str} (h : nm x = true) : x ≠ "__name__" := by
  unfold nm at h; simp only [Bool.and_eq_true, decide_eq_true_eq] at h; exact h.2
theorem vis_of (o : XOk K ca Wx cl c X) {x : Str} (h : visB c.sc x = true) : Vis X.env.scope x := by
  rw [o.scp]
  unfold visB at h
  unfold Vis
  split at h <;> first | exact .inl (by assumption) | exact .inr (.inl (by assumption)) | exact .inr (.inr (by assumption)) | cases h
theorem gl_of (o : XOk K ca Wx cl c X) {x : Str} (h : glB c.sc x = true) : Gl X x := by
  show X.env.scope.names.lookup x = _
  rw [o.scp]
  unfold glB at h
  split at h
  · assumption
  · cases h
/-- a value without anything behind -/
theorem me_val {e : E} {x : Expr} {v : V} {d : D} (h : PE X x (tC v)) (he : ∀ ρ S, ev cl e ρ S = .ok (.fr d) S) (hd : ∀ Z mu, RepD K Z mu d v) : PE X x (tE K ca Wx cl e) := by
  refine PEi h fun σ H Q ⟨W, ρ, S, R, h⟩ => ?_
  rw [he] at h
  exact h v H W .refl R.inw R.so (.fr (hd _ _)) fun _ => ⟨rfl, rfl, rfl⟩
theorem me_int {i : Int} {j : Nat} : PE X (.Constant (.int i) j pos) (tE K ca Wx cl (.int i)) := me_val pe_int (fun _ _ => rfl) fun _ _ => rfl
theorem me_bl {i : Bool} {j : Nat} : PE X (.Constant (.bool i) j pos) (tE K ca Wx cl (.bl i)) := me_val pe_bl (fun _ _ => rfl) fun _ _ => rfl
theorem me_non {j : Nat} : PE X (.Constant .none j pos) (tE K ca Wx cl .non) := me_val pe_non (fun _ _ => rfl) fun _ _ => rfl
theorem me_str {i : Str} {j : Nat} : PE X (.Constant (.str i) j pos) (tE K ca Wx cl (.str i)) := me_val pe_str (fun _ _ => rfl) fun _ _ => rfl
theorem me_cst (o : XOk K ca Wx cl c X) {x : Str} {d : D} (hg : glB c.sc x = true) (hn : nm x = true) (hc : c.cst x = some d) : PE X (.Name x pos) (tE K ca Wx cl (.cst x d)) := by
  obtain ⟨u, v, hm, r, hd⟩ := o.cs x d hc
  exact me_val (pe_glob (gl_of o hg) hm r (nm_d hn)) (fun _ _ => rfl) hd
theorem me_var (o : XOk K ca Wx cl c X) {x : Str} {i : Nat} (hi : c.N[i]? = some x) (hv : visB c.sc x = true) (hn : nm x = true) : PE X (.Name x pos) (tE K ca Wx cl (.var i)) := by
  refine PEi (pe_var (i := i) (by rw [o.nn]; exact hi) (vis_of o hv) (nm_d hn) (nm_c hn)) fun σ H Q ⟨W, ρ, S, R, h⟩ => ?_
  have h : Ans K ca Wx (RepW K false W H) true W H S σ Q (match ρ[i]? with | some (some ov) => Rs.ok ov S | _ => .stk) := h
  split at h
  · rename_i ov e
    obtain ⟨v, e1, r⟩ := R.sl.at_ i ov e
    refine ⟨v, e1, h v H W .refl R.inw R.so ?_ fun _ => ⟨rfl, rfl, rfl⟩⟩
    rcases r with ⟨d, e2, r⟩ | ⟨a, ho, e2, l, e3, r⟩
    · subst e2; exact .fr r
    · subst e2; exact .ow e3 r (R.inw.lZ l) nofun
  · exact h.elim
/-- two operands, then a rule by their values -/
theorem two {α : Type} {rp : Wd → Hp → OV → V → Prop} {q : Bool} {ea eb : E} {r : R2} {g : D → D → Option D} {al : Prop}
    (hr : ∀ (W : Wd) (H : Hp) (S : Sto) (x y d : D) (vx vy : V) (Q : VK), Inw W H → StoOk K ca W H S → g x y = some d → RepV K W H x vx → RepV K W H y vy → Fin K ca W H S al d Q → r vx vy H Q)
    (hrp : ∀ W' H' d v, RepD K W'.Z W'.mu d v → rp W' H' (.fr d) v)
    (hq : q = true → quiet ea = true ∧ quiet eb = true ∧ ¬ al)
    {W : Wd} {H : Hp} {ρ : Env1} {S : Sto} {σ : L2.St} {Q : VK} (R : Rel K ca W H ρ S σ)
    (h : Ans K ca Wx rp q W H S σ Q ((ev cl ea ρ S).bind fun x S1 => if !x.isBo || quiet eb then (ev cl eb ρ S1).bind fun y S2 => (ofO S2 (g x.view y.view)).bind fun d S3 => .ok (.fr d) S3 else .stk)) :
    tOp r (tE K ca Wx cl ea) (tE K ca Wx cl eb) σ H Q := by
  refine ⟨W, ρ, S, R, h.bind fun x S1 vx H1 W1 e1 p1 i1 s1 r1 q1 h1 => ?_⟩
  by_cases hc : (!x.isBo || quiet eb) = true
  · rw [if_pos hc] at h1
    refine ⟨W1, ρ, S1, ⟨i1, R.sl.post p1, s1⟩, (h1.move (q2 := q) p1 (fun t _ => q1 (hq t).1) fun t => t).bind fun y S2 vy H2 W2 e2 p2 i2 s2 r2 q2 h2 => ?_⟩
    have rx : RepV K W2 H2 x.view vx := by
      rw [Bool.or_eq_true] at hc
      rcases hc with hc | hc
      · exact (r1.stay i1 i2 p2 (by simpa using hc)).toV i2
      · obtain ⟨a1, a2, _⟩ := q2 hc
        rw [a1, a2]
        exact r1.toV i1
    cases e : g x.view y.view with
    | none => rw [e] at h2; exact h2.elim
    | some d =>
      rw [e] at h2
      refine hr W2 H2 S2 x.view y.view d vx vy Q i2 s2 e rx (r2.toV i2) fun v H' W' p i s rd gq => ?_
      refine h2 v H' W' (p2.trans p) i s (hrp _ _ _ _ rd) fun t => ?_
      obtain ⟨b1, b2⟩ := gq (hq t).2.2
      obtain ⟨a1, a2, a3⟩ := q2 (hq t).2.1
      exact ⟨b1.trans a1, b2.trans a2, a3⟩
  · rw [if_neg hc] at h1
    exact h1.elim
def binOf : Op2 → Option Operator
  | .add => some .Add | .sub => some .Sub | .mul => some .Mult | .fdiv => some .FloorDiv | .mod => some .Mod | .pow => some .Pow
  | .band => some .BitAnd | .bor => some .BitOr | .bxor => some .BitXor | .shl => some .LShift | .shr => some .RShift
  | _ => none
def cmpOf : Op2 → Option CmpOp
  | .eq => some .Eq | .ne => some .NotEq | .lt => some .Lt | .le => some .LtE | .gt => some .Gt | .ge => some .GtE | .inn => some .In | .nin => some .NotIn
  | _ => none
theorem fop_bin {o : Op2} {op : Operator} (h : binOf o = some op) : fop o = binaryOp op := by
  cases o <;> cases h <;> rfl
theorem fop_cmp {o : Op2} {op : CmpOp} (h : cmpOf o = some op) : fop o = compareOp op := by
  cases o <;> cases h <;> rfl
theorem q_op {o : Op2} {ea eb : E} (t : quiet (.op o ea eb) = true) : quiet ea = true ∧ quiet eb = true ∧ ¬ o = .add := by
  have t' : (decide (o ≠ .add) && quiet ea && quiet eb) = true := t
  simp only [Bool.and_eq_true, decide_eq_true_eq] at t'
  exact ⟨t'.1.2, t'.2, t'.1.1⟩
theorem two_op {o : Op2} {ea eb : E} {σ : L2.St} {H : Hp} {Q : VK} (h : tE K ca Wx cl (.op o ea eb) σ H Q) : tOp (rOp K o) (tE K ca Wx cl ea) (tE K ca Wx cl eb) σ H Q := by
  obtain ⟨W, ρ, S, R, h⟩ := h
  exact two (α := Nat) (al := o = .add) (fun W H S x y d vx vy Q I so e hx hy f => op_sound I so e hx hy f) (fun _ _ _ _ r => .fr r) q_op R h
theorem me_bin (o : XOk K ca Wx cl c X) {op2 : Op2} {op : Operator} {ea eb : E} {a b : Expr} (hb : binOf op2 = some op) (ha : PE X a (tE K ca Wx cl ea)) (hbb : PE X b (tE K ca Wx cl eb)) : PE X (.BinOp a op b pos) (tE K ca Wx cl (.op op2 ea eb)) := by
  have r := op_rule (X := X) o.room op2
  rw [fop_bin hb, o.kk] at r
  exact PEi (pe_op r ha hbb) fun σ H Q h => two_op h
theorem me_cmp (o : XOk K ca Wx cl c X) {op2 : Op2} {op : CmpOp} {ea eb : E} {a b : Expr} (hb : cmpOf op2 = some op) (hm : behindInMarks op b = false) (ha : PE X a (tE K ca Wx cl ea)) (hbb : PE X b (tE K ca Wx cl eb)) : PE X (.Compare a [op] [b] pos) (tE K ca Wx cl (.op op2 ea eb)) := by
  have r := op_rule (X := X) o.room op2
  rw [fop_cmp hb, o.kk] at r
  exact PEi (pe_cmpR r ha hbb hm) fun σ H Q h => two_op h

/-- a truth that comes of a value -/
theorem Ans.bool {q : Bool} {f : Bool} {W W0 : Wd} {H H0 : Hp} {S : Sto} {σ : L2.St} {x : OV} {v : V} (r : RepW K f W0 H0 W H x v) (hb : ∃ b, x = .fr (.bl b)) : ∃ b, x = .fr (.bl b) ∧ v = .bl b := by
  obtain ⟨b, rfl⟩ := hb
  cases r with
  | fr r => exact ⟨b, rfl, r⟩
  | ow e r _ _ => exact r.elim
/-- ask for a truth, then go on -/
theorem bool_then {α β : Type} {rp : Wd → Hp → α → β → Prop} {q : Bool} {e : E} {W : Wd} {H : Hp} {ρ : Env1} {S : Sto} {σ : L2.St} {Q : β → Hp → Prop} {k : OV → Sto → Rs α} {G : Bool → Hp → Prop} (R : Rel K ca W H ρ S σ)
    (h : Ans K ca Wx rp q W H S σ Q ((ev cl e ρ S).bind k)) (hk : ∀ x S1, (∀ b, x ≠ .fr (.bl b)) → k x S1 = .stk)
    (hg : ∀ b S1 H1 W1, PostE W H W1 H1 → Rel K ca W1 H1 ρ S1 σ → (quiet e = true → W1 = W ∧ H1 = H ∧ S1 = S) → Ans K ca Wx rp q W H S σ Q (k (.fr (.bl b)) S1) → G b H1) :
    tB (tE K ca Wx cl e) σ H G := by
  refine ⟨W, ρ, S, R, h.bind fun x S1 vx H1 W1 e1 p1 i1 s1 r1 q1 h1 => ?_⟩
  by_cases hb : ∃ b, x = .fr (.bl b)
  · obtain ⟨b, rfl, rfl⟩ := Ans.bool (q := false) (S := S1) (σ := σ) r1 hb
    exact ⟨b, rfl, hg b S1 H1 W1 p1 ⟨i1, R.sl.post p1, s1⟩ q1 h1⟩
  · rw [hk x S1 (fun b e => hb ⟨b, e⟩)] at h1
    exact h1.elim
/-- the answer is the rest's -/
theorem Ans.rest {f f' : Bool} {q2 : Bool} {W W1 : Wd} {H H1 : Hp} {S S1 : Sto} {σ : L2.St} {Q : VK} {r : Res} (p : PostE W H W1 H1) (h : Ans K ca Wx (RepW K f W H) false W H S σ Q r) (hf : f = true → f' = true) : Ans K ca Wx (RepW K f' W1 H1) q2 W1 H1 S1 σ Q r := by
  cases r with
  | ok a S2 =>
    refine fun b H' W' p' i s r' g' => h b H' W' (p.trans p') i s ?_ nofun
    have r2 := r'.back p
    cases f with
    | false => exact r2.ff
    | true => rw [hf rfl] at r2; exact r2
  | exc x S2 => exact fun cls dx H' W' p' i s r' => h cls dx H' W' (p.trans p') i s r'
  | stk => exact h
end
end Sg
namespace Sg
open PySem PySem.Spec PyProof.Rows L2
section
variable {K : PySem.W.Frag} {ca : Str → Addr} {Wx : WX} {cl : Str → List D → Sto → Res} {c : CK} {X : Cx} {pos : Pos}
theorem me_neg {e : E} {a : Expr} (ha : PE X a (tE K ca Wx cl e)) : PE X (.UnaryOp .USub a pos) (tE K ca Wx cl (.neg e)) := by
  refine PEi (pe_un un_neg ha) fun σ H Q ⟨W, ρ, S, R, h⟩ => ?_
  refine ⟨W, ρ, S, R, Ans.bind (α := OV) (rp := RepW K false W H) (q := quiet (.neg e)) (k := fun x S1 => match x with | .fr (.int i) => .ok (.fr (.int (-i))) S1 | _ => .stk) h fun x S1 vx H1 W1 e1 p1 i1 s1 r1 q1 h1 => ?_⟩
  cases x with
  | fr d =>
    cases d with
    | int i =>
      cases r1.toD
      exact ⟨i, rfl, h1 _ H1 W1 p1 i1 s1 (.fr rfl) q1⟩
    | _ => exact h1.elim
  | _ => exact h1.elim
theorem RepW.isN {f : Bool} {W0 W : Wd} {H0 H : Hp} {x : OV} {v : V} (r : RepW K f W0 H0 W H x v) : decide (v = .non) = (match x with | .fr .non => true | _ => false) := by
  cases r with
  | @fr d _ r =>
    cases d with
    | non => cases r; rfl
    | bl b => cases r; rfl
    | int b => cases r; rfl
    | str b => cases r; rfl
    | ref b => obtain ⟨a, _, rfl⟩ := r; rfl
    | dct k kvs => cases k <;> (obtain ⟨a, vs, rfl, _⟩ := r; rfl)
    | _ => obtain ⟨a, vs, rfl, _⟩ := r; rfl
  | bo _ _ => rfl
  | @ow ov _ _ _ r _ _ =>
    cases x with
    | fr d => exact r.elim
    | bo d => rfl
    | ol ds => rfl
    | od k kvs => rfl
theorem me_isN {n : Bool} {e : E} {a : Expr} {op : CmpOp} {j : Nat} {p2 : Pos} (hop : op = if n then .IsNot else .Is) (ha : PE X a (tE K ca Wx cl e)) : PE X (.Compare a [op] [.Constant .none j p2] pos) (tE K ca Wx cl (.isN n e)) := by
  subst hop
  cases n with
  | false =>
    refine PEi (pe_cmp (pc_isN ha) rfl) fun σ H Q ⟨W, ρ, S, R, h⟩ => ?_
    refine ⟨W, ρ, S, R, Ans.bind (α := OV) (rp := RepW K false W H) (q := quiet (.isN false e)) (k := fun x S1 => .ok (.fr (.bl (match x with | .fr .non => !false | _ => false))) S1) h fun x S1 vx H1 W1 e1 p1 i1 s1 r1 q1 h1 => ?_⟩
    rw [r1.isN]
    have h2 := h1 _ H1 W1 p1 i1 s1 (.fr rfl) q1
    cases x with
    | fr d => cases d <;> exact h2
    | _ => exact h2
  | true =>
    refine PEi (pe_cmp (pc_notN ha) rfl) fun σ H Q ⟨W, ρ, S, R, h⟩ => ?_
    refine ⟨W, ρ, S, R, Ans.bind (α := OV) (rp := RepW K false W H) (q := quiet (.isN true e)) (k := fun x S1 => .ok (.fr (.bl (match x with | .fr .non => !true | _ => true))) S1) h fun x S1 vx H1 W1 e1 p1 i1 s1 r1 q1 h1 => ?_⟩
    rw [r1.isN]
    have h2 := h1 _ H1 W1 p1 i1 s1 (.fr rfl) q1
    cases x with
    | fr d => cases d <;> exact h2
    | _ => exact h2
theorem me_isB {n b : Bool} {e : E} {a : Expr} {op : CmpOp} {j : Nat} {p2 : Pos} (hop : op = if n then .IsNot else .Is) (ha : PE X a (tE K ca Wx cl e)) : PE X (.Compare a [op] [.Constant (.bool b) j p2] pos) (tE K ca Wx cl (.isB n e b)) := by
  subst hop
  cases n with
  | false =>
    refine PEi (pe_cmpR op_isBl ha pe_bl rfl) fun σ H Q ⟨W, ρ, S, R, h⟩ => ?_
    refine ⟨W, ρ, S, R, Ans.bind (α := OV) (rp := RepW K false W H) (q := quiet (.isB false e b)) (k := fun x S1 => match x with | .fr (.bl c) => .ok (.fr (.bl (if false then !decide (c = b) else decide (c = b)))) S1 | _ => .stk) h fun x S1 vx H1 W1 e1 p1 i1 s1 r1 q1 h1 => ?_⟩
    cases x with
    | fr d =>
      cases d with
      | bl i =>
        cases r1.toD
        exact ⟨i, b, rfl, rfl, h1 _ H1 W1 p1 i1 s1 (.fr rfl) nofun⟩
      | _ => exact h1.elim
    | _ => exact h1.elim
  | true =>
    refine PEi (pe_cmpR op_notBl ha pe_bl rfl) fun σ H Q ⟨W, ρ, S, R, h⟩ => ?_
    refine ⟨W, ρ, S, R, Ans.bind (α := OV) (rp := RepW K false W H) (q := quiet (.isB true e b)) (k := fun x S1 => match x with | .fr (.bl c) => .ok (.fr (.bl (if true then !decide (c = b) else decide (c = b)))) S1 | _ => .stk) h fun x S1 vx H1 W1 e1 p1 i1 s1 r1 q1 h1 => ?_⟩
    cases x with
    | fr d =>
      cases d with
      | bl i =>
        cases r1.toD
        exact ⟨i, b, rfl, rfl, h1 _ H1 W1 p1 i1 s1 (.fr rfl) nofun⟩
      | _ => exact h1.elim
    | _ => exact h1.elim
theorem me_not {e : E} {a : Expr} (ha : PE X a (tE K ca Wx cl e)) : PE X (.UnaryOp .Not a pos) (tE K ca Wx cl (.not e)) := by
  refine PEi (pe_not ha) fun σ H Q ⟨W, ρ, S, R, h⟩ => ?_
  refine bool_then (rp := RepW K false W H) (q := false) (k := fun x S1 => match x with | .fr (.bl c) => .ok (.fr (.bl (!c))) S1 | _ => .stk) R h (fun x S1 n => ?_) fun b S1 H1 W1 p1 R1 q1 h1 => ?_
  · cases x with
    | fr d => cases d <;> first | rfl | exact absurd rfl (n _)
    | _ => rfl
  · exact h1 (.bl (!b)) H1 W1 p1 R1.inw R1.so (.fr rfl) nofun
theorem me_ite {ec ea eb : E} {x a b : Expr} (hc : PT X x (tB (tE K ca Wx cl ec))) (ha : PE X a (tE K ca Wx cl ea)) (hb : PE X b (tE K ca Wx cl eb)) : PE X (.IfExp x a b pos) (tE K ca Wx cl (.ite ec ea eb)) := by
  refine PEi (pe_ifExp hc ha hb) fun σ H Q ⟨W, ρ, S, R, h⟩ => ?_
  refine bool_then (rp := RepW K false W H) (q := false) (k := fun x S1 => match x with | .fr (.bl true) => ev cl ea ρ S1 | .fr (.bl false) => ev cl eb ρ S1 | _ => .stk) R h (fun x S1 n => ?_) fun b S1 H1 W1 p1 R1 q1 h1 => ?_
  · cases x with
    | fr d => cases d <;> first | rfl | exact absurd rfl (n _)
    | _ => rfl
  · cases b with
    | true => exact ⟨W1, ρ, S1, R1, h1.rest p1 nofun⟩
    | false => exact ⟨W1, ρ, S1, R1, h1.rest p1 nofun⟩
/-! and, or -/
theorem me_and1 {e : E} {a : Expr} (ha : PE X a (tE K ca Wx cl e)) : PE X (.BoolOp .And [a] pos) (tEA K ca Wx cl (.cons e .nil)) :=
  PEi (pe_one ha) fun σ H Q ⟨W, ρ, S, R, h⟩ => ⟨W, ρ, S, R, h.rest .refl nofun⟩
theorem me_andC {e e2 : E} {es : Es} {a b : Expr} {r : List Expr} (ha : PE X a (tE K ca Wx cl e)) (hb : PE X (.BoolOp .And (b :: r) pos) (tEA K ca Wx cl (.cons e2 es))) : PE X (.BoolOp .And (a :: b :: r) pos) (tEA K ca Wx cl (.cons e (.cons e2 es))) := by
  refine PEi (pe_and ha hb) fun σ H Q ⟨W, ρ, S, R, h⟩ => ?_
  refine bool_then (rp := RepW K false W H) (q := false) (k := fun x S1 => match x with | .fr (.bl true) => evA cl (.cons e2 es) ρ S1 | .fr (.bl false) => .ok (.fr (.bl false)) S1 | _ => .stk) R h (fun x S1 n => ?_) fun b S1 H1 W1 p1 R1 q1 h1 => ?_
  · cases x with
    | fr d => cases d <;> first | rfl | (rename_i b; cases b <;> exact absurd rfl (n _))
    | _ => rfl
  · cases b with
    | true => exact ⟨W1, ρ, S1, R1, h1.rest p1 nofun⟩
    | false => exact h1 (.bl false) H1 W1 p1 R1.inw R1.so (.fr rfl) nofun
theorem me_or1 {e : E} {a : Expr} (ha : PE X a (tE K ca Wx cl e)) : PE X (.BoolOp .Or [a] pos) (tER K ca Wx cl (.cons e .nil)) :=
  PEi (pe_one ha) fun σ H Q ⟨W, ρ, S, R, h⟩ => ⟨W, ρ, S, R, h.rest .refl nofun⟩
theorem me_orC {e e2 : E} {es : Es} {a b : Expr} {r : List Expr} (ha : PE X a (tE K ca Wx cl e)) (hb : PE X (.BoolOp .Or (b :: r) pos) (tER K ca Wx cl (.cons e2 es))) : PE X (.BoolOp .Or (a :: b :: r) pos) (tER K ca Wx cl (.cons e (.cons e2 es))) := by
  refine PEi (pe_or ha hb) fun σ H Q ⟨W, ρ, S, R, h⟩ => ?_
  refine bool_then (rp := RepW K false W H) (q := false) (k := fun x S1 => match x with | .fr (.bl true) => .ok (.fr (.bl true)) S1 | .fr (.bl false) => evR cl (.cons e2 es) ρ S1 | _ => .stk) R h (fun x S1 n => ?_) fun b S1 H1 W1 p1 R1 q1 h1 => ?_
  · cases x with
    | fr d => cases d <;> first | rfl | (rename_i b; cases b <;> exact absurd rfl (n _))
    | _ => rfl
  · cases b with
    | true => exact h1 (.bl true) H1 W1 p1 R1.inw R1.so (.fr rfl) nofun
    | false => exact ⟨W1, ρ, S1, R1, h1.rest p1 nofun⟩
/-! tests -/
theorem Ans.end1 {q : Bool} {W : Wd} {H : Hp} {S : Sto} {σ : L2.St} {Q : VK} {b : Bool} {f : Bool} (h : Ans K ca Wx (RepW K f W H) q W H S σ Q (.ok (.fr (.bl b)) S)) (I : Inw W H) (so : StoOk K ca W H S) : Q (.bl b) H := h (.bl b) H W .refl I so (.fr rfl) fun _ => ⟨rfl, rfl, rfl⟩
theorem mt_cmp (o : XOk K ca Wx cl c X) {op2 : Op2} {op : CmpOp} {ea eb : E} {a b : Expr} (hb : cmpOf op2 = some op) (hm : behindInMarks op b = false) (ha : PE X a (tE K ca Wx cl ea)) (hbb : PE X b (tE K ca Wx cl eb)) : PT X (.Compare a [op] [b] pos) (tB (tE K ca Wx cl (.op op2 ea eb))) := by
  have r := op_rule (X := X) o.room op2
  rw [fop_cmp hb, o.kk] at r
  exact PTi (pt_cmpR r ha hbb hm) fun σ H Q h => two_op h
theorem mt_isN {n : Bool} {e : E} {a : Expr} {op : CmpOp} {j : Nat} {p2 : Pos} (hop : op = if n then .IsNot else .Is) (ha : PE X a (tE K ca Wx cl e)) : PT X (.Compare a [op] [.Constant .none j p2] pos) (tB (tE K ca Wx cl (.isN n e))) := by
  have h1 := me_isN (pos := pos) (p2 := p2) (j := j) hop ha
  subst hop
  cases n with
  | false =>
    refine PTi (pt_cmp (pc_isN ha) rfl) fun σ H Q ⟨W, ρ, S, R, h⟩ => ?_
    refine ⟨W, ρ, S, R, Ans.bind (α := OV) (rp := RepW K false W H) (q := quiet (.isN false e)) (k := fun x S1 => .ok (.fr (.bl (match x with | .fr .non => !false | _ => false))) S1) h fun x S1 vx H1 W1 e1 p1 i1 s1 r1 q1 h1 => ?_⟩
    rw [r1.isN]
    have h2 := h1 _ H1 W1 p1 i1 s1 (.fr rfl) q1
    cases x with
    | fr d => cases d <;> exact h2
    | _ => exact h2
  | true =>
    refine PTi (pt_cmp (pc_notN ha) rfl) fun σ H Q ⟨W, ρ, S, R, h⟩ => ?_
    refine ⟨W, ρ, S, R, Ans.bind (α := OV) (rp := RepW K false W H) (q := quiet (.isN true e)) (k := fun x S1 => .ok (.fr (.bl (match x with | .fr .non => !true | _ => true))) S1) h fun x S1 vx H1 W1 e1 p1 i1 s1 r1 q1 h1 => ?_⟩
    rw [r1.isN]
    have h2 := h1 _ H1 W1 p1 i1 s1 (.fr rfl) q1
    cases x with
    | fr d => cases d <;> exact h2
    | _ => exact h2
theorem two_isB {n b : Bool} {e : E} {σ : L2.St} {H : Hp} {Q : VK} (h : tE K ca Wx cl (.isB n e b) σ H Q) : tOp (if n then rNotB else rIsB) (tE K ca Wx cl e) (tC (.bl b)) σ H Q := by
  obtain ⟨W, ρ, S, R, h⟩ := h
  refine ⟨W, ρ, S, R, Ans.bind (α := OV) (rp := RepW K false W H) (q := quiet (.isB n e b)) (k := fun x S1 => match x with | .fr (.bl c) => .ok (.fr (.bl (if n then !decide (c = b) else decide (c = b)))) S1 | _ => .stk) h fun x S1 vx H1 W1 e1 p1 i1 s1 r1 q1 h1 => ?_⟩
  cases x with
  | fr d =>
    cases d with
    | bl i =>
      cases r1.toD
      cases n with
      | true => exact ⟨i, b, rfl, rfl, h1 _ H1 W1 p1 i1 s1 (.fr rfl) nofun⟩
      | false => exact ⟨i, b, rfl, rfl, h1 _ H1 W1 p1 i1 s1 (.fr rfl) nofun⟩
    | _ => exact h1.elim
  | _ => exact h1.elim
theorem mt_isB {n b : Bool} {e : E} {a : Expr} {op : CmpOp} {j : Nat} {p2 : Pos} (hop : op = if n then .IsNot else .Is) (ha : PE X a (tE K ca Wx cl e)) : PT X (.Compare a [op] [.Constant (.bool b) j p2] pos) (tB (tE K ca Wx cl (.isB n e b))) := by
  subst hop
  cases n with
  | false => exact PTi (pt_cmpR op_isBl ha pe_bl rfl) fun σ H Q h => two_isB (n := false) h
  | true => exact PTi (pt_cmpR op_notBl ha pe_bl rfl) fun σ H Q h => two_isB (n := true) h
theorem mt_not {e : E} {a : Expr} (ha : PT X a (tB (tE K ca Wx cl e))) : PT X (.UnaryOp .Not a pos) (tB (tE K ca Wx cl (.not e))) := by
  refine PTi (pt_not ha) fun σ H Q ⟨W, ρ, S, R, h⟩ => ?_
  refine bool_then (rp := RepW K false W H) (q := false) (k := fun x S1 => match x with | .fr (.bl c) => .ok (.fr (.bl (!c))) S1 | _ => .stk) R h (fun x S1 n => ?_) fun b S1 H1 W1 p1 R1 q1 h1 => ?_
  · cases x with
    | fr d => cases d <;> first | rfl | exact absurd rfl (n _)
    | _ => rfl
  · obtain ⟨k, e1, h2⟩ := h1 (.bl (!b)) H1 W1 p1 R1.inw R1.so (.fr rfl) nofun
    cases e1
    exact h2
theorem mw_and1 {e : E} {a : Expr} (ha : PT X a (tB (tE K ca Wx cl e))) : PW X (.BoolOp .And [a] pos) (tB (tEA K ca Wx cl (.cons e .nil))) :=
  PWi (pw_and1 ha) fun σ H Q ⟨W, ρ, S, R, h⟩ => ⟨W, ρ, S, R, h.rest .refl nofun⟩
theorem mw_andC {e e2 : E} {es : Es} {a b : Expr} {r : List Expr} (ha : PT X a (tB (tE K ca Wx cl e))) (hb : PW X (.BoolOp .And (b :: r) pos) (tB (tEA K ca Wx cl (.cons e2 es)))) : PW X (.BoolOp .And (a :: b :: r) pos) (tB (tEA K ca Wx cl (.cons e (.cons e2 es)))) := by
  refine PWi (pw_and ha hb) fun σ H Q ⟨W, ρ, S, R, h⟩ => ?_
  refine bool_then (rp := RepW K false W H) (q := false) (k := fun x S1 => match x with | .fr (.bl true) => evA cl (.cons e2 es) ρ S1 | .fr (.bl false) => .ok (.fr (.bl false)) S1 | _ => .stk) R h (fun x S1 n => ?_) fun b S1 H1 W1 p1 R1 q1 h1 => ?_
  · cases x with
    | fr d => cases d <;> first | rfl | (rename_i b; cases b <;> exact absurd rfl (n _))
    | _ => rfl
  · cases b with
    | true => exact ⟨W1, ρ, S1, R1, h1.rest p1 nofun⟩
    | false =>
      obtain ⟨k, e1, h2⟩ := h1 (.bl false) H1 W1 p1 R1.inw R1.so (.fr rfl) nofun
      cases e1
      exact h2
theorem mw_or1 {e : E} {a : Expr} (ha : PT X a (tB (tE K ca Wx cl e))) : PW X (.BoolOp .Or [a] pos) (tB (tER K ca Wx cl (.cons e .nil))) :=
  PWi (pw_or1 ha) fun σ H Q ⟨W, ρ, S, R, h⟩ => ⟨W, ρ, S, R, h.rest .refl nofun⟩
theorem mw_orC {e e2 : E} {es : Es} {a b : Expr} {r : List Expr} (ha : PT X a (tB (tE K ca Wx cl e))) (hb : PW X (.BoolOp .Or (b :: r) pos) (tB (tER K ca Wx cl (.cons e2 es)))) : PW X (.BoolOp .Or (a :: b :: r) pos) (tB (tER K ca Wx cl (.cons e (.cons e2 es)))) := by
  refine PWi (pw_or ha hb) fun σ H Q ⟨W, ρ, S, R, h⟩ => ?_
  refine bool_then (rp := RepW K false W H) (q := false) (k := fun x S1 => match x with | .fr (.bl true) => .ok (.fr (.bl true)) S1 | .fr (.bl false) => evR cl (.cons e2 es) ρ S1 | _ => .stk) R h (fun x S1 n => ?_) fun b S1 H1 W1 p1 R1 q1 h1 => ?_
  · cases x with
    | fr d => cases d <;> first | rfl | (rename_i b; cases b <;> exact absurd rfl (n _))
    | _ => rfl
  · cases b with
    | false => exact ⟨W1, ρ, S1, R1, h1.rest p1 nofun⟩
    | true =>
      obtain ⟨k, e1, h2⟩ := h1 (.bl true) H1 W1 p1 R1.inw R1.so (.fr rfl) nofun
      cases e1
      exact h2
/-- a if c else b, as a test -/
def tIfT (c a b : TT) : TT := fun σ H Q => c σ H fun k H1 => if k = true then a σ H1 Q else b σ H1 Q
theorem pt_ifExp {x a b : Expr} {tc ta tb : TT} (hc : PT X x tc) (ha : PT X a ta) (hb : PT X b tb) : PT X (.IfExp x a b pos) (tIfT tc ta tb) := by
  refine ⟨fun pins s σ H Q I h => ?_⟩
  show wpAny (model X.prog X.w) X.A (do if ← isTrue x X.env (eval x X.env) then isTrue a X.env (eval a X.env) else isTrue b X.env (eval b X.env)) _ _ _
  refine wpAny_bind (thn (hc.run pins s σ H _ I h) fun d s1 ⟨H1, I1, q1⟩ => ?_)
  cases d with
  | true => exact ha.run pins s1 σ H1 Q I1 q1
  | false => exact hb.run pins s1 σ H1 Q I1 q1
theorem mt_ite {ec ea eb : E} {x a b : Expr} (hc : PT X x (tB (tE K ca Wx cl ec))) (ha : PT X a (tB (tE K ca Wx cl ea))) (hb : PT X b (tB (tE K ca Wx cl eb))) : PT X (.IfExp x a b pos) (tB (tE K ca Wx cl (.ite ec ea eb))) := by
  refine PTi (pt_ifExp hc ha hb) fun σ H Q ⟨W, ρ, S, R, h⟩ => ?_
  refine bool_then (rp := RepW K false W H) (q := false) (k := fun x S1 => match x with | .fr (.bl true) => ev cl ea ρ S1 | .fr (.bl false) => ev cl eb ρ S1 | _ => .stk) R h (fun x S1 n => ?_) fun b S1 H1 W1 p1 R1 q1 h1 => ?_
  · cases x with
    | fr d => cases d <;> first | rfl | (rename_i b; cases b <;> exact absurd rfl (n _))
    | _ => rfl
  · cases b with
    | true => exact ⟨W1, ρ, S1, R1, h1.rest p1 nofun⟩
    | false => exact ⟨W1, ρ, S1, R1, h1.rest p1 nofun⟩
end
end Sg
namespace Sg
open PySem PySem.Spec PyProof.Rows L2
section
variable {K : PySem.W.Frag} {ca : Str → Addr} {Wx : WX} {cl : Str → List D → Sto → Res} {c : CK} {X : Cx} {pos : Pos}
/-! ### a new list, frozen -/
theorem RepH.ice {W : Wd} {ov : OV} {o : HO} {a : Addr} {d : D} (h : RepH K W ov o) (z : W.Z a = none) (e : need true ov = some d) : RepD K (W.frz a o).Z (W.frz a o).mu d (.ref a) := by
  cases ov with
  | fr d => exact h.elim
  | bo d => exact h.elim
  | ol ds =>
    cases e
    obtain ⟨vs, rfl, r⟩ := h
    exact ⟨a, vs, rfl, SqL.of upd_same, RepDs.le (zm_ice z) (fun _ _ e => e) _ _ r⟩
  | od k kvs =>
    cases e
    cases k with
    | sc =>
      obtain ⟨vs, rfl, r⟩ := h
      exact ⟨a, vs, rfl, .inl upd_same, RepKs.le (zm_ice z) (fun _ _ e => e) _ _ r⟩
    | tp =>
      obtain ⟨vs, rfl, r⟩ := h
      exact ⟨a, vs, rfl, .inl upd_same, RepKt.le (zm_ice z) (fun _ _ e => e) _ _ r⟩
structure Iced (K : PySem.W.Frag) (ca : Str → Addr) (W : Wd) (H : Hp) (W1 : Wd) (H1 : Hp) (S : Sto) (d : D) (v : V) (W2 : Wd) : Prop where
  p : PostE W H W2 H1
  i : Inw W2 H1
  s : StoOk K ca W2 H1 S
  r : RepD K W2.Z W2.mu d v
  zm : ∀ a o, W1.Z a = some o → W2.Z a = some o
  mu : W2.mu = W1.mu
theorem ice {W W1 : Wd} {H H1 : Hp} {S : Sto} {f : Bool} {x : OV} {v : V} {d : D} (p : PostE W H W1 H1) (i : Inw W1 H1) (s : StoOk K ca W1 H1 S) (r : RepW K f W H W1 H1 x v) (e : need f x = some d) : ∃ W2, Iced K ca W H W1 H1 S d v W2 := by
  cases r with
  | fr r => cases e; exact ⟨W1, p, i, s, r, fun _ _ e => e, rfl⟩
  | bo _ _ => cases e
  | @ow _ a o h1 h2 h3 h4 =>
    cases f with
    | false => cases x <;> first | exact h2.elim | cases e
    | true =>
      obtain ⟨z1, z2, z3⟩ := h4 rfl
      refine ⟨W1.frz a o, ⟨⟨fun b u q => zm_ice z1 b u (p.p.zm b u q), p.p.mm, p.p.fr, fun b u q => ?_, p.p.on, p.p.lk⟩, p.ll, p.lh⟩, inw_ice i h1 z2, s.keep (zm_ice z1) rfl (fun _ _ => rfl) (fun _ _ => rfl), RepH.ice h2 z1 e, zm_ice z1, rfl⟩
      have q' : upd W1.Z a o b = some u := q
      by_cases hb : b = a
      · subst hb; exact .inr z3
      · rw [upd_ne hb] at q'
        exact p.p.zn b u q'
theorem RepW.ff0 {W0 W1 W : Wd} {H0 H1 H : Hp} {ov : OV} {v : V} (h : RepW K false W0 H0 W H ov v) : RepW K false W1 H1 W H ov v := by
  cases h with
  | fr h => exact .fr h
  | bo e r => exact .bo e r
  | ow e r hO _ => exact .ow e r hO nofun
/-! ### argument lists -/
theorem ms_nil : PA X [] (tEs K ca Wx cl .nil) := by
  refine ⟨fun pos pins s σ H Q I hq => pa_nil.run pos pins s σ H Q I ?_⟩
  obtain ⟨W, ρ, S, R, h⟩ := hq
  exact h [] H W .refl R.inw R.so rfl nofun
theorem PAi {es : List Expr} {t t' : TA} (h : PA X es t) (i : ∀ σ H Q, t' σ H Q → t σ H Q) : PA X es t' := ⟨fun pos pins s σ H Q I hq => h.run pos pins s σ H Q I (i σ H Q hq)⟩
def notStar : Expr → Bool
  | .Starred .. => false
  | _ => true
theorem star_cons {x : Expr} {xs : List Expr} {env : Env} (h : notStar x = true) : starEach (x :: xs) env = (false, eval x env) :: starEach xs env := by
  cases x <;> first | rfl | cases h
theorem ms_cons {e : E} {es : Es} {x : Expr} {xs : List Expr} (hs : notStar x = true) (ha : PE X x (tE K ca Wx cl e)) (hr : PA X xs (tEs K ca Wx cl es)) : PA X (x :: xs) (tEs K ca Wx cl (.cons e es)) := by
  refine PAi (pa_cons ha hr (star_cons hs)) fun σ H Q ⟨W, ρ, S, R, h⟩ => ?_
  refine ⟨W, ρ, S, R, Ans.bind (α := List D) (β := List V) (rp := fun W' _ ds vs => RepDs K W'.Z W'.mu ds vs) (q := false) (k := fun x S1 => (ofO S1 (need (fresh e) x)).bind fun d S2 => (evs cl es ρ S2).bind fun ds S3 => .ok (d :: ds) S3) h fun x S1 vx H1 W1 e1 p1 i1 s1 r1 q1 h1 => ?_⟩
  cases hn : need (fresh e) x with
  | none => rw [hn] at h1; exact h1.elim
  | some d =>
    rw [hn] at h1
    obtain ⟨W2, c2⟩ := ice p1 i1 s1 r1 hn
    have h1 : Ans K ca Wx (fun W' _ ds vs => RepDs K W'.Z W'.mu ds vs) false W H S σ Q ((evs cl es ρ S1).bind fun ds S3 => Rs.ok (d :: ds) S3) := h1
    refine ⟨W2, ρ, S1, ⟨c2.i, R.sl.post c2.p, c2.s⟩, (h1.move (S1 := S1) (q2 := false) c2.p nofun nofun).bind fun ds S3 vs H3 W3 e3 p3 i3 s3 r3 q3 h3 => ?_⟩
    exact h3 (vx :: vs) H3 W3 p3 i3 s3 ⟨vx, vs, rfl, c2.r.post p3.p, r3⟩ nofun
/-- no star among them -/
def noStars : List Expr → Bool
  | [] => true
  | x :: xs => notStar x && noStars xs
theorem noStar_any {pos : Pos} {env : Env} : ∀ {xs : List Expr}, noStars xs = true → (backTo pos (starEach xs env)).any (·.1) = false
  | [], _ => rfl
  | x :: xs, h => by
    have h' : (notStar x && noStars xs) = true := h
    rw [Bool.and_eq_true] at h'
    rw [star_cons h'.1]
    show (false || (backTo pos (starEach xs env)).any (·.1)) = false
    rw [noStar_any h'.2]; rfl
theorem mv_nil : PA X [] (tEv K ca Wx cl .nil) := by
  refine ⟨fun pos pins s σ H Q I hq => pa_nil.run pos pins s σ H Q I ?_⟩
  obtain ⟨W, ρ, S, R, h⟩ := hq
  exact h [] H W .refl R.inw R.so .nil fun _ => ⟨rfl, rfl, rfl⟩
theorem mv_cons {e : E} {es : Es} {x : Expr} {xs : List Expr} (hs : notStar x = true) (ha : PE X x (tE K ca Wx cl e)) (hr : PA X xs (tEv K ca Wx cl es)) : PA X (x :: xs) (tEv K ca Wx cl (.cons e es)) := by
  refine PAi (pa_cons ha hr (star_cons hs)) fun σ H Q ⟨W, ρ, S, R, h⟩ => ?_
  have hqq : quiets (.cons e es) = true → quiet e = true ∧ quiets es = true := fun t => by
    have t' : (quiet e && quiets es) = true := t
    rwa [Bool.and_eq_true] at t'
  refine ⟨W, ρ, S, R, Ans.bind (α := List OV) (β := List V) (rp := RepWs K) (q := quiets (.cons e es)) (k := fun x S1 => if !x.isBo || quiets es then (evv cl es ρ S1).bind fun xs S2 => .ok (x :: xs) S2 else .stk) h fun x S1 vx H1 W1 e1 p1 i1 s1 r1 q1 h1 => ?_⟩
  by_cases hc : (!x.isBo || quiets es) = true
  · rw [if_pos hc] at h1
    refine ⟨W1, ρ, S1, ⟨i1, R.sl.post p1, s1⟩, (h1.move (S1 := S1) (q2 := quiets (.cons e es)) p1 (fun _ t => q1 (hqq t).1) fun t => t).bind fun ys S2 vy H2 W2 e2 p2 i2 s2 r2 q2 h2 => ?_⟩
    refine h2 (vx :: vy) H2 W2 p2 i2 s2 (.cons ?_ r2) fun t => q2 (hqq t).2
    rw [Bool.or_eq_true] at hc
    rcases hc with hc | hc
    · exact ((r1.stay i1 i2 p2 (by simpa using hc)).ff).ff0
    · obtain ⟨a1, a2, _⟩ := q2 hc
      rw [a1, a2]
      exact r1.ff.ff0
  · rw [if_neg hc] at h1
    exact h1.elim
/-! ### displays -/
theorem Post.noE {W : Wd} {H : Hp} : PostE W H W H := .refl
theorem me_tup {es : Es} {xs : List Expr} {k : Nat} (hl : xs.length ≤ 1000) (hx : ∀ ρ S ds S', evs cl es ρ S = .ok ds S' → ds.length = xs.length) (ha : PA X xs (tEs K ca Wx cl es)) : PE X (.Tuple xs k pos) (tE K ca Wx cl (.tup es)) := by
  refine PEi (pe_tup ha) fun σ H Q ⟨W, ρ, S, R, h⟩ => ?_
  refine ⟨W, ρ, S, R, Ans.bind (α := OV) (rp := RepW K false W H) (q := false) (k := fun ds S1 => Rs.ok (OV.fr (.tup ds)) S1) h fun ds S1 vs H1 W1 e1 p1 i1 s1 r1 q1 h1 => ?_⟩
  refine ⟨by rw [r1.length, hx _ _ _ _ e1, sizeLine_eq]; omega, fun p hp => ?_⟩
  exact h1 (.ref p) (upd H1 p (.tup vs)) (W1.frz p (.tup vs)) (p1.trans (postE_new i1 hp)) (inw_new i1 hp) (sto_new i1 s1 hp) (.fr ⟨p, vs, rfl, upd_same, RepDs.le (zm_frz i1 hp) (fun _ _ e => e) _ _ r1⟩) nofun
theorem me_lst {es : Es} {xs : List Expr} (hl : xs.length ≤ 1000) (hx : ∀ ρ S ds S', evs cl es ρ S = .ok ds S' → ds.length = xs.length) (ha : PA X xs (tEs K ca Wx cl es)) : PE X (.List xs pos) (tE K ca Wx cl (.lst es)) := by
  refine PEi (pe_lst ha) fun σ H Q ⟨W, ρ, S, R, h⟩ => ?_
  refine ⟨W, ρ, S, R, Ans.bind (α := OV) (rp := RepW K true W H) (q := false) (k := fun ds S1 => Rs.ok (OV.ol ds) S1) h fun ds S1 vs H1 W1 e1 p1 i1 s1 r1 q1 h1 => ?_⟩
  refine ⟨by rw [r1.length, hx _ _ _ _ e1, sizeLine_eq]; omega, fun p hp => ?_⟩
  refine h1 (.ref p) (upd H1 p (.lst vs)) W1 (p1.trans (postE_lay i1 hp)) (inw_lay i1 hp) (sto_lay i1 s1 hp) (.ow upd_same ⟨vs, rfl, r1⟩ (i1.newOZ hp) fun _ => ⟨i1.newZ hp, i1.newO hp, ?_⟩) nofun
  · by_cases hw : W.own p
    · exact .inl hw
    · exact .inr (p1.p.dead hp hw)
theorem me_dnew {k : DK} : PE X (.Dict [] [] pos) (tE K ca Wx cl (.dnew k)) := by
  cases k with
  | sc =>
    refine PEi pe_dnewK fun σ H Q ⟨W, ρ, S, R, h⟩ => fun p hp => ?_
    refine h (.ref p) (upd H p (.dK [])) W (postE_lay R.inw hp) (inw_lay R.inw hp) (sto_lay R.inw R.so hp) (.ow upd_same ⟨[], rfl, rfl⟩ (R.inw.newOZ hp) fun _ => ⟨R.inw.newZ hp, R.inw.newO hp, .inr hp⟩) nofun
  | tp =>
    refine PEi pe_dnewT fun σ H Q ⟨W, ρ, S, R, h⟩ => fun p hp => ?_
    refine h (.ref p) (upd H p (.dT [])) W (postE_lay R.inw hp) (inw_lay R.inw hp) (sto_lay R.inw R.so hp) (.ow upd_same ⟨[], rfl, rfl⟩ (R.inw.newOZ hp) fun _ => ⟨R.inw.newZ hp, R.inw.newO hp, .inr hp⟩) nofun
/-! ### subscripts, slices -/
def notSl : Expr → Bool
  | .Slice .. => false
  | _ => true
theorem plain_ix {b : Expr} (h : notSl b = true) : PlainIx b := by
  intro o i
  cases b <;> first | rfl | cases h
theorem me_idx (o : XOk K ca Wx cl c X) {ea eb : E} {a b : Expr} (hs : notSl b = true) (ha : PE X a (tE K ca Wx cl ea)) (hb : PE X b (tE K ca Wx cl eb)) : PE X (.Subscript a b pos) (tE K ca Wx cl (.idx ea eb)) := by
  have r := ix_all (X := X) o.room
  rw [o.kk] at r
  refine PEi (pe_ix r ha hb (plain_ix hs)) fun σ H Q ⟨W, ρ, S, R, h⟩ => ?_
  refine two (α := Nat) (al := False) (fun W H S x y d vx vy Q I so e hx hy f => idx_sound I so e hx hy f) (fun _ _ _ _ r => .fr r) (fun t => ?_) R h
  have t' : (quiet ea && quiet eb) = true := t
  rw [Bool.and_eq_true] at t'
  exact ⟨t'.1, t'.2, id⟩
theorem mo_no : PO X none (tEo K ca Wx cl .no) := by
  refine ⟨fun pins s σ H Q I hq => po_none.run pins s σ H Q I ?_⟩
  obtain ⟨W, ρ, S, R, h⟩ := hq
  exact h none H W .refl R.inw R.so rfl nofun
theorem mo_some {e : E} {x : Expr} (ha : PE X x (tE K ca Wx cl e)) : PO X (some x) (tEo K ca Wx cl (.some e)) := by
  refine ⟨fun pins s σ H Q I hq => (po_some ha).run pins s σ H Q I ?_⟩
  obtain ⟨W, ρ, S, R, h⟩ := hq
  refine ⟨W, ρ, S, R, Ans.bind (α := Option Int) (β := Option Int) (rp := fun _ _ a b => a = b) (q := false) (k := fun x S1 => match x with | .fr (.int i) => Rs.ok (some i) S1 | _ => .stk) h fun x S1 vx H1 W1 e1 p1 i1 s1 r1 q1 h1 => ?_⟩
  cases x with
  | fr d =>
    cases d with
    | int i => cases r1.toD; exact ⟨i, rfl, h1 (some i) H1 W1 p1 i1 s1 rfl nofun⟩
    | _ => exact h1.elim
  | _ => exact h1.elim
theorem me_sl (o : XOk K ca Wx cl c X) {ea : E} {elo ehi : Eo} {a : Expr} {lo hi : Option Expr} {p2 : Pos} (ha : PE X a (tE K ca Wx cl ea)) (hl : PO X lo (tEo K ca Wx cl elo)) (hh : PO X hi (tEo K ca Wx cl ehi)) : PE X (.Subscript a (.Slice lo hi none p2) pos) (tE K ca Wx cl (.sl ea elo ehi)) := by
  have r := sl_all (X := X)
  rw [o.kk] at r
  refine PEi (pe_slice r ha hl hh) fun σ H Q ⟨W, ρ, S, R, h⟩ => ?_
  refine ⟨W, ρ, S, R, Ans.bind (α := OV) (rp := RepW K true W H) (q := false) (k := fun x S1 => if x.isBo then .stk else (evo cl elo ρ S1).bind fun l S2 => (evo cl ehi ρ S2).bind fun h S3 => ofO S3 (slO x.view l h)) h fun x S1 vx H1 W1 e1 p1 i1 s1 r1 q1 h1 => ?_⟩
  cases hb : x.isBo with
  | true => rw [hb] at h1; exact h1.elim
  | false =>
    rw [hb] at h1
    have h1 : Ans K ca Wx (RepW K true W H) false W H S σ Q ((evo cl elo ρ S1).bind fun l S2 => (evo cl ehi ρ S2).bind fun h S3 => ofO S3 (slO x.view l h)) := h1
    refine ⟨W1, ρ, S1, ⟨i1, R.sl.post p1, s1⟩, (h1.move (S1 := S1) (q2 := false) p1 nofun nofun).bind fun l S2 l' H2 W2 e2 p2 i2 s2 r2 q2 h2 => ?_⟩
    cases r2
    refine ⟨W2, ρ, S2, ⟨i2, (R.sl.post p1).post p2, s2⟩, (h2.move (S1 := S2) (q2 := false) p2 nofun nofun).bind fun u S3 u' H3 W3 e3 p3 i3 s3 r3 q3 h3 => ?_⟩
    cases r3
    cases e : slO x.view l u with
    | none => rw [e] at h3; exact h3.elim
    | some ov =>
      rw [e] at h3
      refine sl_sound i3 s3 e ((r1.stay i1 i3 (p2.trans p3) hb).toV i3) fun v H' W' p i s r _ => ?_
      exact h3 v H' W' (p3.trans p) i s (r.back (p1.trans (p2.trans p3))) nofun
end
end Sg
namespace Sg
open PySem PySem.Spec PyProof.Rows L2
section
variable {K : PySem.W.Frag} {ca : Str → Addr} {Wx : WX} {cl : Str → List D → Sto → Res} {c : CK} {X : Cx} {pos : Pos}
/-! ### isinstance -/
theorem SqT.tyx {W : Wd} {H : Hp} {a : Addr} {vs : List V} (h : SqT K H a vs) : TyX K H (.ref a) (.type "tuple") := by
  rcases h with (h | ⟨o, h⟩) | ⟨o, its, n, h1, h2, _⟩
  · exact .base (.tup h)
  · exact .fTuple h
  · exact .kTuple h1 h2
theorem SqL.tyx {H : Hp} {a : Addr} {vs : List V} (h : SqL K H a vs) : TyX K H (.ref a) (.type "list") := by
  rcases h with (h | ⟨o, h⟩) | ⟨o, its, n, h1, h2, _⟩
  · exact .base (.lst h)
  · exact .base (.frz h)
  · exact .kList h1 h2
theorem kit_tab : ∀ (T : Ty), kitB "NoneType" T.s = some false ∧ kitB "bool" T.s = some (decide (T = .bool) || decide (T = .int)) ∧ kitB "int" T.s = some (decide (T = .int)) ∧ kitB "str" T.s = some (decide (T = .str)) ∧
    kitB "tuple" T.s = some (decide (T = .tuple)) ∧ kitB "list" T.s = some (decide (T = .list)) ∧ kitB "dict" T.s = some (decide (T = .dict)) := by
  intro T
  cases T <;> decide +kernel
/-- a locked dict with tuples as keys -/
theorem call_isiF : CallR X (.builtin "isinstance") (fun xs H Q => ∃ a o kvs T b, xs = [.ref a, .ty T] ∧ H a = some (.frz o (.dT kvs)) ∧ kitB "dict" T = some b ∧ Q (.bl b) H) := by
  intro pins s σ H xs us Q I r h
  obtain ⟨a, o, kvs, T, b, rfl, hl, kb, q⟩ := h
  obtain ⟨u1, u2, rfl, r1, r2⟩ := vals2 r
  cases (show u1 = Value.ref a from r1)
  cases (show u2 = Value.type T from r2)
  obtain ⟨_, _, _, xs, _, ob, es, ep, h1, h2, _⟩ := (show ObjOk X.prog X.w H s.heap a (.frz o (.dT kvs)) from I.hok a _ hl)
  exact PySem.W.kia_one PySem.W.kitx_dict I.kIn ⟨ob, h1, h2.1⟩ (kit_ty (K := X.K) kb) (fun z => nomatch z) fun tk => ⟨.bl b, H, I.tok tk, rfl, q⟩
/-- of a built-in type by its name -/
def TyV (K : PySem.W.Frag) (H : Hp) (v : V) (T : Ty) (b : Bool) : Prop := ∃ t, TyX K H v (.type t) ∧ kitB t T.s = some b
theorem ty_sound {W : Wd} {H : Hp} {d : D} {v : V} {T : Ty} {b : Bool} (h : RepV K W H d v) (e : isTy d T = some b) (hd : ∀ k kvs, d ≠ .dct k kvs) : TyV K H v T b := by
  obtain ⟨t1, t2, t3, t4, t5, t6, t7⟩ := kit_tab T
  cases d with
  | non => cases h; cases e; exact ⟨_, .base .non, t1⟩
  | bl x => cases h; cases e; exact ⟨_, .base (.bl x), t2⟩
  | int x => cases h; cases e; exact ⟨_, .base (.int x), t3⟩
  | str x => cases h; cases e; exact ⟨_, .base (.str x), t4⟩
  | tup ds => obtain ⟨a, vs, rfl, s, _, _⟩ := h; cases e; exact ⟨_, .base (.tup s), t5⟩
  | ctup ds => obtain ⟨a, vs, rfl, s, _⟩ := h; cases e; exact ⟨_, SqT.tyx (W := W) (SqTwr (H := H) s), t5⟩
  | lst ds => obtain ⟨a, vs, rfl, s, _⟩ := h; cases e; exact ⟨_, SqL.tyx s, t6⟩
  | dct k kvs => exact absurd rfl (hd k kvs)
  | ref c => cases e
theorem boot_T : ∀ T : Ty, bootBuiltins (Str.ofString T.s) = some (.type T.s) := by
  intro T
  cases T <;> decide +kernel
theorem me_isT (o : XOk K ca Wx cl c X) {T : Ty} {e : E} {a : Expr} {p p2 : Pos} (hs : notStar a = true) (hi : glB c.sc "isinstance" = true) (hf : c.free "isinstance" = true) (hi2 : glB c.sc (Str.ofString T.s) = true) (hf2 : c.free (Str.ofString T.s) = true) (ha : PE X a (tE K ca Wx cl e)) :
    PE X (.Call (.Name "isinstance" p) [a, .Name (Str.ofString T.s) p2] [] pos) (tE K ca Wx cl (.isT e T)) := by
  have hT : PE X (.Name (Str.ofString T.s) p2) (tC (.ty T.s)) := pe_bltn (gl_of o hi2) (o.fr _ hf2) (boot_T T) rfl (by cases T <;> decide +kernel) (by cases T <;> decide +kernel)
  have hA : PA X [a, .Name (Str.ofString T.s) p2] (tCons (tE K ca Wx cl e) (tCons (tC (.ty T.s)) tNil)) := pa_cons ha (pa_cons hT pa_nil) (star_cons hs)
  refine PEi (pe_callB (call_isi.or call_isiF) (gl_of o hi) (o.fr _ hf) boot_isinstance hA (he := star_cons hs)) fun σ H Q ⟨W, ρ, S, R, h⟩ => ?_
  refine ⟨W, ρ, S, R, Ans.bind (α := OV) (rp := RepW K false W H) (q := false) (k := fun x S1 => (ofO S1 (isTy x.view T)).bind fun b S2 => Rs.ok (OV.fr (.bl b)) S2) h fun x S1 vx H1 W1 e1 p1 i1 s1 r1 q1 h1 => ?_⟩
  cases hb : isTy x.view T with
  | none => rw [hb] at h1; exact h1.elim
  | some b =>
    rw [hb] at h1
    have fin : Q (.bl b) H1 := h1 (.bl b) H1 W1 p1 i1 s1 (.fr rfl) nofun
    have ty : TyV K H1 vx T b ∨ ∃ a o kvs, vx = .ref a ∧ H1 a = some (.frz o (.dT kvs)) ∧ kitB "dict" T.s = some b := by
      cases hv : x.view with
      | dct k kvs =>
        rw [hv] at hb
        obtain ⟨t1, t2, t3, t4, t5, t6, t7⟩ := kit_tab T
        cases hb
        have rv := r1.toV i1
        rw [hv] at rv
        cases k with
        | sc =>
          obtain ⟨a, ws, rfl, rd, _⟩ := rv
          rcases rd with rd | ⟨ob, rd⟩
          · exact .inl ⟨_, .base (.dK rd), t7⟩
          · exact .inl ⟨_, .fDict rd, t7⟩
        | tp =>
          obtain ⟨a, ws, rfl, rd, _⟩ := rv
          rcases rd with rd | ⟨ob, rd⟩
          · exact .inl ⟨_, .base (.dT rd), t7⟩
          · exact .inr ⟨a, ob, ws, rfl, rd, t7⟩
      | _ => exact .inl (ty_sound (hv ▸ r1.toV i1) (hv ▸ hb) (fun _ _ z => by cases z))
    rcases ty with ⟨t, ty, kb⟩ | ⟨a, ob, kvs, rfl, hl, kb⟩
    · exact .inl ⟨vx, .ty T.s, .type t, .type T.s, b, rfl, .ty _, by rw [o.kk]; exact ty, kit_ty kb, fin⟩
    · exact .inr ⟨a, ob, kvs, T.s, b, rfl, hl, kb, fin⟩
end
end Sg
namespace Sg
open PySem PySem.Spec PyProof.Rows L2
section
variable {K : PySem.W.Frag} {ca : Str → Addr} {Wx : WX} {cl : Str → List D → Sto → Res} {c : CK} {X : Cx} {pos : Pos}
def rLenD : List V → Hp → VK → Prop := fun xs H Q => ∃ p kvs, xs = [.ref p] ∧ Rd H p (.dK kvs) ∧ Q (.int kvs.length) H
theorem call_lenDc : CallR X (.builtin "len") rLenD := by
  intro pins s σ H xs us Q I r h
  obtain ⟨p, kvs, rfl, e, q⟩ := h
  obtain ⟨u, rfl, rx⟩ := vals1 r
  cases rx
  exact d_len I e fun t s' I' => ⟨.int _, H, I', ⟨_, rfl⟩, q⟩
def biV : Bi → Value
  | .int => .type "int" | .str => .type "str" | .list => .type "list" | .tuple => .type "tuple" | .dict => .type "dict" | .bool => .type "bool"
  | .len => .builtin "len" | .sorted => .builtin "sorted" | .min => .builtin "min" | .max => .builtin "max" | .sum => .builtin "sum" | .any => .builtin "any" | .all => .builtin "all" | .abs => .builtin "abs" | .divmod => .builtin "divmod"
theorem boot_bi : ∀ b : Bi, bootBuiltins (Str.ofString b.s) = some (biV b) := by
  intro b
  cases b <;> decide +kernel
def rBi (K : PySem.W.Frag) : Bi → List V → Hp → VK → Prop
  | .len => fun xs H Q => (∃ p ys, xs = [.ref p] ∧ (SqL K H p ys ∨ SqT K H p ys) ∧ Q (.int ys.length) H) ∨ (∃ z, xs = [.str z] ∧ z.length ≤ sizeLine ∧ Q (.int z.length) H) ∨ rLenD xs H Q
  | .int => fun xs H Q => ((∃ i, xs = [.int i] ∧ Q (.int i) H) ∨ ∃ k, xs = [.bl k] ∧ Q (.int (if k then 1 else 0)) H) ∨ ∃ a n, xs = [.str a] ∧ intText? a = some n ∧ a.length ≤ 640 ∧ Q (.int n) H
  | .list => fun xs H Q => ∃ p ys, xs = [.ref p] ∧ (SqL K H p ys ∨ SqT K H p ys) ∧ ∀ l, H l = none → Q (.ref l) (upd H l (.lst ys))
  | .tuple => fun xs H Q => ∃ p ys, xs = [.ref p] ∧ ((SqL K H p ys ∧ ∀ l, H l = none → Q (.ref l) (upd H l (.tup ys))) ∨ (SqT K H p ys ∧ Q (.ref p) H))
  | .str => fun xs H Q => ∃ i : Int, xs = [.int i] ∧ i.natAbs.log2 < 1920 ∧ Q (.str (toString i)) H
  | .min => fun xs H Q => ∃ i j, xs = [.int i, .int j] ∧ Q (.int (if j < i then j else i)) H
  | .max => fun xs H Q => ∃ i j, xs = [.int i, .int j] ∧ Q (.int (if j > i then j else i)) H
  | .abs => fun xs H Q => ∃ i, xs = [.int i] ∧ Q (.int (if i < 0 then -i else i)) H
  | .dict => fun xs H Q => ∃ p ws, xs = [.ref p] ∧ Rd H p (.dK ws) ∧ ∀ l, H l = none → Q (.ref l) (upd H l (.dK ws))
  | .sum => rSum K
  | .any => rAny K
  | .all => rAll K
  | _ => fun _ _ _ => False
theorem call_dict_of : CallR X (.type "dict") (fun xs H Q => ∃ p ws, xs = [.ref p] ∧ Rd H p (.dK ws) ∧ ∀ l, H l = none → Q (.ref l) (upd H l (.dK ws))) := by
  intro pins s σ H xs us Q I r h
  obtain ⟨p, ws, rfl, e, q⟩ := h
  obtain ⟨u, rfl, rx⟩ := vals1 r
  cases rx
  exact d_copyOf I e fun l s' hl I' => ⟨.ref l, _, I', rfl, q l hl⟩
theorem no_rule {f : Value} : CallR X f (fun _ _ _ => False) := fun _ _ _ _ _ _ _ _ _ h => h.elim
theorem bi_rule (hc : X.calm = true) : ∀ b : Bi, CallR X (biV b) (rBi X.K b)
  | .len => call_len_seq.or (call_len_str.or call_lenDc)
  | .int => call_int1.or call_int_str
  | .list => call_list_of
  | .tuple => call_tuple_of
  | .str => call_str_int
  | .min => call_min2 hc
  | .max => call_max2 hc
  | .abs => call_abs
  | .sum => cr_sum hc
  | .any => cr_any hc
  | .all => cr_all hc
  | .sorted => no_rule
  | .dict => call_dict_of
  | .divmod => no_rule
  | .bool => no_rule
theorem RepWs.one {W : Wd} {H : Hp} {ovs : List OV} {vs : List V} {d : D} (r : RepWs K W H ovs vs) (e : ovs.map OV.view = [d]) (I : Inw W H) : ∃ v, vs = [v] ∧ RepV K W H d v := by
  cases r with
  | nil => cases e
  | cons r t =>
    cases t with
    | nil =>
      cases e
      exact ⟨_, rfl, r.toV I⟩
    | cons _ _ => cases e
theorem RepWs.two {W : Wd} {H : Hp} {ovs : List OV} {vs : List V} {d1 d2 : D} (r : RepWs K W H ovs vs) (e : ovs.map OV.view = [d1, d2]) (I : Inw W H) : ∃ v w, vs = [v, w] ∧ RepV K W H d1 v ∧ RepV K W H d2 w := by
  cases r with
  | nil => cases e
  | cons r t =>
    cases t with
    | nil => cases e
    | cons r2 t =>
      cases t with
      | nil => cases e; exact ⟨_, _, rfl, r.toV I, r2.toV I⟩
      | cons _ _ => cases e
theorem intsOf_V {Z : Hp} {mu : Nat → Option Addr} : ∀ {ds : List D} {vs : List V} {ns : List Int}, RepDs K Z mu ds vs → intsOf ds = some ns → vs = ns.map V.int
  | [], _, ns, h, e => by cases h; cases e; rfl
  | .int i :: ds, _, ns, ⟨v, r, e1, h1, h2⟩, e => by
    subst e1
    obtain ⟨ms, e2, e3⟩ := Option.map_eq_some_iff.mp (show (intsOf ds).map (i :: ·) = some ns from e)
    subst e3
    rw [List.map_cons, intsOf_V h2 e2]
    cases h1; rfl
  | .non :: _, _, _, _, e => by cases e
  | .bl _ :: _, _, _, _, e => by cases e
  | .str _ :: _, _, _, _, e => by cases e
  | .tup _ :: _, _, _, _, e => by cases e
  | .ctup _ :: _, _, _, _, e => by cases e
  | .lst _ :: _, _, _, _, e => by cases e
  | .dct _ _ :: _, _, _, _, e => by cases e
  | .ref _ :: _, _, _, _, e => by cases e
theorem blsOf_V {Z : Hp} {mu : Nat → Option Addr} : ∀ {ds : List D} {vs : List V} {ns : List Bool}, RepDs K Z mu ds vs → blsOf ds = some ns → vs = ns.map V.bl
  | [], _, ns, h, e => by cases h; cases e; rfl
  | .bl i :: ds, _, ns, ⟨v, r, e1, h1, h2⟩, e => by
    subst e1
    obtain ⟨ms, e2, e3⟩ := Option.map_eq_some_iff.mp (show (blsOf ds).map (i :: ·) = some ns from e)
    subst e3
    rw [List.map_cons, blsOf_V h2 e2]
    cases h1; rfl
  | .non :: _, _, _, _, e => by cases e
  | .int _ :: _, _, _, _, e => by cases e
  | .str _ :: _, _, _, _, e => by cases e
  | .tup _ :: _, _, _, _, e => by cases e
  | .ctup _ :: _, _, _, _, e => by cases e
  | .lst _ :: _, _, _, _, e => by cases e
  | .dct _ _ :: _, _, _, _, e => by cases e
  | .ref _ :: _, _, _, _, e => by cases e
theorem bi_sound {W : Wd} {H : Hp} {S : Sto} {Q : VK} (I : Inw W H) (so : StoOk K ca W H S) {b : Bi} {ovs : List OV} {vs : List V} {ov : OV} (r : RepWs K W H ovs vs) (e : biO b (ovs.map OV.view) = some ov) (h : FinO K ca W H S (b ≠ .len) ov Q) : rBi K b vs H Q := by
  generalize hx : ovs.map OV.view = xs at e
  cases b with
  | len =>
    match xs, e with
    | [.lst ds], e =>
      cases e
      obtain ⟨v, rfl, a, ws, rfl, s, r1⟩ := r.one hx I
      exact .inl ⟨a, ws, rfl, .inl s, by rw [r1.length]; exact h.here I so rfl⟩
    | [.tup ds], e =>
      cases e
      obtain ⟨v, rfl, a, ws, rfl, s, _, r1⟩ := r.one hx I
      exact .inl ⟨a, ws, rfl, .inr (SqT.of s), by rw [r1.length]; exact h.here I so rfl⟩
    | [.ctup ds], e =>
      cases e
      obtain ⟨v, rfl, a, ws, rfl, s, r1⟩ := r.one hx I
      exact .inl ⟨a, ws, rfl, .inr (SqTwr s), by rw [r1.length]; exact h.here I so rfl⟩
    | [.str z], e =>
      obtain ⟨v, rfl, rv⟩ := r.one hx I
      cases rv
      have e' : (if z.length ≤ lim then some (OV.fr (.int z.length)) else none) = some ov := e
      split at e'
      · rename_i c; cases e'; exact .inr (.inl ⟨z, rfl, lim_le c, h.here I so rfl⟩)
      · cases e'
    | [.dct .sc kvs], e =>
      cases e
      obtain ⟨v, rfl, a, ws, rfl, s, r1⟩ := r.one hx I
      have hl : ∀ {kvs : List (D × D)} {ws : List (Key × V)}, RepKs K W.Z W.mu kvs ws → ws.length = kvs.length := by
        intro kvs
        induction kvs with
        | nil => intro ws h; cases h; rfl
        | cons p kvs ih => intro ws ⟨k', v, r, e, _, _, h2⟩; subst e; simp [ih h2]
      exact .inr (.inr ⟨a, ws, rfl, s, by rw [hl r1]; exact h.here I so rfl⟩)
  | int =>
    match xs, e with
    | [.int i], e => cases e; obtain ⟨v, rfl, rv⟩ := r.one hx I; cases rv; exact .inl (.inl ⟨i, rfl, h.here I so rfl⟩)
    | [.bl i], e => cases e; obtain ⟨v, rfl, rv⟩ := r.one hx I; cases rv; exact .inl (.inr ⟨i, rfl, h.here I so rfl⟩)
    | [.str z], e =>
      obtain ⟨v, rfl, rv⟩ := r.one hx I
      cases rv
      have e' : (if z.length ≤ 640 then (intText? z).map fun n => OV.fr (.int n) else none) = some ov := e
      split at e'
      · rename_i c
        obtain ⟨n, e1, e2⟩ := Option.map_eq_some_iff.mp e'
        subst e2
        exact .inr ⟨z, n, rfl, e1, c, h.here I so rfl⟩
      · cases e'
  | list =>
    match xs, e with
    | [.lst ds], e =>
      cases e
      obtain ⟨v, rfl, a, ws, rfl, s, r1⟩ := r.one hx I
      exact ⟨a, ws, rfl, .inl s, fun p hp => h.new nofun I so hp ⟨ws, rfl, r1⟩⟩
    | [.tup ds], e =>
      cases e
      obtain ⟨v, rfl, a, ws, rfl, s, _, r1⟩ := r.one hx I
      exact ⟨a, ws, rfl, .inr (SqT.of s), fun p hp => h.new nofun I so hp ⟨ws, rfl, r1⟩⟩
    | [.ctup ds], e =>
      cases e
      obtain ⟨v, rfl, a, ws, rfl, s, r1⟩ := r.one hx I
      exact ⟨a, ws, rfl, .inr (SqTwr s), fun p hp => h.new nofun I so hp ⟨ws, rfl, r1⟩⟩
  | tuple =>
    match xs, e with
    | [.lst ds], e =>
      cases e
      obtain ⟨v, rfl, a, ws, rfl, s, r1⟩ := r.one hx I
      exact ⟨a, ws, rfl, .inl ⟨s, fun p hp => h.newF nofun I so hp ⟨p, ws, rfl, upd_same, RepDs.le (zm_frz I hp) (fun _ _ e => e) _ _ r1⟩⟩⟩
    | [.tup ds], e =>
      cases e
      obtain ⟨v, rfl, a, ws, rfl, s, z, r1⟩ := r.one hx I
      exact ⟨a, ws, rfl, .inr ⟨SqT.of s, h.here I so ⟨a, ws, rfl, z, r1⟩⟩⟩
    | [.ctup ds], e =>
      cases e
      obtain ⟨v, rfl, a, ws, rfl, s, r1⟩ := r.one hx I
      exact ⟨a, ws, rfl, .inr ⟨SqTwr s, h.here I so ⟨a, ws, rfl, s, r1⟩⟩⟩
  | dict =>
    match xs, e with
    | [.dct .sc kvs], e =>
      cases e
      obtain ⟨v, rfl, a, ws, rfl, s, r1⟩ := r.one hx I
      exact ⟨a, ws, rfl, s, fun p hp => h.new nofun I so hp ⟨ws, rfl, r1⟩⟩
  | str =>
    match xs, e with
    | [.int i], e =>
      obtain ⟨v, rfl, rv⟩ := r.one hx I
      cases rv
      have e' : (if i.natAbs < 2 ^ 64 then some (OV.fr (.str (Str.ofString (toString i)))) else none) = some ov := e
      split at e'
      · rename_i c
        cases e'
        refine ⟨i, rfl, ?_, h.here I so rfl⟩
        by_cases h0 : i.natAbs = 0
        · rw [h0]; decide
        · have := (Nat.log2_lt h0).mpr c
          omega
      · cases e'
  | min =>
    match xs, e with
    | [.int i, .int j], e => cases e; obtain ⟨v, w, rfl, rv, rw'⟩ := r.two hx I; cases rv; cases rw'; exact ⟨i, j, rfl, h.here I so rfl⟩
  | max =>
    match xs, e with
    | [.int i, .int j], e => cases e; obtain ⟨v, w, rfl, rv, rw'⟩ := r.two hx I; cases rv; cases rw'; exact ⟨i, j, rfl, h.here I so rfl⟩
  | abs =>
    match xs, e with
    | [.int i], e => cases e; obtain ⟨v, rfl, rv⟩ := r.one hx I; cases rv; exact ⟨i, rfl, h.here I so rfl⟩
  | sum =>
    match xs, e with
    | [.lst ds], e =>
      obtain ⟨v, rfl, a, ws, rfl, s, r1⟩ := r.one hx I
      obtain ⟨ns, e2, e3⟩ := Option.map_eq_some_iff.mp (show (intsOf ds).map (fun ns => OV.fr (.int ns.sum)) = some ov from e)
      subst e3
      have := intsOf_V r1 e2
      subst this
      exact ⟨a, ns, rfl, s, h.here I so rfl⟩
  | any =>
    match xs, e with
    | [.lst ds], e =>
      obtain ⟨v, rfl, a, ws, rfl, s, r1⟩ := r.one hx I
      obtain ⟨ns, e2, e3⟩ := Option.map_eq_some_iff.mp (show (blsOf ds).map (fun ns => OV.fr (.bl (ns.any id))) = some ov from e)
      subst e3
      have := blsOf_V r1 e2
      subst this
      exact ⟨a, ns, rfl, s, h.here I so rfl⟩
  | all =>
    match xs, e with
    | [.lst ds], e =>
      obtain ⟨v, rfl, a, ws, rfl, s, r1⟩ := r.one hx I
      obtain ⟨ns, e2, e3⟩ := Option.map_eq_some_iff.mp (show (blsOf ds).map (fun ns => OV.fr (.bl (ns.all id))) = some ov from e)
      subst e3
      have := blsOf_V r1 e2
      subst this
      exact ⟨a, ns, rfl, s, h.here I so rfl⟩
  | _ => cases e
theorem me_bi (o : XOk K ca Wx cl c X) {b : Bi} {es : Es} {x : Expr} {xs : List Expr} {p : Pos} (hs : noStars (x :: xs) = true) (hi : glB c.sc (Str.ofString b.s) = true) (hf : c.free (Str.ofString b.s) = true) (ha : PA X (x :: xs) (tEv K ca Wx cl es)) :
    PE X (.Call (.Name (Str.ofString b.s) p) (x :: xs) [] pos) (tE K ca Wx cl (.bi b es)) := by
  have hs' : notStar x = true ∧ noStars xs = true := by
    have t : (notStar x && noStars xs) = true := hs
    rwa [Bool.and_eq_true] at t
  have r := bi_rule (X := X) o.calm b
  rw [o.kk] at r
  have pe : PE X (.Call (.Name (Str.ofString b.s) p) (x :: xs) [] pos) (tCB (rBi K b) (tEv K ca Wx cl es)) := by
    cases hv : biV b with
    | builtin id =>
      rw [hv] at r
      exact pe_callB r (gl_of o hi) (o.fr _ hf) (by rw [boot_bi, hv]) ha (by cases b <;> decide +kernel) (by cases b <;> decide +kernel) (star_cons hs'.1) (noStar_any hs'.2)
    | type T =>
      rw [hv] at r
      exact pe_callTy r (gl_of o hi) (o.fr _ hf) (by rw [boot_bi, hv]) ha (by cases b <;> decide +kernel) (by cases b <;> decide +kernel) (star_cons hs'.1) (noStar_any hs'.2)
    | _ => cases b <;> cases hv
  refine PEi pe fun σ H Q ⟨W, ρ, S, R, h⟩ => ?_
  have hq : quiet (.bi b es) = true → quiets es = true := fun t => by
    have t' : (decide (b = .len) && quiets es) = true := t
    rw [Bool.and_eq_true] at t'
    exact t'.2
  refine ⟨W, ρ, S, R, Ans.bind (α := OV) (rp := RepW K true W H) (q := quiet (.bi b es)) (q1 := quiets es) (k := fun xs S1 => ofO S1 (biO b (xs.map OV.view))) h fun ovs S1 vs H1 W1 e1 p1 i1 s1 r1 q1 h1 => ?_⟩
  cases hb : biO b (ovs.map OV.view) with
  | none => rw [hb] at h1; exact h1.elim
  | some ov =>
    rw [hb] at h1
    refine bi_sound i1 s1 r1 hb fun v H' W' p i s r g => ?_
    refine h1 v H' W' (p1.trans p) i s (r.back p1) fun t => ?_
    have t' : (decide (b = .len) && quiets es) = true := t
    rw [Bool.and_eq_true, decide_eq_true_eq] at t'
    obtain ⟨a1, a2⟩ := g (fun n => n t'.1)
    obtain ⟨b1, b2, b3⟩ := q1 t'.2
    exact ⟨a1.trans b1, a2.trans b2, b3⟩
end
end Sg
namespace L2
open PySem PySem.Spec PyProof.Rows
section
variable {X : Cx} {CX : CXT} {k : Nat} {f C : Addr} {fd : FuncData} {ps : List Str} {sp : Sp} {E : St → XK} {x m : Str} {p pos apos : Pos}
theorem pe_callS0 (F : FnOk X.prog X.w X.K X.mg X.base CX k f fd ps sp) (hr : Room k X.A) (hg : Gl X x) (hm : X.mg x = some (.ref f)) (hk : PySem.W.keepIn X.K (.ref f) = true) (hb : Binds X.K fd ps []) (hx : ∀ σ, PassesAt CX X σ (E σ))
    (hdb : (x == ("__debug__" : Str)) = false := by decide) : PE X (.Call (.Name x p) [] [] pos) (tCallS sp E tNil) := by
  refine ⟨fun pins s σ H Q I h => ?_⟩
  refine wpAny_Call_Name_kw (ld_glob I hg hm ?_ hdb)
  exact PySem.W.callWith_K0 I.kIn hk (run_fnS (us := []) F hr hb (hx σ) I .nil h)
end
end L2
namespace Sg
open PySem PySem.Spec PyProof.Rows L2
section
variable {K : PySem.W.Frag} {ca : Str → Addr} {Wx : WX} {cl : Str → List D → Sto → Res} {c : CK} {X : Cx} {pos : Pos}
/-- what a callee does, seen by the caller -/
structure Back (W W1 : Wd) (H1 : Hp) (W' : Wd) (H' : Hp) (W2 : Wd) : Prop where
  z : W2.Z = W'.Z
  m : W2.mu = W'.mu
  o : W2.O = W'.O
  l : W2.L = W1.L
  p : PostE W1 H1 W2 H'
  i : Inw W2 H'
def Wd.bare (W : Wd) : Wd := { W with L := fun _ => none }
theorem inw_bare {W : Wd} {H : Hp} (I : Inw W H) : Inw W.bare H :=
  ⟨I.zl, fun a o e z => I.zo a o e (z.elim (fun q => absurd rfl q) .inr), fun a i e => (by cases e), fun a z => I.ho a (z.elim (fun q => absurd rfl q) .inr), I.kh, fun a z => I.ot a (z.elim (fun q => absurd rfl q) .inr)⟩
theorem sto_bare {W : Wd} {H : Hp} {S : Sto} (h : StoOk K ca W H S) : StoOk K ca W.bare H S := h.keep (fun _ _ e => e) rfl (fun _ _ => rfl) (fun _ _ => rfl)
theorem back_of {W1 W' : Wd} {H1 H' : Hp} (i1 : Inw W1 H1) (p : Post W1.bare H1 W' H') (i : Inw W' H') : PostE W1 H1 { W' with L := W1.L } H' ∧ Inw { W' with L := W1.L } H' := by
  have ol : ∀ a, W1.bare.own a → W1.own a := fun a z => z.elim (fun q => absurd rfl q) .inr
  have nl : ∀ a, W1.L a ≠ none → ¬ W1.bare.own a := fun a h z => by
    rcases z with z | z
    · exact z rfl
    · cases q : W1.L a with
      | none => exact h q
      | some j => exact z (i1.lo a j q)
  have hl : ∀ a, W1.L a ≠ none → H1 a ≠ none := fun a h => i1.ho a (.inl h)
  have oo : ∀ a, W'.O a ≠ none → W1.bare.own a ∨ H1 a = none := fun a z => p.on a (.inr z)
  have heq : ∀ a, W1.L a ≠ none → H' a = H1 a := fun a h => by
    cases q : H1 a with
    | none => exact absurd q (hl a h)
    | some o => exact p.stay q (nl a h) (by
        cases z : W1.Z a with
        | none => exact z
        | some u => exact absurd (.inl h) (i1.zo a u z))
  refine ⟨⟨⟨p.zm, p.mm, fun a o e n => p.fr a o e fun z => n (ol a z), fun a o e => ?_, fun a z => ?_, p.lk⟩, fun _ => rfl, fun a j e => heq a (by rw [e]; exact nofun)⟩, ⟨i.zl, fun a o e z => ?_, fun a j e => ?_, fun a z => ?_, i.kh, fun a z => ?_⟩⟩
  · rcases p.zn a o e with z | z | z
    · exact .inl z
    · exact .inr (.inl (ol a z))
    · exact .inr (.inr z)
  · rcases z with z | z
    · exact .inl (.inl z)
    · rcases oo a z with y | y
      · exact .inl (ol a y)
      · exact .inr y
  · rcases z with z | z
    · have z : W1.L a ≠ none := z
      rcases p.zn a o e with y | y | y
      · exact i1.zo a o y (.inl z)
      · exact nl a z y
      · exact hl a z y
    · exact i.zo a o e (.inr z)
  · have e : W1.L a = some j := e
    have ne : W1.L a ≠ none := by rw [e]; exact nofun
    show W'.O a = none
    cases q : W'.O a with
    | none => rfl
    | some y =>
      rcases oo a (by rw [q]; exact nofun) with z | z
      · exact absurd z (nl a ne)
      · exact absurd z (hl a ne)
  · rcases z with z | z
    · have z : W1.L a ≠ none := z
      rw [heq a z]; exact hl a z
    · exact i.ho a (.inr z)
  · rcases z with z | z
    · have z : W1.L a ≠ none := z
      rw [heq a z]; exact i1.ot a (.inl z)
    · exact i.ot a (.inr z)
theorem RepH.same {W W' : Wd} {ov : OV} {o : HO} (z : W'.Z = W.Z) (m : W'.mu = W.mu) (h : RepH K W ov o) : RepH K W' ov o := h.le (fun _ _ e => by rw [z]; exact e) (fun _ _ e => by rw [m]; exact e)
theorem RepW.lift {W1 W' : Wd} {H1 H' : Hp} {ov : OV} {v : V} (i1 : Inw W1 H1) (r : RepW K true W1.bare H1 W' H' ov v) : RepW K true W1 H1 { W' with L := W1.L } H' ov v := by
  cases r with
  | fr r => exact .fr r
  | bo e r => exact .bo e (RepH.same rfl rfl r)
  | @ow _ a o e r hO hf =>
    refine .ow e (RepH.same rfl rfl r) hO fun t => ?_
    obtain ⟨h1, h2, h3⟩ := hf t
    have h4 : W1.own a ∨ H1 a = none := h3.imp (fun z => z.elim (fun q => absurd rfl q) .inr) id
    refine ⟨h1, fun z => ?_, h4⟩
    rcases z with z | z
    · have z : W1.L a ≠ none := z
      rcases h3 with y | y
      · rcases y with y | y
        · exact y rfl
        · cases q : W1.L a with
          | none => exact z q
          | some j => exact y (i1.lo a j q)
      · exact i1.ho a (.inl z) y
    · exact h2 (.inr z)
theorem RepX.same {W W' : Wd} {H : Hp} {x : Exn} {cls : Value} {dx : Option Addr} (z : W'.Z = W.Z) (m : W'.mu = W.mu) (h : RepX K ca W H x cls dx) : RepX K ca W' H x cls dx := by
  refine ⟨h.1, fun n => ?_⟩
  obtain ⟨dd, vfs, e1, e2, r⟩ := h.2 n
  refine ⟨dd, vfs, e1, e2, fun f d e => ?_⟩
  obtain ⟨v, e3, r3⟩ := r f d e
  exact ⟨v, e3, RepD.le (fun _ _ e => by rw [z]; exact e) (fun _ _ e => by rw [m]; exact e) _ _ r3⟩
/-- the call of a def -/
theorem call_sound {g : List D → Sto → Res} {n : Nat} (hl : ∀ ds S, ds.length ≠ n → g ds S = .stk) {W1 : Wd} {H1 : Hp} {S1 : Sto} {σ : L2.St} {Q : VK} {ds : List D} {vs : List V} (i1 : Inw W1 H1) (s1 : StoOk K ca W1 H1 S1) (r1 : RepDs K W1.Z W1.mu ds vs)
    (h : Ans K ca Wx (RepW K true W1 H1) false W1 H1 S1 σ Q (g ds S1)) : spOf K ca n g vs H1 Q (WE Wx σ) := by
  have hn : ds.length = n := by
    by_cases e : ds.length = n
    · exact e
    · rw [hl ds S1 e] at h; exact h.elim
  refine ⟨W1.bare, S1, ds, inw_bare i1, fun _ => rfl, sto_bare s1, r1, hn, ?_⟩
  cases e : g ds S1 with
  | stk => rw [e] at h; exact h.elim
  | ok ov S' =>
    rw [e] at h
    intro v H' W' p i s r
    obtain ⟨p2, i2⟩ := back_of i1 p i
    exact h v H' { W' with L := W1.L } p2 i2 (s.keep (fun _ _ e => e) rfl (fun _ _ => rfl) (fun _ _ => rfl)) (r.lift i1) nofun
  | exc x S' =>
    rw [e] at h
    intro cls dx H' W' p i s r
    obtain ⟨p2, i2⟩ := back_of i1 p i
    exact h cls dx H' { W' with L := W1.L } p2 i2 (s.keep (fun _ _ e => e) rfl (fun _ _ => rfl) (fun _ _ => rfl)) (RepX.same rfl rfl r)
theorem Ans.from {W W1 : Wd} {H H1 : Hp} {S S1 : Sto} {σ : L2.St} {Q : VK} {r : Res} (p : PostE W H W1 H1) (h : Ans K ca Wx (RepW K true W H) false W H S σ Q r) : Ans K ca Wx (RepW K true W1 H1) false W1 H1 S1 σ Q r := h.rest p fun t => t
theorem me_call (o : XOk K ca Wx cl c X) {f : Str} {es : Es} {x : Expr} {xs : List Expr} {p : Pos} (hs : noStars (x :: xs) = true) (hi : glB c.sc f = true) (hn : nm f = true) (hf : c.fns f = true) (ha : PA X (x :: xs) (tEs K ca Wx cl es)) :
    PE X (.Call (.Name f p) (x :: xs) [] pos) (tE K ca Wx cl (.call f es)) := by
  have kk := o.kk
  subst kk
  obtain ⟨n, fa, fd, ps, hm, hk, hb, F, hr, hl⟩ := o.fn f hf
  have hs' : (notStar x && noStars xs) = true := hs
  rw [Bool.and_eq_true] at hs'
  refine PEi (pe_callS (E := WE Wx) F hr (gl_of o hi) hm hk hb (passAt o.tk) ha (nm_d hn) (star_cons hs'.1) (noStar_any hs'.2)) fun σ H Q ⟨W, ρ, S, R, h⟩ => ?_
  refine ⟨W, ρ, S, R, Ans.bind (α := OV) (rp := RepW X.K true W H) (q := false) (k := fun ds S1 => cl f ds S1) h fun ds S1 vs H1 W1 e1 p1 i1 s1 r1 q1 h1 => ?_⟩
  exact call_sound hl i1 s1 r1 (h1.from p1)
theorem me_call0 (o : XOk K ca Wx cl c X) {f : Str} {p : Pos} (hi : glB c.sc f = true) (hn : nm f = true) (hf : c.fns f = true) :
    PE X (.Call (.Name f p) [] [] pos) (tE K ca Wx cl (.call f .nil)) := by
  have kk := o.kk
  subst kk
  obtain ⟨n, fa, fd, ps, hm, hk, hb, F, hr, hl⟩ := o.fn f hf
  refine PEi (pe_callS0 (E := WE Wx) F hr (gl_of o hi) hm hk hb (passAt o.tk) (nm_d hn)) fun σ H Q ⟨W, ρ, S, R, h⟩ => ?_
  exact call_sound (ds := []) (vs := []) hl R.inw R.so rfl h
/-! a < b < c -/
theorem isFr_of {x : OV} (h : x.isFr = true) : x = .fr x.view ∧ x.isBo = false := by
  cases x <;> first | exact ⟨rfl, rfl⟩ | cases h
theorem al_no {o : Op2} {op : CmpOp} (h : cmpOf o = some op) : ¬ o = .add := by
  rintro rfl
  cases h
theorem two_chain {o1 o2 : Op2} {p1 : CmpOp} (h1 : cmpOf o1 = some p1) {ea eb ec : E} {σ : L2.St} {H : Hp} {Q : VK} (h : tE K ca Wx cl (.cmp3 o1 o2 ea eb ec) σ H Q) : tChain (rOp K o1) (rOp K o2) (tE K ca Wx cl ea) (tE K ca Wx cl eb) (tE K ca Wx cl ec) σ H Q := by
  obtain ⟨W, ρ, S, R, h⟩ := h
  have h : Ans K ca Wx (RepW K false W H) false W H S σ Q (ev cl (.cmp3 o1 o2 ea eb ec) ρ S) := h
  refine ⟨W, ρ, S, R, Ans.bind (α := OV) (rp := RepW K false W H) (q := false) (k := fun x S1 => (ev cl eb ρ S1).bind fun y S2 => if x.isFr && y.isFr then (match op2 o1 x.view y.view with
      | some (.bl true) => (ev cl ec ρ S2).bind fun z S3 => (ofO S3 (op2 o2 y.view z.view)).bind fun d S4 => .ok (.fr d) S4
      | some (.bl false) => .ok (.fr (.bl false)) S2
      | _ => .stk) else .stk) h fun x S1 vx H1 W1 e1 p1 i1 s1 r1 q1 h1 => ?_⟩
  refine ⟨W1, ρ, S1, ⟨i1, R.sl.post p1, s1⟩, (h1.move (S1 := S1) (q2 := false) p1 nofun nofun).bind fun y S2 vy H2 W2 e2 p2 i2 s2 r2 q2 h2 => ?_⟩
  by_cases hc : (x.isFr && y.isFr) = true
  · rw [if_pos hc] at h2
    rw [Bool.and_eq_true] at hc
    obtain ⟨ex, bx⟩ := isFr_of hc.1
    obtain ⟨ey, bY⟩ := isFr_of hc.2
    have rx := (r1.stay i1 i2 p2 bx).toV i2
    cases e : op2 o1 x.view y.view with
    | none => rw [e] at h2; exact h2.elim
    | some d =>
      rw [e] at h2
      refine op_sound i2 s2 e rx (r2.toV i2) fun v H3 W3 p3 i3 s3 rd gq => ?_
      obtain ⟨g1, g2⟩ := gq (al_no ‹_›)
      subst g1 g2
      cases d with
      | bl k =>
        cases rd
        refine ⟨k, rfl, ?_⟩
        cases k with
        | false => exact h2 _ _ _ p2 i2 s2 (.fr rfl) nofun
        | true =>
          refine ⟨_, ρ, S2, ⟨i2, (R.sl.post p1).post p2, s2⟩, (Ans.move (α := OV) (rp := RepW K false W H) (q := false) (r := (ev cl ec ρ S2).bind fun z S3 => (ofO S3 (op2 o2 y.view z.view)).bind fun d S4 => .ok (.fr d) S4) h2 (S1 := S2) (q2 := false) p2 nofun nofun).bind fun z S4 vz H4 W4 e4 p4 i4 s4 r4 q4 h4 => ?_⟩
          cases e5 : op2 o2 y.view z.view with
          | none => rw [e5] at h4; exact h4.elim
          | some d5 =>
            rw [e5] at h4
            refine op_sound i4 s4 e5 ((r2.stay i2 i4 p4 bY).toV i4) (r4.toV i4) fun v H5 W5 p5 i5 s5 rd5 gq5 => ?_
            exact h4 v H5 W5 (p4.trans p5) i5 s5 (.fr rd5) nofun
      | _ => exact h2.elim
  · rw [if_neg hc] at h2
    exact h2.elim
theorem me_cmp3 (o : XOk K ca Wx cl c X) {o1 o2 : Op2} {c1 c2 : CmpOp} {ea eb ec : E} {a b x : Expr} (h1 : cmpOf o1 = some c1) (h2 : cmpOf o2 = some c2) (hm : lastMarks [c1, c2] [b, x] = false) (ha : PE X a (tE K ca Wx cl ea)) (hb : PE X b (tE K ca Wx cl eb)) (hx : PE X x (tE K ca Wx cl ec)) :
    PE X (.Compare a [c1, c2] [b, x] pos) (tE K ca Wx cl (.cmp3 o1 o2 ea eb ec)) := by
  have r1 := op_rule (X := X) o.room o1
  have r2 := op_rule (X := X) o.room o2
  rw [fop_cmp h1, o.kk] at r1
  rw [fop_cmp h2, o.kk] at r2
  exact PEi (pe_chain r1 r2 ha hb hx hm) fun σ H Q h => two_chain h1 h
theorem mt_cmp3 (o : XOk K ca Wx cl c X) {o1 o2 : Op2} {c1 c2 : CmpOp} {ea eb ec : E} {a b x : Expr} (h1 : cmpOf o1 = some c1) (h2 : cmpOf o2 = some c2) (hm : lastMarks [c1, c2] [b, x] = false) (ha : PE X a (tE K ca Wx cl ea)) (hb : PE X b (tE K ca Wx cl eb)) (hx : PE X x (tE K ca Wx cl ec)) :
    PT X (.Compare a [c1, c2] [b, x] pos) (tB (tE K ca Wx cl (.cmp3 o1 o2 ea eb ec))) := by
  have r1 := op_rule (X := X) o.room o1
  have r2 := op_rule (X := X) o.room o2
  rw [fop_cmp h1, o.kk] at r1
  rw [fop_cmp h2, o.kk] at r2
  exact PTi (pt_chain r1 r2 ha hb hx hm) fun σ H Q h => two_chain h1 h
end
end Sg
namespace Sg
open PySem PySem.Spec PyProof.Rows L2
section
variable {K : PySem.W.Frag} {ca : Str → Addr} {Wx : WX} {cl : Str → List D → Sto → Res} {c : CK} {X : Cx} {pos : Pos}
/-! ### methods of built-in types -/
def bmS : Bm → String
  | .join => "join" | .get => "get" | .index => "index" | .split => "split" | .values => "values" | .items => "items" | .keys => "keys" | .count => "count" | .find => "find" | .tindex => "index" | .replace => "replace" | .startswith => "startswith"
/-- what it must be ahead of the arguments; what comes of it -/
def rBmT (K : PySem.W.Frag) : Bm → V → Hp → Prop
  | .get => fun x H => ∃ a, x = .ref a ∧ IsD H a
  | .join => fun x H => ∃ s, x = .str s
  | .index => fun x H => (∃ s, x = .str s) ∨ ∃ a ys, x = .ref a ∧ SqL K H a ys
  | .find => fun x H => ∃ s, x = .str s
  | .tindex => fun x H => ∃ a ys, x = .ref a ∧ SqC K a ys
  | _ => fun _ _ => False
def rTI (K : PySem.W.Frag) : V → List V → Hp → VK → Prop := fun x xs H Q => ∃ p, ∃ ys : List Str, ∃ z j, x = .ref p ∧ xs = [.str z] ∧ SqT K H p (ys.map V.str) ∧ ys[j]? = some z ∧ (∀ m, m < j → ys[m]? ≠ some z) ∧ Q (.int (j : Nat)) H
def rBm (K : PySem.W.Frag) : Bm → V → List V → Hp → VK → Prop
  | .get => fun x xs H Q => ∃ a y o, x = .ref a ∧ DGet H a y o ∧ ((xs = [y] ∧ Q (o.getD .non) H) ∨ ∃ z, xs = [y, z] ∧ Q (o.getD z) H)
  | .join => fun x xs H Q => ∃ a p, ∃ ys : List Str, x = .str a ∧ xs = [.ref p] ∧ (SqL K H p (ys.map V.str) ∨ SqT K H p (ys.map V.str)) ∧ (ys.map (·.length)).sum + ys.length * a.length ≤ 16777216 ∧ Q (.str (Txt.join a ys)) H
  | .index => fun x xs H Q => (∃ a b i rest, x = .str a ∧ xs = [.str b] ∧ Builtin.Str.occurrences a b 0 a.length 1 = i :: rest ∧ Q (.int (i : Nat)) H) ∨ rIndex K x xs H Q
  | .find => fun x xs H Q => ∃ a b, x = .str a ∧ xs = [.str b] ∧ Q (.int (Txt.find a b)) H
  | .tindex => rTI K
  | _ => fun _ _ _ _ => False
def tBmA (K : PySem.W.Frag) (m : Bm) (to : TE) (t : TA) : TE := fun σ H Q => to σ H fun x H1 => rBmT K m x H1 ∧ t σ H1 fun xs H2 => rBm K m x xs H2 Q
theorem few_of {e : Expr} {es : List Expr} (h : noStars (e :: es) = true) (hl : (e :: es).length < 20) {cpos : Pos} {env : Env} : ((backTo cpos (starEach (e :: es) env)).all (fun x => !x.1) && (backToKw cpos (keywordEach [] env)).all (fun x => x.1.isSome)
      && decide ((e :: es).length + ([] : List Keyword).length + (if ([] : List Keyword).isEmpty then 0 else 1) < 30)) = true := by
  have h1 : (backTo cpos (starEach (e :: es) env)).all (fun x => !x.1) = true := by
    have h2 := noStar_any (pos := cpos) (env := env) h
    rw [List.any_eq_false] at h2
    rw [List.all_eq_true]
    intro x hx
    have := h2 x hx
    simpa using this
  rw [h1]
  have h3 : (e :: es).length + 0 + 0 < 30 := by omega
  show (true && true && decide ((e :: es).length + 0 + 0 < 30)) = true
  rw [decide_eq_true h3]
  rfl
/-- a method of a value, by its name -/
theorem pe_meth (o : XOk K ca Wx cl c X) {m : Bm} {a e : Expr} {es : List Expr} {to : TE} {t : TA} {apos : Pos} (hm : m = .get ∨ m = .join ∨ m = .index ∨ m = .find ∨ m = .tindex) (hs : noStars (e :: es) = true) (hl : (e :: es).length < 20) (hb : attributeBase a (Str.ofString (bmS m)) X.env (eval a X.env) = eval a X.env)
    (hp : (apos.endLine == pos.line) = true) (ha : PE X a to) (he : PA X (e :: es) t) : PE X (.Call (.Attribute a (Str.ofString (bmS m)) apos) (e :: es) [] pos) (tBmA K m to t) := by
  have kk := o.kk
  subst kk
  have hs' : (notStar e && noStars es) = true := hs
  rw [Bool.and_eq_true] at hs'
  have hu : X.A.units + 1 < cLine := by have := o.room; omega
  refine ⟨fun pins s σ H Q I h => ?_⟩
  -- the type's own method, given a value of it
  have go : ∀ (T id : String) (v : Value) (s1 : Shared) (H1 : Hp) (x : V), PlainAttrs T → Slot T (Str.ofString (bmS m)) id → typeOf (.builtin id) = pure (.type "method_descriptor") →
      (∀ (pins : List (Addr × Obj)) (s : Shared) (σ : L2.St) (H : Hp) (xs : List V) (us : List Value) (Q : VK), Inv X pins σ H s → Vals xs us → rBm X.K m x xs H Q → wpAny (model X.prog X.w) X.A (call (.builtin id) (v :: us)) (EP X pins σ Q) X.xe s) →
      s1.TypeIs v T → (∀ b, v = .ref b → ∃ ob, s1.heap.get? b = some ob ∧ ob.dict = none) → Inv X pins σ H1 s1 → (t σ H1 fun xs H2 => rBm X.K m x xs H2 Q) →
      ∃ T id, PlainAttrs T ∧ Slot T (Str.ofString (bmS m)) id ∧ typeOf (.builtin id) = pure (.type "method_descriptor") ∧ s1.TypeIs v T ∧ (∀ b, v = .ref b → ∃ ob, s1.heap.get? b = some ob ∧ ob.dict = none) ∧
        wpAny (model X.prog X.w) X.A (callWith pos (.builtin id) [v] (backTo pos (starEach (e :: es) X.env)) (backToKw pos (keywordEach [] X.env))) (EP X pins σ Q) X.xe s1 := by
    intro T id v s1 H1 x pa sl ty hm t1 t2 I1 q1
    refine ⟨T, id, pa, sl, ty, t1, t2, ?_⟩
    have hA := he.run pos pins s1 σ H1 _ I1 q1
    rw [star_cons hs'.1] at hA ⊢
    refine Calls.callWith_builtin (by show (false || (backTo pos (starEach es X.env)).any (·.1)) = false; rw [noStar_any hs'.2] <;> rfl) (Calls.evalArgs_plain ?_)
    exact thn hA fun us s2 ⟨vs, H2, I2, r2, q2⟩ => hm pins s2 σ H2 vs us Q I2 r2 q2
  refine wpAny_Call_method_late hb (few_of hs hl) hp rfl (thn (ha.run pins s σ H _ I h) fun v s1 ⟨x, H1, I1, r1, ty, q1⟩ => ?_)
  rcases hm with rfl | rfl | rfl | rfl | rfl
  · obtain ⟨a, rfl, d⟩ := ty
    obtain rfl : v = Value.ref a := r1
    obtain ⟨t1, t2, _⟩ := isD_at I1 d
    refine go "dict" "dict.get" _ s1 H1 (.ref a) PySem.F.plainAttrs_dict PySem.F.slot_dict_get PySem.F.type_dict_get ?_ t1 t2 I1 q1
    intro pins s σ H xs us Q I rs h
    obtain ⟨a', y, ov, e0, g, h⟩ := h
    cases e0
    rcases h with ⟨rfl, q⟩ | ⟨z, rfl, q⟩
    · obtain ⟨u, rfl, ru⟩ := rs.one
      exact d_get1 hu I g ru fun w' s3 I3 rw' => ⟨_, H, I3, rw', q⟩
    · obtain ⟨u, w, rfl, ru, rw1⟩ := rs.two
      exact d_get2 hu I g ru rw1 fun w' s3 I3 rw' => ⟨_, H, I3, rw', q⟩
  · obtain ⟨z, rfl⟩ := ty
    obtain ⟨t, rfl⟩ := r1
    exact go "str" "str.join" _ s1 H1 (.str z) PySem.F.plainAttrs_str PySem.F.slot_str_join PySem.F.type_str_join (fun pins s σ H xs us Q I rs h => mt_join pins s σ H (.str z) xs _ us Q I ⟨t, rfl⟩ rs h) (typeIs_str s1 z t) (fun _ e => nomatch e) I1 q1
  · rcases ty with ⟨z, rfl⟩ | ⟨a, ys, rfl, sq⟩
    · obtain ⟨t, rfl⟩ := r1
      refine go "str" "str.index" _ s1 H1 (.str z) PySem.F.plainAttrs_str PySem.F.slot_str_index PySem.F.type_str_index (fun pins s σ H xs us Q I rs h => ?_) (typeIs_str s1 z t) (fun _ e => nomatch e) I1 q1
      rcases h with h | ⟨a, ys, y, j, z, e, _⟩
      · exact mt_sindex pins s σ H (.str z) xs _ us Q I ⟨t, rfl⟩ rs h
      · cases e
    · obtain rfl : v = Value.ref a := r1
      obtain ⟨its, _, pl, _⟩ := I1.list sq
      refine go "list" "list.index" _ s1 H1 (.ref a) PySem.F.plainAttrs_list PySem.F.slot_list_index PySem.F.type_list_index (fun pins s σ H xs us Q I rs h => ?_) pl.isList.typeIs (fun b e => ?_) I1 q1
      · rcases h with ⟨_, _, _, _, e, _⟩ | h
        · cases e
        · exact mt_index pins s σ H (.ref a) xs _ us Q I rfl rs h
      · cases e
        obtain ⟨o, n, e, c, hd, _⟩ := pl
        exact ⟨o, e, hd⟩
  · obtain ⟨z, rfl⟩ := ty
    obtain ⟨t, rfl⟩ := r1
    exact go "str" "str.find" _ s1 H1 (.str z) PySem.F.plainAttrs_str PySem.F.slot_str_find PySem.F.type_str_find (fun pins s σ H xs us Q I rs h => mt_find pins s σ H (.str z) xs _ us Q I ⟨t, rfl⟩ rs h) (typeIs_str s1 z t) (fun _ e => nomatch e) I1 q1
  · obtain ⟨a, ys, rfl, sq⟩ := ty
    obtain rfl : v = Value.ref a := r1
    obtain ⟨its, _, ⟨o, ho, hc, _⟩, _⟩ := I1.tuple (SqTwr sq)
    refine go "tuple" "tuple.index" _ s1 H1 (.ref a) PySem.F.plainAttrs_tuple PySem.F.slot_tuple_index PySem.F.type_tuple_index (fun pins s σ H xs us Q I rs h => mt_tup_index pins s σ H (.ref a) xs _ us Q I rfl rs h) ?_ (fun b e => ?_) I1 q1
    · exact ⟨o, ho, hc⟩
    · cases e
      rcases sq.1 with (h | ⟨_, h⟩) | ⟨o', its, n, hk, _⟩
      · cases h
      · cases h
      · exact ⟨o', I1.kIn a o' hk, sq.2 o' hk⟩
/-! by values -/
theorem idxOf_rep {Z : Hp} {mu : Nat → Option Addr} {x : D} {vx : V} (hx : RepD K Z mu x vx) (fx : flatD x = true) : ∀ {ds : List D} {vs : List V} {i : Nat}, RepDs K Z mu ds vs → ds.all flatD = true → idxOf x ds = some i →
    ∃ z, vs[i]? = some z ∧ eqV z vx = true ∧ ∀ (m : Nat) (z' : V), m < i → vs[m]? = some z' → eqV z' vx = false
  | [], _, _, _, _, e => by cases e
  | d :: ds, _, i, ⟨v, r, e0, h1, h2⟩, f, e => by
    subst e0
    rw [List.all_cons, Bool.and_eq_true] at f
    have e : (if eqv d x then some 0 else (idxOf x ds).map (· + 1)) = some i := e
    have he := flat_eq h1 hx f.1 fx
    split at e
    · rename_i hc
      cases e
      exact ⟨v, rfl, he.trans hc, fun m z' hm => absurd hm (Nat.not_lt_zero _)⟩
    · rename_i hc
      obtain ⟨j, e1, e2⟩ := Option.map_eq_some_iff.mp e
      subst e2
      obtain ⟨z, a1, a2, a3⟩ := idxOf_rep hx fx h2 f.2 e1
      refine ⟨z, a1, a2, fun m z' hm hz => ?_⟩
      cases m with
      | zero =>
        have hz : some v = some z' := hz
        cases hz
        rw [he]
        simpa using hc
      | succ m => exact a3 m z' (by omega) hz
theorem strsOf_V {Z : Hp} {mu : Nat → Option Addr} : ∀ {ds : List D} {vs : List V} {ys : List Str}, RepDs K Z mu ds vs → strsOf ds = some ys → vs = ys.map V.str
  | [], _, ns, h, e => by cases h; cases e; rfl
  | .str i :: ds, _, ns, ⟨v, r, e1, h1, h2⟩, e => by
    subst e1
    obtain ⟨ms, e2, e3⟩ := Option.map_eq_some_iff.mp (show (strsOf ds).map (i :: ·) = some ns from e)
    subst e3
    rw [List.map_cons, strsOf_V h2 e2]
    cases h1; rfl
  | .non :: _, _, _, _, e => by cases e
  | .bl _ :: _, _, _, _, e => by cases e
  | .int _ :: _, _, _, _, e => by cases e
  | .tup _ :: _, _, _, _, e => by cases e
  | .ctup _ :: _, _, _, _, e => by cases e
  | .lst _ :: _, _, _, _, e => by cases e
  | .dct _ _ :: _, _, _, _, e => by cases e
  | .ref _ :: _, _, _, _, e => by cases e
theorem bmT_sound {W : Wd} {H : Hp} {m : Bm} {x : D} {v : V} (e : bmT m x = true) (h : RepV K W H x v) (hm : m = .get ∨ m = .join ∨ m = .index ∨ m = .find ∨ m = .tindex) (ht : ∀ ds, x ≠ .tup ds ∨ m ≠ .index) : rBmT K m v H := by
  rcases hm with rfl | rfl | rfl | rfl | rfl
  · cases x with
    | dct q kvs =>
      cases q with
      | sc => obtain ⟨a, ws, rfl, rd, _⟩ := h; exact ⟨a, rfl, .inl ⟨ws, rd⟩⟩
      | tp => obtain ⟨a, ws, rfl, rd, _⟩ := h; exact ⟨a, rfl, .inr ⟨ws, rd⟩⟩
    | _ => cases e
  · cases x with
    | str s => exact ⟨s, h⟩
    | _ => cases e
  · cases x with
    | str s => exact .inl ⟨s, h⟩
    | lst ds => obtain ⟨a, vs, rfl, s, _⟩ := h; exact .inr ⟨a, vs, rfl, s⟩
    | tup ds => rcases ht ds with z | z <;> exact absurd rfl z
    | _ => cases e
  · cases x with
    | str s => exact ⟨s, h⟩
    | _ => cases e
  · cases x with
    | ctup ds => obtain ⟨a, vs, rfl, s, _⟩ := h; exact ⟨a, vs, rfl, s⟩
    | _ => cases e
theorem sIdx_ok {z : Str} : ∀ {ys : List Str} {j : Nat}, sIdx z ys = some j → ys[j]? = some z ∧ ∀ m, m < j → ys[m]? ≠ some z
  | [], _, e => by cases e
  | y :: ys, j, e => by
    have e : (if y = z then some 0 else (sIdx z ys).map (· + 1)) = some j := e
    split at e
    · rename_i h
      cases e
      exact ⟨by rw [h]; rfl, fun m hm => absurd hm (Nat.not_lt_zero _)⟩
    · rename_i h
      obtain ⟨i, e1, e2⟩ := Option.map_eq_some_iff.mp e
      subst e2
      obtain ⟨a1, a2⟩ := sIdx_ok e1
      refine ⟨a1, fun m hm q => ?_⟩
      cases m with
      | zero => exact h (Option.some.inj q)
      | succ m => exact a2 m (by omega) q
theorem sIdxO_sound {W : Wd} {H : Hp} {S : Sto} {Q : VK} (I : Inw W H) (so : StoOk K ca W H S) {y : D} {w : V} {ds : List D} {p : Addr} {us : List V} {ov : OV} (e : sIdxO y (strsOf ds) = some ov) (ry : RepV K W H y w) (s : SqT K H p us) (ru : RepDs K W.Z W.mu ds us) (h : FinO K ca W H S False ov Q) : rTI K (.ref p) [w] H Q := by
  cases y with
  | str z =>
    cases e1 : strsOf ds with
    | none => rw [e1] at e; cases e
    | some ys =>
      rw [e1] at e
      obtain ⟨i, e2, e3⟩ := Option.map_eq_some_iff.mp (show (sIdx z ys).map (fun i => OV.fr (.int (i : Nat))) = some ov from e)
      subst e3
      have := strsOf_V ru e1
      subst this
      cases ry
      obtain ⟨a1, a2⟩ := sIdx_ok e2
      exact ⟨p, ys, z, i, rfl, rfl, s, a1, a2, h.here I so rfl⟩
  | _ => cases e
theorem join_sound {W : Wd} {H : Hp} {S : Sto} {Q : VK} (I : Inw W H) (so : StoOk K ca W H S) {a : Str} {ds : List D} {p : Addr} {vs : List V} {ov : OV} (e : joinO a (strsOf ds) = some ov) (hs : SqL K H p vs ∨ SqT K H p vs) (r : RepDs K W.Z W.mu ds vs) (h : FinO K ca W H S False ov Q) : rBm K .join (.str a) [.ref p] H Q := by
  cases e1 : strsOf ds with
  | none => rw [e1] at e; cases e
  | some ys =>
    rw [e1] at e
    have e : (if (ys.map (·.length)).sum + ys.length * a.length ≤ 16777216 then some (OV.fr (.str (Txt.join a ys))) else none) = some ov := e
    split at e
    · rename_i hl
      cases e
      have := strsOf_V r e1
      subst this
      exact ⟨a, p, ys, rfl, rfl, hs, hl, h.here I so rfl⟩
    · cases e
theorem RepWs.oneR {W : Wd} {H : Hp} {y : OV} {vs : List V} (r : RepWs K W H [y] vs) : ∃ v, vs = [v] ∧ RepW K false W H W H y v := by
  cases r with
  | cons r t => cases t; exact ⟨_, rfl, r⟩
theorem RepWs.twoR {W : Wd} {H : Hp} {y z : OV} {vs : List V} (r : RepWs K W H [y, z] vs) : ∃ v w, vs = [v, w] ∧ RepW K false W H W H y v ∧ RepW K false W H W H z w := by
  cases r with
  | cons r t =>
    cases t with
    | cons r2 t => cases t; exact ⟨_, _, rfl, r, r2⟩
theorem bm_sound {W : Wd} {H : Hp} {S : Sto} {Q : VK} (I : Inw W H) (so : StoOk K ca W H S) {m : Bm} {x : D} {v : V} {xs : List OV} {vs : List V} {ov : OV} (rx : RepV K W H x v) (r : RepWs K W H xs vs) (e : bmO m x xs = some ov) (h : FinO K ca W H S False ov Q) : rBm K m v vs H Q := by
  cases m with
  | get =>
    cases x with
    | dct q kvs =>
      match xs, r, e with
      | [k], r, e =>
        obtain ⟨o, e1, e2⟩ := Option.map_eq_some_iff.mp (show (dlook q kvs k.view).map (fun o => OV.fr (o.getD .non)) = some ov from e)
        subst e2
        obtain ⟨w, rfl, rw1⟩ := r.oneR
        obtain ⟨a, ro, rfl, g, g1, g2⟩ := dlook_ok e1 rx (rw1.toV I)
        refine ⟨a, w, ro, rfl, g, .inl ⟨rfl, ?_⟩⟩
        cases o with
        | none => rw [g2 rfl]; exact h.here I so rfl
        | some d => obtain ⟨u, e3, r3⟩ := g1 d rfl; rw [e3]; exact h.here I so r3
      | [k, .fr d0], r, e =>
        obtain ⟨o, e1, e2⟩ := Option.map_eq_some_iff.mp (show (dlook q kvs k.view).map (fun o => OV.fr (o.getD d0)) = some ov from e)
        subst e2
        obtain ⟨w, z, rfl, rw1, rw2⟩ := r.twoR
        obtain ⟨a, ro, rfl, g, g1, g2⟩ := dlook_ok e1 rx (rw1.toV I)
        refine ⟨a, w, ro, rfl, g, .inr ⟨z, rfl, ?_⟩⟩
        cases o with
        | none => rw [g2 rfl]; exact h.here I so rw2.toD
        | some d => obtain ⟨u, e3, r3⟩ := g1 d rfl; rw [e3]; exact h.here I so r3
    | _ => cases e
  | join =>
    cases x with
    | str a =>
      match xs, r, e with
      | [y], r, e =>
        obtain ⟨w, rfl, rw1⟩ := r.oneR
        have ry := rw1.toV I
        have e : (match y.view with | .lst ds => joinO a (strsOf ds) | .tup ds => joinO a (strsOf ds) | .ctup ds => joinO a (strsOf ds) | _ => none) = some ov := e
        cases rx
        cases hv : y.view with
        | lst ds => rw [hv] at e ry; obtain ⟨p, us, rfl, s, ru⟩ := ry; exact join_sound I so e (.inl s) ru h
        | tup ds => rw [hv] at e ry; obtain ⟨p, us, rfl, s, _, ru⟩ := ry; exact join_sound I so e (.inr (SqT.of s)) ru h
        | ctup ds => rw [hv] at e ry; obtain ⟨p, us, rfl, s, ru⟩ := ry; exact join_sound I so e (.inr (SqTwr s)) ru h
        | _ => rw [hv] at e; cases e
    | _ => cases e
  | index =>
    match xs, r, e with
    | [y], r, e =>
      obtain ⟨w, rfl, rw1⟩ := r.oneR
      have ry := rw1.toV I
      cases x with
      | str a =>
        have e : (match y.view with | .str b => (match Builtin.Str.occurrences a b 0 a.length 1 with | i :: _ => some (OV.fr (.int (i : Nat))) | [] => none) | _ => none) = some ov := e
        cases rx
        cases hv : y.view with
        | str b =>
          rw [hv] at e ry
          cases ry
          cases ho : Builtin.Str.occurrences a b 0 a.length 1 with
          | nil => simp only [ho] at e; cases e
          | cons i rest =>
            simp only [ho] at e
            cases e
            exact .inl ⟨a, b, i, rest, rfl, rfl, ho, h.here I so rfl⟩
        | _ => rw [hv] at e; cases e
      | lst ds =>
        have e : (if flatD y.view && ds.all flatD then (idxOf y.view ds).map fun i => OV.fr (.int (i : Nat)) else none) = some ov := e
        split at e
        · rename_i hf
          have hf := (Bool.and_eq_true ..).mp hf
          obtain ⟨i, e1, e2⟩ := Option.map_eq_some_iff.mp e
          subst e2
          obtain ⟨p, us, rfl, s, ru⟩ := rx
          have ryd := ry.flat hf.1
          obtain ⟨z, a1, a2, a3⟩ := idxOf_rep ryd hf.1 ru hf.2 e1
          exact .inr ⟨p, us, w, i, z, rfl, rfl, s, flat_V ryd hf.1, flats_V ru hf.2, a1, a2, a3, h.here I so rfl⟩
        · cases e
      | _ => cases e
  | tindex =>
    match xs, r, e with
    | [y], r, e =>
      obtain ⟨w, rfl, rw1⟩ := r.oneR
      have ry := rw1.toV I
      cases x with
      | ctup ds => obtain ⟨p, us, rfl, s, ru⟩ := rx; exact sIdxO_sound I so e ry (SqTwr s) ru h
      | _ => cases e
  | find =>
    cases x with
    | str a =>
      match xs, r, e with
      | [y], r, e =>
        obtain ⟨w, rfl, rw1⟩ := r.oneR
        have ry := rw1.toV I
        have e : (match y.view with | .str b => some (OV.fr (.int (Txt.find a b))) | _ => none) = some ov := e
        cases rx
        cases hv : y.view with
        | str b =>
          rw [hv] at e ry
          cases ry
          cases e
          exact ⟨a, b, rfl, rfl, h.here I so rfl⟩
        | _ => rw [hv] at e; cases e
    | _ => cases e
  | _ => cases e
def bmOk : Bm → Bool
  | .get => true | .join => true | .index => true | .find => true | .tindex => true | _ => false
theorem bmOk_of {m : Bm} (h : bmOk m = true) : m = .get ∨ m = .join ∨ m = .index ∨ m = .find ∨ m = .tindex := by
  cases m <;> first | exact .inl rfl | exact .inr (.inl rfl) | exact .inr (.inr (.inl rfl)) | exact .inr (.inr (.inr (.inl rfl))) | exact .inr (.inr (.inr (.inr rfl))) | cases h
/-- not super() -/
def notSup : Expr → Bool
  | .Call (.Name _ _) [] [] _ => false
  | _ => true
theorem base_of {a : Expr} {m : Str} {env : Env} {w : Sem Value} (h : notSup a = true) : attributeBase a m env w = w := by
  unfold attributeBase
  split
  · cases h
  · rfl
theorem me_bm (o : XOk K ca Wx cl c X) {m : Bm} {ea : E} {es : Es} {a x : Expr} {xs : List Expr} {apos : Pos} (hm : bmOk m = true) (hs : noStars (x :: xs) = true) (hl : (x :: xs).length < 20) (hb : notSup a = true) (hp : (apos.endLine == pos.line) = true) (ha : PE X a (tE K ca Wx cl ea)) (he : PA X (x :: xs) (tEv K ca Wx cl es)) :
    PE X (.Call (.Attribute a (Str.ofString (bmS m)) apos) (x :: xs) [] pos) (tE K ca Wx cl (.bm ea m es)) := by
  refine PEi (pe_meth o (bmOk_of hm) hs hl (base_of hb) hp ha he) fun σ H Q ⟨W, ρ, S, R, h⟩ => ?_
  refine ⟨W, ρ, S, R, Ans.bind (α := OV) (rp := RepW K false W H) (q := false) (k := fun x S1 => if bmT m x.view && (!x.isBo || quiets es) then (evv cl es ρ S1).bind fun xs S2 => ofO S2 (bmO m x.view xs) else .stk) h fun y S1 vy H1 W1 e1 p1 i1 s1 r1 q1 h1 => ?_⟩
  by_cases hc : (bmT m y.view && (!y.isBo || quiets es)) = true
  · rw [if_pos hc] at h1
    rw [Bool.and_eq_true] at hc
    refine ⟨bmT_sound hc.1 (r1.toV i1) (bmOk_of hm) (fun ds => ?_), ?_⟩
    · by_cases z : m = .index
      · subst z
        refine .inl fun z => ?_
        have := hc.1
        rw [z] at this
        cases this
      · exact .inr z
    · refine ⟨W1, ρ, S1, ⟨i1, R.sl.post p1, s1⟩, (h1.move (S1 := S1) (q2 := false) (q := false) p1 nofun nofun).bind (q1 := quiets es) fun ys S2 vs H2 W2 e2 p2 i2 s2 r2 q2 h2 => ?_⟩
      have rx : RepV K W2 H2 y.view vy := by
        have hc := hc.2
        rw [Bool.or_eq_true] at hc
        rcases hc with hc | hc
        · exact (r1.stay i1 i2 p2 (by simpa using hc)).toV i2
        · obtain ⟨a1, a2, _⟩ := q2 hc
          rw [a1, a2]
          exact r1.toV i1
      cases e : bmO m y.view ys with
      | none => rw [e] at h2; exact h2.elim
      | some ov =>
        rw [e] at h2
        refine bm_sound i2 s2 rx r2 e fun v H' W' p i s r g => ?_
        exact h2 v H' W' (p2.trans p) i s r.ff.ff0 nofun
  · rw [if_neg hc] at h1
    exact h1.elim
end
end Sg
namespace Sg
open PySem PySem.Spec PyProof.Rows L2
section
variable {K : PySem.W.Frag} {ca : Str → Addr} {Wx : WX} {cl : Str → List D → Sto → Res} {c : CK} {X : Cx} {pos : Pos}
/-! ### what is walked -/
structure WkD (K : PySem.W.Frag) (W : Wd) (ds : List D) (J : L2.It) (G : Hp → Prop) (Y : Nat → Hp → V → Hp → Prop) : Prop where
  wk : Walk J ds.length G Y
  st : ∀ W' H', (∀ a o, W.Z a = some o → W'.Z a = some o) → Inw W' H' → G H'
  gv : ∀ W' H', (∀ a o, W.Z a = some o → W'.Z a = some o) → (∀ k a, W.mu k = some a → W'.mu k = some a) → Inw W' H' → ∀ i x H'', i < ds.length → Y i H' x H'' →
    ∃ d, ds[i]? = some d ∧ ((H'' = H' ∧ RepD K W'.Z W'.mu d x) ∨ ∃ T o, H' T = none ∧ H'' = upd H' T o ∧ x = .ref T ∧ RepD K (W'.frz T o).Z (W'.frz T o).mu d x)
def WalkD (K : PySem.W.Frag) (W : Wd) (ds : List D) (J : L2.It) : Prop := ∃ G Y, WkD K W ds J G Y
def tEi (K : PySem.W.Frag) (ca : Str → Addr) (Wx : WX) (cl : Str → List D → Sto → Res) (it : It) : TI := fun σ H R => ∃ W ρ S, Rel K ca W H ρ S σ ∧ Ans K ca Wx (fun W' _ ds J => WalkD K W' ds J) false W H S σ R (evi cl it ρ S)
theorem SqL.zle {Z Z' : Hp} {a : Addr} {vs : List V} (z : ∀ a o, Z a = some o → Z' a = some o) (h : SqL K Z a vs) : SqL K Z' a vs := by
  rcases h with (h | ⟨o, h⟩) | h
  · exact .inl (.inl (z _ _ h))
  · exact .inl (.inr ⟨o, z _ _ h⟩)
  · exact .inr h
theorem SqT.zle {Z Z' : Hp} {a : Addr} {vs : List V} (z : ∀ a o, Z a = some o → Z' a = some o) (h : SqT K Z a vs) : SqT K Z' a vs := by
  rcases h with (h | ⟨o, h⟩) | h
  · exact .inl (.inl (z _ _ h))
  · exact .inl (.inr ⟨o, z _ _ h⟩)
  · exact .inr h
/-- its items stand -/
theorem at_rep {W W' : Wd} {ds : List D} {vs : List V} {i : Nat} {x : V} (hz : ∀ a o, W.Z a = some o → W'.Z a = some o) (hm : ∀ k a, W.mu k = some a → W'.mu k = some a) (r : RepDs K W.Z W.mu ds vs) (hi : i < ds.length) (e : vs[i]? = some x) : ∃ d, ds[i]? = some d ∧ RepD K W'.Z W'.mu d x := by
  have e1 : ds[i]? = some ds[i] := List.getElem?_eq_getElem hi
  obtain ⟨v, e2, r2⟩ := r.get e1
  rw [e] at e2
  cases e2
  exact ⟨_, e1, RepD.le hz hm _ _ r2⟩
theorem walkD_list {W : Wd} {ds : List D} {a : Addr} {vs : List V} (h : SqL K W.Z a vs) (r : RepDs K W.Z W.mu ds vs) : WalkD K W ds (Itl K a) := by
  have hl := r.length
  refine ⟨fun H => SqL K H a vs, YAt vs, by rw [← hl]; exact walk_list, fun W' H' z I => SqL.up I (SqL.zle z h), fun W' H' z m I i x H'' hi y => ?_⟩
  obtain ⟨e, y⟩ := y
  obtain ⟨d, e1, r1⟩ := at_rep z m r hi y
  exact ⟨d, e1, .inl ⟨e, r1⟩⟩
theorem walkD_tup {W : Wd} {ds : List D} {a : Addr} {vs : List V} (h : SqT K W.Z a vs) (r : RepDs K W.Z W.mu ds vs) : WalkD K W ds (Itt K a) := by
  have hl := r.length
  refine ⟨fun H => SqT K H a vs, YAt vs, by rw [← hl]; exact walk_tup, fun W' H' z I => SqT.up I (SqT.zle z h), fun W' H' z m I i x H'' hi y => ?_⟩
  obtain ⟨e, y⟩ := y
  obtain ⟨d, e1, r1⟩ := at_rep z m r hi y
  exact ⟨d, e1, .inl ⟨e, r1⟩⟩
/-- the sequence that a frozen value is -/
theorem seq_cases {Z : Hp} {mu : Nat → Option Addr} {d : D} {v : V} {ds : List D} (r : RepD K Z mu d v) (e : seqD d = some ds) :
    ∃ a vs, v = .ref a ∧ RepDs K Z mu ds vs ∧ ((d = .lst ds ∧ SqL K Z a vs) ∨ ((d = .tup ds ∨ d = .ctup ds) ∧ SqT K Z a vs)) := by
  cases d with
  | lst x => cases e; obtain ⟨a, vs, e1, s, r⟩ := r; exact ⟨a, vs, e1, r, .inl ⟨rfl, s⟩⟩
  | tup x => cases e; obtain ⟨a, vs, e1, s, r⟩ := r; exact ⟨a, vs, e1, r, .inr ⟨.inl rfl, SqT.of s⟩⟩
  | ctup x => cases e; obtain ⟨a, vs, e1, s, r⟩ := r; exact ⟨a, vs, e1, r, .inr ⟨.inr rfl, SqTwr s⟩⟩
  | _ => cases e
theorem walkD_str {W : Wd} {z : Str} : WalkD K W (chsD z) (Its z) := by
  have hl : (chsD z).length = z.cps.size := by unfold chsD; rw [List.length_map]; simp
  refine ⟨_, _, by rw [hl]; exact walk_str, fun _ _ _ _ => trivial, fun W' H' _ m I i x H'' hi y => ?_⟩
  obtain ⟨e, c, y, e2⟩ := y
  refine ⟨.str ⟨#[c]⟩, ?_, .inl ⟨e, e2⟩⟩
  unfold chsD
  rw [List.getElem?_map, Array.getElem?_toList, y]
  rfl
def isS : D → Bool
  | .str _ => true
  | _ => false
/-- the walk of a sequence, of a text -/
theorem mi_seq (o : XOk K ca Wx cl c X) {e : E} {tg x : Expr} (ha : PE X x (tE K ca Wx cl e)) : PI X tg x (tEi K ca Wx cl (.seq e)) := by
  refine PIi (PIor (pi_list ha) (PIor (pi_tup ha) (pi_str ha))) fun σ H Q ⟨W, ρ, S, R, h⟩ => ?_
  rw [o.kk]
  have h : Ans K ca Wx (fun W' _ ds J => WalkD K W' ds J) false W H S σ Q ((ev cl e ρ S).bind fun x S1 => ofO S1 ((need (fresh e) x).bind wlkD)) := h
  -- what kind of value it is
  by_cases hl : ∃ x S1 d, ev cl e ρ S = .ok x S1 ∧ need (fresh e) x = some d ∧ isL d = true
  · obtain ⟨x, S1, d, e1, e2, e3⟩ := hl
    refine .inl ⟨W, ρ, S, R, Ans.bind (α := List D) (β := L2.It) (rp := fun W' _ ds J => WalkD K W' ds J) (q := false) (k := fun x S1 => ofO S1 ((need (fresh e) x).bind wlkD)) h fun x' S1' vx H1 W1 e4 p1 i1 s1 r1 q1 h1 => ?_⟩
    rw [e1] at e4
    cases e4
    rw [e2] at h1
    obtain ⟨W2, c2⟩ := ice p1 i1 s1 r1 e2
    cases d with
    | lst ds =>
      obtain ⟨a, vs, ev', s, rd⟩ := c2.r
      subst ev'
      exact ⟨a, rfl, ⟨vs, SqL.up c2.i s⟩, h1 _ _ W2 c2.p c2.i c2.s (walkD_list s rd) nofun⟩
    | _ => cases e3
  · by_cases hs : ∃ x S1 d, ev cl e ρ S = .ok x S1 ∧ need (fresh e) x = some d ∧ isS d = true
    · obtain ⟨x, S1, d, e1, e2, e3⟩ := hs
      refine .inr (.inr ⟨W, ρ, S, R, Ans.bind (α := List D) (β := L2.It) (rp := fun W' _ ds J => WalkD K W' ds J) (q := false) (k := fun x S1 => ofO S1 ((need (fresh e) x).bind wlkD)) h fun x' S1' vx H1 W1 e4 p1 i1 s1 r1 q1 h1 => ?_⟩)
      rw [e1] at e4
      cases e4
      rw [e2] at h1
      obtain ⟨W2, c2⟩ := ice p1 i1 s1 r1 e2
      cases d with
      | str z =>
        have ev' := c2.r
        cases ev'
        exact ⟨z, rfl, h1 _ _ W2 c2.p c2.i c2.s walkD_str nofun⟩
      | _ => cases e3
    · refine .inr (.inl ⟨W, ρ, S, R, Ans.bind (α := List D) (β := L2.It) (rp := fun W' _ ds J => WalkD K W' ds J) (q := false) (k := fun x S1 => ofO S1 ((need (fresh e) x).bind wlkD)) h fun x S1 vx H1 W1 e1 p1 i1 s1 r1 q1 h1 => ?_⟩)
      cases e2 : need (fresh e) x with
      | none => rw [e2] at h1; exact h1.elim
      | some d =>
        rw [e2] at h1
        obtain ⟨W2, c2⟩ := ice p1 i1 s1 r1 e2
        cases d with
        | lst ds => exact absurd ⟨x, S1, _, e1, e2, rfl⟩ hl
        | str ds => exact absurd ⟨x, S1, _, e1, e2, rfl⟩ hs
        | tup ds =>
          obtain ⟨a, vs, ev', s, rd⟩ := c2.r
          subst ev'
          exact ⟨a, rfl, ⟨vs, SqT.up c2.i (SqT.of s)⟩, h1 _ _ W2 c2.p c2.i c2.s (walkD_tup (SqT.of s) rd) nofun⟩
        | ctup ds =>
          obtain ⟨a, vs, ev', s, rd⟩ := c2.r
          subst ev'
          exact ⟨a, rfl, ⟨vs, SqT.up c2.i (SqTwr s)⟩, h1 _ _ W2 c2.p c2.i c2.s (walkD_tup (SqTwr s) rd) nofun⟩
        | _ => exact h1.elim
/-! range -/
theorem rngD_length : ∀ (n : Nat) (lo : Int), (rngD lo n).length = n
  | 0, _ => rfl
  | n + 1, lo => by show (rngD (lo + 1) n).length + 1 = _; rw [rngD_length n]
theorem rngD_get : ∀ (n : Nat) (lo : Int) (i : Nat), i < n → (rngD lo n)[i]? = some (.int (lo + i))
  | 0, _, i, h => absurd h (Nat.not_lt_zero _)
  | n + 1, lo, 0, _ => by show some (D.int lo) = _; simp
  | n + 1, lo, i + 1, h => by
    show (rngD (lo + 1) n)[i]? = _
    rw [rngD_get n (lo + 1) i (by omega)]
    congr 2
    omega
theorem walkD_rng {W : Wd} {lo : Int} {n : Nat} : WalkD K W (rngD lo n) (Itr lo n) := by
  have w : Walk (Itr lo n) (rngD lo n).length (fun _ => True) (YFn fun i => .int (lo + i)) := by rw [rngD_length]; exact walk_range
  refine ⟨_, _, w, fun _ _ _ _ => trivial, fun W' H' z m I i x H'' hi y => ?_⟩
  obtain ⟨e, y⟩ := y
  rw [rngD_length] at hi
  exact ⟨_, rngD_get n lo i hi, .inl ⟨e, y⟩⟩
theorem rngOk_ok {i : Int} (h : rngOk i = true) : -(2 ^ 62) ≤ i ∧ i < 2 ^ 62 := by
  unfold rngOk at h
  simpa using h
/-- how many -/
def Es.len : Es → Nat
  | .nil => 0
  | .cons _ es => es.len + 1
theorem evs_len : ∀ {es : Es} {ρ : Env1} {S S' : Sto} {ds : List D}, evs cl es ρ S = .ok ds S' → ds.length = es.len
  | .nil, ρ, S, S', ds, h => by
    have h : Rs.ok ([] : List D) S = .ok ds S' := h
    cases h; rfl
  | .cons e es, ρ, S, S', ds, h => by
    have h : ((ev cl e ρ S).bind fun x S1 => (ofO S1 (need (fresh e) x)).bind fun d S2 => (evs cl es ρ S2).bind fun ds S3 => .ok (d :: ds) S3) = .ok ds S' := h
    cases e1 : ev cl e ρ S with
    | stk => rw [e1] at h; cases h
    | exc x S1 => rw [e1] at h; cases h
    | ok x S1 =>
      rw [e1] at h
      have h : ((ofO S1 (need (fresh e) x)).bind fun d S2 => (evs cl es ρ S2).bind fun ds S3 => Rs.ok (d :: ds) S3) = .ok ds S' := h
      cases e2 : need (fresh e) x with
      | none => rw [e2] at h; cases h
      | some d =>
        rw [e2] at h
        have h : ((evs cl es ρ S1).bind fun ds S3 => Rs.ok (d :: ds) S3) = .ok ds S' := h
        cases e3 : evs cl es ρ S1 with
        | stk => rw [e3] at h; cases h
        | exc x S1 => rw [e3] at h; cases h
        | ok xs S2 =>
          rw [e3] at h
          have h : Rs.ok (d :: xs) S2 = .ok ds S' := h
          cases h
          show xs.length + 1 = es.len + 1
          rw [evs_len e3]
theorem mi_rng1 (o : XOk K ca Wx cl c X) {es : Es} {tg x : Expr} {p : Pos} (hl : es.len = 1) (hs : notStar x = true) (hi : glB c.sc "range" = true) (hf : c.free "range" = true) (ha : PA X [x] (tEs K ca Wx cl es)) : PI X tg (.Call (.Name "range" p) [x] [] pos) (tEi K ca Wx cl (.rng es)) := by
  refine PIi (pi_range1 (gl_of o hi) (o.fr _ hf) ha (star_cons hs)) fun σ H Q ⟨W, ρ, S, R, h⟩ => ?_
  refine ⟨W, ρ, S, R, Ans.bind (α := List D) (β := L2.It) (rp := fun W' _ ds J => WalkD K W' ds J) (q := false) (k := fun ds S1 => ofO S1 (rngO ds)) h fun ds S1 vs H1 W1 e1 p1 i1 s1 r1 q1 h1 => ?_⟩
  have hl2 := (evs_len e1).trans hl
  unfold rngO at h1
  split at h1
  · rename_i j
    split at h1
    · rename_i ok
      obtain ⟨v, r, rfl, e2, r2⟩ := r1
      cases r2
      obtain rfl : v = .int j := e2
      obtain ⟨b1, b2⟩ := rngOk_ok ok
      exact ⟨j, rfl, b1, b2, h1 _ H1 W1 p1 i1 s1 walkD_rng nofun⟩
    · exact h1.elim
  · cases hl2
  · cases hl2
  · exact h1.elim
theorem mi_rng2 (o : XOk K ca Wx cl c X) {es : Es} {tg x y : Expr} {p : Pos} (hl : es.len = 2) (hs : noStars [x, y] = true) (hi : glB c.sc "range" = true) (hf : c.free "range" = true) (ha : PA X [x, y] (tEs K ca Wx cl es)) : PI X tg (.Call (.Name "range" p) [x, y] [] pos) (tEi K ca Wx cl (.rng es)) := by
  have hs' : (notStar x && (notStar y && true)) = true := hs
  simp only [Bool.and_true, Bool.and_eq_true] at hs'
  refine PIi (pi_range2 (gl_of o hi) (o.fr _ hf) ha (by rw [star_cons hs'.1, star_cons hs'.2]; rfl) (star_cons hs'.2)) fun σ H Q ⟨W, ρ, S, R, h⟩ => ?_
  refine ⟨W, ρ, S, R, Ans.bind (α := List D) (β := L2.It) (rp := fun W' _ ds J => WalkD K W' ds J) (q := false) (k := fun ds S1 => ofO S1 (rngO ds)) h fun ds S1 vs H1 W1 e1 p1 i1 s1 r1 q1 h1 => ?_⟩
  have hl2 := (evs_len e1).trans hl
  unfold rngO at h1
  split at h1
  · cases hl2
  · rename_i i j
    split at h1
    · rename_i ok
      rw [Bool.and_eq_true] at ok
      obtain ⟨v, r, rfl, e2, w, r', rfl, e3, r2⟩ := r1
      cases r2
      obtain rfl : v = .int i := e2
      obtain rfl : w = .int j := e3
      obtain ⟨b1, b2⟩ := rngOk_ok ok.1
      obtain ⟨b3, b4⟩ := rngOk_ok ok.2
      exact ⟨i, j, rfl, ⟨b1, b2, b3, b4⟩, h1 _ H1 W1 p1 i1 s1 walkD_rng nofun⟩
    · exact h1.elim
  · cases hl2
  · exact h1.elim
theorem rngC_length : ∀ (n : Nat) (lo c : Int), (rngC lo c n).length = n
  | 0, _, _ => rfl
  | n + 1, lo, c => by show (rngC (lo + c) c n).length + 1 = _; rw [rngC_length n]
theorem rngC_get : ∀ (n : Nat) (lo c : Int) (i : Nat), i < n → (rngC lo c n)[i]? = some (.int (lo + (i : Nat) * c))
  | 0, _, _, _, h => absurd h (Nat.not_lt_zero _)
  | n + 1, lo, c, 0, _ => by show some (D.int lo) = _; simp
  | n + 1, lo, c, i + 1, h => by
    show (rngC (lo + c) c n)[i]? = _
    rw [rngC_get n (lo + c) c i (by omega)]
    congr 2
    have : ((i + 1 : Nat) : Int) * c = (i : Int) * c + c := by rw [Int.natCast_add, Int.add_mul]; simp
    omega
theorem walkD_rngC {W : Wd} {lo c : Int} {n : Nat} : WalkD K W (rngC lo c n) (Itc lo c n) := by
  have w : Walk (Itc lo c n) (rngC lo c n).length (fun _ => True) (YFn fun i => .int (lo + (i : Nat) * c)) := by rw [rngC_length]; exact walk_rangeC
  refine ⟨_, _, w, fun _ _ _ _ => trivial, fun W' H' z m I i x H'' hi y => ?_⟩
  obtain ⟨e, y⟩ := y
  rw [rngC_length] at hi
  exact ⟨_, rngC_get n lo c i hi, .inl ⟨e, y⟩⟩
theorem rgc_up {i j c : Int} (h1 : -(2 ^ 62) ≤ i ∧ i < 2 ^ 62) (h2 : -(2 ^ 62) ≤ j ∧ j < 2 ^ 62) (h3 : 0 < c) (h4 : c < 1073741824) : RgC i j c ((j - i + c - 1) / c).toNat := by
  have e : Builtin.Range.rangeSize i j c = (((j - i + c - 1) / c).toNat : Int) := by
    unfold Builtin.Range.rangeSize
    rw [if_pos (by omega)]
    split
    · have h5 : j - i + c - 1 = (j - i - 1) + 1 * c := by omega
      rw [h5, Int.add_mul_ediv_right _ _ (by omega)]
      have := Int.ediv_nonneg (show 0 ≤ j - i - 1 by omega) (show 0 ≤ c by omega)
      omega
    · have h6 : (j - i + c - 1) / c ≤ 0 := by
        have : (j - i + c - 1) / c ≤ (c - 1) / c := Int.ediv_le_ediv h3 (by omega)
        have h7 : (c - 1) / c = 0 := Int.ediv_eq_zero_of_lt (by omega) (by omega)
        omega
      omega
  refine ⟨by omega, by omega, ?_, e⟩
  have hb : (((j - i + c - 1) / c).toNat : Int) < 2 ^ 63 ∧ (i < j → (((j - i + c - 1) / c).toNat : Int) = (j - i - 1) / c + 1) := by
    have h5 : (j - i + c - 1) / c = (j - i - 1) / c + 1 := by
      have h5 : j - i + c - 1 = (j - i - 1) + 1 * c := by omega
      rw [h5, Int.add_mul_ediv_right _ _ (by omega)]
    rw [h5]
    by_cases h8 : 0 ≤ j - i - 1
    · have h9 := Int.ediv_le_self c h8
      have h10 := Int.ediv_nonneg h8 (show 0 ≤ c by omega)
      exact ⟨by omega, fun _ => by omega⟩
    · have h9 : (j - i - 1) / c < 0 := Int.ediv_neg_of_neg_of_pos (by omega) h3
      exact ⟨by omega, fun _ => by omega⟩
  unfold Builtin.Range.small
  rw [e]
  have hn : (0 : Int) ≤ (((j - i + c - 1) / c).toNat : Int) := Int.natCast_nonneg _
  generalize (((j - i + c - 1) / c).toNat : Int) = q at hb hn
  have f : ∀ k : Int, -(2 ^ 63) ≤ k → k < 2 ^ 63 → Builtin.Range.rangeFitsLong k = true := fun k a b => by
    unfold Builtin.Range.rangeFitsLong
    simp only [Bool.and_eq_true, decide_eq_true_eq]
    exact ⟨by omega, by omega⟩
  rw [f i (by omega) (by omega), f j (by omega) (by omega), f c (by omega) (by omega), f q (by omega) hb.1, if_pos (by omega), f (j + (c - 1)) (by omega) (by omega)]
  simp
theorem mi_rng3 (o : XOk K ca Wx cl c X) {es : Es} {tg x y z : Expr} {p : Pos} (hl : es.len = 3) (hs : noStars [x, y, z] = true) (hi : glB c.sc "range" = true) (hf : c.free "range" = true) (ha : PA X [x, y, z] (tEs K ca Wx cl es)) : PI X tg (.Call (.Name "range" p) [x, y, z] [] pos) (tEi K ca Wx cl (.rng es)) := by
  have hs' : (notStar x && noStars [y, z]) = true := hs
  rw [Bool.and_eq_true] at hs'
  refine PIi (pi_range3 (gl_of o hi) (o.fr _ hf) ha (star_cons hs'.1) (noStar_any hs'.2)) fun σ H Q ⟨W, ρ, S, R, h⟩ => ?_
  refine ⟨W, ρ, S, R, Ans.bind (α := List D) (β := L2.It) (rp := fun W' _ ds J => WalkD K W' ds J) (q := false) (k := fun ds S1 => ofO S1 (rngO ds)) h fun ds S1 vs H1 W1 e1 p1 i1 s1 r1 q1 h1 => ?_⟩
  have hl2 := (evs_len e1).trans hl
  unfold rngO at h1
  split at h1
  · cases hl2
  · cases hl2
  · rename_i i j k
    split at h1
    · rename_i ok
      simp only [Bool.and_eq_true, decide_eq_true_eq] at ok
      obtain ⟨⟨⟨o1, o2⟩, o3⟩, o4⟩ := ok
      obtain ⟨v, r, rfl, e2, w, r', rfl, e3, u, r'', rfl, e4, r2⟩ := r1
      cases r2
      obtain rfl : v = .int i := e2
      obtain rfl : w = .int j := e3
      obtain rfl : u = .int k := e4
      exact ⟨i, j, k, _, rfl, rgc_up (rngOk_ok o1) (rngOk_ok o2) o3 o4, h1 _ H1 W1 p1 i1 s1 walkD_rngC nofun⟩
    · exact h1.elim
  · exact h1.elim
/-! enumerate(list) -/
theorem enumD_length : ∀ (k : Nat) (ds : List D), (enumD k ds).length = ds.length
  | _, [] => rfl
  | k, d :: ds => by show (enumD (k + 1) ds).length + 1 = _; rw [enumD_length]; rfl
theorem enumD_get : ∀ (k : Nat) (ds : List D) (i : Nat) (d : D), ds[i]? = some d → (enumD k ds)[i]? = some (.tup [.int (k + i : Nat), d])
  | _, [], i, d, h => by simp at h
  | k, d :: ds, 0, e, h => by
    have h : some d = some e := by simpa using h
    cases h
    rfl
  | k, d :: ds, i + 1, e, h => by
    show (enumD (k + 1) ds)[i]? = _
    rw [enumD_get (k + 1) ds i e (by simpa using h)]
    congr 3
    show D.int _ = D.int _
    congr 2
    omega
/-- a new pair -/
theorem pair_rep {W : Wd} {H : Hp} {T : Addr} {d1 d2 : D} {x y : V} (I : Inw W H) (hT : H T = none) (r1 : RepD K W.Z W.mu d1 x) (r2 : RepD K W.Z W.mu d2 y) : RepD K (W.frz T (.tup [x, y])).Z (W.frz T (.tup [x, y])).mu (.tup [d1, d2]) (.ref T) :=
  ⟨T, [x, y], rfl, upd_same, ⟨x, [y], rfl, RepD.le (zm_frz I hT) (fun _ _ e => e) _ _ r1, y, [], rfl, RepD.le (zm_frz I hT) (fun _ _ e => e) _ _ r2, rfl⟩⟩
theorem walkD_enum {W : Wd} {ds : List D} {a : Addr} {vs : List V} (h : SqL K W.Z a vs) (r : RepDs K W.Z W.mu ds vs) : WalkD K W (enumD 0 ds) (Ite K a) := by
  have hl := r.length
  refine ⟨fun H => SqL K H a vs, YPair (fun i => some (.int (i : Nat))) (fun i => vs[i]?), by rw [enumD_length, ← hl]; exact walk_enum, fun W' H' z I => SqL.up I (SqL.zle z h), fun W' H' z m I i x H'' hi y => ?_⟩
  obtain ⟨T, x1, y1, e1, hT, e2, e3, e4⟩ := y
  rw [enumD_length] at hi
  obtain ⟨d, e5, r5⟩ := at_rep z m r hi e4
  cases e3
  refine ⟨_, enumD_get 0 ds i d e5, .inr ⟨T, _, hT, e2, e1, ?_⟩⟩
  subst e1
  exact pair_rep I hT (show V.int (i : Int) = V.int ((0 + i : Nat) : Int) by rw [Nat.zero_add]) r5
theorem walkD_enumT {W : Wd} {ds : List D} {a : Addr} {vs : List V} (h : SqT K W.Z a vs) (r : RepDs K W.Z W.mu ds vs) : WalkD K W (enumD 0 ds) (Iet K a) := by
  have hl := r.length
  refine ⟨fun H => SqT K H a vs, YPair (fun i => some (.int (i : Nat))) (fun i => vs[i]?), by rw [enumD_length, ← hl]; exact walk_enumT, fun W' H' z I => SqT.up I (SqT.zle z h), fun W' H' z m I i x H'' hi y => ?_⟩
  obtain ⟨T, x1, y1, e1, hT, e2, e3, e4⟩ := y
  rw [enumD_length] at hi
  obtain ⟨d, e5, r5⟩ := at_rep z m r hi e4
  cases e3
  refine ⟨_, enumD_get 0 ds i d e5, .inr ⟨T, _, hT, e2, e1, ?_⟩⟩
  subst e1
  exact pair_rep I hT (show V.int (i : Int) = V.int ((0 + i : Nat) : Int) by rw [Nat.zero_add]) r5
theorem mi_enm (o : XOk K ca Wx cl c X) {e : E} {elts : List Expr} {kk : Nat} {tpos p : Pos} {x : Expr} (hs : notStar x = true) (hi : glB c.sc "enumerate" = true) (hf : c.free "enumerate" = true) (ha : PA X [x] (tEs K ca Wx cl (.cons e .nil))) : PI X (.Tuple elts kk tpos) (.Call (.Name "enumerate" p) [x] [] pos) (tEi K ca Wx cl (.enm e)) := by
  refine PIi (PIor (pi_enum (gl_of o hi) (o.fr _ hf) ha (star_cons hs)) (pi_enmT (gl_of o hi) (o.fr _ hf) ha (star_cons hs))) fun σ H Q ⟨W, ρ, S, R, h⟩ => ?_
  rw [o.kk]
  rw [evi_enm] at h
  have h : Ans K ca Wx (fun W' _ ds J => WalkD K W' ds J) false W H S σ Q ((evs cl (.cons e .nil) ρ S).bind fun ds S1 => kEnm (.ok ds S1)) := by
    cases e1 : evs cl (.cons e .nil) ρ S <;> (rw [e1] at h; exact h)
  by_cases hL : ∃ ds S1, evs cl (.cons e .nil) ρ S = .ok [.lst ds] S1
  · obtain ⟨ds0, S0, e0⟩ := hL
    refine .inl ⟨W, ρ, S, R, h.bind fun ds S1 vs H1 W1 e1 p1 i1 s1 r1 q1 h1 => ?_⟩
    rw [e0] at e1
    cases e1
    rw [kEnm_ok] at h1
    obtain ⟨v, r, rfl, e3, r2⟩ := r1
    cases r2
    obtain ⟨a, vs, e4, s, rd⟩ := e3
    subst e4
    exact ⟨a, vs, rfl, SqL.up i1 s, h1 _ H1 W1 p1 i1 s1 (walkD_enum s rd) nofun⟩
  · refine .inr ⟨W, ρ, S, R, h.bind fun ds S1 vs H1 W1 e1 p1 i1 s1 r1 q1 h1 => ?_⟩
    have hl := evs_len e1
    match ds, hl, h1, r1, e1 with
    | [d], _, h1, r1, e1 =>
      rw [kEnm_ok] at h1
      obtain ⟨v, r, rfl, e3, r2⟩ := r1
      cases r2
      cases d with
      | lst ds => exact absurd ⟨_, _, e1⟩ hL
      | tup ds =>
        obtain ⟨a, vs, e4, s, rd⟩ := e3
        subst e4
        exact ⟨a, vs, rfl, SqT.up i1 (SqT.of s), h1 _ H1 W1 p1 i1 s1 (walkD_enumT (SqT.of s) rd) nofun⟩
      | ctup ds =>
        obtain ⟨a, vs, e4, s, rd⟩ := e3
        subst e4
        exact ⟨a, vs, rfl, SqT.up i1 (SqTwr s), h1 _ H1 W1 p1 i1 s1 (walkD_enumT (SqTwr s) rd) nofun⟩
      | _ => exact h1.elim
    | [], hl, _, _, _ => cases hl
    | _ :: _ :: _, hl, _, _, _ => cases hl
/-! zip -/
theorem zipD_length : ∀ (as bs : List D), (zipD as bs).length = min as.length bs.length
  | [], _ => by simp [zipD]
  | _ :: _, [] => by simp [zipD]
  | a :: as, b :: bs => by show (zipD as bs).length + 1 = _; rw [zipD_length]; simp only [List.length_cons]; omega
theorem zipD_get : ∀ (as bs : List D) (i : Nat) (a b : D), as[i]? = some a → bs[i]? = some b → (zipD as bs)[i]? = some (.tup [a, b])
  | [], _, i, _, _, h, _ => by simp at h
  | _ :: _, [], i, _, _, _, h => by simp at h
  | a :: as, b :: bs, 0, x, y, h, h' => by
    have h : some a = some x := by simpa using h
    have h' : some b = some y := by simpa using h'
    cases h; cases h'; rfl
  | a :: as, b :: bs, i + 1, x, y, h, h' => by
    show (zipD as bs)[i]? = _
    exact zipD_get as bs i x y (by simpa using h) (by simpa using h')
theorem walk_zipT {a b : Addr} {xs ys : List V} {n : Nat} (hn : n = min xs.length ys.length) : Walk (RZ.ItzT K a b) n (fun H => SqT K H a xs ∧ SqT K H b ys) (YPair (fun i => xs[i]?) (fun i => ys[i]?)) := by
  subst hn
  refine ⟨fun i _ hi q => ?_, fun _ q => ⟨xs, ys, q.1, q.2, by omega⟩, fun i H v H' _ q y => ?_⟩
  · have h1 : i < xs.length := by omega
    have h2 : i < ys.length := by omega
    exact ⟨xs, ys, xs[i], ys[i], q.1, q.2, by simp [h1], by simp [h2]⟩
  · obtain ⟨T, x, z, h1, h2, h3, h4, h5⟩ := y
    exact ⟨T, x, z, h1, h2, h3, h4 xs q.1, h5 ys q.2⟩
theorem zip_gives {W W' : Wd} {as bs : List D} {vs ws : List V} {H' H'' : Hp} {i : Nat} {x : V} (ra : RepDs K W.Z W.mu as vs) (rb : RepDs K W.Z W.mu bs ws) (z : ∀ a o, W.Z a = some o → W'.Z a = some o) (m : ∀ k a, W.mu k = some a → W'.mu k = some a) (I : Inw W' H')
    (hi : i < (zipD as bs).length) (y : YPair (fun i => vs[i]?) (fun i => ws[i]?) i H' x H'') : ∃ d, (zipD as bs)[i]? = some d ∧ ((H'' = H' ∧ RepD K W'.Z W'.mu d x) ∨ ∃ T o, H' T = none ∧ H'' = upd H' T o ∧ x = .ref T ∧ RepD K (W'.frz T o).Z (W'.frz T o).mu d x) := by
  obtain ⟨T, x1, y1, e1, hT, e2, e3, e4⟩ := y
  rw [zipD_length] at hi
  obtain ⟨d1, e5, r5⟩ := at_rep z m ra (show i < as.length by omega) e3
  obtain ⟨d2, e6, r6⟩ := at_rep z m rb (show i < bs.length by omega) e4
  refine ⟨_, zipD_get as bs i d1 d2 e5 e6, .inr ⟨T, _, hT, e2, e1, ?_⟩⟩
  subst e1
  exact pair_rep I hT r5 r6
theorem walkD_zip {W : Wd} {as bs : List D} {a b : Addr} {vs ws : List V} (h : SqL K W.Z a vs) (h' : SqL K W.Z b ws) (ra : RepDs K W.Z W.mu as vs) (rb : RepDs K W.Z W.mu bs ws) : WalkD K W (zipD as bs) (Itz K a b) :=
  ⟨fun H => SqL K H a vs ∧ SqL K H b ws, YPair (fun i => vs[i]?) (fun i => ws[i]?), walk_zip (by rw [zipD_length, ra.length, rb.length]), fun W' H' z I => ⟨SqL.up I (SqL.zle z h), SqL.up I (SqL.zle z h')⟩, fun W' H' z m I i x H'' hi y => zip_gives ra rb z m I hi y⟩
theorem walkD_zipT {W : Wd} {as bs : List D} {a b : Addr} {vs ws : List V} (h : SqT K W.Z a vs) (h' : SqT K W.Z b ws) (ra : RepDs K W.Z W.mu as vs) (rb : RepDs K W.Z W.mu bs ws) : WalkD K W (zipD as bs) (RZ.ItzT K a b) :=
  ⟨fun H => SqT K H a vs ∧ SqT K H b ws, YPair (fun i => vs[i]?) (fun i => ws[i]?), walk_zipT (by rw [zipD_length, ra.length, rb.length]), fun W' H' z I => ⟨SqT.up I (SqT.zle z h), SqT.up I (SqT.zle z h')⟩, fun W' H' z m I i x H'' hi y => zip_gives ra rb z m I hi y⟩
theorem mi_zp (o : XOk K ca Wx cl c X) {ea eb : E} {elts : List Expr} {kk : Nat} {tpos p : Pos} {x y : Expr} (hs : noStars [x, y] = true) (hi : glB c.sc "zip" = true) (hf : c.free "zip" = true) (ha : PA X [x, y] (tEs K ca Wx cl (.cons ea (.cons eb .nil)))) : PI X (.Tuple elts kk tpos) (.Call (.Name "zip" p) [x, y] [] pos) (tEi K ca Wx cl (.zp ea eb)) := by
  have hs' : (notStar x && noStars [y]) = true := hs
  rw [Bool.and_eq_true] at hs'
  refine PIi (RZ.pi_zipA (gl_of o hi) (o.fr _ hf) ha (star_cons hs'.1) (noStar_any hs'.2)) fun σ H Q ⟨W, ρ, S, R, h⟩ => ?_
  rw [o.kk]
  rw [evi_zp] at h
  have h : Ans K ca Wx (fun W' _ ds J => WalkD K W' ds J) false W H S σ Q ((evs cl (.cons ea (.cons eb .nil)) ρ S).bind fun ds S1 => kZp (.ok ds S1)) := by
    cases e1 : evs cl (.cons ea (.cons eb .nil)) ρ S <;> (rw [e1] at h; exact h)
  refine ⟨W, ρ, S, R, h.bind fun ds S1 vs H1 W1 e1 p1 i1 s1 r1 q1 h1 => ?_⟩
  have hl := evs_len e1
  match ds, hl, h1, r1 with
  | [d1, d2], _, h1, r1 =>
    rw [kZp_ok] at h1
    obtain ⟨v, r, rfl, e3, w, r', rfl, e4, r2⟩ := r1
    cases r2
    unfold zipO at h1
    split at h1
    · rename_i as bs z1 z2
      obtain ⟨a, vs, rfl, ra, hha⟩ := seq_cases e3 z1
      obtain ⟨b, ws, rfl, rb, hhb⟩ := seq_cases e4 z2
      refine ⟨a, b, vs, ws, rfl, ?_⟩
      rcases hha with ⟨za, sa⟩ | ⟨za, sa⟩
      · rcases hhb with ⟨zb, sb⟩ | ⟨zb, sb⟩
        · subst za zb
          exact .inl ⟨SqL.up i1 sa, SqL.up i1 sb, h1 _ H1 W1 p1 i1 s1 (walkD_zip sa sb ra rb) nofun⟩
        · rcases zb with zb | zb <;> (subst za zb; exact h1.elim)
      · rcases hhb with ⟨zb, sb⟩ | ⟨zb, sb⟩
        · rcases za with za | za <;> (subst za zb; exact h1.elim)
        · rcases za with za | za <;> rcases zb with zb | zb <;>
            (subst za zb; exact .inr ⟨SqT.up i1 sa, SqT.up i1 sb, h1 _ H1 W1 p1 i1 s1 (walkD_zipT sa sb ra rb) nofun⟩)
    · exact h1.elim
  | [], hl, _, _ => cases hl
  | [_], hl, _, _ => cases hl
  | _ :: _ :: _ :: _, hl, _, _ => cases hl
end
end Sg
namespace Sg
open PySem PySem.Spec PyProof.Rows L2
section
variable {K : PySem.W.Frag} {ca : Str → Addr} {Wx : WX} {cl : Str → List D → Sto → Res} {c : CK} {X : Cx} {pos : Pos} {wf : Nat}
/-! ### slots -/
theorem Slots.set {W : Wd} {H : Hp} {ρ : Env1} {σ : L2.St} {i : Nat} {ov : OV} {v : V} (h : Slots K W H ρ σ) (r : RepS K W H i ov v) : Slots K W H (ρ.set i (some ov)) (σ.set i (some v)) := by
  refine ⟨by rw [List.length_set, List.length_set]; exact h.len, fun j ov' e => ?_⟩
  by_cases hj : i = j
  · subst hj
    by_cases hl : i < ρ.length
    · rw [List.getElem?_set_self hl] at e
      cases e
      exact ⟨v, by rw [List.getElem?_set_self (by rw [← h.len]; exact hl)], r⟩
    · rw [List.getElem?_eq_none (by rw [List.length_set]; omega)] at e
      cases e
  · rw [List.getElem?_set_ne hj] at e ⊢
    exact h.at_ j ov' e
theorem Slots.setF {W : Wd} {H : Hp} {ρ : Env1} {σ : L2.St} {i : Nat} {d : D} {v : V} (h : Slots K W H ρ σ) (r : RepD K W.Z W.mu d v) : Slots K W H (ρ.set i (some (.fr d))) (σ.set i (some v)) := h.set (.inl ⟨d, rfl, r⟩)
theorem Slots.wipe {W : Wd} {H : Hp} {ρ : Env1} {σ : L2.St} (h : Slots K W H ρ σ) : ∀ vs : List Nat, Slots K W H (wipeR ρ vs) (L2.wipe σ vs)
  | [] => h
  | v :: vs => by
    have ih := Slots.wipe h vs
    show Slots K W H ((wipeR ρ vs).set v none) ((L2.wipe σ vs).set v none)
    refine ⟨by rw [List.length_set, List.length_set]; exact ih.len, fun j ov' e => ?_⟩
    by_cases hj : v = j
    · subst hj
      by_cases hl : v < (wipeR ρ vs).length
      · rw [List.getElem?_set_self hl] at e; cases e
      · rw [List.getElem?_eq_none (by rw [List.length_set]; omega)] at e; cases e
    · rw [List.getElem?_set_ne hj] at e ⊢
      exact ih.at_ j ov' e
/-- the world with one more slot's own -/
def Wd.hold (W : Wd) (a : Addr) (i : Nat) : Wd := { W with L := fun b => if b = a then some i else W.L b }
structure Held (K : PySem.W.Frag) (ca : Str → Addr) (W : Wd) (H : Hp) (W1 : Wd) (H1 : Hp) (ρ : Env1) (S : Sto) (σ : L2.St) (i : Nat) (x : OV) (v : V) (W2 : Wd) : Prop where
  p : Post W H W2 H1
  r : Rel K ca W2 H1 (ρ.set i (some x)) S (σ.set i (some v))
theorem own_set {W W1 : Wd} {H H1 : Hp} {ρ : Env1} {S : Sto} {σ : L2.St} {i : Nat} {x : OV} {v : V} (p : Post W H W1 H1) (I : Inw W1 H1) (so : StoOk K ca W1 H1 S) (r : RepW K true W H W1 H1 x v) (sl : Slots K W1 H1 ρ σ) (nb : x.isBo = false) :
    ∃ W2, Held K ca W H W1 H1 ρ S σ i x v W2 := by
  cases r with
  | fr r => exact ⟨W1, p, ⟨I, sl.setF r, so⟩⟩
  | bo _ _ => cases nb
  | @ow _ a o e r hO hf =>
    obtain ⟨z1, z2, z3⟩ := hf rfl
    have hl : W1.L a = none := by
      cases q : W1.L a with
      | none => rfl
      | some j => exact absurd (.inl (by rw [q]; exact nofun)) z2
    have own2 : ∀ b, (W1.hold a i).own b → b = a ∨ W1.own b := fun b z => by
      by_cases hb : b = a
      · exact .inl hb
      · rcases z with z | z
        · have z : (if b = a then some i else W1.L b) ≠ none := z
          rw [if_neg hb] at z
          exact .inr (.inl z)
        · exact .inr (.inr z)
    refine ⟨W1.hold a i, ⟨p.zm, p.mm, p.fr, p.zn, fun b z => ?_, p.lk⟩, ⟨⟨I.zl, fun b u e' z => ?_, fun b j e' => ?_, fun b z => ?_, I.kh, fun b z vs => ?_⟩, ?_, so.keep (fun _ _ e => e) rfl (fun _ _ => rfl) (fun _ _ => rfl)⟩⟩
    · rcases own2 b z with z | z
      · subst z; exact z3
      · exact p.on b z
    · rcases own2 b z with z | z
      · subst z
        have e' : W1.Z b = some u := e'
        rw [z1] at e'; cases e'
      · exact I.zo b u e' z
    · have e' : (if b = a then some i else W1.L b) = some j := e'
      by_cases hb : b = a
      · subst hb; exact hO.1
      · rw [if_neg hb] at e'
        exact I.lo b j e'
    · rcases own2 b z with z | z
      · subst z; rw [e]; exact nofun
      · exact I.ho b z
    · rcases own2 b z with z | z
      · subst z
        rw [e]
        intro q
        cases q
        exact absurd r.mut (by intro z; exact z)
      · exact I.ot b z vs
    · refine Slots.set ⟨sl.len, fun j ov e' => ?_⟩ (.inr ⟨a, o, rfl, show (if a = a then some i else W1.L a) = some i by rw [if_pos rfl], e, RepH.same rfl rfl r⟩)
      obtain ⟨w, e1, q⟩ := sl.at_ j ov e'
      refine ⟨w, e1, ?_⟩
      rcases q with ⟨d, e2, q⟩ | ⟨b, u, e2, l, e3, q⟩
      · exact .inl ⟨d, e2, q⟩
      · refine .inr ⟨b, u, e2, ?_, e3, RepH.same rfl rfl q⟩
        show (if b = a then some i else W1.L b) = some j
        rw [if_neg]
        · exact l
        · rintro rfl
          rw [hl] at l; cases l
/-- a slot's own is written -/
theorem mut_set {W W1 : Wd} {H H1 : Hp} {ρ : Env1} {S : Sto} {σ : L2.St} {i : Nat} {ov ov2 : OV} {a : Addr} {o2 : HO} (p : Post W H W1 H1) (R : Rel K ca W1 H1 ρ S σ) (hl : W1.L a = some i) (hv : σ[i]? = some (some (.ref a))) (r : RepH K W1 ov2 o2) :
    Post W H W1 (upd H1 a o2) ∧ Rel K ca W1 (upd H1 a o2) (ρ.set i (some ov2)) S σ := by
  have own : W1.own a := .inl (by rw [hl]; exact nofun)
  have hO := R.inw.lo a i hl
  have ne : H1 a ≠ none := R.inw.ho a own
  have p2 : Post W1 H1 W1 (upd H1 a o2) := by
    refine ⟨fun _ _ e => e, fun _ _ e => e, fun b u e n => ?_, fun b u e => .inl e, fun b z => .inl z, rfl⟩
    rw [upd_ne]
    · exact e
    · rintro rfl; exact n own
  refine ⟨p.trans p2, ⟨⟨fun b u e => ?_, R.inw.zo, R.inw.lo, fun b z => ?_, fun b u e => ?_, fun b z vs => ?_⟩, ⟨by rw [List.length_set]; exact R.sl.len, fun j ov' e => ?_⟩, R.so.keep (fun _ _ e => e) rfl (fun _ _ => rfl) fun b z => ?_⟩⟩
  · have hb : b ≠ a := by rintro rfl; exact R.inw.zo b u e own
    rw [upd_ne hb]; exact R.inw.zl b u e
  · by_cases hb : b = a
    · subst hb; rw [upd_same]; exact nofun
    · rw [upd_ne hb]; exact R.inw.ho b z
  · have y := R.inw.kh b u e
    have hb : b ≠ a := by rintro rfl; exact y.2 hO
    rw [upd_ne hb]; exact y
  · by_cases hb : b = a
    · subst hb; rw [upd_same]
      intro q
      cases q
      exact absurd r.mut (by intro z; exact z)
    · rw [upd_ne hb]; exact R.inw.ot b z vs
  · by_cases hj : i = j
    · subst hj
      by_cases hk : i < ρ.length
      · rw [List.getElem?_set_self hk] at e
        cases e
        exact ⟨.ref a, hv, .inr ⟨a, o2, rfl, hl, upd_same, r⟩⟩
      · rw [List.getElem?_eq_none (by rw [List.length_set]; omega)] at e
        cases e
    · rw [List.getElem?_set_ne hj] at e
      obtain ⟨w, e1, q⟩ := R.sl.at_ j ov' e
      refine ⟨w, e1, ?_⟩
      rcases q with ⟨d, e2, q⟩ | ⟨b, u, e2, l, e3, q⟩
      · exact .inl ⟨d, e2, q⟩
      · refine .inr ⟨b, u, e2, l, ?_, q⟩
        rw [upd_ne]
        · exact e3
        · rintro rfl
          rw [hl] at l; cases l
          exact hj rfl
  · rw [upd_ne]
    rintro rfl
    exact z hO

/-! ### targets -/
def gNs : List Nat → TGs
  | [] => gNil
  | i :: is => gCons (gName i) (gNs is)
/-- a tuple or a list of that length -/
def gTL (K : PySem.W.Frag) (n : Nat) (t : TGs) : TG := fun v σ H Q => gTup K n t v σ H Q ∨ gUnl K n t v σ H Q
theorem pg_or {X : Cx} {e : Expr} {t u : TG} (h1 : PG X e t) (h2 : PG X e u) : PG X e (fun v σ H Q => t v σ H Q ∨ u v σ H Q) :=
  ⟨fun pins s σ H v u Q I r hw => hw.elim (h1.run pins s σ H v u Q I r) (h2.run pins s σ H v u Q I r)⟩
def gT (K : PySem.W.Frag) : Tg → TG
  | .one i => gName i
  | .many is => gTL K is.length (gNs is)
def Tg.ixs : Tg → List Nat
  | .one i => [i]
  | .many is => is
theorem wipe_set {i : Nat} {v : Option V} : ∀ {vs : List Nat} {σ : L2.St}, i ∈ vs → L2.wipe (σ.set i v) vs = L2.wipe σ vs
  | [], _, h => by simp at h
  | w :: vs, σ, h => by
    show (L2.wipe (σ.set i v) vs).set w none = (L2.wipe σ vs).set w none
    by_cases hi : i ∈ vs
    · rw [wipe_set hi]
    · have hw : w = i := by
        rcases List.mem_cons.mp h with z | z
        · exact z.symm
        · exact absurd z hi
      subst hw
      have gen : ∀ (us : List Nat) (σ : L2.St), (L2.wipe (σ.set w v) us).set w none = (L2.wipe σ us).set w none := by
        intro us
        induction us with
        | nil => intro σ; show (σ.set w v).set w none = _; rw [List.set_set]; rfl
        | cons u us ih =>
          intro σ
          show ((L2.wipe (σ.set w v) us).set u none).set w none = ((L2.wipe σ us).set u none).set w none
          by_cases hu : u = w
          · subst hu
            rw [List.set_set, List.set_set, ih]
          · rw [List.set_comm _ _ hu, List.set_comm _ _ hu, ih]
      exact gen vs σ
theorem gNs_sound {W : Wd} {H : Hp} {S : Sto} {Q : L2.St → Hp → Prop} : ∀ (is : List Nat) (ds : List D) (vs : List V) (ρ ρ1 : Env1) (σ : L2.St), Rel K ca W H ρ S σ → RepDs K W.Z W.mu ds vs → putAll is ds ρ = some ρ1 →
    (∀ σ1, Rel K ca W H ρ1 S σ1 → (∀ us, (∀ i ∈ is, i ∈ us) → L2.wipe σ1 us = L2.wipe σ us) → Q σ1 H) → gNs is vs σ H Q
  | [], [], vs, ρ, ρ1, σ, R, r, e, h => by
    cases r
    have e : some ρ = some ρ1 := e
    cases e
    exact ⟨rfl, h σ R fun _ _ => rfl⟩
  | i :: is, d :: ds, vs, ρ, ρ1, σ, R, r, e, h => by
    obtain ⟨v, rr, rfl, r1, r2⟩ := r
    refine ⟨v, rr, rfl, ?_⟩
    have e : putAll is ds (ρ.set i (some (.fr d))) = some ρ1 := e
    refine gNs_sound is ds rr _ ρ1 _ ⟨R.inw, R.sl.setF r1, R.so⟩ r2 e fun σ1 R1 w => h σ1 R1 fun us hu => ?_
    rw [w us fun j hj => hu j (List.mem_cons_of_mem _ hj), wipe_set (hu i (List.mem_cons_self ..))]
  | [], _ :: _, _, _, _, _, _, _, e, _ => by cases e
  | _ :: _, [], _, _, _, _, _, _, e, _ => by cases e
theorem put_length : ∀ {is : List Nat} {ds : List D} {ρ ρ1 : Env1}, putAll is ds ρ = some ρ1 → is.length = ds.length
  | [], [], _, _, _ => rfl
  | i :: is, d :: ds, ρ, ρ1, e => by
    have e : putAll is ds (ρ.set i (some (.fr d))) = some ρ1 := e
    show is.length + 1 = ds.length + 1
    rw [put_length e]
  | [], _ :: _, _, _, e => by cases e
  | _ :: _, [], _, _, e => by cases e
theorem put_sound {W : Wd} {H : Hp} {S : Sto} {Q : L2.St → Hp → Prop} {g : Tg} {d : D} {v : V} {ρ ρ1 : Env1} {σ : L2.St} (R : Rel K ca W H ρ S σ) (r : RepD K W.Z W.mu d v) (e : g.put d ρ = some ρ1)
    (h : ∀ σ1, Rel K ca W H ρ1 S σ1 → (∀ us, (∀ i ∈ g.ixs, i ∈ us) → L2.wipe σ1 us = L2.wipe σ us) → Q σ1 H) : gT K g v σ H Q := by
  cases g with
  | one i =>
    have e : some (ρ.set i (some (.fr d))) = some ρ1 := e
    cases e
    exact h _ ⟨R.inw, R.sl.setF r, R.so⟩ fun us hu => wipe_set (hu i (List.mem_singleton.mpr rfl))
  | many is =>
    cases d with
    | tup ds =>
      have e : putAll is ds ρ = some ρ1 := e
      obtain ⟨a, vs, rfl, s, rd⟩ := r
      exact .inl ⟨a, vs, rfl, SqT.up R.inw (SqT.of s), by rw [rd.length, put_length e], gNs_sound is ds vs ρ ρ1 σ R rd e h⟩
    | lst ds =>
      have e : putAll is ds ρ = some ρ1 := e
      obtain ⟨a, vs, rfl, s, rd⟩ := r
      exact .inr ⟨a, vs, rfl, SqL.up R.inw s, by rw [rd.length, put_length e], gNs_sound is ds vs ρ ρ1 σ R rd e h⟩
    | _ => cases e
/-- a local name -/
def locB (c : CK) (i : Nat) (x : Str) : Bool := decide (c.N[i]? = some x) && (match c.sc.names.lookup x with | some .local => true | some .cell => c.top | _ => false)
theorem locB_ix {i : Nat} {x : Str} (h : locB c i x = true) : c.N[i]? = some x := by
  unfold locB at h; rw [Bool.and_eq_true] at h; exact decide_eq_true_eq.mp h.1
theorem locB_loc {i : Nat} {x : Str} (h : locB c i x = true) : c.sc.names.lookup x = some .local ∨ (c.sc.names.lookup x = some .cell ∧ c.top = true) := by
  unfold locB at h; rw [Bool.and_eq_true] at h
  have h := h.2
  split at h
  · exact .inl (by assumption)
  · exact .inr ⟨by assumption, h⟩
  · cases h
theorem loc_of (o : XOk K ca Wx cl c X) {i : Nat} {x : Str} (h : locB c i x = true) : Loc X.env.scope x ∧ (X.fn x = true ∨ X.env.scope.names.lookup x = some .local) := by
  rcases locB_loc h with hx | ⟨hx, ht⟩
  · have hx : X.env.scope.names.lookup x = some .local := by rw [o.scp]; exact hx
    exact ⟨.inl hx, .inr hx⟩
  · have hx : X.env.scope.names.lookup x = some .cell := by rw [o.scp]; exact hx
    exact ⟨.inr hx, .inl (o.fnt ht x)⟩
theorem mg_one (o : XOk K ca Wx cl c X) {i : Nat} {x : Str} (h : locB c i x = true) : PG X (.Name x pos) (gName i) := by
  obtain ⟨h1, h2⟩ := loc_of o h
  exact pg_name (by rw [o.nn]; exact o.nd) (by rw [o.nn]; exact locB_ix h) h1 h2
def tgsB (c : CK) : List Nat → List Expr → Bool
  | [], [] => true
  | i :: is, .Name x _ :: es => locB c i x && tgsB c is es
  | _, _ => false
theorem tgs_each {env : Env} : ∀ {is : List Nat} {es : List Expr}, tgsB c is es = true → (assignEach es env).length = is.length ∧ (assignEach es env).findIdx? (·.1) = none
  | [], [], _ => ⟨rfl, rfl⟩
  | i :: is, .Name x p :: es, h => by
    have h : (locB c i x && tgsB c is es) = true := h
    rw [Bool.and_eq_true] at h
    obtain ⟨h1, h2⟩ := tgs_each (env := env) h.2
    refine ⟨by show (assignEach es env).length + 1 = _; rw [h1]; rfl, ?_⟩
    show List.findIdx? (·.1) ((false, _) :: assignEach es env) = none
    rw [List.findIdx?_cons]
    simp [h2]
theorem mgs_of (o : XOk K ca Wx cl c X) : ∀ {is : List Nat} {es : List Expr}, tgsB c is es = true → PGs X es (gNs is)
  | [], [], _ => pgs_nil
  | i :: is, .Name x p :: es, h => by
    have h : (locB c i x && tgsB c is es) = true := h
    rw [Bool.and_eq_true] at h
    exact pgs_cons (mg_one o h.1) (mgs_of o h.2)
def tgB (c : CK) : Tg → Expr → Bool
  | .one i, .Name x _ => locB c i x
  | .many is, .Tuple es _ _ => tgsB c is es
  | _, _ => false
theorem mg_of (o : XOk K ca Wx cl c X) : ∀ {g : Tg} {e : Expr}, tgB c g e = true → PG X e (gT K g)
  | .one i, .Name x _, h => mg_one o h
  | .many is, .Tuple es k p, h => by
    have h : tgsB c is es = true := h
    have h1 := pg_tup (k := k) (pos := p) o.calm (mgs_of o h) (tgs_each h).1 (tgs_each h).2
    have h2 := pg_unl (k := k) (pos := p) o.calm (mgs_of o h) (tgs_each h).1 (tgs_each h).2
    rw [o.kk] at h1 h2
    exact pg_or h1 h2
end
end Sg
namespace Sg
open PySem PySem.Spec PyProof.Rows L2
section
variable {K : PySem.W.Frag} {ca : Str → Addr} {Wx : WX} {cl : Str → List D → Sto → Res} {c : CK} {X : Cx} {pos : Pos} {wf : Nat}
/-- no exception -/
def WF : WX := fun _ _ _ _ => False
theorem wipe_get : ∀ {vs : List Nat} {σ : L2.St} {i : Nat}, (L2.wipe σ vs)[i]? = if i ∈ vs ∧ i < σ.length then some none else σ[i]?
  | [], σ, i => by simp [L2.wipe]
  | v :: vs, σ, i => by
    show ((L2.wipe σ vs).set v none)[i]? = _
    rw [List.getElem?_set, wipe_get, wipe_length]
    by_cases h : v = i
    · subst h
      by_cases hl : v < σ.length
      · simp [hl]
      · simp [hl]
    · rw [if_neg h]
      have : (i ∈ v :: vs) ↔ i ∈ vs := by simp [Ne.symm h]
      simp only [this]
theorem wipe_idem {vs : List Nat} {σ : L2.St} : L2.wipe (L2.wipe σ vs) vs = L2.wipe σ vs := by
  apply List.ext_getElem?
  intro i
  rw [wipe_get, wipe_get, wipe_length]
  by_cases h : i ∈ vs ∧ i < σ.length
  · rw [if_pos h, if_pos h]
  · rw [if_neg h, if_neg h]
/-- a loose list is written -/
theorem loose_set {W W1 : Wd} {H H1 : Hp} {S : Sto} {D : Addr} {o : HO} (p : PostE W H W1 H1) (I : Inw W1 H1) (so : StoOk K ca W1 H1 S) (hD : H1 D ≠ none) (hz : W1.Z D = none) (ho : ¬ W1.own D) (hb : W.own D ∨ H D = none) (hb2 : W.L D = none) :
    PostE W H W1 (upd H1 D o) ∧ Inw W1 (upd H1 D o) ∧ StoOk K ca W1 (upd H1 D o) S := by
  refine ⟨⟨⟨p.p.zm, p.p.mm, fun a u e n => ?_, p.p.zn, p.p.on, p.p.lk⟩, p.ll, fun a i e => ?_⟩, ⟨fun a u e => ?_, I.zo, I.lo, fun a z => ?_, fun a u e => ?_, fun a z vs => ?_⟩, so.keep (fun _ _ e => e) rfl (fun _ _ => rfl) fun a z => ?_⟩
  · rw [upd_ne]
    · exact p.p.fr a u e n
    · rintro rfl
      rcases hb with z | z
      · exact n z
      · rw [e] at z; cases z
  · rw [upd_ne]
    · exact p.lh a i e
    · rintro rfl
      rw [hb2] at e; cases e
  · have hn : a ≠ D := by rintro rfl; rw [hz] at e; cases e
    rw [upd_ne hn]; exact I.zl a u e
  · by_cases hn : a = D
    · subst hn; rw [upd_same]; exact nofun
    · rw [upd_ne hn]; exact I.ho a z
  · have y := I.kh a u e
    have hn : a ≠ D := by rintro rfl; exact ho (.inr y.2)
    rw [upd_ne hn]; exact y
  · have hn : a ≠ D := by rintro rfl; exact ho z
    rw [upd_ne hn]; exact I.ot a z vs
  · rw [upd_ne]
    rintro rfl
    exact ho (.inr z)
structure LcP (K : PySem.W.Frag) (ca : Str → Addr) (W : Wd) (H : Hp) (W1 : Wd) (D : Addr) (S' : Sto) (acc : List Sg.D) (W' : Wd) (H' : Hp) : Prop where
  p : PostE W H W' H'
  i : Inw W' H'
  s : StoOk K ca W' H' S'
  h : ∃ vs, H' D = some (.lst vs) ∧ RepDs K W'.Z W'.mu acc vs
  z : W'.Z D = none
  o : ¬ W'.own D
  zm : ∀ a o, W1.Z a = some o → W'.Z a = some o
  mm : ∀ k a, W1.mu k = some a → W'.mu k = some a
theorem LcP.step {W W1 W2 W3 : Wd} {H H2 H3 : Hp} {D : Addr} {S2 S3 : Sto} {acc : List Sg.D} (l : LcP K ca W H W1 D S2 acc W2 H2) (p : PostE W2 H2 W3 H3) (i : Inw W3 H3) (s : StoOk K ca W3 H3 S3) : LcP K ca W H W1 D S3 acc W3 H3 := by
  obtain ⟨vs, e, r⟩ := l.h
  refine ⟨l.p.trans p, i, s, ⟨vs, p.p.stay e l.o l.z, r.post p.p⟩, ?_, fun z => ?_, fun a o h => p.p.zm a o (l.zm a o h), fun k a h => p.p.mm k a (l.mm k a h)⟩
  · cases q : W3.Z D with
    | none => rfl
    | some u =>
      rcases p.p.zn D u q with y | y | y
      · rw [l.z] at y; cases y
      · exact absurd y l.o
      · rw [e] at y; cases y
  · rcases p.p.on D z with y | y
    · exact l.o y
    · rw [e] at y; cases y
/-- the value of a test, within a comprehension -/
theorem lc_test {α β : Type} {rp : Wd → Hp → α → β → Prop} {q : Bool} {ce : E} {W W2 : Wd} {H H2 : Hp} {ρ : Env1} {S S2 : Sto} {σ σ2 : L2.St} {Q : β → Hp → Prop} {A B : Sto → Rs α} {G : Bool → Hp → Prop} (R : Rel K ca W2 H2 ρ S2 σ2)
    (h : Ans K ca Wx rp q W H S σ Q (match ev cl ce ρ S2 with | .ok (.fr (.bl true)) S1 => A S1 | .ok (.fr (.bl false)) S1 => B S1 | _ => .stk))
    (hg : ∀ b S3 H3 W3, PostE W2 H2 W3 H3 → Rel K ca W3 H3 ρ S3 σ2 → Ans K ca Wx rp q W H S σ Q (if b = true then A S3 else B S3) → G b H3) : tB (tE K ca WF cl ce) σ2 H2 G := by
  refine ⟨W2, ρ, S2, R, ?_⟩
  cases e : ev cl ce ρ S2 with
  | stk => rw [e] at h; exact h.elim
  | exc x S3 => rw [e] at h; exact h.elim
  | ok x S3 =>
    rw [e] at h
    intro vx H3 W3 p i s r _
    cases x with
    | fr d =>
      cases d with
      | bl b =>
        cases r.toD
        refine ⟨b, rfl, hg b S3 H3 W3 p ⟨i, R.sl.post p, s⟩ ?_⟩
        cases b <;> exact h
      | _ => exact h.elim
    | _ => exact h.elim
/-- what the comprehension does with one item -/
def lc1 (C E : Env1 → Sto → Res) (f : Bool) (g : Tg) (ρ : Env1) (ds acc : List D) (S : Sto) (ρ1 : Env1) : Rs (List D) := match C ρ1 S with
      | .ok (.fr (.bl true)) S1 => (match E ρ1 S1 with
        | .ok ov S2 => (match need f ov with
          | some y => if acc.length < lim then lcGo C E f g ρ ds (acc ++ [y]) S2 else .stk
          | none => .stk)
        | _ => .stk)
      | .ok (.fr (.bl false)) S1 => lcGo C E f g ρ ds acc S1
      | _ => .stk
theorem lcGo_one {C E : Env1 → Sto → Res} {f : Bool} {g : Tg} {ρ : Env1} {d : D} {ds acc : List D} {S : Sto} : lcGo C E f g ρ (d :: ds) acc S = match g.put d ρ with | none => .stk | some ρ1 => lc1 C E f g ρ ds acc S ρ1 := by
  show (match g.put d ρ with | none => _ | some ρ1 => _) = _
  cases g.put d ρ with
  | none => rfl
  | some ρ1 => rfl
theorem Rs.bind_if {α β : Type} {b : Bool} {x y : Rs α} {k : α → Sto → Rs β} : (if b = true then x else y).bind k = if b = true then x.bind k else y.bind k := by cases b <;> rfl
theorem lc_sound {vs : List Nat} {g : Tg} {it : It} {ce e : E} {σ : L2.St} {H : Hp} {Q : VK} (hg : ∀ i ∈ g.ixs, i ∈ vs) (h : tE K ca Wx cl (.lc vs g it ce e) σ H Q) : tLc (tEi K ca Wx cl it) (gT K g) (tB (tE K ca WF cl ce)) (tE K ca WF cl e) vs σ H Q := by
  obtain ⟨W, ρ, S, R, h⟩ := h
  refine ⟨W, ρ, S, R, Ans.bind (α := OV) (rp := RepW K true W H) (q := false) (k := fun ds S1 => (lcGo (fun ρ S => ev cl ce ρ S) (fun ρ S => ev cl e ρ S) (fresh e) g (wipeR ρ vs) ds [] S1).bind fun rs S2 => .ok (.ol rs) S2) h fun ds S1 J H1 W1 e1 p1 i1 s1 wk q1 h1 => ?_⟩
  intro D hD
  obtain ⟨G, Y, wk⟩ := wk
  have hb : W.own D ∨ H D = none := by
    by_cases z : W.own D
    · exact .inl z
    · exact .inr (p1.p.dead hD z)
  have hb2 : W.L D = none := by
    cases q : W.L D with
    | none => rfl
    | some j => exact absurd (.inl (by rw [p1.ll, q]; exact nofun)) (i1.newO hD)
  refine lc_it wk.wk (fun i H' => ∃ W' S' acc, LcP K ca W H W1 D S' acc W' H' ∧ Ans K ca Wx (RepW K true W H) false W H S σ Q ((lcGo (fun ρ S => ev cl ce ρ S) (fun ρ S => ev cl e ρ S) (fresh e) g (wipeR ρ vs) (ds.drop i) acc S').bind fun rs S2 => .ok (.ol rs) S2)) ?_ ?_ ?_ ?_
  · exact ⟨W1, S1, [], ⟨p1.trans (postE_lay i1 hD), inw_lay i1 hD, sto_lay i1 s1 hD, ⟨[], upd_same, rfl⟩, i1.newZ hD, i1.newO hD, fun _ _ e => e, fun _ _ e => e⟩, h1⟩
  · rintro i H' _ ⟨W', S', acc, l, _⟩
    exact wk.st W' H' l.zm l.i
  · rintro i x H' H'' hi ⟨W', S', acc, l, hA⟩ y
    obtain ⟨d, e2, hd⟩ := wk.gv W' H' l.zm l.mm l.i i x H'' hi y
    have e3 : ds.drop i = d :: ds.drop (i + 1) := by
      rw [List.drop_eq_getElem_cons hi]
      rw [List.getElem?_eq_getElem hi] at e2
      cases e2; rfl
    rw [e3, lcGo_one] at hA
    obtain ⟨W2, l2, rd⟩ : ∃ W2, LcP K ca W H W1 D S' acc W2 H'' ∧ RepD K W2.Z W2.mu d x := by
      rcases hd with ⟨rfl, rd⟩ | ⟨T, o, hT, rfl, rfl, rd⟩
      · exact ⟨W', l, rd⟩
      · exact ⟨W'.frz T o, l.step (postE_new l.i hT) (inw_new l.i hT) (sto_new l.i l.s hT), rd⟩
    cases e4 : g.put d (wipeR ρ vs) with
    | none => rw [e4] at hA; exact hA.elim
    | some ρ1 =>
      rw [e4] at hA
      have hA : Ans K ca Wx (RepW K true W H) false W H S σ Q ((lc1 (fun ρ S => ev cl ce ρ S) (fun ρ S => ev cl e ρ S) (fresh e) g (wipeR ρ vs) (ds.drop (i + 1)) acc S' ρ1).bind fun rs S2 => .ok (.ol rs) S2) := hA
      refine put_sound (g := g) ⟨l2.i, (R.sl.post l2.p).wipe vs, l2.s⟩ rd e4 fun σ1 R1 w => ⟨by rw [w vs hg, wipe_idem], ?_⟩
      have hA : Ans K ca Wx (RepW K true W H) false W H S σ Q (match ev cl ce ρ1 S' with
        | .ok (.fr (.bl true)) S1 => (match ev cl e ρ1 S1 with
          | .ok ov S2 => (match need (fresh e) ov with
            | some y => if acc.length < lim then lcGo (fun ρ S => ev cl ce ρ S) (fun ρ S => ev cl e ρ S) (fresh e) g (wipeR ρ vs) (ds.drop (i + 1)) (acc ++ [y]) S2 else .stk
            | none => .stk)
          | _ => .stk).bind fun rs S2 => Rs.ok (OV.ol rs) S2
        | .ok (.fr (.bl false)) S1 => (lcGo (fun ρ S => ev cl ce ρ S) (fun ρ S => ev cl e ρ S) (fresh e) g (wipeR ρ vs) (ds.drop (i + 1)) acc S1).bind fun rs S2 => Rs.ok (OV.ol rs) S2
        | _ => .stk) := by
        unfold lc1 at hA
        cases e5 : ev cl ce ρ1 S' with
        | ok x S3 =>
          simp only [e5] at hA ⊢
          cases x with
          | fr d =>
            cases d with
            | bl b => cases b <;> exact hA
            | _ => exact hA
          | _ => exact hA
        | _ => simp only [e5] at hA ⊢; exact hA
      refine lc_test R1 hA fun b S3 H3 W3 p3 R3 hB => ?_
      have l3 := l2.step p3 R3.inw R3.so
      cases b with
      | false =>
        rw [if_neg nofun] at hB ⊢
        exact ⟨W3, S3, acc, l3, hB⟩
      | true =>
        rw [if_pos rfl] at hB ⊢
        refine ⟨W3, ρ1, S3, R3, ?_⟩
        cases e6 : ev cl e ρ1 S3 with
        | stk => rw [e6] at hB; exact hB.elim
        | exc x S4 => rw [e6] at hB; exact hB.elim
        | ok ov S4 =>
          rw [e6] at hB
          intro vy H4 W4 p4 i4 s4 r4 _
          cases e7 : need (fresh e) ov with
          | none => simp only [e7] at hB; exact hB.elim
          | some y =>
            simp only [e7] at hB
            by_cases hl : acc.length < lim
            · rw [if_pos hl] at hB
              obtain ⟨W5, c5⟩ := ice p4 i4 s4 r4 e7
              have l5 := l3.step c5.p c5.i c5.s
              obtain ⟨us, e8, r8⟩ := l5.h
              refine ⟨us, e8, by rw [r8.length]; exact lim_lt hl, W5, S4, acc ++ [y], ?_, hB⟩
              obtain ⟨q1, q2, q3⟩ := loose_set (o := .lst (us ++ [vy])) l5.p l5.i l5.s (by rw [e8]; exact nofun) l5.z l5.o hb hb2
              exact ⟨q1, q2, q3, ⟨us ++ [vy], upd_same, r8.append ⟨vy, [], rfl, c5.r, rfl⟩⟩, l5.z, l5.o, l5.zm, l5.mm⟩
            · rw [if_neg hl] at hB; exact hB.elim
  · rintro H' ⟨W', S', acc, l, hA⟩
    rw [List.drop_length] at hA
    obtain ⟨us, e8, r8⟩ := l.h
    refine hA (.ref D) H' W' l.p l.i l.s (.ow e8 ⟨us, rfl, r8⟩ ⟨?_, l.z⟩ fun _ => ⟨l.z, l.o, hb⟩) nofun
    cases q : W'.O D with
    | none => rfl
    | some z => exact absurd (.inr (by rw [q]; exact nofun)) l.o
/-- the context of a comprehension's block -/
def CK.blk (c : CK) (sc : Scope) : CK := { c with sc := relS sc c.sc, top := false }
theorem XOk.blk (o : XOk K ca Wx cl c X) {scope : Scope} (s : Shared) (H : Hp) (C : Addr) (cs : List (Str × Addr)) (fp : List Addr) : XOk K ca WF cl (c.blk scope) (X.blk s H scope (compEnvC scope cs C X.env) fp) where
  kk := o.kk
  nn := o.nn
  nd := o.nd
  scp := by show relS scope X.env.scope = relS scope c.sc; rw [o.scp]
  calm := o.calm
  tk := fun u s' ⟨_, _, _, _, _, _, _, _, _, _, _, _, _, _, _, _, w⟩ => w
  room := o.room
  po := .never
  fnt := nofun
  fr := o.fr
  cs := o.cs
  fn := o.fn
theorem PTsi {ifs : List Expr} {t t' : TT} (h : PTs X ifs t) (i : ∀ σ H Q, t' σ H Q → t σ H Q) : PTs X ifs t' := ⟨fun pins s σ H Q I hq => h.run pins s σ H Q I (i σ H Q hq)⟩
theorem pts_none : PTs X [] (tB (tE K ca Wx cl (.bl true))) := by
  refine PTsi pts_nil fun σ H Q ⟨W, ρ, S, R, h⟩ => ?_
  obtain ⟨b, e, q⟩ := h (.bl true) H W .refl R.inw R.so (.fr rfl) fun _ => ⟨rfl, rfl, rfl⟩
  cases e
  exact q
end
end Sg
namespace Sg
open PySem PySem.Spec PyProof.Rows L2
section
variable {K : PySem.W.Frag} {ca : Str → Addr} {Wx : WX} {cl : Str → List D → Sto → Res} {c : CK} {X : Cx} {pos : Pos} {wf : Nat}
/-- what a statement promises -/
def AnsS (K : PySem.W.Frag) (ca : Str → Addr) (Wx : WX) (W : Wd) (H : Hp) (En : Ends) : Out → Prop
  | .nx ρ S => ∀ σ' H' W', Post W H W' H' → Rel K ca W' H' ρ S σ' → En.nx σ' H'
  | .bk ρ S => ∀ σ' H' W', Post W H W' H' → Rel K ca W' H' ρ S σ' → En.bk σ' H'
  | .ct ρ S => ∀ σ' H' W', Post W H W' H' → Rel K ca W' H' ρ S σ' → En.ct σ' H'
  | .rt ov S => ∀ v H' W', Post W H W' H' → Inw W' H' → StoOk K ca W' H' S → RepW K true W H W' H' ov v → En.rt v H'
  | .ex x ρ S => ∀ cls dx σ' H' W', Post W H W' H' → Rel K ca W' H' ρ S σ' → RepX K ca W' H' x cls dx → Wx cls dx σ' H'
  | .stk => False
def tS (K : PySem.W.Frag) (ca : Str → Addr) (Wx : WX) (cl : Str → List D → Sto → Res) (wf : Nat) (s : St) : TS := fun En σ H => ∃ W ρ S, Rel K ca W H ρ S σ ∧ AnsS K ca Wx W H En (exec cl wf s ρ S)
def tSs (K : PySem.W.Frag) (ca : Str → Addr) (Wx : WX) (cl : Str → List D → Sto → Res) (wf : Nat) (s : Sts) : TS := fun En σ H => ∃ W ρ S, Rel K ca W H ρ S σ ∧ AnsS K ca Wx W H En (execs cl wf s ρ S)
theorem RepW.backS {f : Bool} {W W1 W' : Wd} {H H1 H' : Hp} {ov : OV} {v : V} (p : Post W H W1 H1) (h : RepW K f W1 H1 W' H' ov v) : RepW K f W H W' H' ov v := by
  cases h with
  | fr h => exact .fr h
  | bo e r => exact .bo e r
  | @ow _ a o e r hO hf =>
    refine .ow e r hO fun t => ?_
    obtain ⟨h1, h2, h3⟩ := hf t
    refine ⟨h1, h2, ?_⟩
    by_cases hw : W.own a
    · exact .inl hw
    · rcases h3 with z | z
      · exact p.on a z
      · exact .inr (p.dead z hw)
/-- the start moved on -/
theorem AnsS.move {W W1 : Wd} {H H1 : Hp} {En : Ends} {r : Out} (h : AnsS K ca Wx W H En r) (p : Post W H W1 H1) : AnsS K ca Wx W1 H1 En r := by
  cases r with
  | nx ρ S => exact fun σ' H' W' q R => h σ' H' W' (p.trans q) R
  | bk ρ S => exact fun σ' H' W' q R => h σ' H' W' (p.trans q) R
  | ct ρ S => exact fun σ' H' W' q R => h σ' H' W' (p.trans q) R
  | rt ov S => exact fun v H' W' q i s r => h v H' W' (p.trans q) i s (r.backS p)
  | ex x ρ S => exact fun cls dx σ' H' W' q R r => h cls dx σ' H' W' (p.trans q) R r
  | stk => exact h
/-- an expression within a statement -/
theorem AnsS.bind {α β : Type} {rp1 : Wd → Hp → α → β → Prop} {q1 : Bool} {r : Rs α} {k : α → Sto → Out} {W : Wd} {H : Hp} {ρ : Env1} {S : Sto} {σ : L2.St} {Q1 : β → Hp → Prop} {En : Ends} (R : Rel K ca W H ρ S σ) (h : AnsS K ca Wx W H En (r.out ρ k))
    (hk : ∀ a S1 b H1 W1, r = .ok a S1 → PostE W H W1 H1 → Rel K ca W1 H1 ρ S1 σ → rp1 W1 H1 a b → AnsS K ca Wx W H En (k a S1) → Q1 b H1) : Ans K ca Wx rp1 q1 W H S σ Q1 r := by
  cases r with
  | ok a S1 => exact fun b H' W' p i s r _ => hk a S1 b H' W' rfl p ⟨i, R.sl.post p, s⟩ r h
  | exc x S1 => exact fun cls dx H' W' p i s r => h cls dx σ H' W' p.p ⟨i, R.sl.post p, s⟩ r
  | stk => exact h
/-- a value that is kept -/
theorem asg_sound {e : E} {k : D → Sto → Out} {W : Wd} {H : Hp} {ρ : Env1} {S : Sto} {σ : L2.St} {Q : VK} {En : Ends} (R : Rel K ca W H ρ S σ) (h : AnsS K ca Wx W H En ((ev cl e ρ S).out ρ fun x S1 => (ofO S1 (need (fresh e) x)).out ρ k))
    (hk : ∀ d S1 v H1 W1, PostE W H W1 H1 → Rel K ca W1 H1 ρ S1 σ → RepD K W1.Z W1.mu d v → AnsS K ca Wx W H En (k d S1) → Q v H1) : tE K ca Wx cl e σ H Q := by
  refine ⟨W, ρ, S, R, AnsS.bind R h fun x S1 vx H1 W1 e1 p1 R1 r1 h1 => ?_⟩
  cases hn : need (fresh e) x with
  | none => rw [hn] at h1; exact h1.elim
  | some d =>
    rw [hn] at h1
    obtain ⟨W2, c2⟩ := ice p1 R1.inw R1.so r1 hn
    exact hk d S1 vx H1 W2 c2.p ⟨c2.i, R.sl.post c2.p, c2.s⟩ c2.r h1
def notComp : Expr → Bool
  | .ListComp .. => false
  | .SetComp .. => false
  | .DictComp .. => false
  | _ => true
theorem swaps_no {e : Expr} {t : Option Expr} {l : Nat} {env : Env} (h : notComp e = true) : swapsWith e t l env = pure false := by
  cases e <;> first | rfl | cases h
theorem swapsS_no {e tg : Expr} {l : Nat} {env : Env} (h : notComp e = true) : swapsWithSole [tg] e l env = pure false := swaps_no h
def notTup : Expr → Bool
  | .Tuple .. => false
  | _ => true
def isName : Expr → Bool
  | .Name .. => true
  | .Subscript .. => true
  | _ => false
theorem stores_no {tg e : Expr} {env : Env} (h : (isName tg || notTup e) = true) : swappedStores [tg] e env = pure none := by
  cases tg <;> (first | rfl | (cases e <;> first | rfl | cases h))
theorem ms_asg (o : XOk K ca Wx cl c X) {i : Nat} {x : Str} {e : E} {a : Expr} {p : Pos} (hi : locB c i x = true) (hc : notComp a = true) (ha : PE X a (tE K ca Wx cl e)) : PS X (.Assign [.Name x p] a pos) (tS K ca Wx cl wf (.asg i e)) := by
  refine PSi (ps_asg ha (mg_one o hi) (swapsS_no hc) (stores_no rfl)) fun En σ H ⟨W, ρ, S, R, h⟩ => ?_
  refine asg_sound R h fun d S1 v H1 W1 p1 R1 rd h1 => ?_
  exact h1 _ _ W1 p1.p ⟨R1.inw, R1.sl.setF rd, R1.so⟩
theorem ms_asgT (o : XOk K ca Wx cl c X) {is : List Nat} {tg : Expr} {e : E} {a : Expr} (ht : tgB c (.many is) tg = true) (hc : notComp a = true) (hn : notTup a = true) (ha : PE X a (tE K ca Wx cl e)) : PS X (.Assign [tg] a pos) (tS K ca Wx cl wf (.asgT is e)) := by
  have h1 : ∀ env, (assignEach [tg] env).map (·.2) = [assign tg env] := by
    intro env
    cases tg <;> first | rfl | cases ht
  refine PSi (ps_asg ha (mg_of o ht) (swapsS_no hc) (stores_no (by rw [hn]; cases isName tg <;> rfl)) (h1 _)) fun En σ H ⟨W, ρ, S, R, h⟩ => ?_
  refine asg_sound R h fun d S1 v H1 W1 p1 R1 rd h1 => ?_
  cases hp : (Tg.many is).put d ρ with
  | none => rw [hp] at h1; exact h1.elim
  | some ρ2 =>
    rw [hp] at h1
    exact put_sound R1 rd hp fun σ1 R2 _ => h1 σ1 H1 W1 p1.p R2
theorem own_sound {i : Nat} {e : E} {En : Ends} {σ : L2.St} {H : Hp} (h : tS K ca Wx cl wf (.own i e) En σ H) : tAsg (tE K ca Wx cl e) (gName i) En σ H := by
  obtain ⟨W, ρ, S, R, h⟩ := h
  have h : AnsS K ca Wx W H En ((ev cl e ρ S).out ρ fun x S1 => if fresh e && !x.isBo then .nx (ρ.set i (some x)) S1 else .stk) := h
  refine ⟨W, ρ, S, R, AnsS.bind R h fun x S1 vx H1 W1 e1 p1 R1 r1 h1 => ?_⟩
  by_cases hc : (fresh e && !x.isBo) = true
  · rw [if_pos hc] at h1
    rw [Bool.and_eq_true] at hc
    rw [hc.1] at r1
    obtain ⟨W2, h2⟩ := own_set (i := i) p1.p R1.inw R1.so r1 R1.sl (by simpa using hc.2)
    exact h1 _ _ W2 h2.p h2.r
  · rw [if_neg hc] at h1
    exact h1.elim
theorem ms_own (o : XOk K ca Wx cl c X) {i : Nat} {x : Str} {e : E} {a : Expr} {p : Pos} (hi : locB c i x = true) (hc : notComp a = true) (ha : PE X a (tE K ca Wx cl e)) : PS X (.Assign [.Name x p] a pos) (tS K ca Wx cl wf (.own i e)) :=
  PSi (ps_asg ha (mg_one o hi) (swapsS_no hc) (stores_no rfl)) fun En σ H h => own_sound h
theorem ms_pass : PS X (.Pass pos) (tS K ca Wx cl wf .pass) := PSi ps_pass fun En σ H ⟨W, ρ, S, R, h⟩ => h σ H W .refl R
theorem ms_doc {x : Str} {j : Nat} {p : Pos} : PS X (.Expr (.Constant (.str x) j p) pos) (tS K ca Wx cl wf .pass) := PSi ps_doc fun En σ H ⟨W, ρ, S, R, h⟩ => h σ H W .refl R
theorem ms_brk : PS X (.Break pos) (tS K ca Wx cl wf .brk) := PSi ps_break fun En σ H ⟨W, ρ, S, R, h⟩ => h σ H W .refl R
theorem ms_cont : PS X (.Continue pos) (tS K ca Wx cl wf .cont) := PSi ps_continue fun En σ H ⟨W, ρ, S, R, h⟩ => h σ H W .refl R
theorem ms_retN : PS X (.Return none pos) (tS K ca Wx cl wf .retN) := PSi ps_retN fun En σ H ⟨W, ρ, S, R, h⟩ => h .non H W .refl R.inw R.so (.fr rfl)
theorem post_bare {W W1 : Wd} {H H1 : Hp} (p : Post W H W1 H1) : Post W H W1.bare H1 :=
  ⟨p.zm, p.mm, p.fr, p.zn, fun a z => p.on a (z.elim (fun q => absurd rfl q) .inr), p.lk⟩
theorem ret_rest {W : Wd} {H : Hp} {En : Ends} {S : Sto} {f : Bool} {x : OV} {v : V} {W1 : Wd} {H1 : Hp} (p : Post W H W1 H1) (I : Inw W1 H1) (so : StoOk K ca W1 H1 S) (r : RepW K f W H W1 H1 x v) (hf : f = true ∨ x.isFr = true) (h : AnsS K ca Wx W H En (.rt x S)) : En.rt v H1 := by
  refine h v H1 W1 p I so ?_
  rcases hf with hf | hf
  · subst hf; exact r
  · cases x <;> first | cases hf | skip
    exact .fr r.toD
/-- return of what is new, or frozen -/
theorem ms_ret {e : E} {a : Expr} (hv : isVar e = false) (ha : PE X a (tE K ca Wx cl e)) : PS X (.Return (some a) pos) (tS K ca Wx cl wf (.ret e)) := by
  refine PSi (ps_ret ha) fun En σ H ⟨W, ρ, S, R, h⟩ => ?_
  have h : AnsS K ca Wx W H En ((ev cl e ρ S).out ρ fun x S1 => if !x.isBo && (fresh e || isVar e || x.isFr) then .rt x S1 else .stk) := h
  refine ⟨W, ρ, S, R, AnsS.bind R h fun x S1 vx H1 W1 e1 p1 R1 r1 h1 => ?_⟩
  by_cases hc : (!x.isBo && (fresh e || isVar e || x.isFr)) = true
  · rw [if_pos hc] at h1
    rw [hv, Bool.and_eq_true, Bool.or_eq_true, Bool.or_false] at hc
    exact ret_rest p1.p R1.inw R1.so r1 hc.2 h1
  · rw [if_neg hc] at h1
    exact h1.elim
/-- return of a name -/
theorem ms_retV (o : XOk K ca Wx cl c X) {x : Str} {i : Nat} {p : Pos} (hi : c.N[i]? = some x) (hv : visB c.sc x = true) (hn : nm x = true) : PS X (.Return (some (.Name x p)) pos) (tS K ca Wx cl wf (.ret (.var i))) := by
  refine PSi (ps_ret (pe_var (i := i) (by rw [o.nn]; exact hi) (vis_of o hv) (nm_d hn) (nm_c hn))) fun En σ H ⟨W, ρ, S, R, h⟩ => ?_
  have h : AnsS K ca Wx W H En ((match ρ[i]? with | some (some ov) => Rs.ok ov S | _ => .stk).out ρ fun x S1 => if !x.isBo && (false || true || x.isFr) then .rt x S1 else .stk) := h
  split at h
  · rename_i ov e
    obtain ⟨v, e1, r⟩ := R.sl.at_ i ov e
    refine ⟨v, e1, ?_⟩
    have h : AnsS K ca Wx W H En (if !ov.isBo && (false || true || ov.isFr) then .rt ov S else .stk) := h
    by_cases hc : (!ov.isBo && (false || true || ov.isFr)) = true
    · rw [if_pos hc] at h
      refine h v H W.bare (post_bare .refl) (inw_bare R.inw) (sto_bare R.so) ?_
      rcases r with ⟨d, e2, r⟩ | ⟨a, ho, e2, l, e3, r⟩
      · subst e2; exact .fr r
      · subst e2
        have ow : W.own a := .inl (by rw [l]; exact nofun)
        have lo := R.inw.lZ l
        refine .ow e3 (RepH.same rfl rfl r) lo fun _ => ⟨?_, fun z => ?_, .inl ow⟩
        · cases q : W.Z a with
          | none => exact q
          | some u => exact absurd ow (R.inw.zo a u q)
        · rcases z with z | z
          · exact z rfl
          · exact z lo.1
    · rw [if_neg hc] at h
      exact h.elim
  · exact h.elim
theorem ms_expr {e : E} {a : Expr} (hc : notComp a = true) (ha : PE X a (tE K ca Wx cl e)) : PS X (.Expr a pos) (tS K ca Wx cl wf (.expr e)) := by
  refine PSi (ps_expr ha (swaps_no hc)) fun En σ H ⟨W, ρ, S, R, h⟩ => ?_
  have h : AnsS K ca Wx W H En ((ev cl e ρ S).out ρ fun _ S1 => .nx ρ S1) := h
  exact ⟨W, ρ, S, R, AnsS.bind R h fun x S1 vx H1 W1 e1 p1 R1 r1 h1 => h1 σ H1 W1 p1.p R1⟩
theorem mss_nil : PSs X [] (tSs K ca Wx cl wf .nil) := PSsi pss_nil fun En σ H ⟨W, ρ, S, R, h⟩ => h σ H W .refl R
theorem mss_cons {s : St} {r : Sts} {st : Stmt} {rest : List Stmt} (h1 : PS X st (tS K ca Wx cl wf s)) (h2 : PSs X rest (tSs K ca Wx cl wf r)) : PSs X (st :: rest) (tSs K ca Wx cl wf (.cons s r)) := by
  refine PSsi (pss_cons h1 h2) fun En σ H ⟨W, ρ, S, R, h⟩ => ⟨W, ρ, S, R, ?_⟩
  have h : AnsS K ca Wx W H En (match exec cl wf s ρ S with
    | .nx ρ1 S1 => execs cl wf r ρ1 S1
    | .rt ov S1 => .rt ov S1
    | .bk ρ1 S1 => .bk ρ1 S1
    | .ct ρ1 S1 => .ct ρ1 S1
    | .ex x ρ1 S1 => .ex x ρ1 S1
    | .stk => .stk) := h
  cases e : exec cl wf s ρ S with
  | nx ρ1 S1 => rw [e] at h; exact fun σ' H' W' p R' => ⟨W', ρ1, S1, R', h.move p⟩
  | rt ov S1 => rw [e] at h; exact h
  | bk ρ1 S1 => rw [e] at h; exact h
  | ct ρ1 S1 => rw [e] at h; exact h
  | ex x ρ1 S1 => rw [e] at h; exact h
  | stk => rw [e] at h; exact h
/-- what is frozen meanwhile -/
structure Froz (W : Wd) (H : Hp) (W' : Wd) : Prop where
  l : ∀ a i, W.L a = some i → W'.L a = some i ∨ (W'.L a = none ∧ W'.O a = none ∧ ∃ o, W'.Z a = some o ∧ H a = some o)
  o : W'.O = W.O
  m : W'.mu = W.mu
theorem Froz.refl {W : Wd} {H : Hp} : Froz W H W := ⟨fun _ _ e => .inl e, rfl, rfl⟩
theorem Froz.trans {W W' W'' : Wd} {H : Hp} (f : Froz W H W') (g : Froz W' H W'') (p : Post W' H W'' H) (I : Inw W'' H) : Froz W H W'' := by
  refine ⟨fun a i e => ?_, g.o.trans f.o, g.m.trans f.m⟩
  rcases f.l a i e with z | ⟨z1, z2, o, z3, z4⟩
  · exact g.l a i z
  · have h3 := p.zm a o z3
    have no := I.zo a o h3
    refine .inr ⟨?_, ?_, o, h3, z4⟩
    · cases q : W''.L a with
      | none => rfl
      | some j => exact absurd (.inl (by rw [q]; exact nofun)) no
    · rw [g.o]; exact z2
/-- a slot's own is frozen -/
theorem frz_one {W : Wd} {H : Hp} {ρ : Env1} {S : Sto} {σ : L2.St} {i : Nat} {ov : OV} {d : D} (R : Rel K ca W H ρ S σ) (e : ρ[i]? = some (some ov)) (hn : need true ov = some d) : ∃ W', Post W H W' H ∧ Rel K ca W' H (ρ.set i (some (.fr d))) S σ ∧ Froz W H W' := by
  obtain ⟨v, e1, r⟩ := R.sl.at_ i ov e
  have hs : σ.set i (some v) = σ := by
    apply List.ext_getElem?
    intro j
    by_cases hj : i = j
    · subst hj
      have hl : i < σ.length := (List.getElem?_eq_some_iff.mp e1).1
      rw [List.getElem?_set_self hl, e1]
    · rw [List.getElem?_set_ne hj]
  rcases r with ⟨d', e2, r⟩ | ⟨a, o, e2, l, e3, r⟩
  · subst e2
    cases hn
    refine ⟨W, .refl, ⟨R.inw, ?_, R.so⟩, .refl⟩
    have := R.sl.setF (i := i) r
    rwa [hs] at this
  · have e2 : V.ref a = v := e2.symm
    subst e2
    have ow : W.own a := .inl (by rw [l]; exact nofun)
    have hO := R.inw.lo a i l
    have z1 : W.Z a = none := by
      cases q : W.Z a with
      | none => rfl
      | some u => exact absurd ow (R.inw.zo a u q)
    let W' : Wd := { W.frz a o with L := fun b => if b = a then none else W.L b }
    have own' : ∀ b, W'.own b → W.own b ∧ b ≠ a := fun b z => by
      rcases z with z | z
      · have z : (if b = a then none else W.L b) ≠ none := z
        by_cases hb : b = a
        · rw [if_pos hb] at z; exact absurd rfl z
        · rw [if_neg hb] at z; exact ⟨.inl z, hb⟩
      · refine ⟨.inr z, ?_⟩
        rintro rfl
        exact z hO
    have I' : Inw W' H := by
      refine ⟨fun b u q => ?_, fun b u q z => ?_, fun b j q => ?_, fun b z => R.inw.ho b (own' b z).1, R.inw.kh, fun b z => R.inw.ot b (own' b z).1⟩
      · have q' : upd W.Z a o b = some u := q
        by_cases hb : b = a
        · subst hb; rw [upd_same] at q'; cases q'; exact .inl e3
        · rw [upd_ne hb] at q'; exact R.inw.zl b u q'
      · have q' : upd W.Z a o b = some u := q
        obtain ⟨z2, hb⟩ := own' b z
        rw [upd_ne hb] at q'
        exact R.inw.zo b u q' z2
      · have q' : (if b = a then none else W.L b) = some j := q
        by_cases hb : b = a
        · rw [if_pos hb] at q'; cases q'
        · rw [if_neg hb] at q'; exact R.inw.lo b j q'
    refine ⟨W', ⟨zm_ice z1, fun _ _ e => e, fun _ _ e _ => e, fun b u q => ?_, fun b z => .inl (own' b z).1, rfl⟩, ⟨I', ?_, R.so.keep (zm_ice z1) rfl (fun _ _ => rfl) (fun _ _ => rfl)⟩, ⟨fun b j q => ?_, rfl, rfl⟩⟩
    · have q' : upd W.Z a o b = some u := q
      by_cases hb : b = a
      · subst hb; exact .inr (.inl ow)
      · rw [upd_ne hb] at q'; exact .inl q'
    · have rd : RepD K W'.Z W'.mu d (.ref a) := RepH.ice r z1 hn
      refine ⟨by rw [List.length_set]; exact R.sl.len, fun j ov' e' => ?_⟩
      by_cases hj : i = j
      · subst hj
        rw [List.getElem?_set_self (List.getElem?_eq_some_iff.mp e).1] at e'
        cases e'
        exact ⟨.ref a, e1, .inl ⟨d, rfl, rd⟩⟩
      · rw [List.getElem?_set_ne hj] at e'
        obtain ⟨w, e4, q⟩ := R.sl.at_ j ov' e'
        refine ⟨w, e4, ?_⟩
        rcases q with ⟨d2, e5, q⟩ | ⟨b, u, e5, l2, e6, q⟩
        · exact .inl ⟨d2, e5, RepD.le (zm_ice z1) (fun _ _ e => e) _ _ q⟩
        · refine .inr ⟨b, u, e5, ?_, e6, RepH.le (zm_ice z1) (fun _ _ e => e) q⟩
          show (if b = a then none else W.L b) = some j
          rw [if_neg]
          · exact l2
          · rintro rfl
            rw [l] at l2; cases l2; exact hj rfl
    · by_cases hb : b = a
      · subst hb
        exact .inr ⟨by show (if b = b then none else W.L b) = none; rw [if_pos rfl], hO, o, by show upd W.Z b o b = some o; rw [upd_same], e3⟩
      · exact .inl (by show (if b = a then none else W.L b) = some j; rw [if_neg hb]; exact q)
theorem frzs {S : Sto} {σ : L2.St} {H : Hp} : ∀ (is : List Nat) {W : Wd} {ρ : Env1}, Rel K ca W H ρ S σ → ∃ W', Post W H W' H ∧ Rel K ca W' H (frzR ρ is) S σ ∧ Froz W H W'
  | [], W, ρ, R => ⟨W, .refl, R, .refl⟩
  | i :: is, W, ρ, R => by
    unfold frzR
    split
    · rename_i ov e
      split
      · rename_i d hn
        obtain ⟨W1, p1, R1, f1⟩ := frz_one R e hn
        obtain ⟨W2, p2, R2, f2⟩ := frzs is R1
        exact ⟨W2, p1.trans p2, R2, f1.trans f2 p2 R2.inw⟩
      · exact frzs is R
    · exact frzs is R
/-- nothing is done: what was a list of one's own may be shared -/
theorem mss_frz {is : List Nat} {r : Sts} {st : List Stmt} (h : PSs X st (tSs K ca Wx cl wf r)) : PSs X st (tSs K ca Wx cl wf (.cons (.frz is) r)) := by
  refine PSsi h fun En σ H ⟨W, ρ, S, R, h⟩ => ?_
  obtain ⟨W', p, R', _⟩ := frzs is R
  have h : AnsS K ca Wx W H En (execs cl wf r (frzR ρ is) S) := h
  exact ⟨W', _, S, R', h.move p⟩
end
end Sg
namespace Sg
open PySem PySem.Spec PyProof.Rows L2
section
variable {K : PySem.W.Frag} {ca : Str → Addr} {Wx : WX} {cl : Str → List D → Sto → Res} {c : CK} {X : Cx} {pos : Pos} {wf : Nat}
theorem ms_ite {ce : E} {x : Expr} {a b : Sts} {sa sb : List Stmt} (hc : PT X x (tB (tE K ca Wx cl ce))) (ha : PSs X sa (tSs K ca Wx cl wf a)) (hb : PSs X sb (tSs K ca Wx cl wf b)) : PS X (.If x sa sb pos) (tS K ca Wx cl wf (.ite ce a b)) := by
  refine PSi (ps_if hc ha hb) fun En σ H ⟨W, ρ, S, R, h⟩ => ?_
  have h : AnsS K ca Wx W H En ((ev cl ce ρ S).out ρ fun x S1 => match x with | .fr (.bl true) => execs cl wf a ρ S1 | .fr (.bl false) => execs cl wf b ρ S1 | _ => .stk) := h
  refine ⟨W, ρ, S, R, AnsS.bind R h fun x S1 vx H1 W1 e1 p1 R1 r1 h1 => ?_⟩
  cases x with
  | fr d =>
    cases d with
    | bl k =>
      cases r1.toD
      refine ⟨k, rfl, ?_⟩
      cases k with
      | true => exact ⟨W1, ρ, S1, R1, AnsS.move (r := execs cl wf a ρ S1) h1 p1.p⟩
      | false => exact ⟨W1, ρ, S1, R1, AnsS.move (r := execs cl wf b ρ S1) h1 p1.p⟩
    | _ => exact h1.elim
  | _ => exact h1.elim
theorem wh_sound {ce : E} {b : Sts} {En : Ends} {σ : L2.St} {H : Hp} (h : tS K ca Wx cl wf (.while ce b) En σ H) : tWhile (tB (tE K ca Wx cl ce)) (tSs K ca Wx cl wf b) En σ H := by
  obtain ⟨W, ρ, S, R, h⟩ := h
  refine ⟨fun m σ' H' => ∃ W' ρ' S', Post W H W' H' ∧ Rel K ca W' H' ρ' S' σ' ∧ AnsS K ca Wx W H En (whGo (fun ρ S => ev cl ce ρ S) (fun ρ S => execs cl wf b ρ S) m ρ' S'), ⟨wf, W, ρ, S, .refl, R, h⟩, ?_⟩
  rintro m σ1 H1 ⟨W1, ρ1, S1, p1, R1, h1⟩
  cases m with
  | zero => exact h1.elim
  | succ n =>
    have h1 : AnsS K ca Wx W H En (match ev cl ce ρ1 S1 with
      | .ok (.fr (.bl true)) S2 => (match execs cl wf b ρ1 S2 with
        | .nx ρ2 S2 => whGo (fun ρ S => ev cl ce ρ S) (fun ρ S => execs cl wf b ρ S) n ρ2 S2
        | .ct ρ2 S2 => whGo (fun ρ S => ev cl ce ρ S) (fun ρ S => execs cl wf b ρ S) n ρ2 S2
        | .bk ρ2 S2 => .nx ρ2 S2
        | .rt ov S2 => .rt ov S2
        | .ex x ρ2 S2 => .ex x ρ2 S2
        | .stk => .stk)
      | .ok (.fr (.bl false)) S2 => .nx ρ1 S2
      | .exc x S2 => .ex x ρ1 S2
      | _ => .stk) := h1
    refine ⟨W1, ρ1, S1, R1, ?_⟩
    cases e : ev cl ce ρ1 S1 with
    | stk => rw [e] at h1; exact h1.elim
    | exc x S2 => rw [e] at h1; exact fun cls dx H' W' p i s r => h1 cls dx σ1 H' W' (p1.trans p.p) ⟨i, R1.sl.post p, s⟩ r
    | ok x S2 =>
      rw [e] at h1
      intro vx H2 W2 p2 i2 s2 r2 _
      cases x with
      | fr d =>
        cases d with
        | bl k =>
          cases r2.toD
          refine ⟨k, rfl, ?_⟩
          cases k with
          | false => exact h1 σ1 H2 W2 (p1.trans p2.p) ⟨i2, R1.sl.post p2, s2⟩
          | true =>
            refine ⟨fun σ' H' => ∃ W' ρ' S', Post W H W' H' ∧ Rel K ca W' H' ρ' S' σ' ∧ AnsS K ca Wx W H En (whGo (fun ρ S => ev cl ce ρ S) (fun ρ S => execs cl wf b ρ S) n ρ' S'), fun σ' H' z => ⟨n, Nat.lt_succ_self n, z⟩, W2, ρ1, S2, ⟨i2, R1.sl.post p2, s2⟩, ?_⟩
            cases e3 : execs cl wf b ρ1 S2 with
            | nx ρ3 S3 => simp only [e3] at h1; exact fun σ3 H3 W3 p3 R3 => ⟨W3, ρ3, S3, (p1.trans p2.p).trans p3, R3, h1⟩
            | ct ρ3 S3 => simp only [e3] at h1; exact fun σ3 H3 W3 p3 R3 => ⟨W3, ρ3, S3, (p1.trans p2.p).trans p3, R3, h1⟩
            | bk ρ3 S3 => simp only [e3] at h1; exact fun σ3 H3 W3 p3 R3 => h1 σ3 H3 W3 ((p1.trans p2.p).trans p3) R3
            | rt ov S3 => simp only [e3] at h1; exact AnsS.move (r := .rt ov S3) h1 (p1.trans p2.p)
            | ex y ρ3 S3 => simp only [e3] at h1; exact AnsS.move (r := .ex y ρ3 S3) h1 (p1.trans p2.p)
            | stk => simp only [e3] at h1; exact h1.elim
        | _ => exact h1.elim
      | _ => exact h1.elim
theorem ms_while (o : XOk K ca Wx cl c X) {ce : E} {x : Expr} {b : Sts} {sb : List Stmt} (hc : PT X x (tB (tE K ca Wx cl ce))) (hb : PSs X sb (tSs K ca Wx cl wf b)) : PS X (.While x sb [] pos) (tS K ca Wx cl wf (.while ce b)) :=
  PSi (ps_while o.po hc hb) fun En σ H h => wh_sound h
theorem forGo_one {F : Env1 → Sto → Out} {g : Tg} {d : D} {ds : List D} {ρ : Env1} {S : Sto} : forGo F g (d :: ds) ρ S = match g.put d ρ with
    | none => .stk
    | some ρ1 => match F ρ1 S with
      | .nx ρ2 S2 => forGo F g ds ρ2 S2
      | .ct ρ2 S2 => forGo F g ds ρ2 S2
      | .bk ρ2 S2 => .nx ρ2 S2
      | .rt ov S2 => .rt ov S2
      | .ex x ρ2 S2 => .ex x ρ2 S2
      | .stk => .stk := by
  rw [forGo]
  all_goals
    cases g.put d ρ with
    | none => rfl
    | some ρ1 =>
      simp only
      cases F ρ1 S <;> rfl
theorem for_sound {g : Tg} {it : It} {b : Sts} {En : Ends} {σ : L2.St} {H : Hp} (h : tS K ca Wx cl wf (.for g it b) En σ H) : tFor (tEi K ca Wx cl it) (gT K g) (tSs K ca Wx cl wf b) En σ H := by
  obtain ⟨W, ρ, S, R, h⟩ := h
  have h : AnsS K ca Wx W H En ((evi cl it ρ S).out ρ fun ds S1 => forGo (fun ρ S => execs cl wf b ρ S) g ds ρ S1) := h
  refine ⟨W, ρ, S, R, AnsS.bind R h fun ds S1 J H1 W1 e1 p1 R1 wk h1 => ?_⟩
  obtain ⟨G, Y, wk⟩ := wk
  refine for_it wk.wk (fun i σ' H' => ∃ W' ρ' S', Post W H W' H' ∧ Rel K ca W' H' ρ' S' σ' ∧ (∀ a o, W1.Z a = some o → W'.Z a = some o) ∧ (∀ k a, W1.mu k = some a → W'.mu k = some a) ∧ AnsS K ca Wx W H En (forGo (fun ρ S => execs cl wf b ρ S) g (ds.drop i) ρ' S')) ?_ ?_ ?_ ?_
  · exact ⟨W1, ρ, S1, p1.p, R1, fun _ _ e => e, fun _ _ e => e, h1⟩
  · rintro i σ' H' _ ⟨W', ρ', S', p, R', zm, mm, _⟩
    exact wk.st W' H' zm R'.inw
  · rintro i x σ' H' H'' hi ⟨W', ρ', S', p, R', zm, mm, hA⟩ y
    obtain ⟨d, e2, hd⟩ := wk.gv W' H' zm mm R'.inw i x H'' hi y
    have e3 : ds.drop i = d :: ds.drop (i + 1) := by
      rw [List.drop_eq_getElem_cons hi]
      rw [List.getElem?_eq_getElem hi] at e2
      cases e2; rfl
    rw [e3, forGo_one] at hA
    obtain ⟨W2, p2, R2, rd⟩ : ∃ W2, PostE W' H' W2 H'' ∧ Rel K ca W2 H'' ρ' S' σ' ∧ RepD K W2.Z W2.mu d x := by
      rcases hd with ⟨rfl, rd⟩ | ⟨T, o, hT, rfl, rfl, rd⟩
      · exact ⟨W', .refl, R', rd⟩
      · exact ⟨W'.frz T o, postE_new R'.inw hT, ⟨inw_new R'.inw hT, R'.sl.post (postE_new R'.inw hT), sto_new R'.inw R'.so hT⟩, rd⟩
    cases e4 : g.put d ρ' with
    | none => simp only [e4] at hA; exact hA.elim
    | some ρ1 =>
      simp only [e4] at hA
      refine put_sound R2 rd e4 fun σ1 R3 _ => ⟨W2, ρ1, S', R3, ?_⟩
      have zm2 : ∀ {W3 : Wd} {H3 : Hp}, Post W2 H'' W3 H3 → (∀ a o, W1.Z a = some o → W3.Z a = some o) := fun q a o z => q.zm a o (p2.p.zm a o (zm a o z))
      have mm2 : ∀ {W3 : Wd} {H3 : Hp}, Post W2 H'' W3 H3 → (∀ k a, W1.mu k = some a → W3.mu k = some a) := fun q a o z => q.mm a o (p2.p.mm a o (mm a o z))
      cases e5 : execs cl wf b ρ1 S' with
      | nx ρ3 S3 => simp only [e5] at hA; exact fun σ3 H3 W3 p3 R3 => ⟨W3, ρ3, S3, (p.trans p2.p).trans p3, R3, zm2 p3, mm2 p3, hA⟩
      | ct ρ3 S3 => simp only [e5] at hA; exact fun σ3 H3 W3 p3 R3 => ⟨W3, ρ3, S3, (p.trans p2.p).trans p3, R3, zm2 p3, mm2 p3, hA⟩
      | bk ρ3 S3 => simp only [e5] at hA; exact fun σ3 H3 W3 p3 R3 => hA σ3 H3 W3 ((p.trans p2.p).trans p3) R3
      | rt ov S3 => simp only [e5] at hA; exact AnsS.move (r := .rt ov S3) hA (p.trans p2.p)
      | ex y ρ3 S3 => simp only [e5] at hA; exact AnsS.move (r := .ex y ρ3 S3) hA (p.trans p2.p)
      | stk => simp only [e5] at hA; exact hA.elim
  · rintro σ' H' ⟨W', ρ', S', p, R', zm, mm, hA⟩
    rw [List.drop_length] at hA
    exact hA σ' H' W' p R'
def notSet : Expr → Bool
  | .Set .. => false
  | _ => true
theorem notSet_ok {e : Expr} {env : Env} (h : notSet e = true) : ∀ x, foldedSetIterable e env x = pure x := by
  intro x
  cases e <;> first | rfl | cases h
theorem ms_for (o : XOk K ca Wx cl c X) {g : Tg} {it : It} {b : Sts} {tg iter : Expr} {sb : List Stmt} (ht : tgB c g tg = true) (hs : notSet iter = true) (hi : PI X tg iter (tEi K ca Wx cl it)) (hb : PSs X sb (tSs K ca Wx cl wf b)) : PS X (.For tg iter sb [] pos) (tS K ca Wx cl wf (.for g it b)) :=
  PSi (ps_for o.po o.calm hi (mg_of o ht) hb (notSet_ok hs)) fun En σ H h => for_sound h
/-! name op= e -/
theorem ms_aug (o : XOk K ca Wx cl c X) {i : Nat} {x : Str} {op : Operator} {op2 : Op2} {e : E} {a : Expr} {p : Pos} (hi : locB c i x = true) (hop : (op = .Add ∧ op2 = .add) ∨ (op = .Sub ∧ op2 = .sub)) (ha : PE X a (tE K ca Wx cl e)) : PS X (.AugAssign (.Name x p) op a pos) (tS K ca Wx cl wf (.aug i op2 e)) := by
  obtain ⟨l1, l2⟩ := loc_of o hi
  have key : ∀ (f : Int → Int → Int), (∀ i j, Sg.op2 op2 (.int i) (.int j) = some (.int (f i j))) → (op2 = .add ∨ op2 = .sub) → PIp X op (ipI f) → PS X (.AugAssign (.Name x p) op a pos) (tS K ca Wx cl wf (.aug i op2 e)) := by
    intro f hf ho hp
    refine PSi (ps_aug (by rw [o.nn]; exact o.nd) (by rw [o.nn]; exact locB_ix hi) l1 ha hp l2) fun En σ H ⟨W, ρ, S, R, h⟩ => ?_
    rw [exec_aug] at h
    rcases e1 : ρ[i]? with _ | _ | ov
    · rw [e1] at h; exact h.elim
    · rw [e1] at h; exact h.elim
    · rw [e1] at h
      cases ov with
      | fr d =>
        have h : AnsS K ca Wx W H En (kAugB op2 d i ρ (ev cl e ρ S)) := h
        have h : AnsS K ca Wx W H En ((ev cl e ρ S).out ρ fun x S1 => rP S1 (augR op2 d i ρ x)) := by cases e9 : ev cl e ρ S <;> (rw [e9] at h; exact h)
        obtain ⟨v, e2, r⟩ := R.sl.at_ i _ e1
        refine ⟨v, e2, W, ρ, S, R, AnsS.bind R h fun y S1 vy H1 W1 e3 p1 R1 r1 h1 => ?_⟩
        have hb : ∃ m n, d = .int m ∧ y = .fr (.int n) := by
          cases y with
          | fr b =>
            cases d with
            | int m =>
              cases b with
              | int n => exact ⟨m, n, rfl, rfl⟩
              | _ => rcases ho with z | z <;> (subst z; exact h1.elim)
            | _ => rcases ho with z | z <;> (subst z; cases b <;> exact h1.elim)
          | _ => rcases ho with z | z <;> (subst z; exact h1.elim)
        obtain ⟨m, n, rfl, rfl⟩ := hb
        rcases r with ⟨d', e4, r⟩ | ⟨_, _, _, _, _, z⟩
        · cases e4
          cases r
          cases r1.toD
          refine ⟨m, n, rfl, rfl, ?_⟩
          have e5 : augR op2 (.int m) i ρ (.fr (.int n)) = some (ρ.set i (some (.fr (.int (f m n))))) := by
            rcases ho with z | z
            · subst z
              have e6 : some (D.int (m + n)) = some (.int (f m n)) := hf m n
              rw [augR_add, D.int.inj (Option.some.inj e6)]
            · subst z
              have e6 : some (D.int (m - n)) = some (.int (f m n)) := hf m n
              rw [augR_sub, D.int.inj (Option.some.inj e6)]
          rw [e5] at h1
          exact h1 _ H1 W1 p1.p ⟨R1.inw, R1.sl.setF rfl, R1.so⟩
        · exact z.elim
      | _ => exact h.elim
  rcases hop with ⟨rfl, rfl⟩ | ⟨rfl, rfl⟩
  · exact key (fun i j => i + j) (fun _ _ => rfl) (.inl rfl) ip_add
  · exact key (fun i j => i - j) (fun _ _ => rfl) (.inr rfl) ip_sub
/-! comprehensions -/
def lcB (c : CK) (scope : Scope) (vs : List Nat) (own : List (Str × Nat)) (g : Tg) (tg iter : Expr) : Bool := blkC c.N c.sc scope own && decide (vs = own.map (·.2)) && tgB (c.blk scope) g tg && notSet iter && (g.ixs.all fun i => decide (i ∈ vs))
theorem me_lc (o : XOk K ca Wx cl c X) {vs : List Nat} {g : Tg} {it : It} {ce e : E} {elt tg iter : Expr} {ifs : List Expr} {scope : Scope} {own : List (Str × Nat)} (hb : lcB c scope vs own g tg iter = true) (hi : PI X tg iter (tEi K ca Wx cl it))
    (hc : ∀ {X'}, XOk K ca WF cl (c.blk scope) X' → PTs X' ifs (tB (tE K ca WF cl ce))) (he : ∀ {X'}, XOk K ca WF cl (c.blk scope) X' → PE X' elt (tE K ca WF cl e)) :
    PE X (.ListComp elt [⟨tg, iter, ifs, 0⟩] scope pos) (tE K ca Wx cl (.lc vs g it ce e)) := by
  unfold lcB at hb
  simp only [Bool.and_eq_true, decide_eq_true_eq, List.all_eq_true] at hb
  obtain ⟨⟨⟨⟨b1, b2⟩, b3⟩, b4⟩, b5⟩ := hb
  subst b2
  refine PEi (pe_lc (own := own) o.calm (by rw [o.nn]; exact o.nd) hi (by rw [o.nn, o.scp]; exact blkOk_by b1) (fun s H C cs fp => mg_of (o.blk (scope := scope) (cs := cs) s H C fp) b3) (fun s H C cs fp => hc (o.blk (scope := scope) (cs := cs) s H C fp)) (fun s H C cs fp => he (o.blk (scope := scope) (cs := cs) s H C fp)) (notSet_ok b4)) fun σ H Q h => lc_sound b5 h
/-- name = [..] -/
theorem ms_ownLc (o : XOk K ca Wx cl c X) {i : Nat} {y : Str} {py : Pos} {vs : List Nat} {g : Tg} {it : It} {ce e : E} {elt tg iter : Expr} {ifs : List Expr} {scope : Scope} {own : List (Str × Nat)} {spos : Pos} (hy : locB c i y = true)
    (hb : lcB c scope vs own g tg iter = true) (hi : PI X tg iter (tEi K ca Wx cl it))
    (hk : (match c.sc.kind with | .function => true | _ => false) = true) (hyl : c.sc.names.lookup y = some .local) (hl : (py.line == pos.line) = true) (ha : (scope.names.any fun (n, k) => n == y && (k == .local || k == .cell)) = false)
    (hc : ∀ {X'}, XOk K ca WF cl (c.blk scope) X' → PTs X' ifs (tB (tE K ca WF cl ce))) (he : ∀ {X'}, XOk K ca WF cl (c.blk scope) X' → PE X' elt (tE K ca WF cl e)) :
    PS X (.Assign [.Name y py] (.ListComp elt [⟨tg, iter, ifs, 0⟩] scope pos) spos) (tS K ca Wx cl wf (.own i (.lc vs g it ce e))) := by
  unfold lcB at hb
  simp only [Bool.and_eq_true, decide_eq_true_eq, List.all_eq_true] at hb
  obtain ⟨⟨⟨⟨b1, b2⟩, b3⟩, b4⟩, b5⟩ := hb
  subst b2
  have hk' : X.env.scope.kind = .function := by
    rw [o.scp]
    split at hk <;> first | assumption | cases hk
  have hyl' : X.env.scope.names.lookup y = some .local := by rw [o.scp]; exact hyl
  refine PSi (ps_setLc (own := own) o.calm (by rw [o.nn]; exact o.nd) (by rw [o.nn]; exact locB_ix hy) hyl' (sw_true hk' hyl' hl ha) hi (by rw [o.nn, o.scp]; exact blkOk_by b1) (fun s H C cs fp => mg_of (o.blk (scope := scope) (cs := cs) s H C fp) b3) (fun s H C cs fp => hc (o.blk (scope := scope) (cs := cs) s H C fp)) (fun s H C cs fp => he (o.blk (scope := scope) (cs := cs) s H C fp)) (notSet_ok b4)) fun En σ H h => ?_
  obtain ⟨W, ρ, S, R, h'⟩ := own_sound h
  exact lc_sound b5 ⟨W, ρ, S, R, h'⟩
end
end Sg
namespace Sg
open PySem PySem.Spec PyProof.Rows L2
section
variable {K : PySem.W.Frag} {ca : Str → Addr} {Wx : WX} {cl : Str → List D → Sto → Res} {c : CK} {X : Cx} {pos : Pos} {wf : Nat}
/-! ### x[k] = e -/
theorem PSet.or {r r' : TSet} (h : PSet X r) (h' : PSet X r') : PSet X (fun o i v H Q => r o i v H Q ∨ r' o i v H Q) := by
  intro pins s σ H o i v ov iv u Q I ro ri rv q
  rcases q with q | q
  · exact h pins s σ H o i v ov iv u Q I ro ri rv q
  · exact h' pins s σ H o i v ov iv u Q I ro ri rv q
def rSetA : TSet := fun o i v H Q => rSetL o i v H Q ∨ rSetD o i v H Q
theorem set_any (hu : X.A.units + 1 < cLine) : PSet X rSetA := PSet.or set_list (set_dict hu)
section
variable {Z : Hp} {mu : Nat → Option Addr}
theorem RepKt.len : ∀ {kvs : List (D × D)} {ws : List (List Key × V)}, RepKt K Z mu kvs ws → ws.length = kvs.length
  | [], _, h => by cases h; rfl
  | (k, d) :: r, _, ⟨k', v, r', e, _, _, h⟩ => by subst e; simp [RepKt.len h]
theorem RepKs.any {q : Key} : ∀ {kvs : List (D × D)} {ws : List (Key × V)}, RepKs K Z mu kvs ws → (ws.any fun kv => decide (kv.1 = q)) = kvs.any fun p => decide (keyOf p.1 = some q)
  | [], _, h => by cases h; rfl
  | (k, d) :: r, _, ⟨k', v, r', e, e1, _, h⟩ => by
    subst e
    rw [List.any_cons, List.any_cons, RepKs.any h, e1]
    congr 1
    by_cases hq : k' = q
    · subst hq; simp
    · rw [decide_eq_false hq, decide_eq_false (fun z => hq (Option.some.inj z))]
theorem RepKt.any {q : List Key} : ∀ {kvs : List (D × D)} {ws : List (List Key × V)}, RepKt K Z mu kvs ws → (ws.any fun kv => decide (kv.1 = q)) = kvs.any fun p => decide (tkeyOf p.1 = some q)
  | [], _, h => by cases h; rfl
  | (k, d) :: r, _, ⟨k', v, r', e, e1, _, h⟩ => by
    subst e
    rw [List.any_cons, List.any_cons, RepKt.any h, e1]
    congr 1
    by_cases hq : k' = q
    · subst hq; simp
    · rw [decide_eq_false hq, decide_eq_false (fun z => hq (Option.some.inj z))]
theorem RepKs.put {q : Key} {d : D} {v : V} (rd : RepD K Z mu d v) : ∀ {kvs : List (D × D)} {ws : List (Key × V)}, RepKs K Z mu kvs ws → RepKs K Z mu (kvs.map fun p => if decide (keyOf p.1 = some q) = true then (p.1, d) else p) (ws.map fun kv => if kv.1 = q then (kv.1, v) else kv)
  | [], _, h => by cases h; exact rfl
  | (k, e) :: r, _, ⟨k', w, r', e0, e1, h1, h⟩ => by
    subst e0
    rw [List.map_cons, List.map_cons]
    by_cases hq : k' = q
    · subst hq
      rw [if_pos (decide_eq_true e1), if_pos rfl]
      exact ⟨k', v, _, rfl, e1, rd, RepKs.put rd h⟩
    · rw [if_neg (by rw [e1]; simpa using hq), if_neg hq]
      exact ⟨k', w, _, rfl, e1, h1, RepKs.put rd h⟩
theorem RepKt.put {q : List Key} {d : D} {v : V} (rd : RepD K Z mu d v) : ∀ {kvs : List (D × D)} {ws : List (List Key × V)}, RepKt K Z mu kvs ws → RepKt K Z mu (kvs.map fun p => if decide (tkeyOf p.1 = some q) = true then (p.1, d) else p) (ws.map fun kv => if kv.1 = q then (kv.1, v) else kv)
  | [], _, h => by cases h; exact rfl
  | (k, e) :: r, _, ⟨k', w, r', e0, e1, h1, h⟩ => by
    subst e0
    rw [List.map_cons, List.map_cons]
    by_cases hq : k' = q
    · subst hq
      rw [if_pos (decide_eq_true e1), if_pos rfl]
      exact ⟨k', v, _, rfl, e1, rd, RepKt.put rd h⟩
    · rw [if_neg (by rw [e1]; simpa using hq), if_neg hq]
      exact ⟨k', w, _, rfl, e1, h1, RepKt.put rd h⟩
theorem RepKs.app {k' : Key} {k d : D} {v : V} (e : keyOf k = some k') (rd : RepD K Z mu d v) : ∀ {kvs : List (D × D)} {ws : List (Key × V)}, RepKs K Z mu kvs ws → RepKs K Z mu (kvs ++ [(k, d)]) (ws ++ [(k', v)])
  | [], _, h => by cases h; exact ⟨k', v, [], rfl, e, rd, rfl⟩
  | (_, _) :: r, _, ⟨q, w, r', e0, e1, h1, h⟩ => by subst e0; exact ⟨q, w, _, rfl, e1, h1, RepKs.app e rd h⟩
theorem RepKt.app {k' : List Key} {k d : D} {v : V} (e : tkeyOf k = some k') (rd : RepD K Z mu d v) : ∀ {kvs : List (D × D)} {ws : List (List Key × V)}, RepKt K Z mu kvs ws → RepKt K Z mu (kvs ++ [(k, d)]) (ws ++ [(k', v)])
  | [], _, h => by cases h; exact ⟨k', v, [], rfl, e, rd, rfl⟩
  | (_, _) :: r, _, ⟨q, w, r', e0, e1, h1, h⟩ => by subst e0; exact ⟨q, w, _, rfl, e1, h1, RepKt.app e rd h⟩
theorem RepKs.dput {k' : Key} {k d : D} {v : V} {kvs : List (D × D)} {ws : List (Key × V)} (e : keyOf k = some k') (rd : RepD K Z mu d v) (h : RepKs K Z mu kvs ws) : RepKs K Z mu (Sg.dput kvs k (fun x => decide (keyOf x = some k')) d) (putK ws k' v) := by
  unfold Sg.dput putK
  rw [h.any]
  split
  · exact RepKs.put rd h
  · exact RepKs.app e rd h
theorem RepKt.dput {k' : List Key} {k d : D} {v : V} {kvs : List (D × D)} {ws : List (List Key × V)} (e : tkeyOf k = some k') (rd : RepD K Z mu d v) (h : RepKt K Z mu kvs ws) : RepKt K Z mu (Sg.dput kvs k (fun x => decide (tkeyOf x = some k')) d) (putK ws k' v) := by
  unfold Sg.dput putK
  rw [h.any]
  split
  · exact RepKt.put rd h
  · exact RepKt.app e rd h
end
theorem set_sound {W : Wd} {H : Hp} {ov ov2 : OV} {q d : D} {a : Addr} {o : HO} {vq vd : V} {Q : Hp → Prop} (I : Inw W H) (e : setO ov q d = some ov2) (ha : H a = some o) (r : RepH K W ov o) (rq : RepD K W.Z W.mu q vq) (rd : RepD K W.Z W.mu d vd)
    (h : ∀ o2, RepH K W ov2 o2 → Q (upd H a o2)) : rSetA (.ref a) vq vd H Q := by
  cases ov with
  | fr x => exact r.elim
  | bo x => exact r.elim
  | ol ds =>
    obtain ⟨vs, rfl, r⟩ := r
    cases q with
    | int k =>
      cases rq
      obtain ⟨j, e1, e2⟩ := Option.map_eq_some_iff.mp (show (ixN ds.length k).map (fun j => OV.ol (ds.set j d)) = some ov2 from e)
      subst e2
      exact .inl ⟨a, vs, k, j, rfl, rfl, ha, by rw [r.length]; exact e1, h _ ⟨_, rfl, r.set rd j⟩⟩
    | _ => cases e
  | od z kvs =>
    have e : (if kvs.length < lim then (dset z kvs q d).map (.od z) else none) = some ov2 := e
    split at e
    · rename_i hl
      obtain ⟨kvs2, e1, e2⟩ := Option.map_eq_some_iff.mp e
      subst e2
      cases z with
      | sc =>
        obtain ⟨ws, rfl, r⟩ := r
        obtain ⟨k', e3, e4⟩ := Option.map_eq_some_iff.mp (show (keyOf q).map (fun q' => dput kvs q (fun x => decide (keyOf x = some q')) d) = some kvs2 from e1)
        subst e4
        have := keyOf_V rq e3
        subst this
        exact .inr ⟨a, _, rfl, DPut.k ha (by rw [r.len]; exact lim_lt hl), h _ ⟨_, rfl, r.dput e3 rd⟩⟩
      | tp =>
        obtain ⟨ws, rfl, r⟩ := r
        obtain ⟨k', e3, e4⟩ := Option.map_eq_some_iff.mp (show (tkeyOf q).map (fun q' => dput kvs q (fun x => decide (tkeyOf x = some q')) d) = some kvs2 from e1)
        subst e4
        cases q with
        | tup qs =>
          obtain ⟨b, us, rfl, s, rr⟩ := rq
          have := keysOf_V rr e3
          subst this
          exact .inr ⟨a, _, rfl, DPut.t ha (tup_up I s) (by rw [r.len]; exact lim_lt hl), h _ ⟨_, rfl, r.dput e3 rd⟩⟩
        | _ => cases e3
    · cases e
theorem RepW.needF {W0 W : Wd} {H0 H : Hp} {f : Bool} {x : OV} {v : V} {d : D} (r : RepW K f W0 H0 W H x v) (e : need false x = some d) : RepD K W.Z W.mu d v := by
  cases x with
  | fr y => cases e; exact r.toD
  | _ => cases e
theorem ms_setI (o : XOk K ca Wx cl c X) {i : Nat} {x : Str} {ke e : E} {k a : Expr} {p1 p2 : Pos} (hi : c.N[i]? = some x) (hv : visB c.sc x = true) (hn : nm x = true) (hs : notSl k = true) (hc : notComp a = true) (hk : PE X k (tE K ca Wx cl ke)) (ha : PE X a (tE K ca Wx cl e)) :
    PS X (.Assign [.Subscript (.Name x p1) k p2] a pos) (tS K ca Wx cl wf (.setI i ke e)) := by
  have pv : PE X (.Name x p1) _ := pe_var (i := i) (by rw [o.nn]; exact hi) (vis_of o hv) (nm_d hn) (nm_c hn)
  refine PSi (ps_asg ha (pg_sub pv hk (set_any (X := X) (by have := o.room; omega)) (by intro v; cases k <;> first | rfl | cases hs)) (swapsS_no hc) (stores_no rfl)) fun En σ H ⟨W, ρ, S, R, h⟩ => ?_
  refine asg_sound R h fun d S1 v H1 W1 p1 R1 rd h1 => ?_
  have h1 : AnsS K ca Wx W H En (match ρ[i]? with
    | some (some ov) => (ev cl ke ρ S1).out ρ fun q S3 => (match need false q with
      | some q => (match setO ov q d with
        | some ov2 => .nx (ρ.set i (some ov2)) S3
        | none => .stk)
      | none => .stk)
    | _ => .stk) := h1
  split at h1
  · rename_i ov e1
    obtain ⟨vo, e2, ro⟩ := R1.sl.at_ i ov e1
    refine ⟨vo, e2, W1, ρ, S1, R1, AnsS.bind (W := W1) (H := H1) R1 (h1.move p1.p) fun q S3 vq H3 W3 e3 p3 R3 r3 h3 => ?_⟩
    cases e4 : need false q with
    | none => simp only [e4] at h3; exact h3.elim
    | some q' =>
      simp only [e4] at h3
      cases e5 : setO ov q' d with
      | none => simp only [e5] at h3; exact h3.elim
      | some ov2 =>
        simp only [e5] at h3
        have rq := r3.needF e4
        have rd3 := rd.post p3.p
        obtain ⟨vo', e2', ro'⟩ := R3.sl.at_ i ov e1
        rw [e2] at e2'
        cases e2'
        rcases ro' with ⟨d', z, _⟩ | ⟨b, u, z, l, e6, r6⟩
        · subst z; cases e5
        · subst z
          refine set_sound R3.inw e5 e6 r6 rq rd3 fun o2 r2 => ?_
          obtain ⟨p4, R4⟩ := mut_set (ov := ov) p3.p R3 l e2 r2
          exact h3 σ _ W3 p4 R4
  · exact h1.elim
end
end Sg
namespace Sg
open PySem PySem.Spec PyProof.Rows L2
section
variable {K : PySem.W.Frag} {ca : Str → Addr} {Wx : WX} {cl : Str → List D → Sto → Res} {c : CK} {X : Cx} {pos : Pos} {wf : Nat}
/-! ### x[k] op= e -/
def rGetA (K : PySem.W.Frag) : V → V → Hp → VK → Prop := fun x y H Q => rIxL K x y H Q ∨ rIxD x y H Q
theorem get_any (hu : X.A.units + 1 < cLine) : PGet X (rGetA X.K) := by
  intro pins s σ H x y v u Q I rx ry h
  rcases h with ⟨p, xs, i, z, rfl, rfl, hq, he, q⟩ | ⟨a, z, rfl, g, q⟩
  · cases rx
    obtain ⟨t, rfl⟩ := ry
    obtain ⟨its, r, pl, hz⟩ := I.list hq
    obtain ⟨j, h1, h2, h3, h4, h5⟩ := atI_get he
    obtain ⟨w, ew, rw'⟩ := r.get h2
    have hl := r.length
    have hn := line63
    have fin : EP X pins σ Q w s := ⟨z, H, I, rw', q⟩
    by_cases h0 : 0 ≤ i
    · have hj : i.toNat = j := by
        rw [seqIndex_of h0 h5] at h1
        exact Option.some.inj h1
      exact wpAny_getItem_list pl.isList h0 (by omega) (by rw [hj]; simpa using ew) fin
    · have hj : (i + (its.toArray.size : Int)).toNat = j := by
        rw [seqIndex_neg (by omega) h4] at h1
        rw [List.size_toArray, ← hl]
        exact Option.some.inj h1
      exact wpAny_getItem_list_neg pl.isList (by omega) (by rw [List.size_toArray] <;> omega) (by omega) (by rw [hj]; simpa using ew) fin
  · cases rx
    exact d_getItem hu I g ry fun w' s' I' rw' => ⟨z, H, I', rw', q⟩
theorem ms_augI (o : XOk K ca Wx cl c X) {i : Nat} {x : Str} {ke e : E} {k a : Expr} {p1 p2 : Pos} {op : Operator} {op2 : Op2} (hop : (op = .Add ∧ op2 = .add) ∨ (op = .Sub ∧ op2 = .sub)) (hi : c.N[i]? = some x) (hv : visB c.sc x = true) (hn : nm x = true) (hs : notSl k = true) (hk : PE X k (tE K ca Wx cl ke)) (ha : PE X a (tE K ca Wx cl e)) :
    PS X (.AugAssign (.Subscript (.Name x p1) k p2) op a pos) (tS K ca Wx cl wf (.augI i ke op2 e)) := by
  have pv : PE X (.Name x p1) _ := pe_var (i := i) (by rw [o.nn]; exact hi) (vis_of o hv) (nm_d hn) (nm_c hn)
  have hu : X.A.units + 1 < cLine := by have := o.room; omega
  have key : ∀ (f : Int → Int → Int), (∀ (d : D) (y : OV) (d2 : D), augV op2 d y = some d2 → ∃ m n, d = .int m ∧ y = .fr (.int n) ∧ d2 = .int (f m n)) → PIp X op (ipI f) → PS X (.AugAssign (.Subscript (.Name x p1) k p2) op a pos) (tS K ca Wx cl wf (.augI i ke op2 e)) := by
    intro f hf hp
    refine PSi (ps_augS pv hk (get_any (X := X) hu) ha hp (set_any (X := X) hu) (by intro ov iv new; cases k <;> first | rfl | cases hs)) fun En σ H ⟨W, ρ, S, R, h⟩ => ?_
    rw [exec_augI] at h
    rcases e1 : ρ[i]? with _ | _ | ov
    · rw [e1] at h; exact h.elim
    · rw [e1] at h; exact h.elim
    · rw [e1] at h
      have hw : ov.isOwn = true := by
        cases q : ov.isOwn with
        | true => rfl
        | false =>
          have h : AnsS K ca Wx W H En (match ov.isOwn with | true => kAiA cl i ρ op2 e ov (ev cl ke ρ S) | false => .stk) := h
          rw [q] at h; exact h.elim
      have h : AnsS K ca Wx W H En (kAiA cl i ρ op2 e ov (ev cl ke ρ S)) := by
        have h : AnsS K ca Wx W H En (match ov.isOwn with | true => kAiA cl i ρ op2 e ov (ev cl ke ρ S) | false => .stk) := h
        rw [hw] at h; exact h
      have h : AnsS K ca Wx W H En ((ev cl ke ρ S).out ρ fun q S1 => match need false q with
        | some q => kAiB cl i ρ op2 e ov q S1 (idxD ov.view q)
        | none => .stk) := by cases e9 : ev cl ke ρ S <;> (rw [e9] at h; exact h)
      obtain ⟨vo, e2, ro⟩ := R.sl.at_ i ov e1
      refine ⟨vo, e2, W, ρ, S, R, AnsS.bind R h fun q S1 vq H1 W1 e3 p1 R1 r1 h1 => ?_⟩
      cases e4 : need false q with
      | none => simp only [e4] at h1; exact h1.elim
      | some q' =>
        simp only [e4] at h1
        have rq := r1.needF e4
        cases e5 : idxD ov.view q' with
        | none => rw [e5] at h1; exact h1.elim
        | some d =>
          rw [e5] at h1
          have h1 : AnsS K ca Wx W H En (kAiC i ρ op2 ov q' d (ev cl e ρ S1)) := h1
          have h1 : AnsS K ca Wx W H En ((ev cl e ρ S1).out ρ fun y S2 => match augV op2 d y with
            | some d => rP S2 (setQ i ρ (setO ov q' d))
            | none => .stk) := by cases e9 : ev cl e ρ S1 <;> (rw [e9] at h1; exact h1)
          obtain ⟨vo', e2', ro1⟩ := R1.sl.at_ i ov e1
          rw [e2] at e2'
          cases e2'
          have fin : ∀ vd, RepD K W1.Z W1.mu d vd → tE K ca Wx cl e σ H1 fun y H4 => ipI f vd y H4 fun z H5 => rSetA vo vq z H5 fun H6 => En.nx σ H6 := by
            intro vd rd
            refine ⟨W1, ρ, S1, R1, AnsS.bind (W := W1) (H := H1) R1 (h1.move p1.p) fun y S2 vy H2 W2 e6 p2 R2 r2 h2 => ?_⟩
            cases e7 : augV op2 d y with
            | none => simp only [e7] at h2; exact h2.elim
            | some d2 =>
              simp only [e7] at h2
              obtain ⟨m, n, rfl, rfl, rfl⟩ := hf d y d2 e7
              cases rd
              cases r2.toD
              refine ⟨m, n, rfl, rfl, ?_⟩
              cases e8 : setO ov q' (.int (f m n)) with
              | none => rw [e8] at h2; exact h2.elim
              | some ov2 =>
                rw [e8] at h2
                obtain ⟨vo'', e2'', ro2⟩ := R2.sl.at_ i ov e1
                rw [e2] at e2''
                cases e2''
                rcases ro2 with ⟨d', z, _⟩ | ⟨b, u, z, l, e9, r9⟩
                · subst z; cases e8
                · subst z
                  refine set_sound R2.inw e8 e9 r9 (rq.post p2.p) rfl fun o2 ro2 => ?_
                  obtain ⟨p4, R4⟩ := mut_set (ov := ov) p2.p R2 l e2 ro2
                  exact h2 σ _ W2 p4 R4
          rcases ro1 with ⟨d', z, rd'⟩ | ⟨b, u, z, l, e9, r9⟩
          · subst z
            cases hw
          · subst z
            cases ov with
            | ol ds =>
              obtain ⟨vs, rfl, rr⟩ := r9
              cases q' with
              | int j =>
                cases rq
                obtain ⟨v, e10, r10⟩ := atI_rep rr e5
                exact .inl ⟨b, vs, j, v, rfl, rfl, SqL.of e9, e10, fin v r10⟩
              | _ => cases e5
            | od z kvs =>
              have rv : RepV K W1 H1 (.dct z kvs) (.ref b) := RepH.toV (ov := .od z kvs) e9 r9
              obtain ⟨oo, e11, e12⟩ := Option.bind_eq_some_iff.mp (show (dlook z kvs q').bind id = some d from e5)
              obtain ⟨a', r, e0, g, g1, g2⟩ := dlook_ok e11 rv (rq.toV R1.inw)
              cases e0
              obtain ⟨v, e13, r13⟩ := g1 d e12
              subst e13
              exact .inr ⟨b, v, rfl, g, fin v r13⟩
            | fr x => exact r9.elim
            | bo x => exact r9.elim
  rcases hop with ⟨rfl, rfl⟩ | ⟨rfl, rfl⟩
  · refine key (fun i j => i + j) (fun d y d2 h => ?_) ip_add
    cases d with
    | int m =>
      cases y with
      | fr b =>
        cases b with
        | int n => cases h; exact ⟨m, n, rfl, rfl, rfl⟩
        | _ => cases h
      | _ => cases h
    | _ => cases y <;> cases h
  · refine key (fun i j => i - j) (fun d y d2 h => ?_) ip_sub
    cases d with
    | int m =>
      cases y with
      | fr b =>
        cases b with
        | int n => cases h; exact ⟨m, n, rfl, rfl, rfl⟩
        | _ => cases h
      | _ => cases h
    | _ => cases y <;> cases h
end
end Sg
namespace PySem
open Builtin
set_option maxHeartbeats 8000000 in
theorem sg_extend (l : Addr) (items : Array Value) (n : Nat) (b : Addr) (items2 : Array Value) (n2 : Nat) (dd : Option Addr) (sl : Array (Option Value)) (hc0 : ¬(!items.isEmpty && Builtin.List.listTooLong (items.size + items2.size)) = true) (hc1 : items.size ≤ sizeLine) (hs2 : items.size + items2.size ≤ sizeLine + 1) :
    Meets (Builtin.«list.extend» ⟨[.ref l, .ref b], []⟩) (fun _ R s => s.heap.get? l = some { cls := .type "list", dict := none, data := .seq items n, slots := #[] } ∧ s.heap.get? b = some { cls := .type "list", dict := dd, data := .seq items2 n2, slots := sl } ∧ R (.ok (.ret Value.none)) { s with heap := s.heap.update l (Obj.mapSeq fun x => x ++ items2), toks := s.toks }) :=
  .of_wp fun prog w A R s h => by
    obtain ⟨hp, g, d, tk, os⟩ := s; obtain ⟨hl, hb, h⟩ := h; have f1 := AutoSeq1.idx_int; have f2 := AutoSeq1.sub_tuple_tuple; have f3 := AutoSeq1.sub_list_list; have f4 := AutoSeq1.sub_tuple_list; have f5 := AutoSeq1.sub_list_tuple
    have hz' : (items ++ items2).size ≤ sizeLine + 1 := by rw [Array.size_append]; exact hs2
    wp_walk using (wpAny_updateSeq hl rfl (hz := hc1) (_hz' := hz')), AutoSeq1.wpAny_loadPart' hl, AutoSeq1.wpAny_loadPart' hb; exact ⟨_, rfl, h⟩
end PySem
namespace Sg
open PySem PySem.Spec PyProof.Rows L2
section
variable {K : PySem.W.Frag} {ca : Str → Addr} {Wx : WX} {cl : Str → List D → Sto → Res} {c : CK} {X : Cx} {pos : Pos} {wf : Nat}
def rExtS (K : PySem.W.Frag) : V → List V → Hp → VK → Prop := fun x vs H Q => ∃ l b xs zs, x = .ref l ∧ vs = [.ref b] ∧ H l = some (.lst xs) ∧ SqL K H b zs ∧ xs.length + zs.length ≤ sizeLine ∧ Q .non (upd H l (.lst (xs ++ zs)))
theorem mt_extS : MtM X "list.extend" (rExtS X.K) := by
  intro pins s σ H x vs v us Q I rx rv h
  obtain ⟨l, b, xs, zs, rfl, rfl, hH, hB, hz, q⟩ := h
  cases rx
  obtain ⟨u, rfl, ru⟩ := rv.one
  cases ru
  obtain ⟨z, its, n, r, hl, e⟩ := I.lstM hH
  obtain ⟨its2, r2, pl2, _⟩ := I.list hB
  have hl2 := r2.length
  obtain ⟨⟨cls2, dd2, data2, sl2⟩, ho2, hc2, n2, hd2⟩ := pl2.isList
  simp only at hc2 hd2
  subst hc2 hd2
  have hsz : its.toArray.size + its2.toArray.size ≤ sizeLine := by rw [List.size_toArray, List.size_toArray]; omega
  have hlong : ¬ (!its.toArray.isEmpty && Builtin.List.listTooLong (its.toArray.size + its2.toArray.size)) = true := by
    rw [notLongL hsz, Bool.and_false]
    exact Bool.false_ne_true
  refine call_meets F.slot_list_extend ⟨_, e, rfl⟩ F.entry_list_extend (F.args_list_extend_2 _ _)
    (PySem.sg_extend l its.toArray n b its2.toArray n2 dd2 sl2 hlong (by rw [List.size_toArray]; omega) (by omega)) ⟨e, ho2, ?_⟩
  refine ⟨.non, _, I.lset (its' := its ++ its2) hH e (by simp) (r.append r2) ?_, rfl, q⟩
  rw [List.length_append]
  omega
/-- a method by its values -/
def McR (K : PySem.W.Frag) (m : Mm) (r : V → List V → Hp → VK → Prop) : Prop := ∀ (W : Wd) (H : Hp) (a : Addr) (xs ds : List D) (vs vds : List V) (d : D) (ov2 : OV) (Q : VK), Inw W H → mmO m (.ol xs) ds = some (d, ov2) → H a = some (.lst vs) → RepDs K W.Z W.mu xs vs → RepDs K W.Z W.mu ds vds →
  (∀ v o2, RepD K W.Z W.mu d v → RepH K W ov2 o2 → Q v (upd H a o2)) → r (.ref a) vds H Q
theorem mc_append : McR K .append rAppend := by
  intro W H a xs ds vs vds d ov2 Q I e ha rx rd h
  match ds, rd, e with
  | [y], rd, e =>
    have e : (if xs.length < lim then some (D.non, OV.ol (xs ++ [y])) else none) = some (d, ov2) := e
    split at e
    · rename_i hl
      cases e
      obtain ⟨v, r, rfl, ry, hr⟩ := rd
      cases hr
      exact ⟨a, vs, v, rfl, rfl, ha, by rw [rx.length]; exact lim_lt hl, h .non _ rfl ⟨_, rfl, rx.append ⟨v, [], rfl, ry, rfl⟩⟩⟩
    · cases e
theorem mc_extend : McR K .extend (rExtS K) := by
  intro W H a xs ds vs vds d ov2 Q I e ha rx rd h
  obtain ⟨ys, rfl, hl, rfl, rfl⟩ : ∃ ys, ds = [.lst ys] ∧ xs.length + ys.length ≤ lim ∧ d = .non ∧ ov2 = .ol (xs ++ ys) := by
    cases ds with
    | nil => cases e
    | cons y r =>
      cases r with
      | nil =>
        cases y with
        | lst ys =>
          have e : (if xs.length + ys.length ≤ lim then some (D.non, OV.ol (xs ++ ys)) else none) = some (d, ov2) := e
          split at e
          · rename_i hl
            cases e
            exact ⟨ys, rfl, hl, rfl, rfl⟩
          · cases e
        | _ => cases e
      | cons z r => cases y <;> cases e
  obtain ⟨v, r, rfl, ry, hr⟩ := rd
  cases hr
  obtain ⟨b, us, rfl, s, ru⟩ := ry
  exact ⟨a, b, vs, us, rfl, rfl, ha, SqL.up I s, by rw [rx.length, ru.length]; exact lim_le hl, h .non _ rfl ⟨_, rfl, rx.append ru⟩⟩
theorem mc_pop : McR K .pop rPop := by
  intro W H a xs ds vs vds d ov2 Q I e ha rx rd h
  match ds, rd, e with
  | [], rd, e =>
    have e : (match xs[xs.length - 1]? with | some d => some (d, OV.ol xs.dropLast) | none => none) = some (d, ov2) := e
    split at e
    · rename_i y hy
      cases e
      cases rd
      obtain ⟨v, e2, rv⟩ := rx.get hy
      exact ⟨a, vs, v, rfl, rfl, ha, by rw [rx.length]; exact e2, h v _ rv ⟨_, rfl, rx.dropLast⟩⟩
    · cases e
theorem mc_clear : McR K .clear rClear := by
  intro W H a xs ds vs vds d ov2 Q I e ha rx rd h
  match ds, rd, e with
  | [], rd, e =>
    cases e
    cases rd
    exact ⟨a, vs, rfl, rfl, ha, h .non _ rfl ⟨[], rfl, rfl⟩⟩
theorem mc_reverse : McR K .reverse rReverse := by
  intro W H a xs ds vs vds d ov2 Q I e ha rx rd h
  match ds, rd, e with
  | [], rd, e =>
    cases e
    cases rd
    exact ⟨a, vs, rfl, rfl, ha, h .non _ rfl ⟨_, rfl, rx.reverse⟩⟩
theorem set_same {σ : L2.St} {i : Nat} {v : V} (h : σ[i]? = some (some v)) : σ.set i (some v) = σ := by
  apply List.ext_getElem?
  intro j
  by_cases hj : i = j
  · subst hj
    have hl : i < σ.length := (List.getElem?_eq_some_iff.mp h).1
    rw [List.getElem?_set_self hl, h]
  · rw [List.getElem?_set_ne hj]
/-- what comes of the call -/
theorem mc_sound {m : Mm} {r : V → List V → Hp → VK → Prop} (hr : McR K m r) {t : Option Nat} {i : Nat} {es : Es} {W : Wd} {H : Hp} {ρ : Env1} {S : Sto} {σ : L2.St} {En : Ends} (R : Rel K ca W H ρ S σ) (h : AnsS K ca Wx W H En (exec cl wf (.mc t i m es) ρ S)) :
    tBM K "list" r (tVar i) (tEs K ca Wx cl es) σ H fun v H' => match t with | some j => En.nx (σ.set j (some v)) H' | none => En.nx σ H' := by
  rw [exec_mc] at h
  rcases e1 : ρ[i]? with _ | _ | ov
  · rw [e1] at h; exact h.elim
  · rw [e1] at h; exact h.elim
  · rw [e1] at h
    cases ov with
    | ol xs =>
      have h : AnsS K ca Wx W H En (kMc t i m ρ xs (evs cl es ρ S)) := h
      have h : AnsS K ca Wx W H En ((evs cl es ρ S).out ρ fun ds S1 => rP S1 (mcR t i ρ (mmO m (.ol xs) ds))) := by cases e9 : evs cl es ρ S <;> (rw [e9] at h; exact h)
      obtain ⟨v, e2, q⟩ := R.sl.at_ i _ e1
      refine ⟨v, e2, ?_⟩
      rcases q with ⟨d', z, _⟩ | ⟨a, o, z, l, e3, vs, rfl, rx⟩
      · cases z
      · subst z
        refine ⟨.inl ⟨rfl, vs, SqL.of e3⟩, W, ρ, S, R, AnsS.bind R h fun ds S1 vds H1 W1 e4 p1 R1 rd h1 => ?_⟩
        cases e5 : mmO m (.ol xs) ds with
        | none => rw [e5] at h1; exact h1.elim
        | some dd =>
          obtain ⟨d, ov2⟩ := dd
          rw [e5] at h1
          have e6 : H1 a = some (.lst vs) := (p1.lh a i l).trans e3
          refine hr W1 H1 a xs ds vs vds d ov2 _ R1.inw e5 e6 (rx.post p1.p) rd fun v o2 rv r2 => ?_
          have l1 : W1.L a = some i := (p1.ll a).trans l
          obtain ⟨p4, R4⟩ := mut_set (ov := .ol xs) p1.p R1 l1 e2 r2
          cases t with
          | none => exact h1 σ _ W1 p4 R4
          | some j => exact h1 _ _ W1 p4 ⟨R4.inw, R4.sl.setF rv, R4.so⟩
    | _ => exact h.elim
def mmS : Mm → String
  | .append => "append" | .extend => "extend" | .pop => "pop" | .clear => "clear" | .reverse => "reverse" | .insert => "insert" | .update => "update"
/-- the call as an expression -/
theorem pe_mc1 (o : XOk K ca Wx cl c X) {m : Mm} (hm : m = .append ∨ m = .extend) : ∃ r, McR K m r ∧ ∀ {i : Nat} {x : Str} {es : Es} {a : Expr} {p apos : Pos}, c.N[i]? = some x → visB c.sc x = true → nm x = true → notStar a = true → (apos.endLine == pos.line) = true →
    PA X [a] (tEs K ca Wx cl es) → PE X (.Call (.Attribute (.Name x p) (Str.ofString (mmS m)) apos) [a] [] pos) (tBM K "list" r (tVar i) (tEs K ca Wx cl es)) := by
  have kk := o.kk
  subst kk
  have few : ∀ {a : Expr}, notStar a = true → ((backTo pos (starEach [a] X.env)).all (fun x => !x.1) && (backToKw pos (keywordEach [] X.env)).all (fun x => x.1.isSome)
      && decide ([a].length + ([] : List Keyword).length + (if ([] : List Keyword).isEmpty then 0 else 1) < 30)) = true := fun {a} h => by rw [star_cons h]; rfl
  rcases hm with rfl | rfl
  · refine ⟨_, mc_append, fun {i x es a p apos} hi hv hn hs hl ha => ?_⟩
    exact pe_bm PySem.F.plainAttrs_list PySem.F.slot_list_append PySem.F.type_list_append mt_append (pe_var (i := i) (by rw [o.nn]; exact hi) (vis_of o hv) (nm_d hn) (nm_c hn)) ha (hfew := few hs) (hline := hl) (hs := star_cons hs) (hplain := rfl)
  · refine ⟨_, mc_extend, fun {i x es a p apos} hi hv hn hs hl ha => ?_⟩
    exact pe_bm PySem.F.plainAttrs_list PySem.F.slot_list_extend PySem.F.type_list_extend mt_extS (pe_var (i := i) (by rw [o.nn]; exact hi) (vis_of o hv) (nm_d hn) (nm_c hn)) ha (hfew := few hs) (hline := hl) (hs := star_cons hs) (hplain := rfl)
def tBM0' (K : PySem.W.Frag) (r : V → List V → Hp → VK → Prop) (i : Nat) : TE := tBM0 K "list" r (tVar i)
theorem pe_mc0 (o : XOk K ca Wx cl c X) {m : Mm} (hm : m = .pop ∨ m = .clear ∨ m = .reverse) : ∃ r, McR K m r ∧ ∀ {i : Nat} {x : Str} {p apos : Pos}, c.N[i]? = some x → visB c.sc x = true → nm x = true → (apos.endLine == pos.line) = true →
    PE X (.Call (.Attribute (.Name x p) (Str.ofString (mmS m)) apos) [] [] pos) (tBM0 K "list" r (tVar i)) := by
  have kk := o.kk
  subst kk
  rcases hm with rfl | rfl | rfl
  · exact ⟨_, mc_pop, fun {i x p apos} hi hv hn hl => pe_bm0 PySem.F.plainAttrs_list PySem.F.slot_list_pop PySem.F.type_list_pop mt_pop (pe_var (i := i) (by rw [o.nn]; exact hi) (vis_of o hv) (nm_d hn) (nm_c hn)) (hline := hl)⟩
  · exact ⟨_, mc_clear, fun {i x p apos} hi hv hn hl => pe_bm0 PySem.F.plainAttrs_list PySem.F.slot_list_clear PySem.F.type_list_clear mt_clear (pe_var (i := i) (by rw [o.nn]; exact hi) (vis_of o hv) (nm_d hn) (nm_c hn)) (hline := hl)⟩
  · exact ⟨_, mc_reverse, fun {i x p apos} hi hv hn hl => pe_bm0 PySem.F.plainAttrs_list PySem.F.slot_list_reverse PySem.F.type_list_reverse mt_reverse (pe_var (i := i) (by rw [o.nn]; exact hi) (vis_of o hv) (nm_d hn) (nm_c hn)) (hline := hl)⟩
/-- x.m(e) -/
theorem ms_mc1 (o : XOk K ca Wx cl c X) {m : Mm} (hm : m = .append ∨ m = .extend) {i : Nat} {x : Str} {e : E} {a : Expr} {p apos cpos : Pos} (hi : c.N[i]? = some x) (hv : visB c.sc x = true) (hn : nm x = true) (hs : notStar a = true) (hl : (apos.endLine == cpos.line) = true) (ha : PE X a (tE K ca Wx cl e)) :
    PS X (.Expr (.Call (.Attribute (.Name x p) (Str.ofString (mmS m)) apos) [a] [] cpos) pos) (tS K ca Wx cl wf (.mc none i m (.cons e .nil))) := by
  obtain ⟨r, hr, h⟩ := pe_mc1 (pos := cpos) o hm
  refine PSi (ps_expr (h (i := i) hi hv hn hs hl (ms_cons hs ha ms_nil))) fun En σ H ⟨W, ρ, S, R, h⟩ => mc_sound hr R h
/-- x.m(), y = x.m() -/
theorem ms_mc0 (o : XOk K ca Wx cl c X) {m : Mm} (hm : m = .pop ∨ m = .clear ∨ m = .reverse) {i : Nat} {x : Str} {p apos cpos : Pos} (hi : c.N[i]? = some x) (hv : visB c.sc x = true) (hn : nm x = true) (hl : (apos.endLine == cpos.line) = true) :
    PS X (.Expr (.Call (.Attribute (.Name x p) (Str.ofString (mmS m)) apos) [] [] cpos) pos) (tS K ca Wx cl wf (.mc none i m .nil)) := by
  obtain ⟨r, hr, h⟩ := pe_mc0 (pos := cpos) o hm
  refine PSi (ps_expr (h (i := i) hi hv hn hl)) fun En σ H ⟨W, ρ, S, R, h⟩ => ?_
  obtain ⟨v, e, q⟩ := mc_sound hr R h
  obtain ⟨ty, W', ρ', S', R', q⟩ := q
  exact ⟨v, e, ty, q [] H W' .refl R'.inw R'.so rfl nofun⟩
theorem ms_mc0a (o : XOk K ca Wx cl c X) {m : Mm} (hm : m = .pop ∨ m = .clear ∨ m = .reverse) {i j : Nat} {x y : Str} {p apos cpos py : Pos} (hj : locB c j y = true) (hi : c.N[i]? = some x) (hv : visB c.sc x = true) (hn : nm x = true) (hl : (apos.endLine == cpos.line) = true) :
    PS X (.Assign [.Name y py] (.Call (.Attribute (.Name x p) (Str.ofString (mmS m)) apos) [] [] cpos) pos) (tS K ca Wx cl wf (.mc (some j) i m .nil)) := by
  obtain ⟨r, hr, h⟩ := pe_mc0 (pos := cpos) o hm
  refine PSi (ps_asg (h (i := i) hi hv hn hl) (mg_one o hj) (swapsS_no rfl) (stores_no rfl)) fun En σ H ⟨W, ρ, S, R, h⟩ => ?_
  obtain ⟨v, e, q⟩ := mc_sound hr R h
  obtain ⟨ty, W', ρ', S', R', q⟩ := q
  exact ⟨v, e, ty, q [] H W' .refl R'.inw R'.so rfl nofun⟩
end
end Sg
namespace Sg
open PySem PySem.Spec PyProof.Rows L2
section
variable {K : PySem.W.Frag} {ca : Str → Addr} {Wx : WX} {cl : Str → List D → Sto → Res} {c : CK} {X : Cx} {pos : Pos} {wf : Nat}
/-! ### x[a:b] = [..] -/
def gSubS (to : TE) (tl th : TO) : TG := fun v σ H Q => to σ H fun x H1 => tl σ H1 fun l H2 => th σ H2 fun u H3 => ∃ m b xs ys a e, x = .ref m ∧ v = .ref b ∧ l = some a ∧ u = some e ∧ H3 m = some (.lst xs) ∧ H3 b = some (.lst ys) ∧ m ≠ b ∧ 0 ≤ a ∧ a ≤ e ∧ e ≤ (xs.length : Int) ∧
  xs.length + ys.length ≤ sizeLine ∧ Q σ (upd H3 m (.lst (xs.take a.toNat ++ ys ++ xs.drop e.toNat)))
theorem pg_subS {o : Expr} {lo hi : Option Expr} {to : TE} {tl th : TO} {p2 : Pos} (ho : PE X o to) (hl : PO X lo tl) (hh : PO X hi th) : PG X (.Subscript o (.Slice lo hi none p2) pos) (gSubS to tl th) := by
  refine ⟨fun pins s σ H v u Q I r h => ?_⟩
  show wpAny (model X.prog X.w) X.A (do
      let ov ← holding [u] (eval o X.env)
      let iv ← holding [u, ov] (eval (.Slice lo hi none p2) X.env)
      standAt pos
      holding [u, ov, iv] (setItem ov iv u)
      release [iv, u, ov] []) _ _ _
  refine wpAny_bind (wpAny_holding (thn (ho.run pins s σ H _ I h) fun ov s1 ⟨x, H1, I1, r1, q1⟩ => ?_))
  refine wpAny_bind (wpAny_holding (wpAny_Slice (thn (hl.run pins s1 σ H1 _ I1 q1) fun vl s2 ⟨l, H2, I2, pl, q2⟩ => thn (hh.run pins s2 σ H2 _ I2 q2) fun vu s3 ⟨w, H3, I3, pu, q3⟩ => ?_)))
  rw [evalPart_none]
  refine wpAny_pure ?_
  have I4 : Inv X pins σ H3 { s3 with heap := s3.heap.push { cls := .type "slice", data := .fields #[vl, vu, .none] } } := I3.kept (t' := s3.toks) fun b ob q => Heap.get?_push_of_some _ q
  obtain ⟨m, b, xs, ys, a, e, rfl, rfl, rfl, rfl, h1, h2, ne, h0, h3, h4, hz, q⟩ := q3
  cases r1
  cases r
  have ra : RelV (.int a) vl := by cases pl with | int i t => exact ⟨t, rfl⟩
  have re : RelV (.int e) vu := by cases pu with | int i t => exact ⟨t, rfl⟩
  refine wpAny_bind (wpAny_standAt (wpAny_bind (wpAny_holding (set_slice I4 h1 h2 ne (Heap.IsSliceOf.new ..) ra re h0 h3 h4 hz fun s' I' => ?_))))
  exact wpAny_release ⟨σ, _, I', q⟩
theorem ms_setS (o : XOk K ca Wx cl c X) {i : Nat} {x : Str} {elo ehi : Eo} {e : E} {a : Expr} {lo hi : Option Expr} {p1 p2 p3 : Pos} (hi' : c.N[i]? = some x) (hv : visB c.sc x = true) (hn : nm x = true) (hc : notComp a = true) (hl : PO X lo (tEo K ca Wx cl elo)) (hh : PO X hi (tEo K ca Wx cl ehi)) (ha : PE X a (tE K ca Wx cl e)) :
    PS X (.Assign [.Subscript (.Name x p1) (.Slice lo hi none p2) p3] a pos) (tS K ca Wx cl wf (.setS i elo ehi e)) := by
  have pv : PE X (.Name x p1) _ := pe_var (i := i) (by rw [o.nn]; exact hi') (vis_of o hv) (nm_d hn) (nm_c hn)
  refine PSi (ps_asg ha (pg_subS pv hl hh) (swapsS_no hc) (stores_no rfl)) fun En σ H ⟨W, ρ, S, R, h⟩ => ?_
  have h : AnsS K ca Wx W H En ((ev cl e ρ S).out ρ fun x S1 => match x with
    | .ol es => if fresh e = true then (match ρ[i]? with
      | some (some (.ol xs)) => (evo cl elo ρ S1).out ρ fun l S3 => (evo cl ehi ρ S3).out ρ fun h S4 => (match spliceO (.ol xs) l h es with
        | some ov2 => .nx (ρ.set i (some ov2)) S4
        | none => .stk)
      | _ => .stk) else .stk
    | _ => .stk) := h
  refine ⟨W, ρ, S, R, AnsS.bind R h fun y S1 vy H1 W1 e1 p1 R1 r1 h1 => ?_⟩
  cases y with
  | ol es =>
    by_cases hf : fresh e = true
    · simp only [if_pos hf] at h1
      rw [hf] at r1
      rcases e2 : ρ[i]? with _ | _ | ov
      · rw [e2] at h1; exact h1.elim
      · rw [e2] at h1; exact h1.elim
      · rw [e2] at h1
        cases ov with
        | ol xs =>
          have h1 : AnsS K ca Wx W H En ((evo cl elo ρ S1).out ρ fun l S3 => (evo cl ehi ρ S3).out ρ fun h S4 => (match spliceO (.ol xs) l h es with
            | some ov2 => .nx (ρ.set i (some ov2)) S4
            | none => .stk)) := h1
          obtain ⟨vo, e3, ro⟩ := R1.sl.at_ i _ e2
          refine ⟨vo, e3, W1, ρ, S1, R1, AnsS.bind R1 (h1.move p1.p) fun l S3 l' H3 W3 e4 p3 R3 r3 h3 => ?_⟩
          cases r3
          refine ⟨W3, ρ, S3, R3, AnsS.bind R3 (AnsS.move (r := (evo cl ehi ρ S3).out ρ _) h3 p3.p) fun u S4 u' H4 W4 e5 p4 R4 r4 h4 => ?_⟩
          cases r4
          have rr : RepW K true W H W4 H4 (.ol es) vy := RepW.stay R1.inw R4.inw (p3.trans p4) rfl r1
          obtain ⟨vo', e3', ro'⟩ := R4.sl.at_ i _ e2
          rw [e3] at e3'
          cases e3'
          rcases ro' with ⟨d', z, _⟩ | ⟨b, oo, z, ll, e6, vs, rfl, r6⟩
          · cases z
          · subst z
            cases rr with
            | @ow _ a2 o2 f1 f2 f3 f4 =>
              obtain ⟨us, rfl, ru⟩ := f2
              obtain ⟨g1, g2, g3⟩ := f4 rfl
              have ne : b ≠ a2 := by rintro rfl; exact g2 (.inl (by rw [ll]; exact nofun))
              unfold spliceO at h4
              cases l with
              | none => exact h4.elim
              | some l =>
                cases u with
                | none => exact h4.elim
                | some u =>
                  simp only at h4
                  by_cases hb : (decide (0 ≤ l) && decide (l ≤ u) && decide (u ≤ xs.length) && decide (xs.length + es.length ≤ lim)) = true
                  · rw [if_pos hb] at h4
                    simp only [Bool.and_eq_true, decide_eq_true_eq] at hb
                    obtain ⟨⟨⟨b1, b2⟩, b3⟩, b4⟩ := hb
                    refine ⟨b, a2, vs, us, l, u, rfl, rfl, rfl, rfl, e6, f1, ne, b1, b2, by rw [r6.length]; exact b3, by rw [r6.length, ru.length]; exact lim_le b4, ?_⟩
                    obtain ⟨p5, R5⟩ := mut_set (ov := .ol xs) (ov2 := .ol (xs.take l.toNat ++ es ++ xs.drop u.toNat)) p4.p R4 ll e3 ⟨_, rfl, ((r6.take _).append ru).append (r6.drop _)⟩
                    exact h4 σ _ W4 p5 R5
                  · rw [if_neg hb] at h4
                    exact h4.elim
        | _ => exact h1.elim
    · simp only [if_neg hf] at h1
      exact h1.elim
  | _ => exact h1.elim
end
end Sg
namespace Sg
open PySem PySem.Spec PyProof.Rows L2
section
variable {K : PySem.W.Frag} {ca : Str → Addr} {Wx : WX} {cl : Str → List D → Sto → Res} {c : CK} {X : Cx} {pos : Pos} {wf : Nat}
/-! ### own lists lent to an expression -/
theorem sto_none {W : Wd} {H : Hp} {S : Sto} (h : S.cells.isEmpty = true) (t : ∀ c a, W.mu c = some a → c < S.cells.length) : StoOk K ca W H S := by
  refine ⟨fun c x e => ?_, t⟩
  have h : S.cells = [] := by simpa using h
  unfold Sto.get at e
  rw [h] at e
  simp at e
/-- the world behind it: what was lent is the frame's own again -/
def Wd.thaw (W W2 : Wd) : Wd := ⟨fun a => match W.L a with | some _ => none | none => W2.Z a, W2.mu, W.L, W2.O, W2.Lk⟩
theorem thaw_Z {W W2 : Wd} {a : Addr} (h : W.L a = none) : (W.thaw W2).Z a = W2.Z a := by
  show (match W.L a with | some _ => none | none => W2.Z a) = _
  rw [h]
theorem thaw_some {W W2 : Wd} {a : Addr} {o : HO} (h : (W.thaw W2).Z a = some o) : W.L a = none ∧ W2.Z a = some o := by
  have h : (match W.L a with | some _ => none | none => W2.Z a) = some o := h
  cases e : W.L a with
  | none => rw [e] at h; exact ⟨rfl, h⟩
  | some i => rw [e] at h; cases h
theorem thaw_ok {W W1 W2 : Wd} {H H2 : Hp} (I : Inw W H) (p1 : Post W H W1 H) (f : Froz W H W1) (I1 : Inw W1 H) (p2 : PostE W1 H W2 H2) (I2 : Inw W2 H2) : PostE W H (W.thaw W2) H2 ∧ Inw (W.thaw W2) H2 := by
  have nL : ∀ a o, W.Z a = some o → W.L a = none := fun a o e => by
    cases q : W.L a with
    | none => rfl
    | some i => exact absurd (.inl (by rw [q]; exact nofun)) (I.zo a o e)
  -- what the frame owns: still its own, or frozen meanwhile
  have own : ∀ a i, W.L a = some i → H2 a = H a ∧ W2.O a = none ∧ H a ≠ none := fun a i e => by
    rcases f.l a i e with z | ⟨z1, z2, o, z3, z4⟩
    · refine ⟨p2.lh a i z, I2.lo a i ((p2.ll a).trans z), I.ho a (.inl (by rw [e]; exact nofun))⟩
    · have no := I1.zo a o z3
      have h2 := p2.p.fr a o z4 no
      refine ⟨h2.trans z4.symm, ?_, by rw [z4]; exact nofun⟩
      cases q : W2.O a with
      | none => rfl
      | some y => exact absurd (.inr (by rw [q]; exact nofun)) (I2.zo a o (p2.p.zm a o z3))
  refine ⟨⟨⟨fun a o e => ?_, fun c a e => p2.p.mm c a (p1.mm c a e), fun a o e n => ?_, fun a o e => ?_, fun a z => ?_, p2.p.lk.trans p1.lk⟩, fun _ => rfl, fun a i e => (own a i e).1⟩, ⟨fun a o e => ?_, fun a o e z => ?_, fun a i e => (own a i e).2.1, fun a z => ?_, I2.kh, fun a z => ?_⟩⟩
  · rw [thaw_Z (nL a o e)]; exact p2.p.zm a o (p1.zm a o e)
  · refine p2.p.fr a o e fun z => ?_
    rcases p1.on a z with y | y
    · exact n y
    · rw [e] at y; cases y
  · obtain ⟨_, e⟩ := thaw_some e
    rcases p2.p.zn a o e with z | z | z
    · exact p1.zn a o z
    · exact .inr (p1.on a z)
    · exact .inr (.inr z)
  · rcases z with z | z
    · exact .inl (.inl z)
    · rcases p2.p.on a (.inr z) with y | y
      · exact p1.on a y
      · exact .inr y
  · exact I2.zl a o (thaw_some e).2
  · obtain ⟨e1, e2⟩ := thaw_some e
    rcases z with z | z
    · exact z e1
    · exact I2.zo a o e2 (.inr z)
  · rcases z with z | z
    · have z : W.L a ≠ none := z
      cases q : W.L a with
      | none => exact absurd q z
      | some i => rw [(own a i q).1]; exact (own a i q).2.2
    · exact I2.ho a (.inr z)
  · rcases z with z | z
    · have z : W.L a ≠ none := z
      cases q : W.L a with
      | none => exact absurd q z
      | some i => rw [(own a i q).1]; exact I.ot a (.inl z)
    · exact I2.ot a (.inr z)
theorem brw_sound {is : List Nat} {e : E} {σ : L2.St} {H : Hp} {Q : VK} (h : tE K ca Wx cl (.brw is e) σ H Q) : tE K ca Wx cl e σ H Q := by
  obtain ⟨W, ρ, S, R, h⟩ := h
  have h : Ans K ca Wx (RepW K false W H) false W H S σ Q (if S.cells.isEmpty = true then (match ev cl e (frzR ρ is) S with
    | .ok (.fr d) S1 => if flatD d && S1.cells.isEmpty then .ok (.fr d) S1 else .stk
    | _ => .stk) else .stk) := h
  by_cases hs : S.cells.isEmpty = true
  · rw [if_pos hs] at h
    obtain ⟨W1, p1, R1, f⟩ := frzs is R
    refine ⟨W1, frzR ρ is, S, R1, ?_⟩
    cases e1 : ev cl e (frzR ρ is) S with
    | stk => rw [e1] at h; exact h.elim
    | exc x S1 => rw [e1] at h; exact h.elim
    | ok x S1 =>
      rw [e1] at h
      cases x with
      | fr d =>
        have h : Ans K ca Wx (RepW K false W H) false W H S σ Q (if flatD d && S1.cells.isEmpty then .ok (.fr d) S1 else .stk) := h
        by_cases hd : (flatD d && S1.cells.isEmpty) = true
        · rw [if_pos hd] at h
          rw [Bool.and_eq_true] at hd
          intro v H2 W2 p2 i2 s2 r2 _
          obtain ⟨p3, i3⟩ := thaw_ok R.inw p1 f R1.inw p2 i2
          refine h v H2 (W.thaw W2) p3 i3 (sto_none hd.2 s2.top) (.fr ?_) nofun
          have rd := r2.toD
          cases d <;> first | (cases hd.1; done) | exact rd
        · rw [if_neg hd] at h; exact h.elim
      | _ => exact h.elim
  · rw [if_neg hs] at h; exact h.elim
theorem me_brw {is : List Nat} {e : E} {x : Expr} (h : PE X x (tE K ca Wx cl e)) : PE X x (tE K ca Wx cl (.brw is e)) := PEi h fun σ H Q h => brw_sound h
theorem mt_brw {is : List Nat} {e : E} {x : Expr} (h : PT X x (tB (tE K ca Wx cl e))) : PT X x (tB (tE K ca Wx cl (.brw is e))) := PTi h fun σ H Q h => brw_sound h
end
end Sg
namespace Sg
open PySem PySem.Spec PyProof.Rows L2
section
variable {K : PySem.W.Frag} {ca : Str → Addr} {Wx : WX} {cl : Str → List D → Sto → Res} {c : CK} {X : Cx} {pos : Pos} {wf : Nat}
/-! ### list + list, list * number, as something new -/
theorem fin_lst {W W1 W2 : Wd} {H H1 H2 : Hp} {S1 S2 : Sto} {σ : L2.St} {Q : VK} {ds : List D} {vs : List V} (p1 : PostE W H W1 H1) (p2 : PostE W1 H1 W2 H2) (i2 : Inw W2 H2) (s2 : StoOk K ca W2 H2 S2) (r : RepDs K W2.Z W2.mu ds vs)
    (h : Ans K ca Wx (RepW K true W H) false W1 H1 S1 σ Q (Rs.ok (OV.ol ds) S2)) {p : Addr} (hp : H2 p = none) : Q (.ref p) (upd H2 p (.lst vs)) := by
  refine h (.ref p) _ W2 (p2.trans (postE_lay i2 hp)) (inw_lay i2 hp) (sto_lay i2 s2 hp) (.ow upd_same ⟨vs, rfl, r⟩ (i2.newOZ hp) fun _ => ⟨i2.newZ hp, i2.newO hp, ?_⟩) nofun
  by_cases hw : W.own p
  · exact .inl hw
  · exact .inr ((p1.trans p2).p.dead hp hw)
theorem me_cat (o : XOk K ca Wx cl c X) {ea eb : E} {a b : Expr} (ha : PE X a (tE K ca Wx cl ea)) (hb : PE X b (tE K ca Wx cl eb)) : PE X (.BinOp a .Add b pos) (tE K ca Wx cl (.cat ea eb)) := by
  have r := op_catG (X := X)
  rw [o.kk] at r
  refine PEi (pe_op r ha hb) fun σ H Q ⟨W, ρ, S, R, h⟩ => ?_
  refine ⟨W, ρ, S, R, Ans.bind (α := OV) (rp := RepW K true W H) (q := false) (k := fun x S1 => if !x.isBo || quiet eb then (ev cl eb ρ S1).bind fun y S2 => ofO S2 (catO x.view y.view) else .stk) h fun x S1 vx H1 W1 e1 p1 i1 s1 r1 q1 h1 => ?_⟩
  by_cases hc : (!x.isBo || quiet eb) = true
  · rw [if_pos hc] at h1
    refine ⟨W1, ρ, S1, ⟨i1, R.sl.post p1, s1⟩, (h1.move (S1 := S1) (q2 := false) p1 nofun nofun).bind fun y S2 vy H2 W2 e2 p2 i2 s2 r2 q2 h2 => ?_⟩
    have rx : RepV K W2 H2 x.view vx := by
      rw [Bool.or_eq_true] at hc
      rcases hc with hc | hc
      · exact (r1.stay i1 i2 p2 (by simpa using hc)).toV i2
      · obtain ⟨a1, a2, _⟩ := q2 hc
        rw [a1, a2]
        exact r1.toV i1
    have ry := r2.toV i2
    cases e : catO x.view y.view with
    | none => rw [e] at h2; exact h2.elim
    | some ov =>
      rw [e] at h2
      cases hx : x.view with
      | lst s =>
        cases hy : y.view with
        | lst t =>
          rw [hx, hy] at e
          rw [hx] at rx
          rw [hy] at ry
          have e' : (if s.length + t.length ≤ lim then some (OV.ol (s ++ t)) else none) = some ov := e
          split at e'
          · rename_i hl
            cases e'
            obtain ⟨a, xs, rfl, sa, rx⟩ := rx
            obtain ⟨b, ys, rfl, sb, ry⟩ := ry
            exact ⟨a, b, xs, ys, rfl, rfl, sa, sb, by rw [rx.length, ry.length]; exact lim_le hl, fun p hp => fin_lst p1 p2 i2 s2 (rx.append ry) h2 hp⟩
          · cases e'
        | _ => rw [hx, hy] at e; cases e
      | _ => rw [hx] at e; cases e
  · rw [if_neg hc] at h1
    exact h1.elim
theorem RepDs.rep {Z : Hp} {mu : Nat → Option Addr} {ds : List D} {vs : List V} (r : RepDs K Z mu ds vs) : ∀ n : Nat, RepDs K Z mu (List.replicate n ds).flatten (List.replicate n vs).flatten
  | 0 => rfl
  | n + 1 => by
    rw [List.replicate_succ, List.replicate_succ, List.flatten_cons, List.flatten_cons]
    exact r.append (r.rep n)
theorem me_rep (o : XOk K ca Wx cl c X) {ea eb : E} {a b : Expr} (ha : PE X a (tE K ca Wx cl ea)) (hb : PE X b (tE K ca Wx cl eb)) : PE X (.BinOp a .Mult b pos) (tE K ca Wx cl (.rep ea eb)) := by
  refine PEi (pe_op op_rep ha hb) fun σ H Q ⟨W, ρ, S, R, h⟩ => ?_
  refine ⟨W, ρ, S, R, Ans.bind (α := OV) (rp := RepW K true W H) (q := false) (k := fun x S1 => match x with | .ol ds => (ev cl eb ρ S1).bind fun y S2 => ofO S2 (repO ds y) | _ => .stk) h fun x S1 vx H1 W1 e1 p1 i1 s1 r1 q1 h1 => ?_⟩
  cases x with
  | ol ds =>
    refine ⟨W1, ρ, S1, ⟨i1, R.sl.post p1, s1⟩, (Ans.move (S1 := S1) (q2 := false) (show Ans K ca Wx (RepW K true W H) false W H S σ Q ((ev cl eb ρ S1).bind fun y S2 => ofO S2 (repO ds y)) from h1) p1 nofun nofun).bind fun y S2 vy H2 W2 e2 p2 i2 s2 r2 q2 h2 => ?_⟩
    have r1' := r1.stay i1 i2 p2 rfl
    cases y with
    | fr d =>
      cases d with
      | int k =>
        cases r2.toD
        have e' : ∀ z, repO ds (.fr (.int k)) = z → (if decide (-1000 ≤ k) && decide (k ≤ 1000) && decide (ds.length ≤ 1000) then some (OV.ol (List.replicate k.toNat ds).flatten) else none) = z := fun z h => h
        cases e : repO ds (.fr (.int k)) with
        | none => rw [e] at h2; exact h2.elim
        | some ov =>
          rw [e] at h2
          have e' := e' _ e
          split at e'
          · rename_i c
            simp only [Bool.and_eq_true, decide_eq_true_eq] at c
            cases e'
            cases r1' with
            | ow h3 h4 _ _ =>
              obtain ⟨vs, rfl, rv⟩ := h4
              refine ⟨_, k, vs, rfl, rfl, h3, by omega, by omega, ?_, fun p hp => fin_lst p1 p2 i2 s2 (rv.rep k.toNat) h2 hp⟩
              have h5 : vs.length * k.toNat ≤ 1000 * 1000 := Nat.mul_le_mul (by rw [rv.length]; exact c.2) (by omega)
              rw [sizeLine_eq]; omega
          · cases e'
      | _ => exact h2.elim
    | _ => exact h2.elim
  | _ => exact h1.elim
/-! ### a dict that is written out -/
theorem Ans.imp {α β : Type} {rp : Wd → Hp → α → β → Prop} {q : Bool} {W : Wd} {H : Hp} {S : Sto} {σ : L2.St} {Q Q' : β → Hp → Prop} {r : Rs α} (h : Ans K ca Wx rp q W H S σ Q r) (i : ∀ b H, Q b H → Q' b H) : Ans K ca Wx rp q W H S σ Q' r := by
  cases r with
  | ok a S' => exact fun b H' W' p i' s r g => i _ _ (h b H' W' p i' s r g)
  | exc x S' => exact h
  | stk => exact h
theorem tE.imp {e : E} {σ : L2.St} {H : Hp} {Q Q' : VK} (h : tE K ca Wx cl e σ H Q) (i : ∀ b H, Q b H → Q' b H) : tE K ca Wx cl e σ H Q' := by
  obtain ⟨W, ρ, S, R, h⟩ := h
  exact ⟨W, ρ, S, R, h.imp i⟩
theorem es_step {e : E} {es : Es} {σ : L2.St} {H : Hp} {Q : List V → Hp → Prop} (h : tEs K ca Wx cl (.cons e es) σ H Q) : tE K ca Wx cl e σ H fun v H1 => tEs K ca Wx cl es σ H1 fun vs H2 => Q (v :: vs) H2 := by
  obtain ⟨W, ρ, S, R, h⟩ := h
  refine ⟨W, ρ, S, R, Ans.bind (α := List D) (β := List V) (rp := fun W' _ ds vs => RepDs K W'.Z W'.mu ds vs) (q := false) (k := fun x S1 => (ofO S1 (need (fresh e) x)).bind fun d S2 => (evs cl es ρ S2).bind fun ds S3 => .ok (d :: ds) S3) h fun x S1 vx H1 W1 e1 p1 i1 s1 r1 q1 h1 => ?_⟩
  cases hn : need (fresh e) x with
  | none => rw [hn] at h1; exact h1.elim
  | some d =>
    rw [hn] at h1
    obtain ⟨W2, c2⟩ := ice p1 i1 s1 r1 hn
    have h1 : Ans K ca Wx (fun W' _ ds vs => RepDs K W'.Z W'.mu ds vs) false W H S σ Q ((evs cl es ρ S1).bind fun ds S3 => Rs.ok (d :: ds) S3) := h1
    refine ⟨W2, ρ, S1, ⟨c2.i, R.sl.post c2.p, c2.s⟩, (h1.move (S1 := S1) (q2 := false) c2.p nofun nofun).bind fun ds S3 vs H3 W3 e3 p3 i3 s3 r3 q3 h3 => ?_⟩
    exact h3 (vx :: vs) H3 W3 p3 i3 s3 ⟨vx, vs, rfl, c2.r.post p3.p, r3⟩ nofun
def flatP : List (V × V) → List V
  | [] => []
  | (a, b) :: r => a :: b :: flatP r
def unfl : List V → List (V × V)
  | a :: b :: r => (a, b) :: unfl r
  | _ => []
theorem unfl_flat : ∀ ps : List (V × V), unfl (flatP ps) = ps
  | [] => rfl
  | (a, b) :: r => by show (a, b) :: unfl (flatP r) = _; rw [unfl_flat r]
def PrR (K : PySem.W.Frag) (ca : Str → Addr) (Wx : WX) (cl : Str → List D → Sto → Res) (es : Es) (trs : List (TE × TE)) : Prop := ∀ σ H (Q : List V → Hp → Prop), tEs K ca Wx cl es σ H Q → tPairs trs σ H fun ps H2 => Q (flatP ps) H2
theorem pr_nil : PrR K ca Wx cl .nil [] := by
  intro σ H Q hq
  obtain ⟨W, ρ, S, R, h⟩ := hq
  exact h [] H W .refl R.inw R.so rfl nofun
theorem pr_cons {e e2 : E} {es : Es} {trs : List (TE × TE)} (h : PrR K ca Wx cl es trs) : PrR K ca Wx cl (.cons e (.cons e2 es)) ((tE K ca Wx cl e, tE K ca Wx cl e2) :: trs) := by
  intro σ H Q hq
  show tE K ca Wx cl e σ H fun x H1 => tE K ca Wx cl e2 σ H1 fun y H2 => tPairs trs σ H2 fun ps H3 => Q (x :: y :: flatP ps) H3
  refine (es_step hq).imp fun x H1 h1 => ?_
  refine (es_step h1).imp fun y H2 h2 => ?_
  exact h σ H2 _ h2
theorem dlt_ok {Z : Hp} {mu : Nat → Option Addr} : ∀ (ds : List D) (vs : List V) (acc kvs : List (D × D)) (wa : List (Key × V)), dltO acc ds = some kvs → RepDs K Z mu ds vs → RepKs K Z mu acc wa → ∃ ws : List (Key × V), unfl vs = ws.map (fun kv => (kV kv.1, kv.2)) ∧ 2 * ws.length = ds.length ∧ RepKs K Z mu kvs (mergeK wa ws)
  | [], vs, acc, kvs, wa, e, r, ra => by
    cases r
    have e : some acc = some kvs := e
    cases e
    exact ⟨[], rfl, rfl, ra⟩
  | [_], vs, acc, kvs, wa, e, r, ra => by cases e
  | k :: v :: ds, vs, acc, kvs, wa, e, r, ra => by
    obtain ⟨vk, _, rfl, rk, vv, r, rfl, rv, rr⟩ := r
    have e : (match dset .sc acc k v with | some kvs => dltO kvs ds | none => none) = some kvs := e
    cases e1 : dset .sc acc k v with
    | none => rw [e1] at e; cases e
    | some acc2 =>
      rw [e1] at e
      have e1 : (keyOf k).map (fun q => dput acc k (fun x => decide (keyOf x = some q)) v) = some acc2 := e1
      obtain ⟨q, e2, e3⟩ := Option.map_eq_some_iff.mp e1
      subst e3
      obtain ⟨ws, h1, h2, h3⟩ := dlt_ok ds r _ kvs _ e rr (RepKs.dput e2 rv ra)
      refine ⟨(q, vv) :: ws, ?_, by simp only [List.length_cons]; omega, h3⟩
      show (vk, vv) :: unfl r = _
      rw [h1, keyOf_V rk e2]
      rfl
theorem me_dlt {es : Es} {ks : List (Option Expr)} {vs : List Expr} {trs : List (TE × TE)} (h1 : PPs X pos ks vs trs) (h2 : PrR K ca Wx cl es trs) (hall : ks.all (·.isSome) = true) (hl : ks.length = vs.length) (h0 : ks ≠ []) (h15 : ks.length ≤ 15) (hn : es.len ≤ 30) : PE X (.Dict ks vs pos) (tE K ca Wx cl (.dlt es)) := by
  refine PEi (pe_disp h1 hall hl h0 h15) fun σ H Q ⟨W, ρ, S, R, h⟩ => fun p hp => ?_
  have h : Ans K ca Wx (RepW K true W H) false W H S σ Q ((evs cl es ρ S).bind fun ds S1 => ofO S1 ((dltO [] ds).map (.od .sc))) := h
  have hpl := postE_lay R.inw hp (o := .dK [])
  have key := h2 σ (upd H p (.dK [])) (fun us H2 => H2 p = some (.dK []) ∧ ∃ kvs : List (Key × V), unfl us = kvs.map (fun kv => (kV kv.1, kv.2)) ∧ kvs.length ≤ 15 ∧ Q (.ref p) (upd H2 p (.dK (mergeK [] kvs)))) ?_
  · simp only [unfl_flat] at key
    exact key
  refine ⟨W, ρ, S, ⟨inw_lay R.inw hp, R.sl.post hpl, sto_lay R.inw R.so hp⟩, ?_⟩
  cases e2 : evs cl es ρ S with
  | stk => rw [e2] at h; exact h.elim
  | exc x S1 => rw [e2] at h; exact fun cls dx H' W' p' i s r => h cls dx H' W' (hpl.trans p') i s r
  | ok ds S1 =>
    rw [e2] at h
    intro us H2 W2 p2 i2 s2 r2 _
    have np : ¬ W.own p := R.inw.newO hp
    have e3 : H2 p = some (.dK []) := p2.p.fr p _ upd_same np
    refine ⟨e3, ?_⟩
    have h : Ans K ca Wx (RepW K true W H) false W H S σ Q (ofO S1 ((dltO [] ds).map (OV.od .sc))) := h
    cases e4 : dltO [] ds with
    | none => rw [e4] at h; exact h.elim
    | some kvs =>
      rw [e4] at h
      obtain ⟨ws, w1, w2, w3⟩ := dlt_ok ds us [] kvs [] e4 r2 rfl
      have hz : W2.Z p = none := by
        cases q : W2.Z p with
        | none => rfl
        | some u =>
          rcases p2.p.zn p u q with y | y | y
          · rw [R.inw.newZ hp] at y; cases y
          · exact absurd y np
          · rw [upd_same] at y; cases y
      have ho : ¬ W2.own p := fun z => by
        rcases p2.p.on p z with y | y
        · exact np y
        · rw [upd_same] at y; cases y
      have hO : W2.O p = none := by
        cases q : W2.O p with
        | none => rfl
        | some z => exact absurd (.inr (by rw [q]; exact nofun)) ho
      have hL : W.L p = none := by
        cases q : W.L p with
        | none => rfl
        | some z => exact absurd (.inl (by rw [q]; exact nofun)) np
      obtain ⟨p3, i3, s3⟩ := loose_set (o := .dK (mergeK [] ws)) (hpl.trans p2) i2 s2 (by rw [e3]; exact nofun) hz ho (.inr hp) hL
      refine ⟨ws, w1, ?_, h (.ref p) _ W2 p3 i3 s3 (.ow upd_same ⟨_, rfl, w3⟩ ⟨hO, hz⟩ fun _ => ⟨hz, ho, .inr hp⟩) nofun⟩
      have := evs_len e2
      omega
/-! ### a method of something new -/
theorem pe_mcE (o : XOk K ca Wx cl c X) {m : Mm} (hm : m = .append ∨ m = .extend) : ∃ r, McR K m r ∧ ∀ {y a : Expr} {te : TE} {t : TA} {apos : Pos}, notSup y = true → notStar a = true → (apos.endLine == pos.line) = true →
    PE X y te → PA X [a] t → PE X (.Call (.Attribute y (Str.ofString (mmS m)) apos) [a] [] pos) (tBM K "list" r te t) := by
  have kk := o.kk
  subst kk
  have few : ∀ {a : Expr}, notStar a = true → ((backTo pos (starEach [a] X.env)).all (fun x => !x.1) && (backToKw pos (keywordEach [] X.env)).all (fun x => x.1.isSome)
      && decide ([a].length + ([] : List Keyword).length + (if ([] : List Keyword).isEmpty then 0 else 1) < 30)) = true := fun {a} h => by rw [star_cons h]; rfl
  rcases hm with rfl | rfl
  · refine ⟨_, mc_append, fun {y a te t apos} hy hs hl he ha => ?_⟩
    exact pe_bm PySem.F.plainAttrs_list PySem.F.slot_list_append PySem.F.type_list_append mt_append he ha (base_of hy) (hfew := few hs) (hline := hl) (hs := star_cons hs) (hplain := rfl)
  · refine ⟨_, mc_extend, fun {y a te t apos} hy hs hl he ha => ?_⟩
    exact pe_bm PySem.F.plainAttrs_list PySem.F.slot_list_extend PySem.F.type_list_extend mt_extS he ha (base_of hy) (hfew := few hs) (hline := hl) (hs := star_cons hs) (hplain := rfl)
theorem ms_mcE (o : XOk K ca Wx cl c X) {m : Mm} (hm : m = .append ∨ m = .extend) {e e2 : E} {y a : Expr} {apos cpos : Pos} (hy : notSup y = true) (hs : notStar a = true) (hl : (apos.endLine == cpos.line) = true) (he : PE X y (tE K ca Wx cl e)) (ha : PE X a (tE K ca Wx cl e2)) :
    PS X (.Expr (.Call (.Attribute y (Str.ofString (mmS m)) apos) [a] [] cpos) pos) (tS K ca Wx cl wf (.mcE e m (.cons e2 .nil))) := by
  obtain ⟨r, hr, h⟩ := pe_mcE (pos := cpos) o hm
  refine PSi (ps_expr (h hy hs hl he (ms_cons hs ha ms_nil))) fun En σ H ⟨W, ρ, S, R, h⟩ => ?_
  have h : AnsS K ca Wx W H En (if fresh e = true then (ev cl e ρ S).out ρ fun x S1 => match x with
    | .ol xs => (evs cl (.cons e2 .nil) ρ S1).out ρ fun ds S2 => (match mmO m (.ol xs) ds with
      | some _ => .nx ρ S2
      | none => .stk)
    | _ => .stk
    else .stk) := h
  by_cases hf : fresh e = true
  · rw [if_pos hf] at h
    refine ⟨W, ρ, S, R, AnsS.bind R h fun x S1 vx H1 W1 e1 p1 R1 r1 h1 => ?_⟩
    cases x with
    | ol xs =>
      rw [hf] at r1
      have h1 : AnsS K ca Wx W H En ((evs cl (.cons e2 .nil) ρ S1).out ρ fun ds S2 => (match mmO m (.ol xs) ds with
        | some _ => .nx ρ S2
        | none => .stk)) := h1
      have rv := r1.toV R1.inw
      refine ⟨?_, W1, ρ, S1, R1, AnsS.bind (W := W1) (H := H1) R1 (h1.move p1.p) fun ds S2 vds H2 W2 e4 p2 R2 rd h2 => ?_⟩
      · obtain ⟨a, vs, rfl, sq, _⟩ := rv
        exact .inl ⟨rfl, vs, sq⟩
      · have r2 := (r1.stay R1.inw R2.inw p2 rfl)
        cases e5 : mmO m (.ol xs) ds with
        | none => rw [e5] at h2; exact h2.elim
        | some dd =>
          obtain ⟨d, ov2⟩ := dd
          rw [e5] at h2
          cases r2 with
          | @ow _ a o3 h3 h4 h5 h6 =>
            obtain ⟨vs, rfl, rv⟩ := h4
            obtain ⟨z1, z2, z3⟩ := h6 rfl
            refine hr W2 H2 a xs ds vs vds d ov2 _ R2.inw e5 h3 rv rd fun v o2 _ _ => ?_
            have hL : W.L a = none := by
              have : W2.L a = none := by
                cases q : W2.L a with
                | none => rfl
                | some z => exact absurd (.inl (by rw [q]; exact nofun)) z2
              rw [← (p1.trans p2).ll a]; exact this
            obtain ⟨p3, i3, s3⟩ := loose_set (o := o2) (p1.trans p2) R2.inw R2.so (by rw [h3]; exact nofun) z1 z2 z3 hL
            rw [e4] at h1
            have h1 : AnsS K ca Wx W H En (match mmO m (.ol xs) ds with | some _ => Out.nx ρ S2 | none => .stk) := h1
            rw [e5] at h1
            exact h1 σ _ W2 p3.p ⟨i3, R.sl.post p3, s3⟩
    | _ => exact h1.elim
  · rw [if_neg hf] at h
    exact h.elim
end
end Sg
namespace Sg
open PySem PySem.Spec PyProof.Rows L2
section
variable {K : PySem.W.Frag} {ca : Str → Addr} {Wx : WX} {cl : Str → List D → Sto → Res} {c : CK} {X : Cx} {pos : Pos} {wf : Nat}
/-! ### for k, v in d.items() -/
def isTupE : Expr → Bool
  | .Tuple .. => true
  | _ => false
theorem PSor {X : Cx} {st : Stmt} {t t' : TS} (h : PS X st t) (h' : PS X st t') : PS X st (fun D σ H => t D σ H ∨ t' D σ H) := ⟨fun pins s σ H D I hq => hq.elim (h.run pins s σ H D I) (h'.run pins s σ H D I)⟩
theorem kV_rep {Z : Hp} {mu : Nat → Option Addr} {q : D} {k : Key} (e : keyOf q = some k) : RepD K Z mu q (kV k) := by
  cases q <;> cases e <;> rfl
theorem RepKs.get {Z : Hp} {mu : Nat → Option Addr} : ∀ {kvs : List (D × D)} {ws : List (Key × V)} {i : Nat} {k : Key} {v : V}, RepKs K Z mu kvs ws → ws[i]? = some (k, v) → ∃ q d, kvs[i]? = some (q, d) ∧ keyOf q = some k ∧ RepD K Z mu d v
  | [], _, i, k, v, h, e => by cases h; simp at e
  | (q, d) :: kvs, _, i, k, v, ⟨k', v', r, e0, e1, h1, h2⟩, e => by
    subst e0
    cases i with
    | zero =>
      have e : some (k', v') = some (k, v) := by simpa using e
      cases e
      exact ⟨q, d, rfl, e1, h1⟩
    | succ i => exact RepKs.get (kvs := kvs) h2 (by simpa using e)
theorem forI_core {g : Tg} {i : Nat} {b : Sts} {En : Ends} {σ : L2.St} {W : Wd} {H : Hp} {ρ : Env1} {S : Sto} {a : Addr} {ob : Obj} {kvs : List (D × D)} {ws : List (Key × V)} (R : Rel K ca W H ρ S σ) (e2 : σ[i]? = some (some (.ref a))) (hH : H a = some (.frz ob (.dK ws))) (no : ¬ W.own a) (r : RepKs K W.Z W.mu kvs ws)
    (h : AnsS K ca Wx W H En (noEx (forGo (fun ρ S => execs cl wf b ρ S) g (itmD kvs) ρ S))) : tFor (iItems (tVar i)) (gT K g) (tSs K ca Wx cl wf b) En σ H := by
  have hl := RepKs.len r
  have hd : (itmD kvs).length = ws.length := by unfold itmD; rw [List.length_map, hl]
  refine ⟨.ref a, e2, a, ob, ws, rfl, hH, ?_⟩
  refine for_it walk_items (fun k σ' H' => ∃ W' ρ' S', Post W H W' H' ∧ Rel K ca W' H' ρ' S' σ' ∧ AnsS K ca Wx W H En (noEx (forGo (fun ρ S => execs cl wf b ρ S) g ((itmD kvs).drop k) ρ' S'))) ?_ ?_ ?_ ?_
  · exact ⟨W, ρ, S, .refl, R, h⟩
  · rintro k σ' H' _ ⟨W', ρ', S', p, R', _⟩
    exact p.fr a _ hH no
  · rintro k x σ' H' H'' hi ⟨W', ρ', S', p, R', hA⟩ y
    obtain ⟨T, x1, y1, e3, hT, e4, e5, e6⟩ := y
    have e7 : ws[k]? = some ws[k] := List.getElem?_eq_getElem hi
    have e5 : ws[k]?.map (fun kv => kV kv.1) = some x1 := e5
    have e6 : ws[k]?.map Prod.snd = some y1 := e6
    rw [e7] at e5 e6
    cases e5
    cases e6
    obtain ⟨q, d, e8, e9, rd⟩ := RepKs.get r (show ws[k]? = some (ws[k].1, ws[k].2) from e7)
    have e10 : (itmD kvs)[k]? = some (.tup [q, d]) := by unfold itmD; rw [List.getElem?_map, e8]; rfl
    have e11 : (itmD kvs).drop k = .tup [q, d] :: (itmD kvs).drop (k + 1) := by
      rw [List.drop_eq_getElem_cons (by rw [hd]; exact hi)]
      rw [List.getElem?_eq_getElem (by rw [hd]; exact hi)] at e10
      rw [Option.some.inj e10]
    rw [e11, forGo_one] at hA
    subst e3 e4
    have rp := pair_rep (x := kV ws[k].1) (y := ws[k].2) R'.inw hT (kV_rep e9 : RepD K W'.Z W'.mu q (kV ws[k].1)) (RepD.le p.zm p.mm _ _ rd)
    have pn := postE_new R'.inw hT (o := .tup [kV ws[k].1, ws[k].2])
    have R2 : Rel K ca (W'.frz T (.tup [kV ws[k].1, ws[k].2])) (upd H' T (.tup [kV ws[k].1, ws[k].2])) ρ' S' σ' := ⟨inw_new R'.inw hT, R'.sl.post pn, sto_new R'.inw R'.so hT⟩
    cases e12 : g.put (.tup [q, d]) ρ' with
    | none => simp only [e12] at hA; exact hA.elim
    | some ρ1 =>
      simp only [e12] at hA
      refine put_sound R2 rp e12 fun σ1 R3 _ => ⟨_, ρ1, S', R3, ?_⟩
      cases e5 : execs cl wf b ρ1 S' with
      | nx ρ3 S3 => simp only [e5] at hA; exact fun σ3 H3 W3 p3 R3 => ⟨W3, ρ3, S3, (p.trans pn.p).trans p3, R3, hA⟩
      | ct ρ3 S3 => simp only [e5] at hA; exact fun σ3 H3 W3 p3 R3 => ⟨W3, ρ3, S3, (p.trans pn.p).trans p3, R3, hA⟩
      | bk ρ3 S3 => simp only [e5] at hA; exact fun σ3 H3 W3 p3 R3 => hA σ3 H3 W3 ((p.trans pn.p).trans p3) R3
      | rt ov S3 => simp only [e5] at hA; exact AnsS.move (r := .rt ov S3) hA (p.trans pn.p)
      | ex y ρ3 S3 => simp only [e5] at hA; exact hA.elim
      | stk => simp only [e5] at hA; exact hA.elim
  · rintro σ' H' ⟨W', ρ', S', p, R', hA⟩
    rw [← hd, List.drop_length] at hA
    exact hA σ' H' W' p R'
/-! the world while something frozen is locked -/
section
variable {W W' : Wd} {H H' : Hp} {a : Addr} {u : HO} {od : Obj}
theorem lock_inw (I : Inw W H) (ha : H a = some u) (hz : W.Z a = some u) (hm : Mut (some u)) : Inw W (upd H a (.frz od u)) := by
  have no := I.zo a u hz
  refine ⟨fun b o e => ?_, I.zo, I.lo, fun b z => ?_, fun b o e => ?_, fun b z vs => ?_⟩
  · by_cases hb : b = a
    · subst hb
      rw [hz] at e
      cases e
      exact .inr ⟨hm, od, upd_same⟩
    · rw [upd_ne hb]; exact I.zl b o e
  · have hb : b ≠ a := by rintro rfl; exact no z
    rw [upd_ne hb]; exact I.ho b z
  · have y := I.kh b o e
    have hb : b ≠ a := by rintro rfl; exact no (.inr y.2)
    rw [upd_ne hb]; exact y
  · have hb : b ≠ a := by rintro rfl; exact no z
    rw [upd_ne hb]; exact I.ot b z vs
theorem lock_slots (I : Inw W H) (hz : W.Z a = some u) {ρ : Env1} {σ : L2.St} (sl : Slots K W H ρ σ) {o : HO} : Slots K W (upd H a o) ρ σ := by
  refine ⟨sl.len, fun j ov e => ?_⟩
  obtain ⟨v, e1, q⟩ := sl.at_ j ov e
  refine ⟨v, e1, ?_⟩
  rcases q with ⟨d, e2, q⟩ | ⟨b, w, e2, l, e3, q⟩
  · exact .inl ⟨d, e2, q⟩
  · refine .inr ⟨b, w, e2, l, ?_, q⟩
    have hb : b ≠ a := by
      rintro rfl
      exact I.zo b u hz (.inl (by rw [l]; exact nofun))
    rw [upd_ne hb]; exact e3
theorem lock_sto (I : Inw W H) (hz : W.Z a = some u) {S : Sto} (so : StoOk K ca W H S) {o : HO} : StoOk K ca W (upd H a o) S :=
  so.keep (fun _ _ e => e) rfl (fun _ _ => rfl) fun b z => by
    rw [upd_ne]
    rintro rfl
    exact I.zo b u hz (.inr z)
/-- the lock taken off -/
theorem unlock_post (ha : H a = some u) (hz : W.Z a = some u) (no : ¬ W.own a) (p : Post W (upd H a (.frz od u)) W' H') : Post W H W' (upd H' a u) := by
  refine ⟨p.zm, p.mm, fun b o e n => ?_, fun b o e => ?_, fun b z => ?_, p.lk⟩
  · by_cases hb : b = a
    · subst hb
      rw [ha] at e
      cases e
      exact upd_same
    · rw [upd_ne hb]; exact p.fr b o (by rw [upd_ne hb]; exact e) n
  · rcases p.zn b o e with y | y | y
    · exact .inl y
    · exact .inr (.inl y)
    · by_cases hb : b = a
      · subst hb; rw [upd_same] at y; cases y
      · rw [upd_ne hb] at y; exact .inr (.inr y)
  · rcases p.on b z with y | y
    · exact .inl y
    · by_cases hb : b = a
      · subst hb; rw [upd_same] at y; cases y
      · rw [upd_ne hb] at y; exact .inr y
theorem unlock_inw (I : Inw W' H') (hz : W'.Z a = some u) : Inw W' (upd H' a u) := by
  have no := I.zo a u hz
  refine ⟨fun b o e => ?_, I.zo, I.lo, fun b z => ?_, fun b o e => ?_, fun b z vs => ?_⟩
  · by_cases hb : b = a
    · subst hb
      rw [hz] at e
      cases e
      exact .inl upd_same
    · rw [upd_ne hb]; exact I.zl b o e
  · have hb : b ≠ a := by rintro rfl; exact no z
    rw [upd_ne hb]; exact I.ho b z
  · have y := I.kh b o e
    have hb : b ≠ a := by rintro rfl; exact no (.inr y.2)
    rw [upd_ne hb]; exact y
  · have hb : b ≠ a := by rintro rfl; exact no z
    rw [upd_ne hb]; exact I.ot b z vs
end
theorem Rd.zin {W : Wd} {H : Hp} {a : Addr} {ws : List (Key × V)} (I : Inw W H) (z : Rd W.Z a (.dK ws)) (ha : H a = some (.dK ws)) : W.Z a = some (.dK ws) := by
  rcases z with z | ⟨ob, z⟩
  · exact z
  · rcases I.zl a _ z with y | ⟨_, ob2, y⟩
    · rw [ha] at y; cases y
    · rw [ha] at y; cases y
theorem ms_forI (o : XOk K ca Wx cl c X) {g : Tg} {i : Nat} {b : Sts} {tg : Expr} {x : Str} {p1 apos cpos : Pos} {sb : List Stmt} (ht : tgB c g tg = true) (hT : isTupE tg = true) (hi : c.N[i]? = some x) (hv : visB c.sc x = true) (hn : nm x = true) (hl : (apos.endLine == cpos.line) = true) (hb : PSs X sb (tSs K ca Wx cl wf b)) :
    PS X (.For tg (.Call (.Attribute (.Name x p1) "items" apos) [] [] cpos) sb [] pos) (tS K ca Wx cl wf (.forI g i b)) := by
  have pv : PE X (.Name x p1) (tVar i) := pe_var (i := i) (by rw [o.nn]; exact hi) (vis_of o hv) (nm_d hn) (nm_c hn)
  cases tg with
  | Tuple elts kk tpos =>
    have st := ps_for (pos := pos) o.po o.calm (pi_items (elts := elts) (kk := kk) (tpos := tpos) pv rfl hl) (mg_of o ht) hb (notSet_ok rfl)
    refine PSi (PSor st (ps_lock st)) fun En σ H ⟨W, ρ, S, R, h⟩ => ?_
    rw [exec_forI] at h
    rcases e1 : ρ[i]? with _ | _ | ov
    · rw [e1] at h; exact h.elim
    · rw [e1] at h; exact h.elim
    · rw [e1] at h
      cases ov with
      | fr d =>
        cases d with
        | dct k kvs =>
          cases k with
          | sc =>
            have h : AnsS K ca Wx W H En (noEx (forGo (fun ρ S => execs cl wf b ρ S) g (itmD kvs) ρ S)) := h
            obtain ⟨v, e2, q⟩ := R.sl.at_ i _ e1
            rcases q with ⟨d', e3, r⟩ | ⟨_, _, _, _, _, z⟩
            · cases e3
              obtain ⟨a, ws, rfl, z, r⟩ := r
              have no : ¬ W.own a := by rcases z with z | ⟨_, z⟩ <;> exact R.inw.zo a _ z
              rcases Rd.up R.inw z with hH | ⟨ob, hH⟩
              · refine .inr ⟨a, _, hH, trivial, fun od => ?_⟩
                have hz := Rd.zin R.inw z hH
                have R' : Rel K ca W (upd H a (.frz od (.dK ws))) ρ S σ := ⟨lock_inw R.inw hH hz trivial, lock_slots R.inw hz R.sl, lock_sto R.inw hz R.so⟩
                refine forI_core R' e2 upd_same no r ?_
                have lk : ∀ {W' : Wd} {H' : Hp}, Post W (upd H a (.frz od (.dK ws))) W' H' → H' a = some (.frz od (.dK ws)) := fun p => p.fr a _ upd_same no
                have rel : ∀ {W' : Wd} {H' : Hp} {ρ' : Env1} {S' : Sto} {σ' : L2.St}, Post W (upd H a (.frz od (.dK ws))) W' H' → Rel K ca W' H' ρ' S' σ' → Rel K ca W' (upd H' a (.dK ws)) ρ' S' σ' := fun p R' => ⟨unlock_inw R'.inw (p.zm a _ hz), lock_slots R'.inw (p.zm a _ hz) R'.sl, lock_sto R'.inw (p.zm a _ hz) R'.so⟩
                cases e4 : noEx (forGo (fun ρ S => execs cl wf b ρ S) g (itmD kvs) ρ S) with
                | nx ρ3 S3 => rw [e4] at h; exact fun σ' H' W' p R' => ⟨lk p, h σ' _ W' (unlock_post hH hz no p) (rel p R')⟩
                | bk ρ3 S3 => rw [e4] at h; exact fun σ' H' W' p R' => ⟨lk p, h σ' _ W' (unlock_post hH hz no p) (rel p R')⟩
                | ct ρ3 S3 => rw [e4] at h; exact fun σ' H' W' p R' => ⟨lk p, h σ' _ W' (unlock_post hH hz no p) (rel p R')⟩
                | rt ov S3 =>
                  rw [e4] at h
                  intro v H' W' p i' s' r'
                  refine ⟨lk p, h v _ W' (unlock_post hH hz no p) (unlock_inw i' (p.zm a _ hz)) (lock_sto i' (p.zm a _ hz) s') ?_⟩
                  cases r' with
                  | fr r' => exact .fr r'
                  | @bo ov' a' o' e' r' =>
                    by_cases hb : a' = a
                    · subst hb
                      have : o' = .dK ws := by
                        have e0 := lk p
                        rcases e' with e' | ⟨ob, e'⟩
                        · rw [e0] at e'; cases e'
                          exact absurd r'.mut (by intro z; exact z)
                        · rw [e0] at e'; cases e'; rfl
                      subst this
                      exact .bo (.inl upd_same) r'
                    · refine .bo ?_ r'
                      rcases e' with e' | ⟨ob, e'⟩
                      · exact .inl (by rw [upd_ne hb]; exact e')
                      · exact .inr ⟨ob, by rw [upd_ne hb]; exact e'⟩
                  | @ow _ a' o' e' r' h5 h6 =>
                    have hb : a' ≠ a := by
                      rintro rfl
                      have := p.zm a' _ hz
                      rw [h5.2] at this; cases this
                    refine .ow (by rw [upd_ne hb]; exact e') r' h5 fun t => ?_
                    obtain ⟨g1, g2, g3⟩ := h6 t
                    refine ⟨g1, g2, ?_⟩
                    rcases g3 with g3 | g3
                    · exact .inl g3
                    · rw [upd_ne hb] at g3; exact .inr g3
                | ex y ρ3 S3 => 
                  exfalso
                  cases e5 : forGo (fun ρ S => execs cl wf b ρ S) g (itmD kvs) ρ S <;> (rw [e5] at e4; cases e4)
                | stk => rw [e4] at h; exact h.elim
              · exact .inl (forI_core R e2 hH no r h)
            · exact z.elim
          | tp => exact h.elim
        | _ => exact h.elim
      | _ => exact h.elim
  | _ => cases hT
end
end Sg
namespace Sg
open PySem PySem.Spec PyProof.Rows L2
section
variable {K : PySem.W.Frag} {ca : Str → Addr} {Wx : WX} {cl : Str → List D → Sto → Res} {c : CK} {X : Cx} {pos : Pos} {wf : Nat}
/-! ### what is never come to -/
theorem me_bad {x : Expr} : PE X x (tE K ca Wx cl .bad) := ⟨fun pins s σ H Q I ⟨W, ρ, S, R, h⟩ => h.elim⟩
theorem ms_bad {x : Stmt} : PS X x (tS K ca Wx cl wf .bad) := ⟨fun pins s σ H Q I ⟨W, ρ, S, R, h⟩ => h.elim⟩
/-! ### x[k] = y.pop() -/
theorem ms_setP (o : XOk K ca Wx cl c X) {i j : Nat} {x y : Str} {ke : E} {k : Expr} {p1 p2 p apos cpos : Pos} (hi : c.N[i]? = some x) (hv : visB c.sc x = true) (hn : nm x = true) (hs : notSl k = true) (hj : c.N[j]? = some y) (hv2 : visB c.sc y = true) (hn2 : nm y = true) (hl : (apos.endLine == cpos.line) = true) (hk : PE X k (tE K ca Wx cl ke)) :
    PS X (.Assign [.Subscript (.Name x p1) k p2] (.Call (.Attribute (.Name y p) "pop" apos) [] [] cpos) pos) (tS K ca Wx cl wf (.setP i ke j)) := by
  have pv : PE X (.Name x p1) _ := pe_var (i := i) (by rw [o.nn]; exact hi) (vis_of o hv) (nm_d hn) (nm_c hn)
  have kk := o.kk
  subst kk
  have few : ((backTo cpos (starEach [] X.env)).all (fun x => !x.1) && (backToKw cpos (keywordEach [] X.env)).all (fun x => x.1.isSome)
      && decide (([] : List Expr).length + ([] : List Keyword).length + (if ([] : List Keyword).isEmpty then 0 else 1) < 30)) = true := rfl
  obtain ⟨r, hr, h⟩ := pe_mc0 (pos := cpos) o (m := .pop) (.inl rfl)
  refine PSi (ps_asg (h (i := j) hj hv2 hn2 hl) (pg_sub pv hk (set_any (X := X) (by have := o.room; omega)) (by intro v; cases k <;> first | rfl | cases hs)) (swapsS_no rfl) (stores_no rfl)) fun En σ H ⟨W, ρ, S, R, h⟩ => ?_
  have h : AnsS X.K ca Wx W H En (match ρ[j]? with
    | some (some (.ol xs)) => (match mmO .pop (.ol xs) [] with
      | some (d, ov1) => (match (ρ.set j (some ov1))[i]? with
        | some (some ov) => (ev cl ke (ρ.set j (some ov1)) S).out (ρ.set j (some ov1)) fun q S3 => (match need false q with
          | some q => (match setO ov q d with
            | some ov2 => .nx ((ρ.set j (some ov1)).set i (some ov2)) S3
            | none => .stk)
          | none => .stk)
        | _ => .stk)
      | none => .stk)
    | _ => .stk) := h
  split at h
  · rename_i xs e1
    cases e5 : mmO .pop (.ol xs) [] with
    | none => rw [e5] at h; exact h.elim
    | some dd =>
      obtain ⟨d, ov1⟩ := dd
      rw [e5] at h
      have h : AnsS X.K ca Wx W H En (match (ρ.set j (some ov1))[i]? with
        | some (some ov) => (ev cl ke (ρ.set j (some ov1)) S).out (ρ.set j (some ov1)) fun q S3 => (match need false q with
          | some q => (match setO ov q d with
            | some ov2 => .nx ((ρ.set j (some ov1)).set i (some ov2)) S3
            | none => .stk)
          | none => .stk)
        | _ => .stk) := h
      obtain ⟨v, e2, q⟩ := R.sl.at_ j _ e1
      refine ⟨v, e2, ?_⟩
      rcases q with ⟨d', z, _⟩ | ⟨a, oo, z, l, e3, vs, rfl, rx⟩
      · cases z
      · subst z
        refine ⟨.inl ⟨rfl, vs, SqL.of e3⟩, ?_⟩
        refine hr W H a xs [] vs [] d ov1 _ R.inw e5 e3 rx rfl fun vd o2 rv r2 => ?_
        obtain ⟨p4, R4⟩ := mut_set (ov := .ol xs) .refl R l e2 r2
        split at h
        · rename_i ov e6
          obtain ⟨vo, e7, ro⟩ := R4.sl.at_ i ov e6
          refine ⟨vo, e7, W, ρ.set j (some ov1), S, R4, AnsS.bind R4 (h.move p4) fun q S3 vq H3 W3 e8 p3 R3 r3 h3 => ?_⟩
          cases e9 : need false q with
          | none => simp only [e9] at h3; exact h3.elim
          | some q' =>
            simp only [e9] at h3
            cases e10 : setO ov q' d with
            | none => simp only [e10] at h3; exact h3.elim
            | some ov2 =>
              simp only [e10] at h3
              have rq := r3.needF e9
              have rd3 := rv.post p3.p
              obtain ⟨vo', e7', ro'⟩ := R3.sl.at_ i ov e6
              rw [e7] at e7'
              cases e7'
              rcases ro' with ⟨d', z, _⟩ | ⟨b, u, z, l3, e11, r6⟩
              · subst z; cases e10
              · subst z
                refine set_sound R3.inw e10 e11 r6 rq rd3 fun o3 r3 => ?_
                obtain ⟨p5, R5⟩ := mut_set (ov := ov) p3.p R3 l3 e7 r3
                exact h3 σ _ W3 p5 R5
        · exact h.elim
  · exact h.elim
end
end Sg
namespace Sg
open PySem PySem.Spec PyProof.Rows L2
/-! ### equality of values, by computing -/
mutual
def D.beq : D → D → Bool
  | .non, .non => true
  | .bl a, .bl b => decide (a = b)
  | .int a, .int b => decide (a = b)
  | .str a, .str b => decide (a = b)
  | .tup a, .tup b => D.beqs a b
  | .ctup a, .ctup b => D.beqs a b
  | .lst a, .lst b => D.beqs a b
  | .ref a, .ref b => decide (a = b)
  | _, _ => false
def D.beqs : List D → List D → Bool
  | [], [] => true
  | a :: as, b :: bs => D.beq a b && D.beqs as bs
  | _, _ => false
end
mutual
theorem D.beq_eq : ∀ {a b : D}, D.beq a b = true → a = b
  | .non, b, h => by cases b <;> first | rfl | cases h
  | .bl x, b, h => by
    cases b with
    | bl y => rw [of_decide_eq_true (show decide (x = y) = true from h)]
    | _ => cases h
  | .int x, b, h => by
    cases b with
    | int y => rw [of_decide_eq_true (show decide (x = y) = true from h)]
    | _ => cases h
  | .str x, b, h => by
    cases b with
    | str y => rw [of_decide_eq_true (show decide (x = y) = true from h)]
    | _ => cases h
  | .tup x, b, h => by
    cases b with
    | tup y => rw [D.beqs_eq (a := x) (b := y) h]
    | _ => cases h
  | .ctup x, b, h => by
    cases b with
    | ctup y => rw [D.beqs_eq (a := x) (b := y) h]
    | _ => cases h
  | .lst x, b, h => by
    cases b with
    | lst y => rw [D.beqs_eq (a := x) (b := y) h]
    | _ => cases h
  | .ref x, b, h => by
    cases b with
    | ref y => rw [of_decide_eq_true (show decide (x = y) = true from h)]
    | _ => cases h
  | .dct _ _, b, h => by cases b <;> cases h
theorem D.beqs_eq : ∀ {a b : List D}, D.beqs a b = true → a = b
  | [], b, h => by cases b <;> first | rfl | cases h
  | x :: xs, b, h => by
    cases b with
    | nil => cases h
    | cons y ys =>
      have h : (D.beq x y && D.beqs xs ys) = true := h
      rw [Bool.and_eq_true] at h
      rw [D.beq_eq h.1, D.beqs_eq h.2]
end
section
variable {K : PySem.W.Frag} {ca : Str → Addr} {Wx : WX} {cl : Str → List D → Sto → Res} {c : CK} {X : Cx} {pos : Pos} {wf : Nat}
/-! ### the truth of a value, as a test -/
theorem isEmpty_rep {Z : Hp} {mu : Nat → Option Addr} {ds : List D} {vs : List V} (h : RepDs K Z mu ds vs) : vs.isEmpty = ds.isEmpty := by
  cases ds with
  | nil => cases h; rfl
  | cons d ds => obtain ⟨v, r, rfl, _, _⟩ := h; rfl
theorem tru_sound {W : Wd} {H : Hp} {d : D} {v : V} {b : Bool} (e : truO d = some b) (h : RepV K W H d v) : TruV K v H b := by
  cases d with
  | non => cases h; cases e; rfl
  | bl x => cases h; cases e; rfl
  | int x => cases h; cases e; rfl
  | str x =>
    cases h
    have e : (if x.length ≤ lim then some ((x.length : Int) != 0) else none) = some b := e
    split at e
    · rename_i hl; cases e; exact ⟨lim_le hl, rfl⟩
    · cases e
  | tup ds => obtain ⟨a, vs, rfl, s, _, r⟩ := h; cases e; exact .inr (.inl ⟨vs, SqT.of s, by rw [isEmpty_rep r]⟩)
  | ctup ds => obtain ⟨a, vs, rfl, s, r⟩ := h; cases e; exact .inr (.inl ⟨vs, SqTwr s, by rw [isEmpty_rep r]⟩)
  | lst ds => obtain ⟨a, vs, rfl, s, r⟩ := h; cases e; exact .inl ⟨vs, s, by rw [isEmpty_rep r]⟩
  | dct k kvs => cases e
  | ref x => cases e
def plainT : Expr → Bool
  | .UnaryOp .Not _ _ => false
  | .BoolOp .. => false
  | .IfExp .. => false
  | .Compare .. => false
  | _ => true
theorem plainT_ok {x : Expr} {env : Env} (h : plainT x = true) : ∀ whole, isTrue x env whole = (do let v ← whole; standAt x.pos; holding [v] (truthy v)) := by
  intro whole
  cases x with
  | UnaryOp op a p => cases op <;> first | rfl | cases h
  | _ => first | rfl | cases h
theorem mt_tru (o : XOk K ca Wx cl c X) {e : E} {x : Expr} (hp : plainT x = true) (ha : PE X x (tE K ca Wx cl e)) : PT X x (tB (tE K ca Wx cl (.tru e))) := by
  refine PTi (pt_truth ha (plainT_ok hp)) fun σ H Q ⟨W, ρ, S, R, h⟩ => ?_
  refine ⟨W, ρ, S, R, Ans.bind (α := OV) (rp := RepW K false W H) (q := quiet (.tru e)) (k := fun x S1 => (ofO S1 (truO x.view)).bind fun b S2 => Rs.ok (OV.fr (.bl b)) S2) h fun x S1 vx H1 W1 e1 p1 i1 s1 r1 q1 h1 => ?_⟩
  cases hb : truO x.view with
  | none => rw [hb] at h1; exact h1.elim
  | some b =>
    rw [hb] at h1
    obtain ⟨b', e2, q⟩ := h1 (.bl b) H1 W1 p1 i1 s1 (.fr rfl) q1
    cases e2
    exact ⟨b, by rw [o.kk]; exact tru_sound hb (r1.toV i1), q⟩
theorem mt_val (o : XOk K ca Wx cl c X) {e : E} {x : Expr} (hp : plainT x = true) (ha : PE X x (tE K ca Wx cl e)) : PT X x (tB (tE K ca Wx cl e)) := pt_val ha (plainT_ok hp)
/-! ### the check -/
def cstB (c : CK) (x : Str) (d : D) : Bool := match c.cst x with
  | some d' => D.beq d' d
  | none => false
theorem cstB_ok {x : Str} {d : D} (h : cstB c x d = true) : c.cst x = some d := by
  unfold cstB at h
  split at h
  · rename_i d' e; rw [e, D.beq_eq h]
  · cases h
def Eo.isNo : Eo → Bool
  | .no => true
  | _ => false
/-- the own names of a comprehension's block -/
def ownOf (N : List Str) : List Nat → List (Str × Nat)
  | [] => []
  | v :: vs => (match N[v]? with | some x => [(x, v)] | none => []) ++ ownOf N vs
mutual
def chE (c : CK) : E → Expr → Bool
  | .var i, x => match x with
    | .Name y _ => decide (c.N[i]? = some y) && visB c.sc y && nm y
    | _ => false
  | .int i, x => match x with
    | .Constant (.int j) _ _ => decide (i = j)
    | _ => false
  | .bl i, x => match x with
    | .Constant (.bool j) _ _ => decide (i = j)
    | _ => false
  | .non, x => match x with
    | .Constant .none _ _ => true
    | _ => false
  | .str i, x => match x with
    | .Constant (.str j) _ _ => decide (i = j)
    | _ => false
  | .cst y d, x => match x with
    | .Name z _ => decide (y = z) && glB c.sc z && nm z && cstB c z d
    | _ => false
  | .op o a b, x => match x with
    | .BinOp y op z _ => decide (binOf o = some op) && chE c a y && chE c b z
    | .Compare y [op] [z] _ => decide (cmpOf o = some op) && decide (behindInMarks op z = false) && chE c a y && chE c b z
    | _ => false
  | .cmp3 o1 o2 a b d, x => match x with
    | .Compare y [p1, p2] [z, w] _ => decide (cmpOf o1 = some p1) && decide (cmpOf o2 = some p2) && decide (lastMarks [p1, p2] [z, w] = false) && chE c a y && chE c b z && chE c d w
    | _ => false
  | .neg a, x => match x with
    | .UnaryOp .USub y _ => chE c a y
    | _ => false
  | .tru _, _ => false
  | .isN n a, x => match x with
    | .Compare y [op] [.Constant .none _ _] _ => decide (op = if n then .IsNot else .Is) && chE c a y
    | _ => false
  | .isB n a b, x => match x with
    | .Compare y [op] [.Constant (.bool d) _ _] _ => decide (op = if n then .IsNot else .Is) && decide (b = d) && chE c a y
    | _ => false
  | .and es, x => match x with
    | .BoolOp .And xs _ => chA c es xs
    | _ => false
  | .or es, x => match x with
    | .BoolOp .Or xs _ => chA c es xs
    | _ => false
  | .not a, x => match x with
    | .UnaryOp .Not y _ => chE c a y
    | _ => false
  | .ite t a b, x => match x with
    | .IfExp z y w _ => chT c t z && chE c a y && chE c b w
    | _ => false
  | .tup es, x => match x with
    | .Tuple xs _ _ => decide (xs.length ≤ 1000) && chEs c es xs
    | _ => false
  | .lst es, x => match x with
    | .List xs _ => decide (xs.length ≤ 1000) && chEs c es xs
    | _ => false
  | .dnew _, x => match x with
    | .Dict [] [] _ => true
    | _ => false
  | .idx a b, x => match x with
    | .Subscript y z _ => notSl z && chE c a y && chE c b z
    | _ => false
  | .sl a lo hi, x => match x with
    | .Subscript y (.Slice l h none _) _ => chE c a y && chO c lo l && chO c hi h
    | _ => false
  | .isT a T, x => match x with
    | .Call (.Name f _) [y, .Name g _] [] _ => decide (f = "isinstance") && decide (g = Str.ofString T.s) && notStar y && glB c.sc f && c.free f && glB c.sc g && c.free g && chE c a y
    | _ => false
  | .bi b es, x => match x with
    | .Call (.Name f _) (y :: ys) [] _ => decide (f = Str.ofString b.s) && noStars (y :: ys) && glB c.sc f && c.free f && chV c es (y :: ys)
    | _ => false
  | .bm a m es, x => match x with
    | .Call (.Attribute y f p1) (z :: zs) [] p2 => decide (f = Str.ofString (bmS m)) && bmOk m && noStars (z :: zs) && decide ((z :: zs).length < 20) && notSup y && (p1.endLine == p2.line) && chE c a y && chV c es (z :: zs)
    | _ => false
  | .call g es, x => match x with
    | .Call (.Name f _) ys [] _ => decide (f = g) && noStars ys && glB c.sc f && nm f && c.fns f && chEs c es ys
    | _ => false
  | .lc vs g it ce e, x => match x with
    | .ListComp elt [⟨tg, iter, ifs, asy⟩] scope _ => decide (asy = 0) && lcB c scope vs (ownOf c.N vs) g tg iter && chI c it tg iter && chIf (c.blk scope) ce ifs && chE (c.blk scope) e elt
    | _ => false
  | .fld _ _, _ => false
  | .meth _ _ _, _ => false
  | .make _ _, _ => false
  | .brw _ e, x => chE c e x
  | .cat a b, x => match x with
    | .BinOp y .Add z _ => chE c a y && chE c b z
    | _ => false
  | .rep a b, x => match x with
    | .BinOp y .Mult z _ => chE c a y && chE c b z
    | _ => false
  | .bad, _ => true
  | .dlt es, x => match x with
    | .Dict ks vs _ => !ks.isEmpty && decide (ks.length = vs.length) && decide (ks.length ≤ 15) && ks.all (·.isSome) && decide (es.len ≤ 30) && chD c es ks vs
    | _ => false
def chT (c : CK) : E → Expr → Bool
  | .brw _ e, x => chT c e x
  | .bm a m es, x => match x with
    | .Call (.Attribute y f p1) (z :: zs) [] p2 => decide (f = Str.ofString (bmS m)) && bmOk m && noStars (z :: zs) && decide ((z :: zs).length < 20) && notSup y && (p1.endLine == p2.line) && chE c a y && chV c es (z :: zs)
    | _ => false
  | .tru a, x => plainT x && chE c a x
  | .op o a b, x => match x with
    | .Compare y [op] [z] _ => decide (cmpOf o = some op) && decide (behindInMarks op z = false) && chE c a y && chE c b z
    | _ => false
  | .cmp3 o1 o2 a b d, x => match x with
    | .Compare y [p1, p2] [z, w] _ => decide (cmpOf o1 = some p1) && decide (cmpOf o2 = some p2) && decide (lastMarks [p1, p2] [z, w] = false) && chE c a y && chE c b z && chE c d w
    | _ => false
  | .isN n a, x => match x with
    | .Compare y [op] [.Constant .none _ _] _ => decide (op = if n then .IsNot else .Is) && chE c a y
    | _ => false
  | .isB n a b, x => match x with
    | .Compare y [op] [.Constant (.bool d) _ _] _ => decide (op = if n then .IsNot else .Is) && decide (b = d) && chE c a y
    | _ => false
  | .and es, x => match x with
    | .BoolOp .And xs _ => chB c es xs
    | _ => false
  | .or es, x => match x with
    | .BoolOp .Or xs _ => chB c es xs
    | _ => false
  | .not a, x => match x with
    | .UnaryOp .Not y _ => chT c a y
    | _ => false
  | .ite t a b, x => match x with
    | .IfExp z y w _ => chT c t z && chT c a y && chT c b w
    | _ => false
  | .var i, x => match x with
    | .Name y _ => decide (c.N[i]? = some y) && visB c.sc y && nm y
    | _ => false
  | .bl i, x => match x with
    | .Constant (.bool j) _ _ => decide (i = j)
    | _ => false
  | .idx a b, x => match x with
    | .Subscript y z _ => notSl z && chE c a y && chE c b z
    | _ => false
  | .isT a T, x => match x with
    | .Call (.Name f _) [y, .Name g _] [] _ => decide (f = "isinstance") && decide (g = Str.ofString T.s) && notStar y && glB c.sc f && c.free f && glB c.sc g && c.free g && chE c a y
    | _ => false
  | .bi b es, x => match x with
    | .Call (.Name f _) (y :: ys) [] _ => decide (f = Str.ofString b.s) && noStars (y :: ys) && glB c.sc f && c.free f && chV c es (y :: ys)
    | _ => false
  | .call g es, x => match x with
    | .Call (.Name f _) ys [] _ => decide (f = g) && noStars ys && glB c.sc f && nm f && c.fns f && chEs c es ys
    | _ => false
  | _, _ => false
/-- and, or: as values, as tests -/
def chA (c : CK) : Es → List Expr → Bool
  | .nil, _ => false
  | .cons e es, xs => match xs with
    | [] => false
    | x :: r => chE c e x && (match es with
      | .nil => r.isEmpty
      | .cons _ _ => chA c es r)
def chB (c : CK) : Es → List Expr → Bool
  | .nil, _ => false
  | .cons e es, xs => match xs with
    | [] => false
    | x :: r => chT c e x && (match es with
      | .nil => r.isEmpty
      | .cons _ _ => chB c es r)
/-- keys and values by turns -/
def chD (c : CK) : Es → List (Option Expr) → List Expr → Bool
  | .nil, ks, vs => ks.isEmpty && vs.isEmpty
  | .cons e es, ks, vs => match es with
    | .nil => false
    | .cons e2 es2 => match ks, vs with
      | some k :: ks, v :: vs => chE c e k && chE c e2 v && chD c es2 ks vs
      | _, _ => false
def chEs (c : CK) : Es → List Expr → Bool
  | .nil, xs => xs.isEmpty
  | .cons e es, xs => match xs with
    | [] => false
    | x :: r => notStar x && chE c e x && chEs c es r
def chV (c : CK) : Es → List Expr → Bool
  | .nil, xs => xs.isEmpty
  | .cons e es, xs => match xs with
    | [] => false
    | x :: r => notStar x && chE c e x && chV c es r
def chO (c : CK) : Eo → Option Expr → Bool
  | .no, x => x.isNone
  | .some e, x => match x with
    | some x => chE c e x
    | none => false
/-- the tests of a comprehension -/
def chIf (c : CK) : E → List Expr → Bool
  | .bl b, xs => b && xs.isEmpty
  | .tru a, xs => match xs with
    | [x] => plainT x && chE c a x
    | _ => false
  | .op o a b, xs => match xs with
    | [.Compare y [op] [z] _] => decide (cmpOf o = some op) && decide (behindInMarks op z = false) && chE c a y && chE c b z
    | _ => false
  | .isN n a, xs => match xs with
    | [.Compare y [op] [.Constant .none _ _] _] => decide (op = if n then .IsNot else .Is) && chE c a y
    | _ => false
  | .and es, xs => match xs with
    | [.BoolOp .And ys _] => chB c es ys
    | _ => false
  | .or es, xs => match xs with
    | [.BoolOp .Or ys _] => chB c es ys
    | _ => false
  | .not a, xs => match xs with
    | [.UnaryOp .Not y _] => chT c a y
    | _ => false
  | .call g es, xs => match xs with
    | [.Call (.Name f _) ys [] _] => decide (f = g) && noStars ys && glB c.sc f && nm f && c.fns f && chEs c es ys
    | _ => false
  | _, _ => false
def chI (c : CK) : It → Expr → Expr → Bool
  | .seq e, _, x => chE c e x
  | .rng es, _, x => match x with
    | .Call (.Name f _) ys [] _ => decide (f = "range") && noStars ys && glB c.sc f && c.free f && (decide (ys.length = 1) || decide (ys.length = 2) || decide (ys.length = 3)) && chEs c es ys
    | _ => false
  | .enm e, tg, x => match x with
    | .Call (.Name f _) [y] [] _ => decide (f = "enumerate") && notStar y && glB c.sc f && c.free f && (match tg with | .Tuple .. => true | _ => false) && chE c e y
    | _ => false
  | .zp a b, tg, x => match x with
    | .Call (.Name f _) [y, z] [] _ => decide (f = "zip") && noStars [y, z] && glB c.sc f && c.free f && (match tg with | .Tuple .. => true | _ => false) && chE c a y && chE c b z
    | _ => false
  | .itm _, _, _ => false
  | .vls _, _, _ => false
  | .rev _, _, _ => false
end
end
end Sg
namespace Sg
open PySem PySem.Spec PyProof.Rows L2
section
variable {K : PySem.W.Frag} {ca : Str → Addr} {cl : Str → List D → Sto → Res} {wf : Nat}
theorem and2 {a b : Bool} (h : (a && b) = true) : a = true ∧ b = true := by rwa [Bool.and_eq_true] at h
theorem and3 {a b d : Bool} (h : (a && b && d) = true) : a = true ∧ b = true ∧ d = true := by
  rw [Bool.and_eq_true, Bool.and_eq_true] at h; exact ⟨h.1.1, h.1.2, h.2⟩
theorem and4 {a b d e : Bool} (h : (a && b && d && e) = true) : a = true ∧ b = true ∧ d = true ∧ e = true := by
  have h1 := and2 h; have h2 := and3 h1.1; exact ⟨h2.1, h2.2.1, h2.2.2, h1.2⟩
theorem and5 {a b d e f : Bool} (h : (a && b && d && e && f) = true) : a = true ∧ b = true ∧ d = true ∧ e = true ∧ f = true := by
  have h1 := and2 h; have h2 := and4 h1.1; exact ⟨h2.1, h2.2.1, h2.2.2.1, h2.2.2.2, h1.2⟩
theorem and6 {a b d e f g : Bool} (h : (a && b && d && e && f && g) = true) : a = true ∧ b = true ∧ d = true ∧ e = true ∧ f = true ∧ g = true := by
  have h1 := and2 h; have h2 := and5 h1.1; exact ⟨h2.1, h2.2.1, h2.2.2.1, h2.2.2.2.1, h2.2.2.2.2, h1.2⟩
theorem and7 {a b d e f g i : Bool} (h : (a && b && d && e && f && g && i) = true) : a = true ∧ b = true ∧ d = true ∧ e = true ∧ f = true ∧ g = true ∧ i = true := by
  have h1 := and2 h; have h2 := and6 h1.1; exact ⟨h2.1, h2.2.1, h2.2.2.1, h2.2.2.2.1, h2.2.2.2.2.1, h2.2.2.2.2.2, h1.2⟩
theorem and8 {a b d e f g i j : Bool} (h : (a && b && d && e && f && g && i && j) = true) : a = true ∧ b = true ∧ d = true ∧ e = true ∧ f = true ∧ g = true ∧ i = true ∧ j = true := by
  have h1 := and2 h; have h2 := and7 h1.1; exact ⟨h2.1, h2.2.1, h2.2.2.1, h2.2.2.2.1, h2.2.2.2.2.1, h2.2.2.2.2.2.1, h2.2.2.2.2.2.2, h1.2⟩
abbrev dtr {p : Prop} [Decidable p] (h : decide p = true) : p := of_decide_eq_true h
theorem chEs_len : ∀ {es : Es} {xs : List Expr} {c : CK}, chEs c es xs = true → es.len = xs.length
  | .nil, xs, c, h => by
    cases xs with
    | nil => rfl
    | cons x r => cases h
  | .cons e es, xs, c, h => by
    cases xs with
    | nil => cases h
    | cons x r =>
      have h := and3 (show (notStar x && chE c e x && chEs c es r) = true from h)
      show es.len + 1 = r.length + 1
      rw [chEs_len h.2.2]
mutual
theorem chE_ok {c : CK} {X : Cx} {Wx : WX} (o : XOk K ca Wx cl c X) : ∀ (e : E) (x : Expr), chE c e x = true → PE X x (tE K ca Wx cl e)
  | .var i, x, h => by
    cases x with
    | Name y p => have h := and3 h; exact me_var o (dtr h.1) h.2.1 h.2.2
    | _ => cases h
  | .int i, x, h => by
    cases x with
    | Constant k j p =>
      cases k with
      | int j => cases dtr (p := i = j) h; exact me_int
      | _ => cases h
    | _ => cases h
  | .bl i, x, h => by
    cases x with
    | Constant k j p =>
      cases k with
      | bool j => cases dtr (p := i = j) h; exact me_bl
      | _ => cases h
    | _ => cases h
  | .non, x, h => by
    cases x with
    | Constant k j p =>
      cases k with
      | none => exact me_non
      | _ => cases h
    | _ => cases h
  | .str i, x, h => by
    cases x with
    | Constant k j p =>
      cases k with
      | str j => cases dtr (p := i = j) h; exact me_str
      | _ => cases h
    | _ => cases h
  | .cst y d, x, h => by
    cases x with
    | Name z p => have h := and4 h; cases dtr (p := y = z) h.1; exact me_cst o h.2.1 h.2.2.1 (cstB_ok h.2.2.2)
    | _ => cases h
  | .op p a b, x, h => by
    unfold chE at h
    split at h
    · have h := and3 h; exact me_bin o (dtr h.1) (chE_ok o a _ h.2.1) (chE_ok o b _ h.2.2)
    · have h := and4 h; exact me_cmp o (dtr h.1) (dtr h.2.1) (chE_ok o a _ h.2.2.1) (chE_ok o b _ h.2.2.2)
    · cases h
  | .cmp3 o1 o2 a b d, x, h => by
    unfold chE at h
    split at h
    · have h := and6 h; exact me_cmp3 o (dtr h.1) (dtr h.2.1) (dtr h.2.2.1) (chE_ok o a _ h.2.2.2.1) (chE_ok o b _ h.2.2.2.2.1) (chE_ok o d _ h.2.2.2.2.2)
    · cases h
  | .neg a, x, h => by
    unfold chE at h
    split at h
    · exact me_neg (chE_ok o a _ h)
    · cases h
  | .tru _, x, h => by cases h
  | .isN n a, x, h => by
    unfold chE at h
    split at h
    · have h := and2 h; exact me_isN (dtr h.1) (chE_ok o a _ h.2)
    · cases h
  | .isB n a b, x, h => by
    unfold chE at h
    split at h
    · have h := and3 h; cases dtr h.2.1; exact me_isB (dtr h.1) (chE_ok o a _ h.2.2)
    · cases h
  | .and es, x, h => by
    unfold chE at h
    split at h
    · exact chA_and o es _ _ h
    · cases h
  | .or es, x, h => by
    unfold chE at h
    split at h
    · exact chA_or o es _ _ h
    · cases h
  | .not a, x, h => by
    unfold chE at h
    split at h
    · exact me_not (chE_ok o a _ h)
    · cases h
  | .ite t a b, x, h => by
    unfold chE at h
    split at h
    · have h := and3 h; exact me_ite (chT_ok o t _ h.1) (chE_ok o a _ h.2.1) (chE_ok o b _ h.2.2)
    · cases h
  | .tup es, x, h => by
    unfold chE at h
    split at h
    · have h := and2 h; exact me_tup (dtr h.1) (fun ρ S ds S' e => (evs_len e).trans (chEs_len h.2)) (chEs_ok o es _ h.2)
    · cases h
  | .lst es, x, h => by
    unfold chE at h
    split at h
    · have h := and2 h; exact me_lst (dtr h.1) (fun ρ S ds S' e => (evs_len e).trans (chEs_len h.2)) (chEs_ok o es _ h.2)
    · cases h
  | .dnew _, x, h => by
    unfold chE at h
    split at h
    · exact me_dnew
    · cases h
  | .idx a b, x, h => by
    unfold chE at h
    split at h
    · have h := and3 h; exact me_idx o h.1 (chE_ok o a _ h.2.1) (chE_ok o b _ h.2.2)
    · cases h
  | .sl a lo hi, x, h => by
    unfold chE at h
    split at h
    · have h := and3 h; exact me_sl o (chE_ok o a _ h.1) (chO_ok o lo _ h.2.1) (chO_ok o hi _ h.2.2)
    · cases h
  | .isT a T, x, h => by
    unfold chE at h
    split at h
    · have h := and8 h; cases dtr h.1; cases dtr h.2.1; exact me_isT o h.2.2.1 h.2.2.2.1 h.2.2.2.2.1 h.2.2.2.2.2.1 h.2.2.2.2.2.2.1 (chE_ok o a _ h.2.2.2.2.2.2.2)
    · cases h
  | .bi b es, x, h => by
    unfold chE at h
    split at h
    · have h := and5 h; cases dtr h.1; exact me_bi o h.2.1 h.2.2.1 h.2.2.2.1 (chV_ok o es _ h.2.2.2.2)
    · cases h
  | .bm a m es, x, h => by
    unfold chE at h
    split at h
    · have h := and8 h
      cases dtr h.1
      exact me_bm o h.2.1 h.2.2.1 (dtr h.2.2.2.1) h.2.2.2.2.1 h.2.2.2.2.2.1 (chE_ok o a _ h.2.2.2.2.2.2.1) (chV_ok o es _ h.2.2.2.2.2.2.2)
    · cases h
  | .call g es, x, h => by
    unfold chE at h
    split at h
    · rename_i f p ys p2
      have h := and6 h
      cases dtr h.1
      cases ys with
      | nil =>
        cases es with
        | nil => exact me_call0 o h.2.2.1 h.2.2.2.1 h.2.2.2.2.1
        | cons e es => have := chEs_len h.2.2.2.2.2; cases this
      | cons y ys => exact me_call o h.2.1 h.2.2.1 h.2.2.2.1 h.2.2.2.2.1 (chEs_ok o es _ h.2.2.2.2.2)
    · cases h
  | .lc vs g it ce e, x, h => by
    unfold chE at h
    split at h
    · have h := and5 h; cases dtr h.1; exact me_lc o h.2.1 (chI_ok o it _ _ h.2.2.1) (fun {X'} o' => chIf_ok o' ce _ h.2.2.2.1) (fun {X'} o' => chE_ok o' e _ h.2.2.2.2)
    · cases h
  | .fld _ _, x, h => by cases h
  | .meth _ _ _, x, h => by cases h
  | .make _ _, x, h => by cases h
  | .brw _ e, x, h => me_brw (chE_ok o e x h)
  | .bad, x, h => me_bad
  | .cat a b, x, h => by
    unfold chE at h
    split at h
    · have h := and2 h; exact me_cat o (chE_ok o a _ h.1) (chE_ok o b _ h.2)
    · cases h
  | .rep a b, x, h => by
    unfold chE at h
    split at h
    · have h := and2 h; exact me_rep o (chE_ok o a _ h.1) (chE_ok o b _ h.2)
    · cases h
  | .dlt es, x, h => by
    unfold chE at h
    split at h
    · have h := and6 h
      obtain ⟨trs, h1, h2⟩ := chD_ok o es _ _ _ h.2.2.2.2.2
      exact me_dlt h1 h2 h.2.2.2.1 (dtr h.2.1) (by intro z; rw [z] at h; exact absurd h.1 (by decide)) (dtr h.2.2.1) (dtr h.2.2.2.2.1)
    · cases h
theorem chT_ok {c : CK} {X : Cx} {Wx : WX} (o : XOk K ca Wx cl c X) : ∀ (e : E) (x : Expr), chT c e x = true → PT X x (tB (tE K ca Wx cl e))
  | .tru a, x, h => by have h := and2 (show (plainT x && chE c a x) = true from h); exact mt_tru o h.1 (chE_ok o a _ h.2)
  | .brw _ e, x, h => mt_brw (chT_ok o e x h)
  | .var i, x, h => by
    cases x with
    | Name y p => have h := and3 h; exact mt_val o rfl (me_var o (dtr h.1) h.2.1 h.2.2)
    | _ => cases h
  | .bl i, x, h => by
    cases x with
    | Constant k j p =>
      cases k with
      | bool j => cases dtr (p := i = j) h; exact mt_val o rfl me_bl
      | _ => cases h
    | _ => cases h
  | .op p a b, x, h => by
    unfold chT at h
    split at h
    · have h := and4 h; exact mt_cmp o (dtr h.1) (dtr h.2.1) (chE_ok o a _ h.2.2.1) (chE_ok o b _ h.2.2.2)
    · cases h
  | .cmp3 o1 o2 a b d, x, h => by
    unfold chT at h
    split at h
    · have h := and6 h; exact mt_cmp3 o (dtr h.1) (dtr h.2.1) (dtr h.2.2.1) (chE_ok o a _ h.2.2.2.1) (chE_ok o b _ h.2.2.2.2.1) (chE_ok o d _ h.2.2.2.2.2)
    · cases h
  | .isN n a, x, h => by
    unfold chT at h
    split at h
    · have h := and2 h; exact mt_isN (dtr h.1) (chE_ok o a _ h.2)
    · cases h
  | .isB n a b, x, h => by
    unfold chT at h
    split at h
    · have h := and3 h; cases dtr h.2.1; exact mt_isB (dtr h.1) (chE_ok o a _ h.2.2)
    · cases h
  | .and es, x, h => by
    unfold chT at h
    split at h
    · exact PTi (chB_and o es _ _ h).pt fun _ _ _ z => z
    · cases h
  | .or es, x, h => by
    unfold chT at h
    split at h
    · exact PTi (chB_or o es _ _ h).pt fun _ _ _ z => z
    · cases h
  | .not a, x, h => by
    unfold chT at h
    split at h
    · exact mt_not (chT_ok o a _ h)
    · cases h
  | .ite t a b, x, h => by
    unfold chT at h
    split at h
    · have h := and3 h; exact mt_ite (chT_ok o t _ h.1) (chT_ok o a _ h.2.1) (chT_ok o b _ h.2.2)
    · cases h
  | .idx a b, x, h => by
    unfold chT at h
    split at h
    · have h := and3 h; exact mt_val o rfl (me_idx o h.1 (chE_ok o a _ h.2.1) (chE_ok o b _ h.2.2))
    · cases h
  | .isT a T, x, h => by
    unfold chT at h
    split at h
    · have h := and8 h; cases dtr h.1; cases dtr h.2.1; exact mt_val o rfl (me_isT o h.2.2.1 h.2.2.2.1 h.2.2.2.2.1 h.2.2.2.2.2.1 h.2.2.2.2.2.2.1 (chE_ok o a _ h.2.2.2.2.2.2.2))
    · cases h
  | .bi b es, x, h => by
    unfold chT at h
    split at h
    · have h := and5 h; cases dtr h.1; exact mt_val o rfl (me_bi o h.2.1 h.2.2.1 h.2.2.2.1 (chV_ok o es _ h.2.2.2.2))
    · cases h
  | .call g es, x, h => by
    unfold chT at h
    split at h
    · rename_i f p ys p2
      have h := and6 h
      cases dtr h.1
      cases ys with
      | nil =>
        cases es with
        | nil => exact mt_val o rfl (me_call0 o h.2.2.1 h.2.2.2.1 h.2.2.2.2.1)
        | cons e es => have := chEs_len h.2.2.2.2.2; cases this
      | cons y ys => exact mt_val o rfl (me_call o h.2.1 h.2.2.1 h.2.2.2.1 h.2.2.2.2.1 (chEs_ok o es _ h.2.2.2.2.2))
    · cases h
  | .int _, x, h => by cases h
  | .non, x, h => by cases h
  | .str _, x, h => by cases h
  | .cst _ _, x, h => by cases h
  | .neg _, x, h => by cases h
  | .tup _, x, h => by cases h
  | .lst _, x, h => by cases h
  | .dnew _, x, h => by cases h
  | .sl _ _ _, x, h => by cases h
  | .bm a m es, x, h => by
    unfold chT at h
    split at h
    · have h := and8 h
      cases dtr h.1
      exact mt_val o rfl (me_bm o h.2.1 h.2.2.1 (dtr h.2.2.2.1) h.2.2.2.2.1 h.2.2.2.2.2.1 (chE_ok o a _ h.2.2.2.2.2.2.1) (chV_ok o es _ h.2.2.2.2.2.2.2))
    · cases h
  | .lc _ _ _ _ _, x, h => by cases h
  | .fld _ _, x, h => by cases h
  | .meth _ _ _, x, h => by cases h
  | .make _ _, x, h => by cases h
  | .cat _ _, x, h => by cases h
  | .rep _ _, x, h => by cases h
  | .dlt _, x, h => by cases h
  | .bad, x, h => by cases h
theorem chD_ok {c : CK} {X : Cx} {Wx : WX} (o : XOk K ca Wx cl c X) : ∀ (es : Es) (ks : List (Option Expr)) (vs : List Expr) (pos : Pos), chD c es ks vs = true → ∃ trs, PPs X pos ks vs trs ∧ PrR K ca Wx cl es trs
  | .nil, ks, vs, pos, h => by
    have h := and2 (show (ks.isEmpty && vs.isEmpty) = true from h)
    cases ks with
    | nil =>
      cases vs with
      | nil => exact ⟨[], pps_nil, pr_nil⟩
      | cons _ _ => cases h.2
    | cons _ _ => cases h.1
  | .cons e .nil, ks, vs, pos, h => by cases h
  | .cons e (.cons e2 es), ks, vs, pos, h => by
    cases ks with
    | nil => cases h
    | cons k ks =>
      cases k with
      | none => cases h
      | some k =>
        cases vs with
        | nil => cases h
        | cons v vs =>
          have h := and3 (show (chE c e k && chE c e2 v && chD c es ks vs) = true from h)
          obtain ⟨trs, h1, h2⟩ := chD_ok o es ks vs pos h.2.2
          exact ⟨_, pps_cons (chE_ok o e k h.1) (chE_ok o e2 v h.2.1) h1, pr_cons h2⟩
theorem chA_and {c : CK} {X : Cx} {Wx : WX} (o : XOk K ca Wx cl c X) : ∀ (es : Es) (xs : List Expr) (pos : Pos), chA c es xs = true → PE X (.BoolOp .And xs pos) (tEA K ca Wx cl es)
  | .nil, xs, pos, h => by cases h
  | .cons e .nil, xs, pos, h => by
    cases xs with
    | nil => cases h
    | cons x r =>
      have h := and2 (show (chE c e x && r.isEmpty) = true from h)
      cases r with
      | nil => exact me_and1 (chE_ok o e _ h.1)
      | cons y r => cases h.2
  | .cons e (.cons e2 es), xs, pos, h => by
    cases xs with
    | nil => cases h
    | cons x r =>
      have h := and2 (show (chE c e x && chA c (.cons e2 es) r) = true from h)
      cases r with
      | nil => cases h.2
      | cons y r => exact me_andC (chE_ok o e _ h.1) (chA_and o (.cons e2 es) _ pos h.2)
theorem chA_or {c : CK} {X : Cx} {Wx : WX} (o : XOk K ca Wx cl c X) : ∀ (es : Es) (xs : List Expr) (pos : Pos), chA c es xs = true → PE X (.BoolOp .Or xs pos) (tER K ca Wx cl es)
  | .nil, xs, pos, h => by cases h
  | .cons e .nil, xs, pos, h => by
    cases xs with
    | nil => cases h
    | cons x r =>
      have h := and2 (show (chE c e x && r.isEmpty) = true from h)
      cases r with
      | nil => exact me_or1 (chE_ok o e _ h.1)
      | cons y r => cases h.2
  | .cons e (.cons e2 es), xs, pos, h => by
    cases xs with
    | nil => cases h
    | cons x r =>
      have h := and2 (show (chE c e x && chA c (.cons e2 es) r) = true from h)
      cases r with
      | nil => cases h.2
      | cons y r => exact me_orC (chE_ok o e _ h.1) (chA_or o (.cons e2 es) _ pos h.2)
theorem chB_and {c : CK} {X : Cx} {Wx : WX} (o : XOk K ca Wx cl c X) : ∀ (es : Es) (xs : List Expr) (pos : Pos), chB c es xs = true → PW X (.BoolOp .And xs pos) (tB (tEA K ca Wx cl es))
  | .nil, xs, pos, h => by cases h
  | .cons e .nil, xs, pos, h => by
    cases xs with
    | nil => cases h
    | cons x r =>
      have h := and2 (show (chT c e x && r.isEmpty) = true from h)
      cases r with
      | nil => exact mw_and1 (chT_ok o e _ h.1)
      | cons y r => cases h.2
  | .cons e (.cons e2 es), xs, pos, h => by
    cases xs with
    | nil => cases h
    | cons x r =>
      have h := and2 (show (chT c e x && chB c (.cons e2 es) r) = true from h)
      cases r with
      | nil => cases h.2
      | cons y r => exact mw_andC (chT_ok o e _ h.1) (chB_and o (.cons e2 es) _ pos h.2)
theorem chB_or {c : CK} {X : Cx} {Wx : WX} (o : XOk K ca Wx cl c X) : ∀ (es : Es) (xs : List Expr) (pos : Pos), chB c es xs = true → PW X (.BoolOp .Or xs pos) (tB (tER K ca Wx cl es))
  | .nil, xs, pos, h => by cases h
  | .cons e .nil, xs, pos, h => by
    cases xs with
    | nil => cases h
    | cons x r =>
      have h := and2 (show (chT c e x && r.isEmpty) = true from h)
      cases r with
      | nil => exact mw_or1 (chT_ok o e _ h.1)
      | cons y r => cases h.2
  | .cons e (.cons e2 es), xs, pos, h => by
    cases xs with
    | nil => cases h
    | cons x r =>
      have h := and2 (show (chT c e x && chB c (.cons e2 es) r) = true from h)
      cases r with
      | nil => cases h.2
      | cons y r => exact mw_orC (chT_ok o e _ h.1) (chB_or o (.cons e2 es) _ pos h.2)
theorem chEs_ok {c : CK} {X : Cx} {Wx : WX} (o : XOk K ca Wx cl c X) : ∀ (es : Es) (xs : List Expr), chEs c es xs = true → PA X xs (tEs K ca Wx cl es)
  | .nil, xs, h => by
    cases xs with
    | nil => exact ms_nil
    | cons x r => cases h
  | .cons e es, xs, h => by
    cases xs with
    | nil => cases h
    | cons x r =>
      have h := and3 (show (notStar x && chE c e x && chEs c es r) = true from h)
      exact ms_cons h.1 (chE_ok o e _ h.2.1) (chEs_ok o es _ h.2.2)
theorem chV_ok {c : CK} {X : Cx} {Wx : WX} (o : XOk K ca Wx cl c X) : ∀ (es : Es) (xs : List Expr), chV c es xs = true → PA X xs (tEv K ca Wx cl es)
  | .nil, xs, h => by
    cases xs with
    | nil => exact mv_nil
    | cons x r => cases h
  | .cons e es, xs, h => by
    cases xs with
    | nil => cases h
    | cons x r =>
      have h := and3 (show (notStar x && chE c e x && chV c es r) = true from h)
      exact mv_cons h.1 (chE_ok o e _ h.2.1) (chV_ok o es _ h.2.2)
theorem chO_ok {c : CK} {X : Cx} {Wx : WX} (o : XOk K ca Wx cl c X) : ∀ (e : Eo) (x : Option Expr), chO c e x = true → PO X x (tEo K ca Wx cl e)
  | .no, x, h => by
    cases x with
    | none => exact mo_no
    | some y => cases h
  | .some e, x, h => by
    cases x with
    | none => cases h
    | some y => exact mo_some (chE_ok o e _ h)
theorem chIf_ok {c : CK} {X : Cx} {Wx : WX} (o : XOk K ca Wx cl c X) : ∀ (e : E) (xs : List Expr), chIf c e xs = true → PTs X xs (tB (tE K ca Wx cl e))
  | .bl b, xs, h => by
    have h := and2 (show (b && xs.isEmpty) = true from h)
    cases xs with
    | nil => cases b with
      | true => exact pts_none
      | false => cases h.1
    | cons x r => cases h.2
  | .tru a, xs, h => by
    unfold chIf at h
    split at h
    · have h := and2 h; exact pts_one (mt_tru o h.1 (chE_ok o a _ h.2))
    · cases h
  | .op p a b, xs, h => by
    unfold chIf at h
    split at h
    · have h := and4 h; exact pts_one (mt_cmp o (dtr h.1) (dtr h.2.1) (chE_ok o a _ h.2.2.1) (chE_ok o b _ h.2.2.2))
    · cases h
  | .isN n a, xs, h => by
    unfold chIf at h
    split at h
    · have h := and2 h; exact pts_one (mt_isN (dtr h.1) (chE_ok o a _ h.2))
    · cases h
  | .and es, xs, h => by
    unfold chIf at h
    split at h
    · exact pts_one (PTi (chB_and o es _ _ h).pt fun _ _ _ z => z)
    · cases h
  | .or es, xs, h => by
    unfold chIf at h
    split at h
    · exact pts_one (PTi (chB_or o es _ _ h).pt fun _ _ _ z => z)
    · cases h
  | .not a, xs, h => by
    unfold chIf at h
    split at h
    · exact pts_one (mt_not (chT_ok o a _ h))
    · cases h
  | .call g es, xs, h => by
    unfold chIf at h
    split at h
    · rename_i f p ys p2
      have h := and6 h
      cases dtr h.1
      cases ys with
      | nil =>
        cases es with
        | nil => exact pts_one (mt_val o rfl (me_call0 o h.2.2.1 h.2.2.2.1 h.2.2.2.2.1))
        | cons e es => have := chEs_len h.2.2.2.2.2; cases this
      | cons y ys => exact pts_one (mt_val o rfl (me_call o h.2.1 h.2.2.1 h.2.2.2.1 h.2.2.2.2.1 (chEs_ok o es _ h.2.2.2.2.2)))
    · cases h
  | .var _, x, h => by cases h
  | .int _, x, h => by cases h
  | .non, x, h => by cases h
  | .str _, x, h => by cases h
  | .cst _ _, x, h => by cases h
  | .neg _, x, h => by cases h
  | .tup _, x, h => by cases h
  | .lst _, x, h => by cases h
  | .dnew _, x, h => by cases h
  | .sl _ _ _, x, h => by cases h
  | .bm _ _ _, x, h => by cases h
  | .lc _ _ _ _ _, x, h => by cases h
  | .fld _ _, x, h => by cases h
  | .meth _ _ _, x, h => by cases h
  | .make _ _, x, h => by cases h
  | .cmp3 _ _ _ _ _, x, h => by cases h
  | .isB _ _ _, x, h => by cases h
  | .cat _ _, x, h => by cases h
  | .rep _ _, x, h => by cases h
  | .dlt _, x, h => by cases h
  | .bad, x, h => by cases h
  | .brw _ _, x, h => by cases h
  | .ite _ _ _, x, h => by cases h
  | .idx _ _, x, h => by cases h
  | .isT _ _, x, h => by cases h
  | .bi _ _, x, h => by cases h
theorem chI_ok {c : CK} {X : Cx} {Wx : WX} (o : XOk K ca Wx cl c X) : ∀ (it : It) (tg x : Expr), chI c it tg x = true → PI X tg x (tEi K ca Wx cl it)
  | .seq e, tg, x, h => mi_seq o (chE_ok o e x h)
  | .rng es, tg, x, h => by
    unfold chI at h
    split at h
    · rename_i f p ys p2
      have h := and6 h
      cases dtr h.1
      have hl := chEs_len h.2.2.2.2.2
      match ys, h, hl with
      | [y], h, hl => exact mi_rng1 o hl (and2 (show (notStar y && true) = true from h.2.1)).1 h.2.2.1 h.2.2.2.1 (chEs_ok o es _ h.2.2.2.2.2)
      | [y, z], h, hl => exact mi_rng2 o hl h.2.1 h.2.2.1 h.2.2.2.1 (chEs_ok o es _ h.2.2.2.2.2)
      | [y, z, w], h, hl => exact mi_rng3 o hl h.2.1 h.2.2.1 h.2.2.2.1 (chEs_ok o es _ h.2.2.2.2.2)
      | [], h, _ => exact absurd h.2.2.2.2.1 (by decide)
      | _ :: _ :: _ :: _ :: _, h, _ =>
        have := h.2.2.2.2.1
        simp at this
    · cases h
  | .enm e, tg, x, h => by
    unfold chI at h
    split at h
    · have h := and6 h
      cases dtr h.1
      have ht := h.2.2.2.2.1
      split at ht
      · exact mi_enm o h.2.1 h.2.2.1 h.2.2.2.1 (ms_cons h.2.1 (chE_ok o e _ h.2.2.2.2.2) ms_nil)
      · cases ht
    · cases h
  | .zp a b, tg, x, h => by
    unfold chI at h
    split at h
    · rename_i f p y z p2
      have h := and7 h
      cases dtr h.1
      have ht := h.2.2.2.2.1
      have hs := and2 (show (notStar y && (notStar z && true)) = true from h.2.1)
      split at ht
      · exact mi_zp o h.2.1 h.2.2.1 h.2.2.2.1 (ms_cons hs.1 (chE_ok o a _ h.2.2.2.2.2.1) (ms_cons (and2 hs.2).1 (chE_ok o b _ h.2.2.2.2.2.2) ms_nil))
      · cases ht
    · cases h
  | .itm _, _, x, h => by cases h
  | .vls _, _, x, h => by cases h
  | .rev _, _, x, h => by cases h
end
end
end Sg
namespace Sg
open PySem PySem.Spec PyProof.Rows L2
section
variable {K : PySem.W.Frag} {ca : Str → Addr} {cl : Str → List D → Sto → Res} {wf : Nat}
/-- the value is not exchanged -/
def swB (c : CK) (x : Str) (p : Pos) (a : Expr) : Bool := match a with
  | .ListComp _ _ s q => (match c.sc.names.lookup x with | some .local => false | _ => true) || !(p.line == q.line) || (s.names.any fun (n, k) => n == x && (k == .local || k == .cell))
  | a => notComp a
theorem swB_no {c : CK} {X : Cx} {Wx : WX} (o : XOk K ca Wx cl c X) {x : Str} {p : Pos} {a : Expr} {l : Nat} (h : swB c x p a = true) : swapsWithSole [.Name x p] a l X.env = pure false := by
  unfold swB at h
  split at h
  · rename_i elt gs s q
    show swapsWith (.ListComp elt gs s q) (some (.Name x p)) l X.env = pure false
    rw [Bool.or_eq_true, Bool.or_eq_true] at h
    have key : (X.env.blockKind == .function && X.env.kindOf x == some .local && p.line == q.line && !(s.names.any fun (n, k) => n == x && (k == .local || k == .cell))) = false := by
      rcases h with (h | h) | h
      · have hk : (X.env.kindOf x == some NameKind.local) = false := by
          have : X.env.kindOf x = c.sc.names.lookup x := by rw [← o.scp]; rfl
          rw [this]
          split at h
          · cases h
          · rename_i hn
            cases q : c.sc.names.lookup x with
            | none => rfl
            | some k => cases k <;> first | rfl | exact absurd q hn
        rw [hk]; simp
      · have : (p.line == q.line) = false := by simpa using h
        rw [this]; simp
      · rw [h]; simp
    unfold swapsWith
    simp only [Expr.pos]
    show (pure (X.env.blockKind == .function && X.env.kindOf x == some .local && p.line == q.line && !(s.names.any fun (n, k) => n == x && (k == .local || k == .cell))) : Sem Bool) = pure false
    rw [key]
  · exact swapsS_no h
/-- name = value -/
def chN (c : CK) (e : E) (x : Str) (p : Pos) (a : Expr) : Bool := (swB c x p a && chE c e a) || (match e, a with
  | .lc vs g it ce e, .ListComp elt [⟨tg, iter, ifs, asy⟩] scope q => decide (asy = 0) && lcB c scope vs (ownOf c.N vs) g tg iter && (match c.sc.kind with | .function => true | _ => false) && decide (c.sc.names.lookup x = some .local) && (p.line == q.line) &&
      decide ((scope.names.any fun (n, k) => n == x && (k == .local || k == .cell)) = false) && chI c it tg iter && (chIf (c.blk scope) ce ifs && chE (c.blk scope) e elt)
  | _, _ => false)
theorem chN_ok {c : CK} {X : Cx} {Wx : WX} (o : XOk K ca Wx cl c X) {e : E} {i : Nat} {x : Str} {p pos : Pos} {a : Expr} (hi : locB c i x = true) (h : chN c e x p a = true) : PS X (.Assign [.Name x p] a pos) (tAsg (tE K ca Wx cl e) (gName i)) := by
  unfold chN at h
  rw [Bool.or_eq_true] at h
  rcases h with h | h
  · have h := and2 h
    exact ps_asg (chE_ok o e a h.2) (mg_one o hi) (swB_no o h.1) (stores_no rfl)
  · split at h
    · rename_i vs g it ce e elt tg iter ifs asy scope q
      have h := and8 h
      obtain ⟨h1, h2, h3, h4, h5, h6, h7, h8⟩ := h
      have h8 := and2 h8
      cases dtr h1
      have h2' := h2
      unfold lcB at h2
      simp only [Bool.and_eq_true, decide_eq_true_eq, List.all_eq_true] at h2
      obtain ⟨⟨⟨⟨b1, b2⟩, b3⟩, b4⟩, b5⟩ := h2
      have hk' : X.env.scope.kind = .function := by
        rw [o.scp]
        split at h3 <;> first | assumption | cases h3
      have hyl' : X.env.scope.names.lookup x = some .local := by rw [o.scp]; exact dtr h4
      refine PSi (ps_setLc (own := ownOf c.N vs) o.calm (by rw [o.nn]; exact o.nd) (by rw [o.nn]; exact locB_ix hi) hyl' (sw_true hk' hyl' h5 (dtr h6)) (chI_ok o it _ _ h7) (by rw [o.nn, o.scp]; exact blkOk_by b1) (fun s H C cs fp => mg_of (o.blk (scope := scope) (cs := cs) s H C fp) b3)
        (fun s H C cs fp => chIf_ok (o.blk (scope := scope) (cs := cs) s H C fp) ce _ h8.1) (fun s H C cs fp => chE_ok (o.blk (scope := scope) (cs := cs) s H C fp) e _ h8.2) (notSet_ok b4)) fun En σ H h => ?_
      have h : tE K ca Wx cl (.lc vs g it ce e) σ H _ := h
      show tLc _ _ _ _ _ σ H _
      rw [← b2]
      exact lc_sound b5 h
    · cases h
theorem asg_to {c : CK} {X : Cx} {Wx : WX} {i : Nat} {e : E} {En : Ends} {σ : L2.St} {H : Hp} (h : tS K ca Wx cl wf (.asg i e) En σ H) : tAsg (tE K ca Wx cl e) (gName i) En σ H := by
  obtain ⟨W, ρ, S, R, h⟩ := h
  refine asg_sound R h fun d S1 v H1 W1 p1 R1 rd h1 => ?_
  exact h1 _ _ W1 p1.p ⟨R1.inw, R1.sl.setF rd, R1.so⟩
mutual
def chS (c : CK) : St → Stmt → Bool
  | .asg i e, x => match x with
    | .Assign [.Name y p] a _ => locB c i y && chN c e y p a
    | _ => false
  | .own i e, x => match x with
    | .Assign [.Name y p] a _ => locB c i y && chN c e y p a
    | _ => false
  | .asgT is e, x => match x with
    | .Assign [tg] a _ => isTupE tg && tgB c (.many is) tg && notComp a && notTup a && chE c e a
    | _ => false
  | .par _ _, _ => false
  | .setI i k e, x => match x with
    | .Assign [.Subscript (.Name y _) z _] a _ => decide (c.N[i]? = some y) && visB c.sc y && nm y && notSl z && notComp a && chE c k z && chE c e a
    | _ => false
  | .setS i lo hi e, x => match x with
    | .Assign [.Subscript (.Name y _) (.Slice l u none _) _] a _ => decide (c.N[i]? = some y) && visB c.sc y && nm y && notComp a && chO c lo l && chO c hi u && chE c e a
    | _ => false
  | .mc t i m es, x => match x with
    | .Expr (.Call (.Attribute (.Name y _) z p1) [] [] p2) _ => decide (t = none) && (decide (m = .pop) || decide (m = .clear) || decide (m = .reverse)) && decide (z = Str.ofString (mmS m)) && decide (c.N[i]? = some y) && visB c.sc y && nm y && (p1.endLine == p2.line) && decide (es.len = 0)
    | .Expr (.Call (.Attribute (.Name y _) z p1) [a] [] p2) _ => decide (t = none) && (decide (m = .append) || decide (m = .extend)) && decide (z = Str.ofString (mmS m)) && decide (c.N[i]? = some y) && visB c.sc y && nm y && (p1.endLine == p2.line) && chEs c es [a]
    | .Assign [.Name w _] (.Call (.Attribute (.Name y _) z p1) [] [] p2) _ => (match t with | some j => locB c j w | none => false) && (decide (m = .pop) || decide (m = .clear) || decide (m = .reverse)) && decide (z = Str.ofString (mmS m)) && decide (c.N[i]? = some y) && visB c.sc y && nm y && (p1.endLine == p2.line) && decide (es.len = 0)
    | _ => false
  | .setM _ _ _ _ _, _ => false
  | .aug i o e, x => match x with
    | .AugAssign (.Name y _) op a _ => locB c i y && ((decide (op = .Add) && decide (o = .add)) || (decide (op = .Sub) && decide (o = .sub))) && chE c e a
    | _ => false
  | .augI i k o e, x => match x with
    | .AugAssign (.Subscript (.Name y _) z _) op a _ => ((decide (op = .Add) && decide (o = .add)) || (decide (op = .Sub) && decide (o = .sub))) && decide (c.N[i]? = some y) && visB c.sc y && nm y && notSl z && chE c k z && chE c e a
    | _ => false
  | .ite t a b, x => match x with
    | .If y u v _ => chT c t y && chSs c a u && chSs c b v
    | _ => false
  | .for g it b, x => match x with
    | .For tg iter u [] _ => tgB c g tg && notSet iter && chI c it tg iter && chSs c b u
    | _ => false
  | .while t b, x => match x with
    | .While y u [] _ => chT c t y && chSs c b u
    | _ => false
  | .ret e, x => match x with
    | .Return (some (.Name y _)) _ => (match e with
      | .var i => decide (c.N[i]? = some y) && visB c.sc y && nm y
      | .cst z d => decide (z = y) && glB c.sc y && nm y && cstB c y d
      | _ => false)
    | .Return (some a) _ => !isVar e && chE c e a
    | _ => false
  | .retN, x => match x with
    | .Return none _ => true
    | _ => false
  | .expr e, x => match x with
    | .Expr a _ => notComp a && chE c e a
    | _ => false
  | .brk, x => match x with
    | .Break _ => true
    | _ => false
  | .cont, x => match x with
    | .Continue _ => true
    | _ => false
  | .pass, x => match x with
    | .Pass _ => true
    | .Expr (.Constant (.str _) _ _) _ => true
    | _ => false
  | .frz _, _ => false
  | .bad, _ => true
  | .setP i k j, x => match x with
    | .Assign [.Subscript (.Name y _) z _] (.Call (.Attribute (.Name w _) u p1) [] [] p2) _ => decide (u = "pop") && decide (c.N[i]? = some y) && visB c.sc y && nm y && notSl z && decide (c.N[j]? = some w) && (visB c.sc w && nm w && (p1.endLine == p2.line) && chE c k z)
    | _ => false
  | .raise _ _, _ => false
  | .fldI _ _ _, _ => false
  | .fldO _ _ _, _ => false
  | .fldM _ _ _ _, _ => false
  | .fldK _ _ _ _, _ => false
  | .forI g i b, x => match x with
    | .For tg (.Call (.Attribute (.Name y _) z p1) [] [] p2) u [] _ => tgB c g tg && isTupE tg && decide (z = "items") && decide (c.N[i]? = some y) && visB c.sc y && nm y && (p1.endLine == p2.line) && chSs c b u
    | _ => false
  | .mcE e m es, x => match x with
    | .Expr (.Call (.Attribute y z p1) [a] [] p2) _ => (decide (m = .append) || decide (m = .extend)) && decide (z = Str.ofString (mmS m)) && notSup y && (p1.endLine == p2.line) && chE c e y && chEs c es [a]
    | _ => false
def chSs (c : CK) : Sts → List Stmt → Bool
  | .nil, xs => xs.isEmpty
  | .cons s r, xs => (match s with
    | .frz _ => chSs c r xs
    | _ => false) || (match xs with
    | [] => false
    | x :: ys => chS c s x && chSs c r ys)
end
theorem m0_of {m : Mm} (h : (decide (m = .pop) || decide (m = .clear) || decide (m = .reverse)) = true) : m = .pop ∨ m = .clear ∨ m = .reverse := by
  cases m <;> first | exact .inl rfl | exact .inr (.inl rfl) | exact .inr (.inr rfl) | cases h
theorem m1_of {m : Mm} (h : (decide (m = .append) || decide (m = .extend)) = true) : m = .append ∨ m = .extend := by
  cases m <;> first | exact .inl rfl | exact .inr rfl | cases h
theorem len0 {es : Es} (h : es.len = 0) : es = .nil := by
  cases es with
  | nil => rfl
  | cons e es => cases h
mutual
theorem chS_ok {c : CK} {X : Cx} {Wx : WX} (o : XOk K ca Wx cl c X) : ∀ (s : St) (x : Stmt), chS c s x = true → PS X x (tS K ca Wx cl wf s)
  | .asg i e, x, h => by
    unfold chS at h
    split at h
    · have h := and2 h; exact PSi (chN_ok o h.1 h.2) fun En σ H h => asg_to (c := c) (X := X) h
    · cases h
  | .own i e, x, h => by
    unfold chS at h
    split at h
    · have h := and2 h; exact PSi (chN_ok o h.1 h.2) fun En σ H h => own_sound h
    · cases h
  | .asgT is e, x, h => by
    unfold chS at h
    split at h
    · have h := and5 h; exact ms_asgT o h.2.1 h.2.2.1 h.2.2.2.1 (chE_ok o e _ h.2.2.2.2)
    · cases h
  | .par _ _, x, h => by cases h
  | .setI i k e, x, h => by
    unfold chS at h
    split at h
    · have h := and7 h; exact ms_setI o (dtr h.1) h.2.1 h.2.2.1 h.2.2.2.1 h.2.2.2.2.1 (chE_ok o k _ h.2.2.2.2.2.1) (chE_ok o e _ h.2.2.2.2.2.2)
    · cases h
  | .setS i lo hi e, x, h => by
    unfold chS at h
    split at h
    · have h := and7 h; exact ms_setS o (dtr h.1) h.2.1 h.2.2.1 h.2.2.2.1 (chO_ok o lo _ h.2.2.2.2.1) (chO_ok o hi _ h.2.2.2.2.2.1) (chE_ok o e _ h.2.2.2.2.2.2)
    · cases h
  | .mc t i m es, x, h => by
    unfold chS at h
    split at h
    · have h := and8 h
      obtain ⟨h1, h2, h3, h4, h5, h6, h7, h8⟩ := h
      cases dtr h1; cases dtr h3
      cases len0 (dtr h8)
      exact ms_mc0 o (m0_of h2) (dtr h4) h5 h6 h7
    · have h := and8 h
      obtain ⟨h1, h2, h3, h4, h5, h6, h7, h8⟩ := h
      cases dtr h1; cases dtr h3
      cases es with
      | nil => cases h8
      | cons e es =>
        have h8 := and3 (show (notStar _ && chE c e _ && chEs c es []) = true from h8)
        cases es with
        | nil => exact ms_mc1 o (m1_of h2) (dtr h4) h5 h6 h8.1 h7 (chE_ok o e _ h8.2.1)
        | cons _ _ => cases h8.2.2
    · have h := and8 h
      obtain ⟨h1, h2, h3, h4, h5, h6, h7, h8⟩ := h
      cases dtr h3
      cases len0 (dtr h8)
      cases t with
      | none => cases h1
      | some j => exact ms_mc0a o (m0_of h2) h1 (dtr h4) h5 h6 h7
    · cases h
  | .setM _ _ _ _ _, x, h => by cases h
  | .aug i op e, x, h => by
    unfold chS at h
    split at h
    · have h := and3 h
      refine ms_aug o h.1 ?_ (chE_ok o e _ h.2.2)
      rw [Bool.or_eq_true] at h
      rcases h.2.1 with z | z
      · have z := and2 z; exact .inl ⟨dtr z.1, dtr z.2⟩
      · have z := and2 z; exact .inr ⟨dtr z.1, dtr z.2⟩
    · cases h
  | .augI i k op e, x, h => by
    unfold chS at h
    split at h
    · have h := and7 h
      refine ms_augI o ?_ (dtr h.2.1) h.2.2.1 h.2.2.2.1 h.2.2.2.2.1 (chE_ok o k _ h.2.2.2.2.2.1) (chE_ok o e _ h.2.2.2.2.2.2)
      have h1 := h.1
      rw [Bool.or_eq_true] at h1
      rcases h1 with z | z
      · have z := and2 z; exact .inl ⟨dtr z.1, dtr z.2⟩
      · have z := and2 z; exact .inr ⟨dtr z.1, dtr z.2⟩
    · cases h
  | .ite t a b, x, h => by
    unfold chS at h
    split at h
    · have h := and3 h; exact ms_ite (chT_ok o t _ h.1) (chSs_ok o a _ h.2.1) (chSs_ok o b _ h.2.2)
    · cases h
  | .for g it b, x, h => by
    unfold chS at h
    split at h
    · have h := and4 h; exact ms_for o h.1 h.2.1 (chI_ok o it _ _ h.2.2.1) (chSs_ok o b _ h.2.2.2)
    · cases h
  | .while t b, x, h => by
    unfold chS at h
    split at h
    · have h := and2 h; exact ms_while o (chT_ok o t _ h.1) (chSs_ok o b _ h.2)
    · cases h
  | .ret e, x, h => by
    unfold chS at h
    split at h
    · split at h
      · have h := and3 h; exact ms_retV o (dtr h.1) h.2.1 h.2.2
      · have h := and4 h; cases dtr h.1; exact ms_ret rfl (me_cst o h.2.1 h.2.2.1 (cstB_ok h.2.2.2))
      · cases h
    · have h := and2 h
      exact ms_ret (by simpa using h.1) (chE_ok o e _ h.2)
    · cases h
  | .retN, x, h => by
    unfold chS at h
    split at h
    · exact ms_retN
    · cases h
  | .expr e, x, h => by
    unfold chS at h
    split at h
    · have h := and2 h; exact ms_expr h.1 (chE_ok o e _ h.2)
    · cases h
  | .brk, x, h => by
    unfold chS at h
    split at h
    · exact ms_brk
    · cases h
  | .cont, x, h => by
    unfold chS at h
    split at h
    · exact ms_cont
    · cases h
  | .pass, x, h => by
    unfold chS at h
    split at h
    · exact ms_pass
    · exact ms_doc
    · cases h
  | .frz _, x, h => by cases h
  | .bad, x, h => ms_bad
  | .setP i k j, x, h => by
    unfold chS at h
    split at h
    · have h := and7 h
      obtain ⟨h1, h2, h3, h4, h5, h6, h7⟩ := h
      have h7 := and4 h7
      cases dtr h1
      exact ms_setP o (dtr h2) h3 h4 h5 (dtr h6) h7.1 h7.2.1 h7.2.2.1 (chE_ok o k _ h7.2.2.2)
    · cases h
  | .raise _ _, x, h => by cases h
  | .fldI _ _ _, x, h => by cases h
  | .fldO _ _ _, x, h => by cases h
  | .fldM _ _ _ _, x, h => by cases h
  | .fldK _ _ _ _, x, h => by cases h
  | .forI g i b, x, h => by
    unfold chS at h
    split at h
    · have h := and8 h
      cases dtr h.2.2.1
      exact ms_forI o h.1 h.2.1 (dtr h.2.2.2.1) h.2.2.2.2.1 h.2.2.2.2.2.1 h.2.2.2.2.2.2.1 (chSs_ok o b _ h.2.2.2.2.2.2.2)
    · cases h
  | .mcE e m es, x, h => by
    unfold chS at h
    split at h
    · have h := and6 h
      obtain ⟨h2, h3, h4, h5, h6, h7⟩ := h
      cases dtr h3
      cases es with
      | nil => cases h7
      | cons e2 es =>
        have h7 := and3 (show (notStar _ && chE c e2 _ && chEs c es []) = true from h7)
        cases es with
        | nil => exact ms_mcE o (m1_of h2) h4 h7.1 h5 (chE_ok o e _ h6) (chE_ok o e2 _ h7.2.1)
        | cons _ _ => cases h7.2.2
    · cases h
theorem chSs_ok {c : CK} {X : Cx} {Wx : WX} (o : XOk K ca Wx cl c X) : ∀ (s : Sts) (xs : List Stmt), chSs c s xs = true → PSs X xs (tSs K ca Wx cl wf s)
  | .nil, xs, h => by
    cases xs with
    | nil => exact mss_nil
    | cons x r => cases h
  | .cons s r, xs, h => by
    unfold chSs at h
    rw [Bool.or_eq_true] at h
    rcases h with h | h
    · split at h
      · exact mss_frz (chSs_ok o r _ h)
      · cases h
    · cases xs with
      | nil => cases h
      | cons x ys =>
        have h := and2 (show (chS c s x && chSs c r ys) = true from h)
        exact mss_cons (chS_ok o s x h.1) (chSs_ok o r ys h.2)
end
end
end Sg
namespace Sg
open PySem PySem.Spec PyProof.Rows L2
/-- what all bodies share -/
structure GK where
  fns : Str → Bool
  free : Str → Bool
  cst : Str → Option D
/-- a def's own part of the check -/
structure FI where
  N : List Str
  ps : List Str
  fn : Fn
  args : Arguments
  body : List Stmt
  sc : Scope
def FI.ck (g : GK) (i : FI) : CK := ⟨i.N, i.sc, g.fns, g.free, g.cst, true⟩
/-- what is asked of a def, by computing -/
structure FI.Ok (g : GK) (i : FI) : Prop where
  sc : FnScope i.N i.ps i.sc
  pl : i.ps.length = i.fn.ps
  nl : i.N.length = i.fn.ns
  bd : chSs (i.ck g) i.fn.body i.body = true
section
variable {P : Program} {w : World} {K : PySem.W.Frag} {mg : Str → Option Value} {base : Heap} {ca : Str → Addr} {wf : Nat}
theorem start_slots {W : Wd} {H : Hp} {i : FI} {ds : List D} {vs : List V} (hN : i.N.length = i.fn.ns) (hl : ds.length = i.fn.ps) (r : RepDs K W.Z W.mu ds vs) : Slots K W H (startR i.fn ds) (L2.start i.N vs) := by
  have hv := r.length
  refine ⟨?_, fun j ov e => ?_⟩
  · unfold startR L2.start
    rw [List.length_append, List.length_append, List.length_map, List.length_map, List.length_replicate, List.length_replicate, hv, hN, hl]
  · unfold startR at e
    unfold L2.start
    by_cases hj : j < ds.length
    · rw [List.getElem?_append_left (by rw [List.length_map]; exact hj), List.getElem?_map] at e
      rw [List.getElem?_eq_getElem hj] at e
      cases e
      obtain ⟨v, e1, r1⟩ := r.get (List.getElem?_eq_getElem hj)
      refine ⟨v, ?_, .inl ⟨_, rfl, r1⟩⟩
      rw [List.getElem?_append_left (by rw [List.length_map, hv]; exact hj), List.getElem?_map, e1]
      rfl
    · rw [List.getElem?_append_right (by rw [List.length_map]; omega), List.getElem?_replicate] at e
      split at e <;> cases e
/-- a body keeps the promise -/
theorem body_ok {cl : Str → List D → Sto → Res} {i : FI} {q x : Str} {fa : Addr} {fd : FuncData} {g : GK} {k : Nat} (F : FunD K x q i.args i.body i.sc [] [] fa fd) (o : i.Ok g)
    (hx : ∀ (cdv : Value) (A : Around) (outer : List Env) (s : Shared) (H : Hp) (E : XK), Room k (A.deeper (envOfC q i.sc s.heap.objs.size fa cdv)) →
      XOk K ca (fun cls d _ H => E cls d H) cl (i.ck g) (cxOf (L2.CX P w) P w K mg base i.N q i.sc fa cdv A outer s H E)) :
    FnOk P w K mg base (L2.CX P w) (k + 1) fa fd i.ps (spOf K ca i.ps.length fun ds S => (execs cl wf i.fn.body (startR i.fn ds) S).res) := by
  refine F.ok o.sc (fun vs H Q E h => ?_) (fun cdv A outer s H vs Q E hr h => ?_)
  · obtain ⟨W, S, ds, _, _, _, r, hl, _⟩ := h
    rw [r.length, hl]
  · obtain ⟨W, S, ds, I, hL, so, r, hl, h⟩ := h
    refine ⟨_, chSs_ok (wf := wf) (hx cdv A outer s H E hr) i.fn.body i.body o.bd, W, startR i.fn ds, S, ⟨I, start_slots o.nl (hl.trans o.pl) r, so⟩, ?_⟩
    dsimp only at h
    cases e : execs cl wf i.fn.body (startR i.fn ds) S with
    | nx ρ S' => rw [e] at h; exact fun σ' H' W' p R => h .non H' W' p R.inw R.so (.fr rfl)
    | rt ov S' => rw [e] at h; exact fun v H' W' p I so r => h v H' W' p I so r
    | bk ρ S' => rw [e] at h; exact h.elim
    | ct ρ S' => rw [e] at h; exact h.elim
    | ex x ρ S' => rw [e] at h; exact fun cls dx σ' H' W' p R r => h cls dx H' W' p R.inw R.so r
    | stk => rw [e] at h; exact h.elim
/-- a table of defs -/
structure Tab (K : PySem.W.Frag) (mg : Str → Option Value) (ca : Str → Addr) (g : GK) (G : Str → Option Fn) where
  fi : ∀ f fn, G f = some fn → ∃ (i : FI) (q x : Str) (fa : Addr) (fd : FuncData), i.fn = fn ∧ FunD K x q i.args i.body i.sc [] [] fa fd ∧ i.Ok g ∧ mg f = some (.ref fa) ∧ Binds K fd i.ps []
  fns : ∀ f, g.fns f = true → ∃ fn, G f = some fn
  free : ∀ x, g.free x = true → mg x = none
  cst : ∀ x d, g.cst x = some d → ∃ u v, mg x = some u ∧ RelV v u ∧ ∀ Z mu, RepD K Z mu d v
theorem spOf_congr {n : Nat} {f f' : List D → Sto → Res} (h : ∀ ds S, ds.length = n → f' ds S = f ds S) : ∀ vs H Q E, spOf K ca n f' vs H Q E → spOf K ca n f vs H Q E := by
  rintro vs H Q E ⟨W, S, ds, I, hL, so, r, hl, q⟩
  rw [h ds S hl] at q
  exact ⟨W, S, ds, I, hL, so, r, hl, q⟩
/-- each def keeps its promise, however deep -/
theorem tab_ok {g : GK} {G : Str → Option Fn} (T : Tab K mg ca g G) : ∀ (n : Nat) (f : Str) (i : FI) (q x : Str) (fa : Addr) (fd : FuncData), G f = some i.fn → FunD K x q i.args i.body i.sc [] [] fa fd → i.Ok g →
    FnOk P w K mg base (L2.CX P w) n fa fd i.ps (spOf K ca i.ps.length (run G wf n f))
  | 0, f, i, q, x, fa, fd, hG, F, o => by
    refine ⟨fun vs H Q E h => ?_, fun A outer s H args us vs Q E hr he hb hv h => ?_⟩
    · obtain ⟨W, S, ds, _, _, _, _, _, h⟩ := h
      exact h.elim
    · obtain ⟨W, S, ds, _, _, _, _, _, h⟩ := h
      exact h.elim
  | n + 1, f, i, q, x, fa, fd, hG, F, o => by
    refine (body_ok (cl := run G wf n) (wf := wf) F o fun cdv A outer s H E hr => ?_).imp (spOf_congr fun ds S hl => ?_)
    · refine ⟨rfl, rfl, o.sc.nd, rfl, rfl, takes_of rfl rfl rfl rfl, ?_, passes_of rfl, fun _ _ => rfl, T.free, T.cst, fun f' hf => ?_⟩
      · have := hr.un
        show (A.deeper _).units + 200 < cLine
        omega
      · obtain ⟨fn', hG'⟩ := T.fns f' hf
        obtain ⟨i', q', x', fa', fd', e', F', o', m', b'⟩ := T.fi f' fn' hG'
        subst e'
        refine ⟨n, fa', fd', i'.ps, m', F'.kp, b', tab_ok T n f' i' q' x' fa' fd' hG' F' o', hr, fun ds S hne => ?_⟩
        cases n with
        | zero => rfl
        | succ n =>
          show (match G f' with | some fn => if ds.length = fn.ps then (execs (run G wf n) wf fn.body (startR fn ds) S).res else .stk | none => .stk) = .stk
          rw [hG']
          show (if ds.length = i'.fn.ps then _ else _) = _
          rw [if_neg (by rw [← o'.pl]; exact hne)]
    · show (match G f with | some fn => if ds.length = fn.ps then (execs (run G wf n) wf fn.body (startR fn ds) S).res else .stk | none => .stk) = _
      rw [hG]
      show (if ds.length = i.fn.ps then _ else _) = _
      rw [if_pos (by rw [← o.pl]; exact hl)]
/-- the world of the script alone -/
def Wd.top (a : Addr) (o : Option HO) : Wd := ⟨fun b => if b = a then o else none, fun _ => none, fun _ => none, fun _ => none, fun _ => none⟩
theorem ints_rep {Z : Hp} {mu : Nat → Option Addr} : ∀ ns : List Int, RepDs K Z mu (ns.map D.int) (ns.map V.int)
  | [] => rfl
  | n :: ns => ⟨.int n, _, rfl, rfl, ints_rep ns⟩
theorem law_sp {f : List D → Sto → Res} {n : Nat} (h : ∀ ns : List Int, ns.length ≤ n → ∃ S', f [.lst (ns.map D.int)] Sto.emp = .ok (.fr (.bl true)) S') (H : Hp) (a : Addr) (ns : List Int) (hl : ns.length ≤ n) (hS : SqL K H a (ns.map V.int)) :
    spOf K ca 1 f [.ref a] H (fun v _ => v = .bl true) fun _ _ _ => False := by
  obtain ⟨S', e⟩ := h ns hl
  have key : ∃ o : Option HO, (∀ u, o = some u → H a = some u) ∧ SqL K (fun b => if b = a then o else none) a (ns.map V.int) := by
    rcases hS with (hS | ⟨ob, hS⟩) | hS
    · exact ⟨some _, fun u e => by cases e; exact hS, .inl (.inl (by show (if a = a then _ else none) = _; rw [if_pos rfl]))⟩
    · exact ⟨some _, fun u e => by cases e; exact hS, .inl (.inr ⟨ob, by show (if a = a then _ else none) = _; rw [if_pos rfl]⟩)⟩
    · exact ⟨none, nofun, .inr hS⟩
  obtain ⟨o, ho, sq⟩ := key
  have no : ∀ b, ¬ (Wd.top a o).own b := fun b z => z.elim (fun q => q rfl) fun q => q rfl
  refine ⟨Wd.top a o, Sto.emp, [.lst (ns.map D.int)], ⟨fun b u q => ?_, fun b u q => no b, fun b i q => (by cases q), fun b z => absurd z (no b), fun b u q => (by cases q), fun b z => absurd z (no b)⟩, fun _ => rfl, ⟨fun c x q => ?_, fun c b q => (by cases q)⟩, ⟨.ref a, [], rfl, ⟨a, _, rfl, sq, ints_rep ns⟩, rfl⟩, rfl, ?_⟩
  · have q : (if b = a then o else none) = some u := q
    by_cases hb : b = a
    · subst hb
      rw [if_pos rfl] at q
      exact .inl (ho u q)
    · rw [if_neg hb] at q; cases q
  · cases (show (none : Option Cell) = some x by simpa [Sto.get, Sto.emp] using q)
  · rw [e]
    intro v H' W' p I so r
    exact r.toD
end
end Sg
namespace Sg
open PySem PySem.Spec PyProof.Rows L2
/-! ### a law's table and its end -/
def gOf (tb : List (Str × FI)) (f : Str) : Option Fn := (tb.lookup f).map FI.fn
def gkOf (tb : List (Str × FI)) (frs : List Str) (cts : List (Str × D)) : GK := ⟨fun f => (tb.lookup f).isSome, fun x => decide (x ∈ frs), fun x => cts.lookup x⟩
def ca0 : Str → Addr := fun _ => 0
section
variable {K : PySem.W.Frag} {mg : Str → Option Value} {g : GK}
def DefOk (K : PySem.W.Frag) (mg : Str → Option Value) (g : GK) (p : Str × FI) : Prop := ∃ (q x : Str) (fa : Addr) (fd : FuncData), FunD K x q p.2.args p.2.body p.2.sc [] [] fa fd ∧ p.2.Ok g ∧ mg p.1 = some (.ref fa) ∧ Binds K fd p.2.ps []
def CstOk (K : PySem.W.Frag) (mg : Str → Option Value) (p : Str × D) : Prop := ∃ u v, mg p.1 = some u ∧ RelV v u ∧ ∀ Z mu, RepD K Z mu p.2 v
theorem cst_int {x : Str} {i : Int} (h : ∃ t, mg x = some (.int i t)) : CstOk K mg (x, .int i) := by
  obtain ⟨t, h⟩ := h
  exact ⟨_, .int i, h, ⟨t, rfl⟩, fun _ _ => rfl⟩
theorem cst_str {x z : Str} (h : ∃ t, mg x = some (.str z t)) : CstOk K mg (x, .str z) := by
  obtain ⟨t, h⟩ := h
  exact ⟨_, .str z, h, ⟨t, rfl⟩, fun _ _ => rfl⟩
theorem lookup_mem {α : Type} {f : Str} {a : α} : ∀ {l : List (Str × α)}, l.lookup f = some a → (f, a) ∈ l
  | [], h => by cases h
  | (x, b) :: l, h => by
    rw [List.lookup_cons] at h
    by_cases e : (f == x) = true
    · rw [e] at h
      cases h
      rw [eq_of_beq e]
      exact List.mem_cons_self ..
    · have e : (f == x) = false := by simpa using e
      rw [e] at h
      exact List.mem_cons_of_mem _ (lookup_mem h)
theorem tab_of {tb : List (Str × FI)} {frs : List Str} {cts : List (Str × D)} (h1 : ∀ p ∈ tb, DefOk K mg (gkOf tb frs cts) p) (h2 : ∀ x ∈ frs, mg x = none) (h3 : ∀ p ∈ cts, CstOk K mg p) : Tab K mg ca0 (gkOf tb frs cts) (gOf tb) := by
  refine ⟨fun f fn h => ?_, fun f h => ?_, fun x h => h2 x (of_decide_eq_true h), fun x d h => h3 (x, d) (lookup_mem h)⟩
  · obtain ⟨i, e1, e2⟩ := Option.map_eq_some_iff.mp h
    obtain ⟨q, x, fa, fd, r⟩ := h1 _ (lookup_mem e1)
    exact ⟨i, q, x, fa, fd, e2, r⟩
  · obtain ⟨i, e⟩ := Option.isSome_iff_exists.mp (show (tb.lookup f).isSome = true from h)
    exact ⟨i.fn, by unfold gOf; rw [e]; rfl⟩
end
theorem room_top {n : Nat} (h : n ≤ 230) : Room n callerA := by
  refine ⟨rfl, ?_, ?_⟩
  · have : callerA.depth + 3 * 230 + 5 < recursionLimit := by decide
    omega
  · have : callerA.units + 16 * 230 + 200 < cLine := by decide
    omega
theorem walk_ofX {l : PySem.W.OpenLaw} {n k : Nat} {q : Program} {loose : List Str} {XP : (Str → Option Value) → Heap → Prop} {YP : World → Heap → Prop} {d : DefRec} {CX : World → CXT} {x : Str}
    (hn : l.most = some n) (hn2 : n ≤ sizeLine) (hdf : d.params.defaults = []) (hr : Room k callerA)
    (F : ∀ (w : World) (mg : Str → Option Value) (fa : Addr) (h : Heap), YP w h → h.Ns mainGlobals mg → mg d.name = some (.ref fa) →
      ∃ (K : PySem.W.Frag) (fd : FuncData) (sp : Sp), K.In h ∧ (∀ (s : Shared) (u : Value), BindsTo s fd ⟨[u], []⟩ [(x, u)]) ∧
        (∀ (H : Hp) (a : Addr) (ns : List Int), ns.length ≤ n → (∀ z ∈ ns, Builtin.Int.intBits z ≤ 1048576) → Only H → SqL K H a (ns.map V.int) → sp [.ref a] H (fun v _ => v = .bl true) fun _ _ _ => False) ∧
        ∀ base : Heap, K.In base → base.Ns mainGlobals mg → FnOk l.prog w K mg base (CX w) k fa fd [x] sp)
    (hCX : ∀ (w : World) (H : Hp) (s : Shared) (e : Value) (s' : Shared), CX w [] H s (fun _ _ _ => False) e s' → False) :
    PySem.W.WalkO q loose XP YP l.row.toRowW d [] (fun f vs => PySem.call f vs) := by
  refine Att.attach_callB hn hdf fun w s₀ s₁ mg mb fa o pm cd doc a vs ns G Y ho hd hcd hmg hobj hints hlen hbits hg => ?_
  obtain ⟨K, fd, sp, KX, hb, hsp, hF⟩ := F w mg fa _ Y G.T.g hmg
  exact law_call KX G.T.g G.T.b G.T.builtins G.T.nolimit hg hobj hints (Nat.le_trans hlen hn2) hr hF hb (fun H hO hS => hsp H a ns hlen hbits hO hS) fun H e s' => hCX w H s₁ e s'
theorem cx_none (P : Program) (w : World) (H : Hp) (s : Shared) (e : Value) (s' : Shared) : L2.CX P w [] H s (fun _ _ _ => False) e s' → False := by
  rintro ⟨a, B, H', cls, d, _, _, _, _, _, _, _, z⟩
  exact z
/-- the promise of the law's def -/
theorem law_fn {P : Program} {w : World} {K : PySem.W.Frag} {mg : Str → Option Value} {base : Heap} {tb : List (Str × FI)} {frs : List Str} {cts : List (Str × D)} {wf n : Nat} (T : Tab K mg ca0 (gkOf tb frs cts) (gOf tb)) {f : Str} {i : FI} {q x : Str} {fa : Addr} {fd : FuncData}
    (hi : tb.lookup f = some i) (F : FunD K x q i.args i.body i.sc [] [] fa fd) (o : i.Ok (gkOf tb frs cts)) (hl : i.ps.length = 1) : FnOk P w K mg base (L2.CX P w) n fa fd i.ps (spOf K ca0 1 (run (gOf tb) wf n f)) := by
  have := tab_ok (P := P) (w := w) (base := base) (wf := wf) T n f i q x fa fd (by unfold gOf; rw [hi]; rfl) F o
  rwa [hl] at this
end Sg
namespace Sg
open PySem PySem.Spec PyProof.Rows L2
/-! ### a hook that tells the module's tuples, too -/
def obsY (fa : List He.Fa) (fn : List He.DefD) (ex : PySem.W.Frag → Bool) (K : PySem.W.Frag) : He.AlD × Bool := (He.obsD fa fn K, ex K)
def obsYG (n : Nat) (fa : List He.Fa) (fn : List He.DefD) (ex : PySem.W.Frag → Bool) (g : Addr → Option Obj) : He.AlD × Bool := obsY fa fn ex (He.frG g (He.asD g n))
def hookY (n : Nat) (fa : List He.Fa) (fn : List He.DefD) (ex : PySem.W.Frag → Bool) : PySem.W.Hook where
  α := He.AlD × Bool
  obs := fun s => obsYG n fa fn ex s.heap.get?
  val := fun _ => (He.valD fn, true)
  says := fun _ h => ∃ K : PySem.W.Frag, K.In h ∧ He.SaysD fa fn K ∧ ex K = true
  of := fun _ _ e => ⟨_, He.frG_in, congrArg (fun z : He.AlD × Bool => z.1) e, congrArg (fun z : He.AlD × Bool => z.2) e⟩
  keeps := fun _ _ _ ⟨K, hK, c⟩ k => ⟨K, PySem.W.Frag.In.keeps hK k, c⟩
theorem obsYG_eq {n : Nat} {fa : List He.Fa} {fn : List He.DefD} {ex : PySem.W.Frag → Bool} {g : Addr → Option Obj} {s : Shared} (h : ∀ a, g a = s.heap.get? a) : obsYG n fa fn ex g = (hookY n fa fn ex).obs s := by
  have e : g = s.heap.get? := funext h
  rw [e] <;> rfl
def noDict (K : PySem.W.Frag) (a : Addr) : Bool := match K.lookup a with
  | some o => o.dict.isNone
  | none => true
theorem noDict_ok {K : PySem.W.Frag} {a : Addr} (h : noDict K a = true) : ∀ o, K.lookup a = some o → o.dict = none := by
  intro o e
  unfold noDict at h
  rw [e] at h
  exact Option.isNone_iff_eq_none.mp h
def exT (ts : List (Str × List He.Dv)) (K : PySem.W.Frag) : Bool := ts.all fun p => He.tupB K p.1 p.2 && noDict K (He.ga K p.1)
def isSI : He.Dv → Bool
  | .str _ => true
  | .int _ => true
  | _ => false
def dvD : He.Dv → D
  | .str s => .str s
  | .int i => .int i
  | _ => .non
section
variable {K : PySem.W.Frag} {mg : Str → Option Value}
theorem dv_rep {Z : Hp} {mu : Nat → Option Addr} : ∀ vs : List He.Dv, vs.all isSI = true → RepDs K Z mu (vs.map dvD) (vs.map (He.Dv.v K))
  | [], _ => rfl
  | v :: vs, h => by
    rw [List.all_cons, Bool.and_eq_true] at h
    refine ⟨_, _, rfl, ?_, dv_rep vs h.2⟩
    cases v with
    | str s => rfl
    | int i => rfl
    | _ => exact absurd h.1 (by simp [isSI])
theorem cst_tup {x : Str} {vs : List He.Dv} {ts : List (Str × List He.Dv)} (m : mg x = some (.ref (He.ga K x))) (ce : exT ts K = true) (ht : (x, vs) ∈ ts) (hv : vs.all isSI = true) : CstOk K mg (x, .ctup (vs.map dvD)) :=
  ⟨_, .ref (He.ga K x), m, rfl, fun Z mu => ⟨_, _, rfl, ⟨He.tupB_ok ((Bool.and_eq_true ..).mp (List.all_eq_true.mp ce (x, vs) ht)).1 _, noDict_ok ((Bool.and_eq_true ..).mp (List.all_eq_true.mp ce (x, vs) ht)).2⟩, dv_rep vs hv⟩⟩
end
end Sg
namespace Sg
open PySem PySem.Spec PyProof.Rows L2
/-! ### reckoning in the small language -/
section
variable {α : Type}
theorem ixN_nat {n k : Nat} (h : k < n) : ixN n (k : Int) = some k := by
  unfold ixN
  have h1 : (0 : Int) ≤ k := by omega
  have h2 : (k : Int) < n := by omega
  simp [h1, h]
theorem ixN_out {n k : Nat} (h : n ≤ k) : ixN n (k : Int) = none := by
  unfold ixN
  have h1 : (0 : Int) ≤ k := by omega
  have h2 : ¬ (k : Int) < n := by omega
  simp [h1, h2]
  all_goals omega
theorem atI_cast {ds : List α} {k : Nat} : atI ds (k : Int) = ds[k]? := by
  unfold atI
  by_cases h : k < ds.length
  · rw [ixN_nat h]; rfl
  · rw [ixN_out (by omega), List.getElem?_eq_none (by omega)]; rfl
theorem atI_pos {ds : List α} {i : Int} (h : 0 ≤ i) : atI ds i = ds[i.toNat]? := by
  obtain ⟨k, rfl⟩ := Int.eq_ofNat_of_zero_le h
  rw [atI_cast]; rfl
@[simp] theorem atI_zero {ds : List α} : atI ds 0 = ds[0]? := atI_cast (k := 0)
@[simp] theorem atI_one {ds : List α} : atI ds 1 = ds[1]? := atI_cast (k := 1)
@[simp] theorem atI_lit {ds : List α} {k : Nat} : atI ds (no_index (OfNat.ofNat k : Int)) = ds[(OfNat.ofNat k : Nat)]? := atI_cast (k := k)
theorem atI_last {ds : List α} : atI ds (-1) = ds[ds.length - 1]? := by
  unfold atI ixN
  rw [if_neg (by omega)]
  cases ds with
  | nil => simp
  | cons d ds =>
    rw [if_pos (by simp only [List.length_cons]; omega)]
    show (d :: ds)[(-1 + (((d :: ds).length : Nat) : Int)).toNat]? = _
    congr 1
    simp only [List.length_cons]
    omega
end
section
variable {d x y : D} {ds es : List D} {i j : Int} {s t : Str} {b c : Bool}
@[simp] theorem idxD_lst : idxD (.lst ds) (.int i) = atI ds i := rfl
@[simp] theorem idxD_tup : idxD (.tup ds) (.int i) = atI ds i := rfl
@[simp] theorem idxD_ctup : idxD (.ctup ds) (.int i) = atI ds i := rfl
@[simp] theorem biO_len_lst : biO .len [.lst ds] = some (.fr (.int ds.length)) := rfl
@[simp] theorem biO_len_tup : biO .len [.tup ds] = some (.fr (.int ds.length)) := rfl
@[simp] theorem biO_len_ctup : biO .len [.ctup ds] = some (.fr (.int ds.length)) := rfl
theorem biO_len_str (h : s.length ≤ lim) : biO .len [.str s] = some (.fr (.int s.length)) := by show (if s.length ≤ lim then _ else _) = _; rw [if_pos h]
@[simp] theorem biO_int_int : biO .int [.int i] = some (.fr (.int i)) := rfl
@[simp] theorem biO_int_bl : biO .int [.bl b] = some (.fr (.int (if b then 1 else 0))) := rfl
@[simp] theorem biO_list_lst : biO .list [.lst ds] = some (.ol ds) := rfl
@[simp] theorem biO_list_tup : biO .list [.tup ds] = some (.ol ds) := rfl
@[simp] theorem biO_list_ctup : biO .list [.ctup ds] = some (.ol ds) := rfl
@[simp] theorem biO_tuple_lst : biO .tuple [.lst ds] = some (.fr (.tup ds)) := rfl
@[simp] theorem biO_tuple_tup : biO .tuple [.tup ds] = some (.fr (.tup ds)) := rfl
@[simp] theorem biO_min : biO .min [.int i, .int j] = some (.fr (.int (if j < i then j else i))) := rfl
@[simp] theorem biO_max : biO .max [.int i, .int j] = some (.fr (.int (if j > i then j else i))) := rfl
@[simp] theorem isTy_int {T : Ty} : isTy (.int i) T = some (decide (T = .int)) := rfl
@[simp] theorem isTy_bl {T : Ty} : isTy (.bl b) T = some (decide (T = .bool) || decide (T = .int)) := rfl
@[simp] theorem isTy_str {T : Ty} : isTy (.str s) T = some (decide (T = .str)) := rfl
@[simp] theorem isTy_non {T : Ty} : isTy .non T = some false := rfl
@[simp] theorem isTy_tup {T : Ty} : isTy (.tup ds) T = some (decide (T = .tuple)) := rfl
@[simp] theorem isTy_ctup {T : Ty} : isTy (.ctup ds) T = some (decide (T = .tuple)) := rfl
@[simp] theorem isTy_lst {T : Ty} : isTy (.lst ds) T = some (decide (T = .list)) := rfl
@[simp] theorem op2_add : op2 .add (.int i) (.int j) = some (.int (i + j)) := rfl
@[simp] theorem op2_sub : op2 .sub (.int i) (.int j) = some (.int (i - j)) := rfl
theorem mulOk_r (h : -(2 ^ 64) < j ∧ j < 2 ^ 64) : mulOk i j = true := by unfold mulOk; rw [decide_eq_true h.1, decide_eq_true h.2]; simp
theorem mulOk_l (h : -(2 ^ 64) < i ∧ i < 2 ^ 64) : mulOk i j = true := by unfold mulOk; rw [decide_eq_true h.1, decide_eq_true h.2]; rfl
theorem op2_mul (h : mulOk i j = true) : op2 .mul (.int i) (.int j) = some (.int (i * j)) := by show (if mulOk i j then _ else _) = _; rw [if_pos h]
@[simp] theorem op2_mul_r (h : -(2 ^ 64) < j ∧ j < 2 ^ 64) : op2 .mul (.int i) (.int j) = some (.int (i * j)) := op2_mul (mulOk_r h)
@[simp] theorem op2_mul_l (h : -(2 ^ 64) < i ∧ i < 2 ^ 64) : op2 .mul (.int i) (.int j) = some (.int (i * j)) := op2_mul (mulOk_l h)
@[simp] theorem op2_fdiv (h : 0 < j ∧ j < 2 ^ 64) : op2 .fdiv (.int i) (.int j) = some (.int (i / j)) := by
  show (if decide (0 < j) && decide (j < 2 ^ 64) then _ else _) = _
  rw [if_pos (by rw [decide_eq_true h.1, decide_eq_true h.2]; rfl)]
@[simp] theorem op2_mod (h : 0 < j) : op2 .mod (.int i) (.int j) = some (.int (i % j)) := by
  show (if 0 < j then _ else _) = _
  rw [if_pos h]
@[simp] theorem op2_pow (h : 0 ≤ j ∧ j ≤ 1000000 ∧ i.natAbs < 2 ^ 64) : op2 .pow (.int i) (.int j) = some (.int (i ^ j.toNat)) := by
  show (if decide (0 ≤ j) && decide (j ≤ 1000000) && decide (i.natAbs < 2 ^ 64) then _ else _) = _
  rw [if_pos (by simp [h.1, h.2.1, h.2.2])]
@[simp] theorem op2_shl (h : 0 ≤ j ∧ j ≤ 1000000 ∧ i.natAbs < 2 ^ 64) : op2 .shl (.int i) (.int j) = some (.int (i * 2 ^ j.toNat)) := by
  show (if decide (0 ≤ j) && decide (j ≤ 1000000) && decide (i.natAbs < 2 ^ 64) then _ else _) = _
  rw [if_pos (by simp [h.1, h.2.1, h.2.2])]
@[simp] theorem op2_shr (h : 0 ≤ j) : op2 .shr (.int i) (.int j) = some (.int (i / 2 ^ j.toNat)) := by
  show (if 0 ≤ j then _ else _) = _
  rw [if_pos h]
@[simp] theorem op2_and : op2 .band (.int i) (.int j) = some (.int (Builtin.bitAnd i j)) := rfl
@[simp] theorem op2_or : op2 .bor (.int i) (.int j) = some (.int (Builtin.bitOr i j)) := rfl
@[simp] theorem op2_xor : op2 .bxor (.int i) (.int j) = some (.int (Builtin.bitXor i j)) := rfl
@[simp] theorem op2_lt : op2 .lt (.int i) (.int j) = some (.bl (decide (i < j))) := rfl
@[simp] theorem op2_le : op2 .le (.int i) (.int j) = some (.bl (decide (i ≤ j))) := rfl
@[simp] theorem op2_gt : op2 .gt (.int i) (.int j) = some (.bl (decide (j < i))) := rfl
@[simp] theorem op2_ge : op2 .ge (.int i) (.int j) = some (.bl (decide (j ≤ i))) := rfl
@[simp] theorem op2_eq : op2 .eq x y = (eqD x y).map .bl := rfl
@[simp] theorem op2_ne : op2 .ne x y = (eqD x y).map fun b => .bl (!b) := rfl
@[simp] theorem op2_inn : op2 .inn x y = (inD x y).map .bl := rfl
@[simp] theorem op2_nin : op2 .nin x y = (inD x y).map fun b => .bl (!b) := rfl
@[simp] theorem eqD_int : eqD (.int i) (.int j) = some (decide (i = j)) := rfl
@[simp] theorem eqD_str : eqD (.str s) (.str t) = some (decide (s = t)) := rfl
@[simp] theorem eqD_bl : eqD (.bl b) (.bl c) = some (decide (b = c)) := rfl
@[simp] theorem eqD_non : eqD .non .non = some true := rfl
@[simp] theorem okDs_nil : okDs [] = true := rfl
@[simp] theorem okDs_cons : okDs (d :: ds) = (okD d && okDs ds) := rfl
@[simp] theorem okD_int : okD (.int i) = true := rfl
@[simp] theorem okD_bl : okD (.bl b) = true := rfl
@[simp] theorem okD_non : okD .non = true := rfl
@[simp] theorem okD_tup : okD (.tup ds) = okDs ds := rfl
@[simp] theorem okD_ctup : okD (.ctup ds) = okDs ds := rfl
@[simp] theorem okD_lst : okD (.lst ds) = okDs ds := rfl
@[simp] theorem okDs_ints : ∀ ns : List Int, okDs (ns.map D.int) = true
  | [] => rfl
  | n :: ns => okDs_ints ns
theorem okDs_all : ∀ {ds : List D}, (∀ d ∈ ds, okD d = true) → okDs ds = true
  | [], _ => rfl
  | d :: ds, h => by
    rw [okDs_cons, h d (List.mem_cons_self ..), okDs_all fun x hx => h x (List.mem_cons_of_mem _ hx)]
    rfl
theorem depD_lst : depD (.lst ds) = depDs ds + 1 := rfl
theorem eqD_lst0 (h : okDs ds = true) : eqD (.lst ds) (.lst []) = some ds.isEmpty := by
  show (if okD (.lst ds) && okD (.lst []) && decide (min (depD (.lst ds)) (depD (.lst [])) ≤ 100) then some (eqv (.lst ds) (.lst [])) else none) = _
  have h1 : min (depD (.lst ds)) (depD (.lst [])) ≤ 100 := by
    have : depD (.lst []) = 1 := rfl
    omega
  rw [okD_lst, h, decide_eq_true h1]
  show some (eqv (.lst ds) (.lst [])) = _
  cases ds <;> rfl
end
section
@[simp] theorem fresh_var {i} : fresh (E.var i) = false := rfl
@[simp] theorem isVar_var {i} : isVar (E.var i) = true := rfl
@[simp] theorem fresh_int {i} : fresh (E.int i) = false := rfl
@[simp] theorem isVar_int {i} : isVar (E.int i) = false := rfl
@[simp] theorem fresh_bl {b} : fresh (E.bl b) = false := rfl
@[simp] theorem isVar_bl {b} : isVar (E.bl b) = false := rfl
@[simp] theorem fresh_non : fresh E.non = false := rfl
@[simp] theorem isVar_non : isVar E.non = false := rfl
@[simp] theorem fresh_str {s} : fresh (E.str s) = false := rfl
@[simp] theorem isVar_str {s} : isVar (E.str s) = false := rfl
@[simp] theorem fresh_cst {x d} : fresh (E.cst x d) = false := rfl
@[simp] theorem isVar_cst {x d} : isVar (E.cst x d) = false := rfl
@[simp] theorem fresh_op {o a b} : fresh (E.op o a b) = false := rfl
@[simp] theorem isVar_op {o a b} : isVar (E.op o a b) = false := rfl
@[simp] theorem fresh_cmp3 {o p a b c} : fresh (E.cmp3 o p a b c) = false := rfl
@[simp] theorem isVar_cmp3 {o p a b c} : isVar (E.cmp3 o p a b c) = false := rfl
@[simp] theorem fresh_neg {a} : fresh (E.neg a) = false := rfl
@[simp] theorem isVar_neg {a} : isVar (E.neg a) = false := rfl
@[simp] theorem fresh_tru {a} : fresh (E.tru a) = false := rfl
@[simp] theorem isVar_tru {a} : isVar (E.tru a) = false := rfl
@[simp] theorem fresh_isN {n a} : fresh (E.isN n a) = false := rfl
@[simp] theorem isVar_isN {n a} : isVar (E.isN n a) = false := rfl
@[simp] theorem fresh_isB {n a b} : fresh (E.isB n a b) = false := rfl
@[simp] theorem isVar_isB {n a b} : isVar (E.isB n a b) = false := rfl
@[simp] theorem fresh_and {es} : fresh (E.and es) = false := rfl
@[simp] theorem isVar_and {es} : isVar (E.and es) = false := rfl
@[simp] theorem fresh_or {es} : fresh (E.or es) = false := rfl
@[simp] theorem isVar_or {es} : isVar (E.or es) = false := rfl
@[simp] theorem fresh_not {a} : fresh (E.not a) = false := rfl
@[simp] theorem isVar_not {a} : isVar (E.not a) = false := rfl
@[simp] theorem fresh_ite {c a b} : fresh (E.ite c a b) = false := rfl
@[simp] theorem isVar_ite {c a b} : isVar (E.ite c a b) = false := rfl
@[simp] theorem fresh_tup {es} : fresh (E.tup es) = false := rfl
@[simp] theorem isVar_tup {es} : isVar (E.tup es) = false := rfl
@[simp] theorem fresh_brw {is e} : fresh (E.brw is e) = false := rfl
@[simp] theorem isVar_brw {is e} : isVar (E.brw is e) = false := rfl
@[simp] theorem fresh_cat {a b} : fresh (E.cat a b) = true := rfl
@[simp] theorem isVar_cat {a b} : isVar (E.cat a b) = false := rfl
@[simp] theorem fresh_rep {a b} : fresh (E.rep a b) = true := rfl
@[simp] theorem isVar_rep {a b} : isVar (E.rep a b) = false := rfl
@[simp] theorem fresh_dlt {es} : fresh (E.dlt es) = true := rfl
@[simp] theorem isVar_dlt {es} : isVar (E.dlt es) = false := rfl
@[simp] theorem catO_lst {ds es : List D} (h : ds.length + es.length ≤ lim) : catO (.lst ds) (.lst es) = some (.ol (ds ++ es)) := by
  show (if ds.length + es.length ≤ lim then _ else _) = _
  rw [if_pos h]
@[simp] theorem repO_int {ds : List D} {k : Int} (h : -1000 ≤ k ∧ k ≤ 1000 ∧ ds.length ≤ 1000) : repO ds (.fr (.int k)) = some (.ol (List.replicate k.toNat ds).flatten) := by
  show (if decide (-1000 ≤ k) && decide (k ≤ 1000) && decide (ds.length ≤ 1000) then _ else _) = _
  rw [if_pos (by simp [h.1, h.2.1, h.2.2])]
@[simp] theorem fresh_lst {es} : fresh (E.lst es) = true := rfl
@[simp] theorem isVar_lst {es} : isVar (E.lst es) = false := rfl
@[simp] theorem fresh_dnew {k} : fresh (E.dnew k) = true := rfl
@[simp] theorem isVar_dnew {k} : isVar (E.dnew k) = false := rfl
@[simp] theorem fresh_idx {a b} : fresh (E.idx a b) = false := rfl
@[simp] theorem isVar_idx {a b} : isVar (E.idx a b) = false := rfl
@[simp] theorem fresh_sl {a lo hi} : fresh (E.sl a lo hi) = true := rfl
@[simp] theorem isVar_sl {a lo hi} : isVar (E.sl a lo hi) = false := rfl
@[simp] theorem fresh_isT {a T} : fresh (E.isT a T) = false := rfl
@[simp] theorem isVar_isT {a T} : isVar (E.isT a T) = false := rfl
@[simp] theorem fresh_bi {b es} : fresh (E.bi b es) = true := rfl
@[simp] theorem isVar_bi {b es} : isVar (E.bi b es) = false := rfl
@[simp] theorem fresh_bm {a m es} : fresh (E.bm a m es) = false := rfl
@[simp] theorem isVar_bm {a m es} : isVar (E.bm a m es) = false := rfl
@[simp] theorem fresh_call {f es} : fresh (E.call f es) = true := rfl
@[simp] theorem isVar_call {f es} : isVar (E.call f es) = false := rfl
@[simp] theorem fresh_lc {vs g it c e} : fresh (E.lc vs g it c e) = true := rfl
@[simp] theorem isVar_lc {vs g it c e} : isVar (E.lc vs g it c e) = false := rfl
@[simp] theorem fresh_fld {a f} : fresh (E.fld a f) = false := rfl
@[simp] theorem isVar_fld {a f} : isVar (E.fld a f) = false := rfl
@[simp] theorem fresh_meth {a m es} : fresh (E.meth a m es) = true := rfl
@[simp] theorem isVar_meth {a m es} : isVar (E.meth a m es) = false := rfl
@[simp] theorem fresh_make {C es} : fresh (E.make C es) = false := rfl
@[simp] theorem isVar_make {C es} : isVar (E.make C es) = false := rfl
end
section
variable {ds : List D}
theorem cut_core (a b : Nat) : (ds.drop (min a ds.length)).take (min b ds.length - min a ds.length) = (ds.drop a).take (b - a) := by
  by_cases ha : a ≤ ds.length
  · rw [Nat.min_eq_left ha]
    by_cases hb : b ≤ ds.length
    · rw [Nat.min_eq_left hb]
    · rw [Nat.min_eq_right (by omega), List.take_of_length_le (by simp), List.take_of_length_le (by simp; omega)]
  · rw [Nat.min_eq_right (show ds.length ≤ a by omega), List.drop_of_length_le (Nat.le_refl _), List.drop_of_length_le (show ds.length ≤ a by omega)]
    simp
theorem cutD_cast {a b : Nat} : cutD ds (some (a : Int)) (some (b : Int)) = (ds.drop a).take (b - a) := by
  unfold cutD
  rw [HT.sIx_nat, HT.sIx_nat]
  exact cut_core a b
theorem cutD_to {b : Nat} : cutD ds none (some (b : Int)) = ds.take b := by
  unfold cutD
  rw [HT.sIx_nat, HT.sIx_none]
  have := cut_core (ds := ds) 0 b
  simpa using this
theorem cutD_from {a : Nat} : cutD ds (some (a : Int)) none = ds.drop a := by
  unfold cutD
  rw [HT.sIx_nat, HT.sIx_none]
  by_cases ha : a ≤ ds.length
  · rw [Nat.min_eq_left ha, List.take_of_length_le (by simp)]
  · rw [Nat.min_eq_right (by omega), List.drop_of_length_le (Nat.le_refl _), List.drop_of_length_le (by omega)]
    simp
@[simp] theorem cutD_lit {a b : Nat} : cutD ds (some (no_index (OfNat.ofNat a : Int))) (some (no_index (OfNat.ofNat b : Int))) = (ds.drop (OfNat.ofNat a : Nat)).take ((OfNat.ofNat b : Nat) - (OfNat.ofNat a : Nat)) := cutD_cast
@[simp] theorem cutD_toL {b : Nat} : cutD ds none (some (no_index (OfNat.ofNat b : Int))) = ds.take (OfNat.ofNat b : Nat) := cutD_to
@[simp] theorem cutD_fromL {a : Nat} : cutD ds (some (no_index (OfNat.ofNat a : Int))) none = ds.drop (OfNat.ofNat a : Nat) := cutD_from
@[simp] theorem cutD_all : cutD ds none none = ds := by
  unfold cutD
  rw [HT.sIx_none, HT.sIx_none]
  simp
@[simp] theorem slO_lst {lo hi : Option Int} : slO (.lst ds) lo hi = some (.ol (cutD ds lo hi)) := rfl
@[simp] theorem slO_tup {lo hi : Option Int} : slO (.tup ds) lo hi = some (.fr (.tup (cutD ds lo hi))) := rfl
@[simp] theorem seqD_ctup' : seqD (.ctup ds) = some ds := rfl
theorem anyEq_ints (k : Int) : ∀ ns : List Int, ((ns.map D.int).any fun z => eqv z (.int k)) = decide (k ∈ ns)
  | [] => by simp
  | n :: ns => by
    rw [List.map_cons, List.any_cons, anyEq_ints k ns]
    have : eqv (.int n) (.int k) = decide (n = k) := rfl
    rw [this]
    by_cases h : n = k
    · subst h; simp
    · have h2 : ¬ k = n := fun z => h z.symm
      simp [h, h2]
theorem flat_ints : ∀ ns : List Int, ((ns.map D.int).all flatD) = true
  | [] => rfl
  | n :: ns => flat_ints ns
@[simp] theorem inD_ints {k : Int} {ns : List Int} : inD (.int k) (.lst (ns.map D.int)) = some (decide (k ∈ ns)) := by
  show (if (flatD (.int k) && (ns.map D.int).all flatD) || _ then some ((ns.map D.int).any fun z => eqv z (.int k)) else none) = _
  rw [flat_ints, if_pos (by rfl), anyEq_ints]
end
@[simp] theorem eqD_nil_nil : eqD (.lst []) (.lst []) = some true := eqD_lst0 okDs_nil
@[simp] theorem eqD_ints_nil {ns : List Int} : eqD (.lst (ns.map .int)) (.lst []) = some ns.isEmpty := by
  rw [eqD_lst0 (okDs_ints ns)]
  cases ns <;> rfl
section
variable {d : D} {ds : List D}
theorem depDs_le {k : Nat} : ∀ {ds : List D}, (∀ d ∈ ds, depD d ≤ k) → depDs ds ≤ k
  | [], _ => Nat.zero_le _
  | d :: ds, h => by
    show max (depD d) (depDs ds) ≤ k
    have h1 := h d (List.mem_cons_self ..)
    have h2 := depDs_le (ds := ds) fun x hx => h x (List.mem_cons_of_mem _ hx)
    omega
theorem eqD_refl (h : okD d = true) (hd : depD d ≤ 100) : eqD d d = some true := by
  have e : eqv d d = true := PySem.SeqAt.eqv_refl (toPy d) (lay_of d h)
  have key : ∀ x : D, x = d → (if okD x && okD x && decide (min (depD x) (depD x) ≤ 100) then some (eqv x x) else none) = some true := by
    rintro x rfl
    rw [h, decide_eq_true (by omega), e]; rfl
  cases d with
  | int i => simp
  | str s => simp
  | bl b => simp
  | non => rfl
  | tup ds => exact key _ rfl
  | ctup ds => exact key _ rfl
  | lst ds => exact key _ rfl
  | dct k kvs => cases h
  | ref c => cases h
theorem blsOf_map {α : Type} {p : α → Bool} : ∀ xs : List α, blsOf (xs.map fun x => D.bl (p x)) = some (xs.map p)
  | [] => rfl
  | x :: xs => by
    show (blsOf (xs.map fun x => D.bl (p x))).map (p x :: ·) = _
    rw [blsOf_map xs]; rfl
theorem biO_all {α : Type} {p : α → Bool} {xs : List α} : biO .all [.lst (xs.map fun x => D.bl (p x))] = some (.fr (.bl (xs.all p))) := by
  show (blsOf (xs.map fun x => D.bl (p x))).map (fun ns => OV.fr (.bl (ns.all id))) = _
  rw [blsOf_map]
  simp [List.all_map]
theorem biO_any {α : Type} {p : α → Bool} {xs : List α} : biO .any [.lst (xs.map fun x => D.bl (p x))] = some (.fr (.bl (xs.any p))) := by
  show (blsOf (xs.map fun x => D.bl (p x))).map (fun ns => OV.fr (.bl (ns.any id))) = _
  rw [blsOf_map]
  simp [List.any_map]
theorem okDs_bls {α : Type} {p : α → Bool} (xs : List α) : okDs (xs.map fun x => D.bl (p x)) = true := okDs_all fun d h => by
  obtain ⟨x, _, rfl⟩ := List.mem_map.mp h; rfl
theorem rngD_map (lo : Nat) : ∀ n : Nat, rngD (lo : Int) n = (List.range' lo n).map fun (k : Nat) => D.int k
  | 0 => rfl
  | n + 1 => by
    show D.int lo :: rngD ((lo : Int) + 1) n = _
    rw [show ((lo : Int) + 1) = ((lo + 1 : Nat) : Int) by omega, rngD_map (lo + 1) n, List.range'_succ]
    rfl
theorem rngO_nat {n : Nat} (h : n < 2 ^ 40) : rngO [.int (n : Int)] = some ((List.range n).map fun (k : Nat) => D.int k) := by
  show (if rngOk (n : Int) then some (rngD 0 (n : Int).toNat) else none) = _
  rw [if_pos, Int.toNat_natCast]
  · have := rngD_map 0 n
    rw [show ((0 : Nat) : Int) = 0 from rfl] at this
    rw [this, List.range_eq_range']
  · unfold rngOk
    simp only [Bool.and_eq_true, decide_eq_true_eq]
    omega
@[simp] theorem okD_str {s : Str} : okD (.str s) = PyData.strOk s := rfl
@[simp] theorem depDs_nil : depDs [] = 0 := rfl
@[simp] theorem depDs_cons : depDs (d :: ds) = max (depD d) (depDs ds) := rfl
@[simp] theorem depD_tup : depD (.tup ds) = depDs ds + 1 := rfl
@[simp] theorem depD_ctup : depD (.ctup ds) = depDs ds + 1 := rfl
@[simp] theorem depD_lst' : depD (.lst ds) = depDs ds + 1 := rfl
@[simp] theorem depD_int {i : Int} : depD (.int i) = 0 := rfl
@[simp] theorem depD_str {s : Str} : depD (.str s) = 0 := rfl
@[simp] theorem depD_bl {b : Bool} : depD (.bl b) = 0 := rfl
@[simp] theorem depD_non : depD .non = 0 := rfl
end
end Sg
namespace Sg
open PySem PySem.Spec PyProof.Rows L2
/-! ### neighbours joined at drawn places -/
/-- the nine signs -/
def sgs : List Str := ["+", "-", "*", "/", "<", "=", "&", "|", "^"]
def sgN (k : Nat) : Str := sgs[k]?.getD "+"
def sgI (c : Int) : Nat := (c * 69621 % 2147483629 / 7 % 9).toNat
def sgC (c : Int) : Str := sgN (sgI c)
theorem sgI_lt (c : Int) : sgI c < 9 := by
  have h1 := Int.emod_nonneg (c * 69621 % 2147483629 / 7) (by decide : (9 : Int) ≠ 0)
  have h2 := Int.emod_lt_of_pos (c * 69621 % 2147483629 / 7) (by decide : (0 : Int) < 9)
  unfold sgI
  omega
theorem sgI_cast (c : Int) : c * 69621 % 2147483629 / 7 % 9 = (sgI c : Int) := by
  have h1 := Int.emod_nonneg (c * 69621 % 2147483629 / 7) (by decide : (9 : Int) ≠ 0)
  unfold sgI
  omega
theorem sg_str : ∀ k : Nat, k < 9 → idxD (.str "+-*/<=&|^") (.int k) = some (.str (sgN k)) := by
  intro k h
  match k, h with
  | 0, _ => rfl
  | 1, _ => rfl
  | 2, _ => rfl
  | 3, _ => rfl
  | 4, _ => rfl
  | 5, _ => rfl
  | 6, _ => rfl
  | 7, _ => rfl
  | 8, _ => rfl
  | k + 9, h => omega
theorem sg_idx (c : Int) : idxD (.str "+-*/<=&|^") (.int (c * 69621 % 2147483629 / 7 % 9)) = some (.str (sgC c)) := by
  rw [sgI_cast]
  exact sg_str _ (sgI_lt c)
theorem sgC_mem (c : Int) : sgC c ∈ sgs := by
  have h := sgI_lt c
  unfold sgC sgN
  generalize sgI c = k at h
  match k, h with
  | 0, _ => decide
  | 1, _ => decide
  | 2, _ => decide
  | 3, _ => decide
  | 4, _ => decide
  | 5, _ => decide
  | 6, _ => decide
  | 7, _ => decide
  | 8, _ => decide
  | k + 9, h => omega
section
variable {α β : Type} (mg : Str → α → α → α)
def atC (c : Int) (n : Nat) : Nat := (c * 48271 % 2147483647 / 9 % ((n : Int) - 1)).toNat
def jn (ps : List α) (c : Int) : List α := match ps[atC c ps.length]?, ps[atC c ps.length + 1]? with
  | some x, some y => ps.take (atC c ps.length) ++ [mg (sgC c) x y] ++ ps.drop (atC c ps.length + 2)
  | _, _ => ps
variable {mg}
theorem atC_lt {c : Int} {n : Nat} (h : 1 < n) : atC c n + 1 < n := by
  have h1 := Int.emod_nonneg (c * 48271 % 2147483647 / 9) (show (n : Int) - 1 ≠ 0 by omega)
  have h2 := Int.emod_lt_of_pos (c * 48271 % 2147483647 / 9) (show 0 < (n : Int) - 1 by omega)
  unfold atC
  omega
theorem atC_cast {c : Int} {n : Nat} (h : 1 < n) : c * 48271 % 2147483647 / 9 % ((n : Int) - 1) = (atC c n : Int) := by
  have h1 := Int.emod_nonneg (c * 48271 % 2147483647 / 9) (show (n : Int) - 1 ≠ 0 by omega)
  unfold atC
  omega
/-- one join -/
theorem jn_some {ps : List α} {c : Int} (h : 1 < ps.length) : ∃ x y, ps[atC c ps.length]? = some x ∧ ps[atC c ps.length + 1]? = some y ∧ jn mg ps c = ps.take (atC c ps.length) ++ [mg (sgC c) x y] ++ ps.drop (atC c ps.length + 2) ∧ ps = ps.take (atC c ps.length) ++ [x, y] ++ ps.drop (atC c ps.length + 2) := by
  have h2 := atC_lt (c := c) h
  have e1 : ps[atC c ps.length]? = some ps[atC c ps.length] := List.getElem?_eq_getElem (by omega)
  have e2 : ps[atC c ps.length + 1]? = some ps[atC c ps.length + 1] := List.getElem?_eq_getElem h2
  refine ⟨_, _, e1, e2, ?_, ?_⟩
  · unfold jn
    rw [e1, e2]
  · have e3 : ps.drop (atC c ps.length) = ps[atC c ps.length] :: ps[atC c ps.length + 1] :: ps.drop (atC c ps.length + 2) := by
      rw [List.drop_eq_getElem_cons (by omega : atC c ps.length < ps.length), List.drop_eq_getElem_cons h2]
    conv => lhs; rw [← List.take_append_drop (atC c ps.length) ps, e3]
    rw [List.append_assoc]
    rfl
theorem jn_one {ps : List α} {c : Int} (h : ps.length ≤ 1) : jn mg ps c = ps := by
  unfold jn
  rw [List.getElem?_eq_none (by omega : ps.length ≤ atC c ps.length + 1)]
  cases ps[atC c ps.length]? <;> rfl
theorem jn_len {ps : List α} {c : Int} (h : 1 < ps.length) : (jn mg ps c).length + 1 = ps.length := by
  obtain ⟨x, y, _, _, e, e'⟩ := jn_some (mg := mg) (c := c) h
  rw [e]
  have h3 := atC_lt (c := c) h
  simp only [List.length_append, List.length_cons, List.length_nil, List.length_take, List.length_drop]
  omega
theorem jn_flat {f : α → List β} (hf : ∀ s x y, f (mg s x y) = f x ++ f y) {ps : List α} {c : Int} : (jn mg ps c).flatMap f = ps.flatMap f := by
  by_cases h : 1 < ps.length
  · obtain ⟨x, y, _, _, e, e'⟩ := jn_some (mg := mg) (c := c) h
    rw [e]
    conv => rhs; rw [e']
    simp [hf]
  · rw [jn_one (by omega)]
theorem jn_all {P : α → Prop} (hP : ∀ s x y, s ∈ sgs → P x → P y → P (mg s x y)) {ps : List α} {c : Int} (h : ∀ x ∈ ps, P x) : ∀ x ∈ jn mg ps c, P x := by
  by_cases hl : 1 < ps.length
  · obtain ⟨x, y, e1, e2, e, _⟩ := jn_some (mg := mg) (c := c) hl
    rw [e]
    intro z hz
    simp only [List.mem_append, List.mem_singleton] at hz
    rcases hz with (hz | hz) | hz
    · exact h z (List.mem_of_mem_take hz)
    · subst hz
      exact hP _ _ _ (sgC_mem c) (h x (List.mem_of_getElem? e1)) (h y (List.mem_of_getElem? e2))
    · exact h z (List.mem_of_mem_drop hz)
  · rw [jn_one (by omega)]; exact h
theorem jns_len : ∀ {cs : List Int} {ps : List α}, ps ≠ [] → ps.length ≤ cs.length + 1 → (cs.foldl (jn mg) ps).length = 1
  | [], ps, h, hl => by
    have := List.length_pos_iff.mpr h
    simp only [List.length_nil] at hl
    show ps.length = 1
    omega
  | c :: cs, ps, h, hl => by
    have hp := List.length_pos_iff.mpr h
    rw [List.foldl_cons]
    simp only [List.length_cons] at hl
    by_cases h1 : 1 < ps.length
    · have := jn_len (mg := mg) (c := c) h1
      exact jns_len (by intro z; rw [z] at this; simp at this; omega) (by omega)
    · rw [jn_one (by omega)]
      exact jns_len h (by omega)
theorem jns_flat {f : α → List β} (hf : ∀ s x y, f (mg s x y) = f x ++ f y) : ∀ {cs : List Int} {ps : List α}, (cs.foldl (jn mg) ps).flatMap f = ps.flatMap f
  | [], ps => rfl
  | c :: cs, ps => by rw [List.foldl_cons, jns_flat hf, jn_flat hf]
theorem jns_all {P : α → Prop} (hP : ∀ s x y, s ∈ sgs → P x → P y → P (mg s x y)) : ∀ {cs : List Int} {ps : List α}, (∀ x ∈ ps, P x) → ∀ x ∈ cs.foldl (jn mg) ps, P x
  | [], ps, h => h
  | c :: cs, ps, h => by rw [List.foldl_cons]; exact jns_all hP (jn_all hP h)
/-- the slice store that joins -/
theorem splice_jn {td : α → D} {ps : List α} {c : Int} (h : 1 < ps.length) (hl : ps.length ≤ 1000) : ∃ x y, ps[atC c ps.length]? = some x ∧ ps[atC c ps.length + 1]? = some y ∧
    spliceO (.ol (ps.map td)) (some (atC c ps.length : Int)) (some ((atC c ps.length : Int) + 2)) [td (mg (sgC c) x y)] = some (.ol ((jn mg ps c).map td)) := by
  obtain ⟨x, y, e1, e2, e, _⟩ := jn_some (mg := mg) (c := c) h
  refine ⟨x, y, e1, e2, ?_⟩
  have h3 := atC_lt (c := c) h
  show (if decide (0 ≤ (atC c ps.length : Int)) && decide ((atC c ps.length : Int) ≤ (atC c ps.length : Int) + 2) && decide ((atC c ps.length : Int) + 2 ≤ ((ps.map td).length : Int)) && decide ((ps.map td).length + [td (mg (sgC c) x y)].length ≤ lim) then _ else _) = _
  rw [if_pos, e]
  · simp only [List.map_append, List.map_take, List.map_drop, List.map_cons, List.map_nil]
    have e3 : ((atC c ps.length : Int) + 2).toNat = atC c ps.length + 2 := by omega
    rw [e3, Int.toNat_natCast]
  · simp only [Bool.and_eq_true, decide_eq_true_eq, List.length_map, List.length_cons, List.length_nil]
    unfold lim
    omega
end
/-- one after another, by a rule -/
theorem lcGo_pure {C E : Env1 → Sto → Res} {f : Bool} {g : Tg} {ρ : Env1} {S : Sto} {α : Type} {td : α → D} {p : α → Bool} {h : α → D} : ∀ (xs : List α) (acc : List D), (∀ x ∈ xs, ∃ ρ1, g.put (td x) ρ = some ρ1 ∧ C ρ1 S = .ok (.fr (.bl (p x))) S ∧ (p x = true → ∃ ov, E ρ1 S = .ok ov S ∧ need f ov = some (h x))) → acc.length + xs.length ≤ lim →
    lcGo C E f g ρ (xs.map td) acc S = .ok (acc ++ (xs.filter p).map h) S
  | [], acc, _, _ => by simp [lcGo_nil]
  | x :: xs, acc, H, hl => by
    obtain ⟨ρ1, e1, e2, e3⟩ := H x (List.mem_cons_self ..)
    have H' := fun y hy => H y (List.mem_cons_of_mem _ hy)
    simp only [List.length_cons] at hl
    rw [List.map_cons, lcGo_cons, e1, kLcP_some, e2]
    cases hp : p x with
    | true =>
      obtain ⟨ov, e4, e5⟩ := e3 hp
      rw [kLcT_t, e4, kLcC_ok, e5, kLcD_some (by omega), lcGo_pure xs _ H' (by simp only [List.length_append, List.length_cons, List.length_nil]; omega), List.filter_cons_of_pos hp]
      simp
    | false =>
      rw [kLcT_f, lcGo_pure xs _ H' (by omega), List.filter_cons_of_neg (by rw [hp]; exact nofun)]
theorem lcGo_map {C E : Env1 → Sto → Res} {f : Bool} {g : Tg} {ρ : Env1} {S : Sto} {α : Type} {td : α → D} {h : α → D} (xs : List α) (H : ∀ x ∈ xs, ∃ ρ1, g.put (td x) ρ = some ρ1 ∧ C ρ1 S = .ok (.fr (.bl true)) S ∧ ∃ ov, E ρ1 S = .ok ov S ∧ need f ov = some (h x)) (hl : xs.length ≤ lim) :
    lcGo C E f g ρ (xs.map td) [] S = .ok (xs.map h) S := by
  rw [lcGo_pure (p := fun _ => true) (h := h) xs [] (fun x hx => by
    obtain ⟨ρ1, e1, e2, e3⟩ := H x hx
    exact ⟨ρ1, e1, e2, fun _ => e3⟩) (by simpa using hl)]
  congr 1
  rw [List.nil_append, List.filter_eq_self.mpr (fun _ _ => rfl)]
/-- an item of a list of whole numbers, by a rest -/
theorem atI_mod {α : Type} {ds : List α} {i : Int} (h : ds ≠ []) : ∃ d, atI ds (i % (ds.length : Int)) = some d ∧ d ∈ ds := by
  have h0 := List.length_pos_iff.mpr h
  have h1 := Int.emod_nonneg i (show (ds.length : Int) ≠ 0 by omega)
  have h2 := Int.emod_lt_of_pos i (show (0 : Int) < ds.length by omega)
  rw [atI_pos h1, List.getElem?_eq_getElem (by omega)]
  exact ⟨_, rfl, List.getElem_mem _⟩
end Sg
namespace Sg
open PySem (Str)
/-! ### the value of a sign and two values -/
def W48 : Int := 281474976710656
def valueF (s : Str) (a b : Int) : Int :=
  if s = "+" then (a + b) % 281474976710656 else if s = "-" then (a - b) % 281474976710656 else if s = "*" then a * b % 281474976710656 else
  if s = "/" then (if b = 0 then 0 else a / b) else if s = "<" then (if a < b then 1 else 0) else if s = "=" then (if a = b then 1 else 0) else
  if s = "&" then PySem.Builtin.bitAnd a b else if s = "|" then PySem.Builtin.bitOr a b else PySem.Builtin.bitXor a b
def inW (a : Int) : Prop := 0 ≤ a ∧ a < 281474976710656
theorem bitAnd_n (m n : Nat) : PySem.Builtin.bitAnd (m : Int) (n : Int) = ((m &&& n : Nat) : Int) := by
  rw [PyProof.Rows.bitAnd_pp (Int.natCast_nonneg _) (Int.natCast_nonneg _)]; simp
theorem and_m2 (m n : Nat) : (m &&& n) % 2 = (m % 2) * (n % 2) := by
  have h1 := Nat.and_mod_two_pow (a := m) (b := n) (n := 1)
  simp at h1
  rw [h1]
  rcases Nat.mod_two_eq_zero_or_one m with h | h <;> rcases Nat.mod_two_eq_zero_or_one n with h' | h' <;> simp [h, h']
theorem or_m2 (m n : Nat) : (m ||| n) % 2 = (m % 2) + (n % 2) - (m % 2) * (n % 2) := by
  have h1 := Nat.or_mod_two_pow (a := m) (b := n) (n := 1)
  simp at h1
  rw [h1]
  rcases Nat.mod_two_eq_zero_or_one m with h | h <;> rcases Nat.mod_two_eq_zero_or_one n with h' | h' <;> simp [h, h']
theorem xor_m2 (m n : Nat) : (m ^^^ n) % 2 = (m % 2 + n % 2) % 2 := by
  have h1 := Nat.xor_mod_two_pow (a := m) (b := n) (n := 1)
  simp at h1
  rw [h1]
  rcases Nat.mod_two_eq_zero_or_one m with h | h <;> rcases Nat.mod_two_eq_zero_or_one n with h' | h' <;> simp [h, h']
theorem or_xor (m : Nat) : ∀ n : Nat, m ||| n = (m ^^^ n) + (m &&& n) := by
  induction m using Nat.strongRecOn with
  | ind m ih =>
    intro n
    by_cases h0 : m = 0
    · subst h0; simp
    · have h := ih (m / 2) (by omega) (n / 2)
      have e1 := and_m2 m n
      have e2 := or_m2 m n
      have e3 := xor_m2 m n
      have d1 := Nat.and_div_two (a := m) (b := n)
      have d2 := Nat.or_div_two (a := m) (b := n)
      have d3 := Nat.xor_div_two (a := m) (b := n)
      rw [← d1, ← d2, ← d3] at h
      have hp : m % 2 * (n % 2) = 0 ∧ (m % 2 = 0 ∨ n % 2 = 0) ∨ m % 2 * (n % 2) = 1 ∧ m % 2 = 1 ∧ n % 2 = 1 := by
        rcases Nat.mod_two_eq_zero_or_one m with h | h <;> rcases Nat.mod_two_eq_zero_or_one n with h' | h' <;> simp [h, h']
      omega
theorem bitNot_not (x : Int) : PySem.Builtin.bitNot (PySem.Builtin.bitNot x) = x := by unfold PySem.Builtin.bitNot; omega
theorem bitOr_n (m n : Nat) : PySem.Builtin.bitOr (m : Int) (n : Int) = ((m ||| n : Nat) : Int) := by
  unfold PySem.Builtin.bitOr
  have h : ∀ k : Nat, ¬ 0 ≤ PySem.Builtin.bitNot (k : Int) := fun k => by unfold PySem.Builtin.bitNot; omega
  rw [PyProof.Rows.bitAnd_nn (h m) (h n), bitNot_not, bitNot_not, bitNot_not]
  simp
theorem bitXor_n (m n : Nat) : PySem.Builtin.bitXor (m : Int) (n : Int) = ((m ^^^ n : Nat) : Int) := by
  unfold PySem.Builtin.bitXor
  rw [bitOr_n, bitAnd_n, or_xor]
  omega
theorem nat_of {a : Int} (h : inW a) : ∃ m : Nat, a = m ∧ m < 2 ^ 48 := ⟨a.toNat, by have := h.1; omega, by have := h.1; have := h.2; omega⟩
theorem valueF_in (s : Str) {a b : Int} (ha : inW a) (hb : inW b) : inW (valueF s a b) := by
  obtain ⟨m, rfl, hm⟩ := nat_of ha
  obtain ⟨n, rfl, hn⟩ := nat_of hb
  unfold valueF
  have md : ∀ x : Int, inW (x % 281474976710656) := fun x => ⟨Int.emod_nonneg _ (by decide), Int.emod_lt_of_pos _ (by decide)⟩
  have nt : ∀ k : Nat, k < 2 ^ 48 → inW (k : Int) := fun k h => ⟨by omega, by omega⟩
  split
  · exact md _
  · split
    · exact md _
    · split
      · exact md _
      · split
        · split
          · exact ⟨by decide, by decide⟩
          · refine ⟨Int.ediv_nonneg (by omega) (by omega), ?_⟩
            have := Int.ediv_le_self (n : Int) (show (0 : Int) ≤ m by omega)
            omega
        · split
          · split <;> exact ⟨by decide, by decide⟩
          · split
            · split <;> exact ⟨by decide, by decide⟩
            · split
              · rw [bitAnd_n]; exact nt _ (Nat.and_lt_two_pow _ hn)
              · split
                · rw [bitOr_n]; exact nt _ (Nat.or_lt_two_pow hm hn)
                · rw [bitXor_n]; exact nt _ (Nat.xor_lt_two_pow hm hn)
end Sg
namespace Sg
open PySem (Str)
/-! ### reckonings -/
inductive Rk where
  | box (n : Int) | num (v : Int) | op (s : Str) (a b : Rk)
def Rk.d : Rk → D
  | .box n => .tup [.str "box", .int n]
  | .num v => .tup [.str "num", .int v]
  | .op s a b => .tup [.str s, a.d, b.d]
def Rk.size : Rk → Nat
  | .op _ a b => a.size + b.size
  | _ => 1
def Rk.hgt : Rk → Nat
  | .op _ a b => max a.hgt b.hgt + 1
  | _ => 0
def Rk.boxes : Rk → List Int
  | .box n => [n]
  | .num _ => []
  | .op _ a b => a.boxes ++ b.boxes
def Rk.sg : Rk → List Str
  | .op s a b => s :: (a.sg ++ b.sg)
  | _ => []
def Rk.us : Rk → List Unit
  | .op _ a b => a.us ++ b.us
  | _ => [()]
/-- its signs are none of a leaf's words, its values of the range -/
def Rk.ok : Rk → Prop
  | .op s a b => s ≠ "box" ∧ s ≠ "num" ∧ a.ok ∧ b.ok
  | .num v => inW v
  | _ => True
theorem Rk.hgt_lt : ∀ r : Rk, r.hgt < r.size
  | .box _ => Nat.lt_succ_self 0
  | .num _ => Nat.lt_succ_self 0
  | .op s a b => by
    have h1 := a.hgt_lt
    have h2 := b.hgt_lt
    simp only [Rk.hgt, Rk.size]
    omega
theorem Rk.us_len : ∀ r : Rk, r.us.length = r.size
  | .box _ => rfl
  | .num _ => rfl
  | .op s a b => by simp only [Rk.us, Rk.size, List.length_append, a.us_len, b.us_len]
theorem sgs_ok {s : Str} (h : s ∈ sgs) : s ≠ "box" ∧ s ≠ "num" := by
  constructor <;> (rintro rfl; revert h; decide)
def leafC (c : Int) : Rk := if c % 2 = 0 then .box (if c / 256 % 2 = 0 then c / 2 % 4 else c / 2 % 128) else if c % 4 = 1 then .num (c / 4 % 281474976710656) else .num (c / 4 % 5)
theorem leafC_ok (c : Int) : (leafC c).ok := by
  unfold leafC
  split
  · trivial
  · split
    · exact ⟨Int.emod_nonneg _ (by decide), Int.emod_lt_of_pos _ (by decide)⟩
    · show inW (c / 4 % 5)
      exact ⟨Int.emod_nonneg _ (by decide), by have := Int.emod_lt_of_pos (c / 4) (show (0 : Int) < 5 by decide); omega⟩
theorem leafC_size (c : Int) : (leafC c).size = 1 := by unfold leafC; split <;> (try split) <;> rfl
/-- what the joining of leaves comes to -/
theorem joined_size {f : Int → Rk} (hf : ∀ c, (f c).size = 1) {cs ds : List Int} {r : Rk} (h : ds.foldl (jn Rk.op) (cs.map f) = [r]) : r.size = cs.length := by
  have h2 := jns_flat (mg := Rk.op) (f := Rk.us) (fun _ _ _ => rfl) (cs := ds) (ps := cs.map f)
  rw [h] at h2
  have h3 := congrArg List.length h2
  simp only [List.flatMap_cons, List.flatMap_nil, List.append_nil, r.us_len] at h3
  rw [h3]
  clear h3 h2 h
  induction cs with
  | nil => rfl
  | cons c cs ih => rw [List.map_cons, List.flatMap_cons, List.length_append, ih, Rk.us_len, hf, List.length_cons]; omega
theorem joined_good {f : Int → Rk} (hf : ∀ c, (f c).ok) {cs ds : List Int} {r : Rk} (h : ds.foldl (jn Rk.op) (cs.map f) = [r]) : r.ok := by
  exact jns_all (mg := Rk.op) (P := Rk.ok) (fun s x y hs hx hy => ⟨(sgs_ok hs).1, (sgs_ok hs).2, hx, hy⟩) (cs := ds) (ps := cs.map f) (fun x hx => by
    obtain ⟨c, _, rfl⟩ := List.mem_map.mp hx
    exact hf c) r (by rw [h]; simp)
def cellAt (ns : List Int) (k : Nat) : Int := ns[k]?.getD 0
/-- put together -/
def tog (s : Str) : Rk → Rk → Rk
  | .num a, .num b => .num (valueF s a b)
  | l, r => .op s l r
theorem tog_ok {s : Str} (hs : s ∈ sgs) {l r : Rk} (hl : l.ok) (hr : r.ok) : (tog s l r).ok := by
  cases l <;> cases r <;> first | exact valueF_in s hl hr | exact ⟨(sgs_ok hs).1, (sgs_ok hs).2, hl, hr⟩
theorem tog_hgt {s : Str} {l r : Rk} : (tog s l r).hgt ≤ max l.hgt r.hgt + 1 := by
  cases l <;> cases r <;> simp [tog, Rk.hgt]
theorem sgN_mem : ∀ k : Nat, k < 9 → sgN k ∈ sgs := by
  intro k h
  match k, h with
  | 0, _ => decide
  | 1, _ => decide
  | 2, _ => decide
  | 3, _ => decide
  | 4, _ => decide
  | 5, _ => decide
  | 6, _ => decide
  | 7, _ => decide
  | 8, _ => decide
  | k + 9, h => omega
theorem sg_any (c : Int) : ∃ s ∈ sgs, idxD (.str "+-*/<=&|^") (.int (c % 9)) = some (.str s) := by
  have h1 := Int.emod_nonneg c (by decide : (9 : Int) ≠ 0)
  have h2 := Int.emod_lt_of_pos c (by decide : (0 : Int) < 9)
  obtain ⟨k, hk⟩ := Int.eq_ofNat_of_zero_le h1
  rw [hk]
  exact ⟨_, sgN_mem k (by omega), sg_str k (by omega)⟩
def numbC (c : Int) : Int := if c % 3 = 0 then c / 3 % 281474976710656 else if c % 3 = 1 then 281474976710656 - 1 - c / 3 % 4 else c / 3 % 5
theorem numbC_in (c : Int) : inW (numbC c) := by
  unfold numbC inW
  split
  · exact ⟨Int.emod_nonneg _ (by decide), Int.emod_lt_of_pos _ (by decide)⟩
  · split <;> omega
end Sg
namespace Sg
open PySem (Str)
/-! ### methods of lists -/
@[simp] theorem mmO_append {ds : List D} {d : D} (h : ds.length < lim) : mmO .append (.ol ds) [d] = some (.non, .ol (ds ++ [d])) := by
  show (if ds.length < lim then _ else _) = _
  rw [if_pos h]
@[simp] theorem mmO_extend {ds es : List D} (h : ds.length + es.length ≤ lim) : mmO .extend (.ol ds) [.lst es] = some (.non, .ol (ds ++ es)) := by
  show (if ds.length + es.length ≤ lim then _ else _) = _
  rw [if_pos h]
@[simp] theorem mmO_pop {ds : List D} {d : D} : mmO .pop (.ol (ds ++ [d])) [] = some (d, .ol ds) := by
  show (match (ds ++ [d])[(ds ++ [d]).length - 1]? with | some e => some (e, OV.ol (ds ++ [d]).dropLast) | none => none) = _
  simp
@[simp] theorem mmO_clear {ds : List D} : mmO .clear (.ol ds) [] = some (.non, .ol []) := rfl
@[simp] theorem mmO_reverse {ds : List D} : mmO .reverse (.ol ds) [] = some (.non, .ol ds.reverse) := rfl
/-! ### dicts keyed by whole numbers -/
/-- what a dict has at a key -/
def dgI (kvs : List (D × D)) (k : Int) : Option D := dget kvs (.inl k)
def dpI (kvs : List (D × D)) (k : Int) (v : D) : List (D × D) := dput kvs (.int k) (fun x => decide (keyOf x = some (.inl k))) v
def dgS (kvs : List (D × D)) (k : Str) : Option D := dget kvs (.inr k)
def dpS (kvs : List (D × D)) (k : Str) (v : D) : List (D × D) := dput kvs (.str k) (fun x => decide (keyOf x = some (.inr k))) v
theorem dput_len {kvs : List (D × D)} {k v : D} {c : D → Bool} : (dput kvs k c v).length ≤ kvs.length + 1 := by
  unfold dput
  split <;> simp
theorem dget_nil {k} : dget [] k = none := rfl
theorem dget_cons {p : D × D} {kvs : List (D × D)} {k} : dget (p :: kvs) k = if keyOf p.1 = some k then some p.2 else dget kvs k := by
  unfold dget
  rw [List.find?_cons]
  by_cases h : keyOf p.1 = some k <;> simp [h]
theorem dget_map {q : L2.Key} {v : D} : ∀ {kvs : List (D × D)} {k}, dget (kvs.map fun p => if decide (keyOf p.1 = some q) then (p.1, v) else p) k = if k = q then (dget kvs k).map fun _ => v else dget kvs k
  | [], k => by simp [dget_nil]
  | p :: kvs, k => by
    rw [List.map_cons, dget_cons, dget_cons, dget_map (kvs := kvs)]
    by_cases h : keyOf p.1 = some q
    · simp only [h, decide_true, if_true]
      by_cases h2 : k = q
      · subst h2; simp
      · have h3 : ¬ (some q = some k) := fun z => h2 (Option.some.inj z).symm
        simp [h2, h3]
    · simp only [h, decide_false]
      by_cases h2 : k = q
      · subst h2; simp [h]
      · simp [h2]
theorem dget_app {k} {p : D × D} : ∀ {kvs : List (D × D)}, dget (kvs ++ [p]) k = match dget kvs k with | some d => some d | none => if keyOf p.1 = some k then some p.2 else none
  | [] => by rw [List.nil_append, dget_cons, dget_nil]
  | q :: kvs => by
    rw [List.cons_append, dget_cons, dget_cons, dget_app (kvs := kvs)]
    by_cases h : keyOf q.1 = some k <;> simp [h]
theorem dget_any {q} : ∀ {kvs : List (D × D)}, kvs.any (fun p => decide (keyOf p.1 = some q)) = (dget kvs q).isSome
  | [] => rfl
  | p :: kvs => by
    rw [List.any_cons, dget_any (kvs := kvs), dget_cons]
    by_cases h : keyOf p.1 = some q <;> simp [h]
theorem dget_dput {q} {k v : D} {kvs : List (D × D)} {j} (hk : keyOf k = some q) : dget (dput kvs k (fun x => decide (keyOf x = some q)) v) j = if j = q then some v else dget kvs j := by
  unfold dput
  rw [dget_any]
  cases h : dget kvs q with
  | some d =>
    rw [Option.isSome_some, if_pos rfl, dget_map]
    by_cases h2 : j = q
    · subst h2; simp [h]
    · simp [h2]
  | none =>
    rw [Option.isSome_none, if_neg (by decide), dget_app, hk]
    by_cases h2 : j = q
    · subst h2; simp [h]
    · have h3 : ¬ (some q = some j) := fun z => h2 (Option.some.inj z).symm
      simp only [h2, h3, if_false]
      cases dget kvs j <;> rfl
theorem dgI_dpI {kvs : List (D × D)} {k j : Int} {v : D} : dgI (dpI kvs k v) j = if j = k then some v else dgI kvs j := by
  unfold dgI dpI
  rw [dget_dput rfl]
  by_cases h : j = k
  · subst h; simp
  · have : ¬ ((.inl j : L2.Key) = .inl k) := fun z => h (Sum.inl.inj z)
    simp [h, this]
theorem dgS_dpS {kvs : List (D × D)} {k j : Str} {v : D} : dgS (dpS kvs k v) j = if j = k then some v else dgS kvs j := by
  unfold dgS dpS
  rw [dget_dput rfl]
  by_cases h : j = k
  · subst h; simp
  · have : ¬ ((.inr j : L2.Key) = .inr k) := fun z => h (Sum.inr.inj z)
    simp [h, this]
@[simp] theorem dgI_nil {k : Int} : dgI [] k = none := rfl
@[simp] theorem dgS_nil {k : Str} : dgS [] k = none := rfl
theorem dpI_len {kvs : List (D × D)} {k : Int} {v : D} : (dpI kvs k v).length ≤ kvs.length + 1 := dput_len
theorem dpS_len {kvs : List (D × D)} {k : Str} {v : D} : (dpS kvs k v).length ≤ kvs.length + 1 := dput_len
theorem setO_dI {kvs : List (D × D)} {k : Int} {v : D} (h : kvs.length < lim) : setO (.od .sc kvs) (.int k) v = some (.od .sc (dpI kvs k v)) := by
  show (if kvs.length < lim then _ else _) = _
  rw [if_pos h]; rfl
theorem setO_dS {kvs : List (D × D)} {k : Str} {v : D} (h : kvs.length < lim) : setO (.od .sc kvs) (.str k) v = some (.od .sc (dpS kvs k v)) := by
  show (if kvs.length < lim then _ else _) = _
  rw [if_pos h]; rfl
@[simp] theorem idxD_dI {kvs : List (D × D)} {k : Int} : idxD (.dct .sc kvs) (.int k) = dgI kvs k := rfl
@[simp] theorem idxD_dS {kvs : List (D × D)} {k : Str} : idxD (.dct .sc kvs) (.str k) = dgS kvs k := rfl
@[simp] theorem inD_dI {kvs : List (D × D)} {k : Int} : inD (.int k) (.dct .sc kvs) = some (dgI kvs k).isSome := rfl
@[simp] theorem inD_dS {kvs : List (D × D)} {k : Str} : inD (.str k) (.dct .sc kvs) = some (dgS kvs k).isSome := rfl
@[simp] theorem get_dI {kvs : List (D × D)} {k : Int} {d : D} : bmO .get (.dct .sc kvs) [.fr (.int k), .fr d] = some (.fr ((dgI kvs k).getD d)) := rfl
@[simp] theorem get_dS {kvs : List (D × D)} {k : Str} {d : D} : bmO .get (.dct .sc kvs) [.fr (.str k), .fr d] = some (.fr ((dgS kvs k).getD d)) := rfl
@[simp] theorem bmT_get {q} {kvs : List (D × D)} : bmT .get (.dct q kvs) = true := rfl
@[simp] theorem biO_dict {kvs : List (D × D)} : biO .dict [.dct .sc kvs] = some (.od .sc kvs) := rfl
/-- a dict whose values are told by its keys -/
def DFn (F : Int → D) (kvs : List (D × D)) : Prop := ∀ p ∈ kvs, ∃ k : Int, p = (.int k, F k)
theorem dfn_nil {F : Int → D} : DFn F [] := nofun
theorem dfn_put {F : Int → D} {kvs : List (D × D)} (h : DFn F kvs) (k : Int) : DFn F (dpI kvs k (F k)) := by
  intro p hp
  unfold dpI dput at hp
  split at hp
  · obtain ⟨q, hq, e⟩ := List.mem_map.mp hp
    obtain ⟨j, rfl⟩ := h q hq
    split at e
    · rename_i c
      have c' : keyOf (.int j) = some (.inl k) := by simpa using c
      have : j = k := by cases c'; rfl
      subst this
      exact ⟨j, e.symm⟩
    · exact ⟨j, e.symm⟩
  · rcases List.mem_append.mp hp with hp | hp
    · exact h p hp
    · exact ⟨k, by simpa using hp⟩
theorem dfn_get {F : Int → D} {k : Int} {d : D} : ∀ {kvs : List (D × D)}, DFn F kvs → dgI kvs k = some d → d = F k
  | [], _, e => nomatch e
  | p :: kvs, h, e => by
    obtain ⟨j, rfl⟩ := h p (List.mem_cons_self ..)
    unfold dgI at e
    rw [dget_cons] at e
    split at e
    · rename_i c
      have : j = k := by cases c; rfl
      subst this
      cases e; rfl
    · exact dfn_get (kvs := kvs) (fun q hq => h q (List.mem_cons_of_mem _ hq)) e
theorem dfn_mem {F : Int → D} {k : Int} : ∀ {kvs : List (D × D)}, DFn F kvs → ((.int k, F k) : D × D) ∈ kvs → dgI kvs k = some (F k)
  | [], _, e => nomatch e
  | p :: kvs, h, e => by
    obtain ⟨j, rfl⟩ := h p (List.mem_cons_self ..)
    unfold dgI
    rw [dget_cons]
    by_cases c : j = k
    · subst c; simp [keyOf]
    · have c2 : ¬ (keyOf (.int j) = some (.inl k)) := by intro z; cases z; exact c rfl
      rw [if_neg c2]
      rcases List.mem_cons.mp e with e | e
      · cases e; exact absurd rfl c
      · exact dfn_mem (kvs := kvs) (fun q hq => h q (List.mem_cons_of_mem _ hq)) e
theorem hitD_fn {F : Int → D} {ls : List (D × D)} (hl : DFn F ls) (ok : ∀ k, okD (F k) = true) (hd : ∀ k, depD (F k) ≤ 100) : ∀ {ks : List (D × D)}, (∀ p ∈ ks, p ∈ ls) → hitD ls ks = some true
  | [], _ => rfl
  | p :: ks, h => by
    obtain ⟨k, rfl⟩ := hl p (h p (List.mem_cons_self ..))
    have e := dfn_mem hl (h _ (List.mem_cons_self ..))
    have e1 : eqv (F k) (F k) = true := PySem.SeqAt.eqv_refl (toPy (F k)) (lay_of (F k) (ok k))
    have ih := hitD_fn hl ok hd (ks := ks) fun q hq => h q (List.mem_cons_of_mem _ hq)
    show (match dget ls (.inl k) with
      | none => some false
      | some e => if okD (F k) && okD e && decide (min (depD (F k)) (depD e) ≤ 100) then (hitD ls ks).map fun b => eqv (F k) e && b else none) = some true
    rw [show dget ls (.inl k) = some (F k) from e, ih]
    simp only [ok k, Bool.true_and, Nat.min_self, hd k, decide_true, if_true, Option.map_some, e1, Bool.and_self]
theorem eqD_dfn {F : Int → D} {kvs : List (D × D)} (h : DFn F kvs) (ok : ∀ k, okD (F k) = true) (hd : ∀ k, depD (F k) ≤ 100) : eqD (.dct .sc kvs) (.dct .sc kvs) = some true := by
  show (if kvs.length = kvs.length then hitD kvs kvs else some false) = _
  rw [if_pos rfl, hitD_fn h ok hd fun _ h => h]
/-- its values, and by boxes -/
def worthF (f : Int → Int) : Rk → Int
  | .box n => f n
  | .num v => v
  | .op s a b => valueF s (worthF f a) (worthF f b)
theorem worthF_in {f : Int → Int} (hf : ∀ k, inW (f k)) : ∀ {r : Rk}, r.ok → inW (worthF f r)
  | .box n, _ => hf n
  | .num v, h => h
  | .op s a b, h => valueF_in s (worthF_in hf h.2.2.1) (worthF_in hf h.2.2.2)
theorem worthF_tog {f : Int → Int} {s : Str} {a b : Rk} : worthF f (tog s a b) = valueF s (worthF f a) (worthF f b) := by
  cases a <;> cases b <;> rfl
/-- put through -/
def putF (g : Int → Option Rk) : Rk → Rk
  | .box n => (g n).getD (.box n)
  | .num v => .num v
  | .op s a b => tog s (putF g a) (putF g b)
theorem worthF_put {f : Int → Int} {g : Int → Option Rk} : ∀ r : Rk, worthF f (putF g r) = worthF (fun k => match g k with | some x => worthF f x | none => f k) r
  | .box n => by
    show worthF f ((g n).getD (.box n)) = match g n with | some x => worthF f x | none => f n
    cases g n <;> rfl
  | .num v => rfl
  | .op s a b => by
    show worthF f (tog s (putF g a) (putF g b)) = _
    rw [worthF_tog, worthF_put a, worthF_put b]; rfl
theorem worthF_congr {f g : Int → Int} : ∀ {r : Rk}, (∀ k ∈ r.boxes, f k = g k) → worthF f r = worthF g r
  | .box n, h => h n (List.mem_singleton.mpr rfl)
  | .num v, _ => rfl
  | .op s a b, h => by
    show valueF s _ _ = valueF s _ _
    rw [worthF_congr (r := a) fun k hk => h k (List.mem_append_left _ hk), worthF_congr (r := b) fun k hk => h k (List.mem_append_right _ hk)]
def newsC (c : Int) : Rk := if c / 5 % 3 = 0 then leafC (c / 5) else .op (sgN (c / 15 % 9).toNat) (leafC (c / 5)) (leafC (c * 69621 % 2147483629))
theorem newsC_sg (c : Int) : sgN (c / 15 % 9).toNat ∈ sgs ∧ idxD (.str "+-*/<=&|^") (.int (c / 15 % 9)) = some (.str (sgN (c / 15 % 9).toNat)) := by
  have h1 := Int.emod_nonneg (c / 15) (by decide : (9 : Int) ≠ 0)
  have h2 := Int.emod_lt_of_pos (c / 15) (by decide : (0 : Int) < 9)
  obtain ⟨k, hk⟩ := Int.eq_ofNat_of_zero_le h1
  rw [hk, Int.toNat_natCast]
  exact ⟨sgN_mem k (by omega), sg_str k (by omega)⟩
theorem newsC_ok (c : Int) : (newsC c).ok := by
  unfold newsC
  split
  · exact leafC_ok _
  · exact ⟨(sgs_ok (newsC_sg c).1).1, (sgs_ok (newsC_sg c).1).2, leafC_ok _, leafC_ok _⟩
theorem newsC_hgt (c : Int) : (newsC c).hgt ≤ 1 := by
  have hz : ∀ c, (leafC c).hgt ≤ 0 := fun c => by have := (leafC c).hgt_lt; have := leafC_size c; omega
  have h1 := hz (c / 5)
  have h2 := hz (c * 69621 % 2147483629)
  unfold newsC
  split
  · omega
  · simp only [Rk.hgt]; omega
theorem tog_okk {s : Str} (hs : s ≠ "box" ∧ s ≠ "num") {l r : Rk} (hl : l.ok) (hr : r.ok) : (tog s l r).ok := by
  cases l <;> cases r <;> first | exact valueF_in s hl hr | exact ⟨hs.1, hs.2, hl, hr⟩
theorem putF_ok {g : Int → Option Rk} (hg : ∀ k r, g k = some r → r.ok) : ∀ {r : Rk}, r.ok → (putF g r).ok
  | .box n, _ => by
    show ((g n).getD (.box n)).ok
    cases h : g n with
    | none => trivial
    | some x => exact hg n x h
  | .num v, h => h
  | .op s a b, h => tog_okk ⟨h.1, h.2.1⟩ (putF_ok hg h.2.2.1) (putF_ok hg h.2.2.2)
theorem putF_hgt {g : Int → Option Rk} {m : Nat} (hg : ∀ k r, g k = some r → r.hgt ≤ m) : ∀ {r : Rk}, (putF g r).hgt ≤ r.hgt + m
  | .box n => by
    show ((g n).getD (.box n)).hgt ≤ _
    cases h : g n with
    | none => exact Nat.zero_le _
    | some x =>
      have := hg n x h
      show x.hgt ≤ _
      omega
  | .num v => Nat.zero_le _
  | .op s a b => by
    have h1 := putF_hgt hg (r := a)
    have h2 := putF_hgt hg (r := b)
    have h3 := tog_hgt (s := s) (l := putF g a) (r := putF g b)
    show (tog s (putF g a) (putF g b)).hgt ≤ max a.hgt b.hgt + 1 + m
    omega
/-- a dict of boxes with values -/
def Bx (kvs : List (D × D)) : Prop := ∀ k d, dgI kvs k = some d → ∃ v, inW v ∧ d = .int v
def bxF (kvs : List (D × D)) (k : Int) : Int := match dgI kvs k with | some (.int v) => v | _ => 0
theorem bx_get {kvs : List (D × D)} (h : Bx kvs) (k : Int) : (dgI kvs k).getD (.int 0) = .int (bxF kvs k) := by
  unfold bxF
  cases e : dgI kvs k with
  | none => rfl
  | some d => obtain ⟨v, _, rfl⟩ := h k d e; rfl
theorem bx_in {kvs : List (D × D)} (h : Bx kvs) (k : Int) : inW (bxF kvs k) := by
  unfold bxF
  cases e : dgI kvs k with
  | none => exact ⟨by decide, by decide⟩
  | some d => obtain ⟨v, hv, rfl⟩ := h k d e; exact hv
theorem bx_set {kvs : List (D × D)} (h : Bx kvs) {k v : Int} (hv : inW v) : Bx (dpI kvs k (.int v)) := by
  intro j d e
  rw [dgI_dpI] at e
  split at e
  · cases e; exact ⟨v, hv, rfl⟩
  · exact h j d e
/-- a reckoning may be compared -/
theorem ok_words : PySem.PyData.strOk ("box" : Str) = true ∧ PySem.PyData.strOk ("num" : Str) = true ∧ ∀ s ∈ sgs, PySem.PyData.strOk s = true := by decide +kernel
theorem Rk.okD {r : Rk} (h : r.ok) (hs : ∀ s, s ∈ r.sg → s ∈ sgs) : Sg.okD r.d = true := by
  induction r with
  | box n => simp [Rk.d, ok_words.1]
  | num v => simp [Rk.d, ok_words.2.1]
  | op s a b iha ihb => 
    have e := ok_words.2.2
    have h1 := iha h.2.2.1 fun t ht => hs t (List.mem_cons_of_mem _ (List.mem_append_left _ ht))
    have h2 := ihb h.2.2.2 fun t ht => hs t (List.mem_cons_of_mem _ (List.mem_append_right _ ht))
    simp [Rk.d, e s (hs s (List.mem_cons_self ..)), h1, h2]
theorem Rk.depD : ∀ r : Rk, Sg.depD r.d ≤ r.hgt + 1
  | .box n => by simp [Rk.d]
  | .num v => by simp [Rk.d]
  | .op s a b => by
    have h1 := a.depD
    have h2 := b.depD
    simp only [Rk.d, depD_tup, depDs_cons, depD_str, depDs_nil, Rk.hgt]
    omega
end Sg
namespace Sg
open PySem (Str)
/-! ### texts by their signs -/
def T (l : List Nat) : Str := ⟨l.toArray⟩
@[simp] theorem T_app (a b : List Nat) : T a ++ T b = T (a ++ b) := by
  show PySem.Str.append (T a) (T b) = _
  unfold PySem.Str.append T
  simp
@[simp] theorem T_len (l : List Nat) : (T l).length = l.length := by
  show l.toArray.size = _
  simp
@[simp] theorem T_inj {a b : List Nat} : (T a = T b) = (a = b) := by
  apply propext
  refine ⟨fun h => ?_, fun h => by rw [h]⟩
  have := congrArg (fun s => s.cps.toList) h
  simpa [T] using this
theorem T_cps (l : List Nat) : (T l).cps.toList = l := by simp [T]
theorem T_of (s : Str) : s = T s.cps.toList := by
  unfold T
  simp
@[simp] theorem chsD_T (l : List Nat) : chsD (T l) = l.map fun c => .str (T [c]) := by
  unfold chsD
  rw [T_cps]; rfl
theorem cutS_T {l : List Nat} {a b : Nat} : L2.cutS (T l) (some (a : Int)) (some (b : Int)) = T ((l.drop a).take (b - a)) := by
  unfold L2.cutS
  rw [HT.sIx_nat, HT.sIx_nat, T_cps, T_len]
  show T _ = T _
  rw [T_inj]
  by_cases ha : a ≤ l.length
  · rw [Nat.min_eq_left ha]
    by_cases hb : b ≤ l.length
    · rw [Nat.min_eq_left hb]
    · rw [Nat.min_eq_right (by omega), List.take_of_length_le (by simp), List.take_of_length_le (by simp; omega)]
  · rw [Nat.min_eq_right (show l.length ≤ a by omega), List.drop_of_length_le (Nat.le_refl _), List.drop_of_length_le (show l.length ≤ a by omega)]
    simp
theorem cutS_to {l : List Nat} {b : Nat} : L2.cutS (T l) none (some (b : Int)) = T (l.take b) := by
  unfold L2.cutS
  rw [HT.sIx_nat, HT.sIx_none, T_cps, T_len]
  show T _ = T _
  rw [T_inj]
  by_cases hb : b ≤ l.length
  · rw [Nat.min_eq_left hb]; simp
  · rw [Nat.min_eq_right (by omega), List.take_of_length_le (by simp), List.take_of_length_le (by omega)]; simp
theorem cutS_from {l : List Nat} {a : Nat} : L2.cutS (T l) (some (a : Int)) none = T (l.drop a) := by
  unfold L2.cutS
  rw [HT.sIx_nat, HT.sIx_none, T_cps, T_len]
  show T _ = T _
  rw [T_inj]
  by_cases ha : a ≤ l.length
  · rw [Nat.min_eq_left ha, List.take_of_length_le (by simp)]
  · rw [Nat.min_eq_right (by omega), List.drop_of_length_le (Nat.le_refl _), List.drop_of_length_le (by omega)]; simp
theorem slO_T {l : List Nat} {lo hi : Option Int} (h : l.length ≤ lim) : slO (.str (T l)) lo hi = some (.fr (.str (L2.cutS (T l) lo hi))) := by
  show (if (T l).length ≤ lim then _ else _) = _
  rw [if_pos (by rw [T_len]; exact h)]
theorem add_T {a b : List Nat} (h : a.length + b.length ≤ lim) : op2 .add (.str (T a)) (.str (T b)) = some (.str (T (a ++ b))) := by
  show (if (T a).length + (T b).length ≤ lim then _ else _) = _
  rw [if_pos (by rw [T_len, T_len]; exact h), T_app]
theorem len_T {l : List Nat} (h : l.length ≤ lim) : biO .len [.str (T l)] = some (.fr (.int l.length)) := by
  show (if (T l).length ≤ lim then _ else _) = _
  rw [if_pos (by rw [T_len]; exact h), T_len]
theorem truO_T {l : List Nat} (h : l.length ≤ lim) : truO (.str (T l)) = some (!l.isEmpty) := by
  show (if (T l).length ≤ lim then some (((T l).length : Int) != 0) else none) = _
  rw [if_pos (by rw [T_len]; exact h), T_len]
  cases l with
  | nil => rfl
  | cons a l =>
    have h2 : ((((a :: l).length : Nat) : Int) != 0) = true := by
      rw [bne_iff_ne]; simp only [List.length_cons]; omega
    rw [h2]; rfl
/-! ### bits -/
def b2n (b : Bool) : Nat := if b then 1 else 0
def b2i (b : Bool) : Int := if b then 1 else 0
def bT (b : Bool) : Nat := if b then 49 else 48
def B (l : List Bool) : Str := T (l.map bT)
theorem B_len (l : List Bool) : (B l).length = l.length := by unfold B; simp
theorem lit_0 : (PySem.Str.ofString "0") = B [false] := by decide +kernel
theorem lit_1 : (PySem.Str.ofString "1") = B [true] := by decide +kernel
theorem lit_e : (PySem.Str.ofString "") = B [] := by decide +kernel
theorem add_B {a b : List Bool} (h : a.length + b.length ≤ lim) : op2 .add (.str (B a)) (.str (B b)) = some (.str (B (a ++ b))) := by
  unfold B
  rw [add_T (by simpa using h), List.map_append]
theorem len_B {l : List Bool} (h : l.length ≤ lim) : biO .len [.str (B l)] = some (.fr (.int l.length)) := by
  unfold B
  rw [len_T (by simpa using h), List.length_map]
theorem chsD_B (l : List Bool) : chsD (B l) = l.map fun b => .str (B [b]) := by
  unfold B
  rw [chsD_T, List.map_map]; rfl
theorem cutS_B {l : List Bool} {a b : Nat} : L2.cutS (B l) (some (a : Int)) (some (b : Int)) = B ((l.drop a).take (b - a)) := by
  unfold B
  rw [cutS_T, List.map_take, List.map_drop]
theorem slO_B {l : List Bool} {lo hi : Option Int} (h : l.length ≤ lim) : slO (.str (B l)) lo hi = some (.fr (.str (L2.cutS (B l) lo hi))) := slO_T (by simpa using h)
theorem B_one {a b : Bool} : (B [a] = B [b]) = (a = b) := by
  cases a <;> cases b <;> simp [B, bT]
theorem bitAnd_low (n k : Nat) : PySem.Builtin.bitAnd (n : Int) ((2 ^ k - 1 : Nat) : Int) = ((n % 2 ^ k : Nat) : Int) := by
  rw [bitAnd_n, Nat.and_two_pow_sub_one_eq_mod]
theorem bit_at (n k : Nat) : PySem.Builtin.bitAnd ((n : Int) / 2 ^ k) 1 = b2i (n.testBit k) := by
  have h1 : ((n : Int) / 2 ^ k) = ((n / 2 ^ k : Nat) : Int) := by simp
  have h2 := bitAnd_low (n / 2 ^ k) 1
  have h3 : ((2 ^ 1 - 1 : Nat) : Int) = 1 := rfl
  rw [h3] at h2
  rw [h1, h2, Nat.testBit_eq_decide_div_mod_eq]
  unfold b2i
  rcases Nat.mod_two_eq_zero_or_one (n / 2 ^ k) with h | h
  · simp [h]
  · simp [h]
theorem str_bit (b : Bool) : biO .str [.int (b2i b)] = some (.fr (.str (B [b]))) := by
  cases b
  · show (if (0 : Int).natAbs < 2 ^ 64 then some (OV.fr (.str (PySem.Str.ofString (toString (0 : Int))))) else none) = _
    rw [if_pos (by decide), show PySem.Str.ofString (toString (0 : Int)) = B [false] by decide +kernel]
  · show (if (1 : Int).natAbs < 2 ^ 64 then some (OV.fr (.str (PySem.Str.ofString (toString (1 : Int))))) else none) = _
    rw [if_pos (by decide), show PySem.Str.ofString (toString (1 : Int)) = B [true] by decide +kernel]
/-- a number's bits, the highest first -/
def bo (n m : Nat) : List Bool := ((List.range m).map n.testBit).reverse
theorem bo_len (n m : Nat) : (bo n m).length = m := by simp [bo]
/-- its figures by eight, the lowest first -/
def dg (n : Nat) : List Nat := if 7 < n then n % 8 :: dg (n / 8) else [n]
termination_by n
decreasing_by omega
def en : List Nat → List Bool
  | [] => []
  | d :: ds => match ds with
    | [] => false :: bo d 3
    | _ :: _ => true :: (bo d 3 ++ en ds)
def valD : List Nat → Nat
  | [] => 0
  | d :: ds => d + 8 * valD ds
theorem dg_big {n : Nat} (h : 7 < n) : dg n = n % 8 :: dg (n / 8) := by rw [dg, if_pos h]
theorem dg_small {n : Nat} (h : ¬ 7 < n) : dg n = [n] := by rw [dg, if_neg h]
theorem dg_ne (n : Nat) : dg n ≠ [] := by
  by_cases h : 7 < n
  · rw [dg_big h]; exact List.cons_ne_nil _ _
  · rw [dg_small h]; exact List.cons_ne_nil _ _
theorem dg_val (n : Nat) : valD (dg n) = n := by
  induction n using Nat.strongRecOn with
  | ind n ih =>
    by_cases h : 7 < n
    · rw [dg_big h]
      show n % 8 + 8 * valD (dg (n / 8)) = n
      rw [ih (n / 8) (by omega)]
      omega
    · rw [dg_small h]; simp [valD]
theorem dg_len : ∀ (k n : Nat), n < 8 ^ (k + 1) → (dg n).length ≤ k + 1
  | 0, n, h => by rw [dg_small (by simp at h; omega)]; simp
  | k + 1, n, h => by
    by_cases h7 : 7 < n
    · rw [dg_big h7, List.length_cons]
      have := dg_len k (n / 8) (by rw [Nat.pow_succ] at h; omega)
      omega
    · rw [dg_small h7]; simp
theorem en_cons {d : Nat} {ds : List Nat} (h : ds ≠ []) : en (d :: ds) = true :: (bo d 3 ++ en ds) := by
  cases ds with
  | nil => exact absurd rfl h
  | cons a b => rfl
theorem en_len : ∀ ds : List Nat, (en ds).length = 4 * ds.length
  | [] => rfl
  | [d] => by simp [en, bo_len]
  | d :: e :: ds => by
    rw [en_cons (by simp), List.length_cons, List.length_append, bo_len, en_len (e :: ds)]
    simp only [List.length_cons]; omega
/-- the bits of a number in groups of four -/
def nb (n : Nat) : List Bool := en (dg n)
theorem nb_len {n : Nat} (h : n < 8 ^ 16) : (nb n).length ≤ 64 := by
  unfold nb
  have := dg_len 15 n h
  rw [en_len]; omega
/-- figures that may stand: each below eight, the last one of more than one not 0 -/
def gd : Bool → List Nat → Prop
  | _, [] => False
  | f, d :: ds => d < 8 ∧ match ds with
    | [] => f = false → d ≠ 0
    | _ :: _ => gd false ds
theorem gd_cons {f : Bool} {d : Nat} {ds : List Nat} (h : ds ≠ []) : gd f (d :: ds) = (d < 8 ∧ gd false ds) := by
  cases ds with
  | nil => exact absurd rfl h
  | cons a b => rfl
theorem gd_dg (n : Nat) : ∀ f, (f = false → n ≠ 0) → gd f (dg n) := by
  induction n using Nat.strongRecOn with
  | ind n ih =>
    intro f hf
    by_cases h : 7 < n
    · rw [dg_big h, gd_cons (dg_ne _)]
      exact ⟨by omega, ih (n / 8) (by omega) false fun _ => by omega⟩
    · rw [dg_small h]
      exact ⟨by omega, hf⟩
/-- the value of bits, the highest first -/
def bv (p : Nat) (l : List Bool) : Nat := l.foldl (fun p b => 2 * p + b2n b) p
theorem bv_bo3 : ∀ d : Nat, d < 8 → ∀ c : Bool, bv 0 (c :: bo d 3) = 8 * b2n c + d := by decide
end Sg
namespace Sg
open PySem (Str)
/-! ### texts: a sign in a text, its place, joined texts, figures -/
theorem T_one (c : Nat) : (⟨#[c]⟩ : Str) = T [c] := rfl
theorem inD_one {c : Nat} {l : List Nat} : inD (.str (T [c])) (.str (T l)) = some (decide (c ∈ l)) := by
  show some (!(PySem.Builtin.Str.occurrences (T l) ⟨#[c]⟩ 0 (T l).length 1).isEmpty) = _
  rw [PySem.StrLaws.found_one, T_cps]
theorem idx_T {k : Nat} {l : List Nat} (h : k < l.length) (hl : l.length ≤ lim) : idxD (.str (T l)) (.int (k : Nat)) = some (.str (T [l[k]])) := by
  show (if (T l).length ≤ lim then (L2.atI (T l).cps.toList (k : Int)).map fun c => D.str ⟨#[c]⟩ else none) = _
  rw [if_pos (by rw [T_len]; exact hl), T_cps, atI_cast, List.getElem?_eq_getElem h]
  rfl
theorem find_at {x : Str} {c k : Nat} (h : x.cps.toList[k]? = some c) (hf : ∀ j, j < k → x.cps.toList[j]? ≠ some c) : PySem.Txt.find x ⟨#[c]⟩ = k := by
  rcases PySem.StrLaws.occ_head x ⟨#[c]⟩ 1 (Nat.le_refl 1) with ⟨h1, h2⟩ | ⟨i, r, h1, h2, h3⟩
  · exact absurd ((PySem.StrLaws.subAt_one x c k).mpr h) (h2 k)
  · have e : i = k := by
      have hi := (PySem.StrLaws.subAt_one x c i).mp h2
      rcases Nat.lt_trichotomy i k with z | z | z
      · exact absurd hi (hf i z)
      · exact z
      · exact absurd ((PySem.StrLaws.subAt_one x c k).mpr h) (h3 k z)
    subst e
    show (match PySem.Builtin.Str.occurrences x ⟨#[c]⟩ 0 x.length 1 with | i :: _ => (i : Int) | [] => -1) = _
    rw [h1]
theorem find_T {l : List Nat} {c k : Nat} (h : l[k]? = some c) (hf : ∀ j, j < k → l[j]? ≠ some c) : bmO .find (.str (T l)) [.fr (.str (T [c]))] = some (.fr (.int (k : Nat))) := by
  show some (OV.fr (.int (PySem.Txt.find (T l) ⟨#[c]⟩))) = _
  rw [find_at (x := T l) (by rw [T_cps]; exact h) (by rw [T_cps]; exact hf)]
theorem glue_T (l : List (List Nat)) : ∀ a : List Nat, (⟨List.foldl (fun acc (p : Str) => acc ++ (PySem.Str.ofString "").cps ++ p.cps) (T a).cps (l.map T)⟩ : Str) = T (a ++ l.flatten) := by
  induction l with
  | nil => intro a; rw [List.flatten_nil, List.append_nil]; rfl
  | cons x l ih =>
    intro a
    rw [List.map_cons, List.foldl_cons]
    have e : (T a).cps ++ (PySem.Str.ofString "").cps ++ (T x).cps = (T (a ++ x)).cps := by
      have e0 : (PySem.Str.ofString "").cps = #[] := by decide +kernel
      rw [e0]
      simp [T]
    rw [e, ih, List.flatten_cons, List.append_assoc]
theorem join_e (l : List (List Nat)) : PySem.Txt.join (PySem.Str.ofString "") (l.map T) = T l.flatten := by
  show PySem.Builtin.Str.glued (PySem.Str.ofString "") (l.map T) = _
  unfold PySem.Builtin.Str.glued
  cases l with
  | nil => decide +kernel
  | cons x l =>
    have := glue_T l x
    rw [List.flatten_cons]
    exact this
theorem strsOf_T : ∀ l : List (List Nat), strsOf (l.map fun x => D.str (T x)) = some (l.map T)
  | [] => rfl
  | x :: l => by
    show (strsOf (l.map fun x => D.str (T x))).map (T x :: ·) = _
    rw [strsOf_T l]; rfl
theorem joinO_T {l : List (List Nat)} (h : (l.map List.length).sum ≤ lim) : joinO (PySem.Str.ofString "") (some (l.map T)) = some (.fr (.str (T l.flatten))) := by
  show (if ((l.map T).map (·.length)).sum + (l.map T).length * (PySem.Str.ofString "").length ≤ 16777216 then _ else _) = _
  have e0 : (PySem.Str.ofString "").length = 0 := by decide +kernel
  have e1 : ((l.map T).map (·.length)) = l.map List.length := by
    rw [List.map_map]
    apply List.map_congr_left
    intro x _
    simp
  rw [if_pos, join_e]
  rw [e0, e1]
  unfold lim at h
  omega
/-- single signs joined -/
theorem join_ones {f : Nat → Nat} {ks : List Nat} (h : ks.length ≤ lim) : bmO .join (.str "") [.ol (ks.map fun k => D.str (T [f k]))] = some (.fr (.str (T (ks.map f)))) := by
  show joinO (PySem.Str.ofString "") (strsOf (ks.map fun k => D.str (T [f k]))) = _
  have e : (ks.map fun k => D.str (T [f k])) = (ks.map fun k => [f k]).map fun x => D.str (T x) := by rw [List.map_map]; rfl
  rw [e, strsOf_T, joinO_T]
  · have e2 : (ks.map fun k => [f k]).flatten = ks.map f := by
      clear h e
      induction ks with
      | nil => rfl
      | cons k ks ih => rw [List.map_cons, List.flatten_cons, ih]; rfl
    rw [e2]
  · have : ((ks.map fun k => [f k]).map List.length).sum = ks.length := by
      clear h e
      induction ks with
      | nil => rfl
      | cons k ks ih => simp only [List.map_cons, List.sum_cons, ih, List.length_cons, List.length_nil]; omega
    rw [this]; exact h
@[simp] theorem bmT_join {s : Str} : bmT .join (.str s) = true := rfl
@[simp] theorem bmT_find {s : Str} : bmT .find (.str s) = true := rfl
theorem int_T {l : List Nat} (hd : ∀ c ∈ l, 48 ≤ c ∧ c ≤ 57) (h0 : l ≠ []) (hl : l.length ≤ 640) : biO .int [.str (T l)] = some (.fr (.int (PySem.NumText.digitsVal l : Nat))) := by
  show (if (T l).length ≤ 640 then (PySem.intText? (T l)).map fun n => OV.fr (.int n) else none) = _
  rw [if_pos (by rw [T_len]; exact hl), PySem.intText_digits (x := T l) (by rw [T_cps]; exact hd) (by rw [T_cps]; exact h0) (by rw [T_len]; omega), T_cps]
  rfl
theorem dv_snoc (l : List Nat) (c : Nat) : PySem.NumText.digitsVal (l ++ [c]) = PySem.NumText.digitsVal l * 10 + (c - 48) := by
  unfold PySem.NumText.digitsVal
  rw [List.foldl_append]; rfl
/-- how long figures are -/
theorem core_len : ∀ (f n k : Nat) (ds : List Char), 1 ≤ k → n < 10 ^ k → (Nat.toDigitsCore 10 f n ds).length ≤ ds.length + k
  | 0, n, k, ds, h1, h => by unfold Nat.toDigitsCore; omega
  | f + 1, n, k, ds, h1, h => by
    unfold Nat.toDigitsCore
    simp only
    split
    · simp only [List.length_cons]; omega
    · rename_i hn
      obtain ⟨j, rfl⟩ : ∃ j, k = j + 1 := ⟨k - 1, by omega⟩
      have hj : 1 ≤ j := by
        rcases Nat.eq_zero_or_pos j with z | z
        · subst z
          have h : n < 10 := by simpa using h
          exact absurd (Nat.div_eq_of_lt h) hn
        · exact z
      have := core_len f (n / 10) j (Nat.digitChar (n % 10) :: ds) hj (by rw [Nat.pow_succ] at h; exact Nat.div_lt_of_lt_mul (by rw [Nat.mul_comm]; exact h))
      simp only [List.length_cons] at this
      omega
theorem str_nat (n : Nat) (h : n < 10 ^ 18) : ∃ l : List Nat, l.length ≤ 18 ∧ biO .str [.int (n : Nat)] = some (.fr (.str (T l))) := by
  refine ⟨(PySem.Str.ofString (toString (n : Int))).cps.toList, ?_, ?_⟩
  · rw [PySem.Str.ofString_eq_toList]
    have e : (toString (n : Int)).toList = Nat.toDigits 10 n := by
      show (Nat.repr n).toList = _
      unfold Nat.repr
      simp
    rw [e]
    simp only [List.length_map]
    have := core_len (n + 1) n 18 [] (by decide) h
    simpa [Nat.toDigits] using this
  · show (if (n : Int).natAbs < 2 ^ 64 then some (OV.fr (.str (PySem.Str.ofString (toString (n : Int))))) else none) = _
    rw [if_pos (by rw [Int.natAbs_natCast]; have hh : (10 : Nat) ^ 18 < 2 ^ 64 := (by decide); exact Nat.lt_trans h hh), ← T_of]
end Sg
namespace Sg
open PySem (Str)
/-! ### names that differ by one letter -/
def LET : List Nat := (List.range 26).map (· + 97)
theorem lit_let : (PySem.Str.ofString "abcdefghijklmnopqrstuvwxyz") = T LET := by decide +kernel
theorem let_len : LET.length = 26 := by decide
theorem let_at {k : Nat} (h : k < 26) : idxD (.str (T LET)) (.int (k : Nat)) = some (.str (T [k + 97])) := by
  have e := idx_T (l := LET) (k := k) (by rw [let_len]; exact h) (by rw [let_len]; decide)
  rw [e]
  congr 3
  unfold LET
  simp
def tkS (z : Str) : Bool := [D.str "fn", .str "in", .str "new", .str "get", .str "put", .str "call", .str "out", .str "if", .str "while", .str "else", .str "end", .str "back"].any fun d => eqv d (.str z)
theorem in_tkS (z : Str) : inD (.str z) (.lst [D.str "fn", .str "in", .str "new", .str "get", .str "put", .str "call", .str "out", .str "if", .str "while", .str "else", .str "end", .str "back"]) = some (tkS z) := rfl
theorem in_tkT (z : Str) : inD (.str z) (.tup [D.str "fn", .str "in", .str "new", .str "get", .str "put", .str "call", .str "out", .str "if", .str "while", .str "else", .str "end", .str "back"]) = some (tkS z) := rfl
theorem strOk_T {l : List Nat} (h : ∀ c ∈ l, c < 1114112) : PySem.PyData.strOk (T l) = true := by
  unfold PySem.PyData.strOk T
  rw [Array.all_eq_true_iff_forall_mem]
  intro x hx
  exact decide_eq_true (h x (by simpa using hx))
def nmW (c : Int) : List Nat := (List.range (c % 8).toNat).map fun (k : Nat) => (c * (48271 + 2 * (k : Int)) % 2147483647 / 9 % 26).toNat + 97
def nmAt (c : Int) : Nat := (c / 8 % (c % 8 + 1)).toNat
def nmL (c : Int) (k : Nat) : Nat := ((c / 64 + (k : Int)) % 26).toNat + 97
def nmB (c : Int) (k : Nat) : List Nat := (nmW c).take (nmAt c) ++ [nmL c k] ++ (nmW c).drop (nmAt c)
def nmX (l : List Nat) : List Nat := if tkS (T l) = true then l ++ [120] else l
def nmF (c : Int) (k : Nat) : List Nat := nmX (nmB c k)
theorem nmW_len (c : Int) : (nmW c).length ≤ 7 := by
  unfold nmW
  have h1 := Int.emod_nonneg c (show (8 : Int) ≠ 0 by decide)
  have h2 := Int.emod_lt_of_pos c (show (0 : Int) < 8 by decide)
  simp only [List.length_map, List.length_range]
  omega
theorem nmB_len (c : Int) (k : Nat) : (nmB c k).length = (nmW c).length + 1 := by
  unfold nmB
  simp only [List.length_append, List.length_cons, List.length_nil, List.length_take, List.length_drop]
  omega
theorem nmX_len (l : List Nat) : l.length ≤ (nmX l).length ∧ (nmX l).length ≤ l.length + 1 := by
  unfold nmX
  split <;> simp
theorem nmF_len (c : Int) (k : Nat) : (nmF c k).length ≤ 9 := by
  have h1 := nmW_len c
  have h2 := nmB_len c k
  have h3 := nmX_len (nmB c k)
  unfold nmF
  omega
theorem nmX_inj {a b : List Nat} (hl : a.length = b.length) (h : nmX a = nmX b) : a = b := by
  unfold nmX at h
  split at h <;> split at h
  · exact List.append_cancel_right h
  · have := congrArg List.length h
    simp at this; omega
  · have := congrArg List.length h
    simp at this; omega
  · exact h
theorem nmF_ne {c : Int} {i j : Nat} (hi : i < 26) (hj : j < 26) (h : i ≠ j) : nmF c i ≠ nmF c j := by
  intro e
  have e2 := nmX_inj (by rw [nmB_len, nmB_len]) e
  unfold nmB at e2
  have e3 := List.append_cancel_right e2
  have e4 := List.append_cancel_left e3
  unfold nmL at e4
  have e5 : ((c / 64 + (i : Int)) % 26).toNat + 97 = ((c / 64 + (j : Int)) % 26).toNat + 97 := by simpa using e4
  have h1 := Int.emod_nonneg (c / 64 + (i : Int)) (show (26 : Int) ≠ 0 by decide)
  have h2 := Int.emod_nonneg (c / 64 + (j : Int)) (show (26 : Int) ≠ 0 by decide)
  omega
theorem nmF_ok (c : Int) (k : Nat) : PySem.PyData.strOk (T (nmF c k)) = true := by
  apply strOk_T
  have md : ∀ i : Int, (i % 26).toNat + 97 < 1114112 := fun i => by
    have := Int.emod_lt_of_pos i (show (0 : Int) < 26 by decide)
    omega
  have hw : ∀ x ∈ nmW c, x < 1114112 := by
    intro x hx
    unfold nmW at hx
    obtain ⟨k, _, rfl⟩ := List.mem_map.mp hx
    exact md _
  have hb : ∀ x ∈ nmB c k, x < 1114112 := by
    intro x hx
    unfold nmB at hx
    rcases List.mem_append.mp hx with hx | hx
    · rcases List.mem_append.mp hx with hx | hx
      · exact hw x (List.mem_of_mem_take hx)
      · have : x = nmL c k := by simpa using hx
        subst this
        exact md _
    · exact hw x (List.mem_of_mem_drop hx)
  intro x hx
  unfold nmF nmX at hx
  split at hx
  · rcases List.mem_append.mp hx with hx | hx
    · exact hb x hx
    · have : x = 120 := by simpa using hx
      omega
  · exact hb x hx
theorem nmF_okD (c : Int) (k : Nat) : okD (.str (T (nmF c k))) = true := nmF_ok c k
end Sg
namespace Sg
open PySem (Str)
/-! ### texts in a list; parts of a cell; a pool of names -/
theorem inD_strs {s : Str} {ss : List Str} : inD (.str s) (.lst (ss.map D.str)) = some (decide (s ∈ ss)) := by
  have fl : ∀ ss : List Str, ((ss.map D.str).all flatD) = true := by
    intro ss
    induction ss with
    | nil => rfl
    | cons a l ih => exact ih
  have an : ∀ ss : List Str, ((ss.map D.str).any fun z => eqv z (.str s)) = decide (s ∈ ss) := by
    intro ss
    induction ss with
    | nil => simp
    | cons a l ih =>
      rw [List.map_cons, List.any_cons, ih]
      have : eqv (.str a) (.str s) = decide (a = s) := rfl
      rw [this]
      by_cases h : a = s
      · subst h; simp
      · have h2 : ¬ s = a := fun z => h z.symm
        simp [h, h2]
  show (if (flatD (.str s) && (ss.map D.str).all flatD) || _ then some ((ss.map D.str).any fun z => eqv z (.str s)) else none) = _
  rw [fl, if_pos (by rfl), an]
theorem okDs_strs {ss : List Str} (h : ∀ s ∈ ss, PySem.PyData.strOk s = true) : okDs (ss.map D.str) = true := okDs_all fun d hd => by
  obtain ⟨s, hs, rfl⟩ := List.mem_map.mp hd; exact h s hs
theorem depDs_strs {ss : List Str} : depDs (ss.map D.str) ≤ 0 := depDs_le fun d hd => by
  obtain ⟨s, hs, rfl⟩ := List.mem_map.mp hd; exact Nat.le_refl _
theorem setO_cast {ds : List D} {k : Nat} {d : D} (h : k < ds.length) : setO (.ol ds) (.int (k : Nat)) d = some (.ol (ds.set k d)) := by
  have e := ixN_nat h
  show (L2.ixN ds.length (k : Int)).map (fun j => OV.ol (ds.set j d)) = _
  rw [e]; rfl
def prm : List Int := [10007, 10009, 10037, 10039, 10061, 10067, 10069, 10079]
def prmN (j : Nat) : Int := prm[j % 8]?.getD 1
theorem prmN_at (j : Nat) : L2.atI [D.int 10007, .int 10009, .int 10037, .int 10039, .int 10061, .int 10067, .int 10069, .int 10079] ((j % 8 : Nat) : Int) = some (.int (prmN j)) ∧ 0 < prmN j ∧ prmN j < 20000 := by
  unfold prmN
  have h := Nat.mod_lt j (show 0 < 8 by decide)
  generalize j % 8 = k at *
  match k, h with
  | 0, _ => exact ⟨rfl, by decide, by decide⟩
  | 1, _ => exact ⟨rfl, by decide, by decide⟩
  | 2, _ => exact ⟨rfl, by decide, by decide⟩
  | 3, _ => exact ⟨rfl, by decide, by decide⟩
  | 4, _ => exact ⟨rfl, by decide, by decide⟩
  | 5, _ => exact ⟨rfl, by decide, by decide⟩
  | 6, _ => exact ⟨rfl, by decide, by decide⟩
  | 7, _ => exact ⟨rfl, by decide, by decide⟩
  | k + 8, h => omega
def ptF (c : Int) (j : Nat) (m : Int) : Int := (c * 48271 + 7919 * (j : Int)) % prmN j % m
theorem ptF_lt (c : Int) (j : Nat) {m : Int} (h : 0 < m) : 0 ≤ ptF c j m ∧ ptF c j m < m := ⟨Int.emod_nonneg _ (by omega), Int.emod_lt_of_pos _ h⟩
theorem ptF_nat (c : Int) (j : Nat) {m : Nat} (h : 0 < m) : ∃ p : Nat, ptF c j m = p ∧ p < m := by
  have := ptF_lt c j (show (0 : Int) < m by omega)
  exact ⟨(ptF c j m).toNat, by omega, by omega⟩
/-! the taken words -/
def TK : List (List Nat) := [[102, 110], [105, 110], [110, 101, 119], [103, 101, 116], [112, 117, 116], [99, 97, 108, 108], [111, 117, 116], [105, 102], [119, 104, 105, 108, 101], [101, 108, 115, 101], [101, 110, 100], [98, 97, 99, 107]]
theorem tk_lits : [PySem.Str.ofString "fn", .ofString "in", .ofString "new", .ofString "get", .ofString "put", .ofString "call", .ofString "out", .ofString "if", .ofString "while", .ofString "else", .ofString "end", .ofString "back"] = TK.map T := by decide +kernel
theorem tkS_T (l : List Nat) : tkS (T l) = decide (l ∈ TK) := by
  have e : tkS (T l) = (["fn", "in", "new", "get", "put", "call", "out", "if", "while", "else", "end", "back"] : List Str).any fun s => decide (s = T l) := rfl
  rw [e, tk_lits, List.any_map]
  induction TK with
  | nil => simp
  | cons a r ih =>
    rw [List.any_cons, ih]
    by_cases h : a = l
    · subst h; simp
    · have h2 : ¬ l = a := fun z => h z.symm
      simp [h, h2]
/-- a good name: one to eight letters, no taken word -/
def NmOk (l : List Nat) : Prop := (∀ x ∈ l, 97 ≤ x ∧ x ≤ 122) ∧ 1 ≤ l.length ∧ l.length ≤ 8 ∧ l ∉ TK
theorem NmOk.str {l : List Nat} (h : NmOk l) : PySem.PyData.strOk (T l) = true := strOk_T fun c hc => by have := h.1 c hc; omega
def nmZ (l : List Nat) : List Nat := if tkS (T l) = true then l ++ [122] else l
theorem nmZ_inj {a b : List Nat} (hl : a.length = b.length) (h : nmZ a = nmZ b) : a = b := by
  unfold nmZ at h
  split at h <;> split at h
  · exact List.append_cancel_right h
  · have := congrArg List.length h
    simp at this; omega
  · have := congrArg List.length h
    simp at this; omega
  · exact h
theorem nmZ_ok {l : List Nat} (h1 : ∀ x ∈ l, 97 ≤ x ∧ x ≤ 122) (h2 : 1 ≤ l.length) (h3 : l.length ≤ 8) : NmOk (nmZ l) := by
  unfold nmZ
  rw [tkS_T]
  by_cases h : l ∈ TK
  · rw [if_pos (decide_eq_true h)]
    have : ∀ l ∈ TK, l ++ [122] ∉ TK ∧ l.length ≤ 5 := by decide
    have := this l h
    refine ⟨fun x hx => ?_, by simp, by simp; omega, this.1⟩
    rcases List.mem_append.mp hx with hx | hx
    · exact h1 x hx
    · simp at hx; omega
  · rw [if_neg (by simpa using h)]
    exact ⟨h1, h2, h3, h⟩
/-- the letters that a pool begins with -/
def ltr (c : Int) : List Nat := (List.range 8).map fun k => (ptF c k 26).toNat + 97
theorem ltr_len (c : Int) : (ltr c).length = 8 := by simp [ltr]
theorem ltr_in (c : Int) : ∀ x ∈ ltr c, 97 ≤ x ∧ x ≤ 122 := fun x hx => by
  obtain ⟨k, _, rfl⟩ := List.mem_map.mp hx
  have := ptF_lt c k (show (0 : Int) < 26 by decide)
  omega
def F16 : List Nat := [97, 100, 104, 106, 107, 108, 109, 113, 114, 115, 116, 117, 118, 120, 121, 122]
theorem lit_16 : (PySem.Str.ofString "adhjklmqrstuvxyz") = T F16 := by decide +kernel
def fstL (c : Int) : Nat := F16[(ptF c 12 16).toNat]?.getD 97
theorem fstL_at (c : Int) : idxD (.str (T F16)) (.int (ptF c 12 16)) = some (.str (T [fstL c])) ∧ fstL c ∈ F16 := by
  obtain ⟨p, hp, h⟩ := ptF_nat c 12 (show 0 < 16 by decide)
  rw [show ((16 : Nat) : Int) = 16 from rfl] at hp
  have e := idx_T (l := F16) (k := p) h (by decide)
  have e2 : fstL c = F16[p] := by
    unfold fstL
    rw [hp, Int.toNat_natCast, List.getElem?_eq_getElem h]; rfl
  rw [hp, e, e2]
  exact ⟨rfl, List.getElem_mem _⟩
theorem nmOk_first {x : Nat} {l : List Nat} (hx : x ∈ F16) (hl : ∀ y ∈ l, 97 ≤ y ∧ y ≤ 122) (h : l.length ≤ 7) : NmOk (x :: l) := by
  have a : ∀ x ∈ F16, (97 ≤ x ∧ x ≤ 122) ∧ ∀ t ∈ TK, t.head? ≠ some x := by decide
  have := a x hx
  refine ⟨fun y hy => ?_, by simp, by simp; omega, fun m => this.2 _ m rfl⟩
  rcases List.mem_cons.mp hy with rfl | hy
  · exact this.1
  · exact hl y hy
/-- the letter at the spot -/
def lz (c : Int) (st : Int) (k : Nat) : Nat := ((ptF c 14 26 + st * (k : Int)) % 26).toNat + 97
theorem lz_in (c st : Int) (k : Nat) : 97 ≤ lz c st k ∧ lz c st k ≤ 122 := by
  unfold lz
  have h1 := Int.emod_nonneg (ptF c 14 26 + st * (k : Int)) (show (26 : Int) ≠ 0 by decide)
  have h2 := Int.emod_lt_of_pos (ptF c 14 26 + st * (k : Int)) (show (0 : Int) < 26 by decide)
  omega
def stp (c : Int) : Int := [(1 : Int), 3, 5, 7, 9, 11, 15, 17][(ptF c 13 8).toNat]?.getD 1
theorem stp_at (c : Int) : L2.atI [D.int 1, .int 3, .int 5, .int 7, .int 9, .int 11, .int 15, .int 17] (ptF c 13 8) = some (.int (stp c)) ∧ stp c ∈ [(1 : Int), 3, 5, 7, 9, 11, 15, 17] := by
  obtain ⟨p, hp, h⟩ := ptF_nat c 13 (show 0 < 8 by decide)
  rw [show ((8 : Nat) : Int) = 8 from rfl] at hp
  unfold stp
  rw [hp, Int.toNat_natCast, atI_cast]
  match p, h with
  | 0, _ => exact ⟨rfl, by decide⟩
  | 1, _ => exact ⟨rfl, by decide⟩
  | 2, _ => exact ⟨rfl, by decide⟩
  | 3, _ => exact ⟨rfl, by decide⟩
  | 4, _ => exact ⟨rfl, by decide⟩
  | 5, _ => exact ⟨rfl, by decide⟩
  | 6, _ => exact ⟨rfl, by decide⟩
  | 7, _ => exact ⟨rfl, by decide⟩
  | k + 8, h => omega
theorem lz_inj {c : Int} {i j : Nat} (hi : i < 26) (hj : j < 26) (h : lz c (stp c) i = lz c (stp c) j) : i = j := by
  have m := (stp_at c).2
  generalize stp c = s at *
  unfold lz at h
  simp only [List.mem_cons, List.not_mem_nil, or_false] at m
  rcases m with rfl | rfl | rfl | rfl | rfl | rfl | rfl | rfl <;> omega
def plW (c : Int) (sz sp : Nat) (k : Nat) : List Nat := nmZ (((ltr c).set sp (lz c (stp c) k)).take sz)
theorem plW_len {c : Int} {sz sp : Nat} (hz : 1 ≤ sz ∧ sz ≤ 8) {k : Nat} : (((ltr c).set sp (lz c (stp c) k)).take sz).length = sz := by
  rw [List.length_take, List.length_set, ltr_len]; omega
theorem plW_ok {c : Int} {sz sp : Nat} (hz : 1 ≤ sz ∧ sz ≤ 8) (k : Nat) : NmOk (plW c sz sp k) := by
  refine nmZ_ok (fun x hx => ?_) (by rw [plW_len hz]; omega) (by rw [plW_len hz]; omega)
  have hx := List.mem_of_mem_take hx
  rcases List.mem_or_eq_of_mem_set hx with h | h
  · exact ltr_in c x h
  · rw [h]; exact lz_in ..
theorem plW_inj {c : Int} {sz sp : Nat} (hz : 1 ≤ sz ∧ sz ≤ 8) (hs : sp < sz) {i j : Nat} (hi : i < 26) (hj : j < 26) (h : plW c sz sp i = plW c sz sp j) : i = j := by
  have e := nmZ_inj (by rw [plW_len hz, plW_len hz]) h
  have e := congrArg (·[sp]?) e
  rw [List.getElem?_take_of_lt hs, List.getElem?_take_of_lt hs, List.getElem?_set_self (by rw [ltr_len]; omega), List.getElem?_set_self (by rw [ltr_len]; omega)] at e
  exact lz_inj hi hj (Option.some.inj e)
theorem nodup_map {α β : Type} {f : α → β} : ∀ {l : List α}, l.Nodup → (∀ a ∈ l, ∀ b ∈ l, f a = f b → a = b) → (l.map f).Nodup
  | [], _, _ => List.nodup_nil
  | x :: l, h, H => by
    rw [List.nodup_cons] at h
    rw [List.map_cons, List.nodup_cons]
    refine ⟨fun m => ?_, nodup_map h.2 fun a ha b hb => H a (List.mem_cons_of_mem _ ha) b (List.mem_cons_of_mem _ hb)⟩
    obtain ⟨y, hy, e⟩ := List.mem_map.mp m
    have := H y (List.mem_cons_of_mem _ hy) x (List.mem_cons_self ..) e
    subst this
    exact h.1 hy
/-- the pool -/
def pool (c : Int) (m : Nat) : List (List Nat) :=
  if m ≤ 8 ∧ ptF c 11 4 = 1 then (List.range m).map fun k => fstL c :: (ltr c).take k
  else (List.range m).map fun k => plW c (1 + ptF c 9 8).toNat (ptF c 10 (1 + ptF c 9 8)).toNat k
theorem pool_sz (c : Int) : ∃ z p : Nat, ptF c 9 8 = (z : Int) ∧ z < 8 ∧ ptF c 10 (1 + (z : Int)) = (p : Int) ∧ p < 1 + z := by
  obtain ⟨z, hz, h⟩ := ptF_nat c 9 (show 0 < 8 by decide)
  rw [show ((8 : Nat) : Int) = 8 from rfl] at hz
  obtain ⟨p, hp, h2⟩ := ptF_nat c 10 (show 0 < 1 + z by omega)
  rw [show ((1 + z : Nat) : Int) = 1 + (z : Int) by omega] at hp
  exact ⟨z, p, hz, h, hp, h2⟩
theorem pool_len (c : Int) (m : Nat) : (pool c m).length = m := by unfold pool; split <;> simp
theorem pool_ok (c : Int) (m : Nat) : ∀ w ∈ pool c m, NmOk w := by
  intro w hw
  unfold pool at hw
  split at hw
  · obtain ⟨k, hk, rfl⟩ := List.mem_map.mp hw
    have hk := List.mem_range.mp hk
    exact nmOk_first (fstL_at c).2 (fun y hy => ltr_in c y (List.mem_of_mem_take hy)) (by rw [List.length_take]; omega)
  · obtain ⟨k, hk, rfl⟩ := List.mem_map.mp hw
    obtain ⟨z, p, hz, h1, hp, h2⟩ := pool_sz c
    rw [hz, show (1 + (z : Int)).toNat = 1 + z by omega, hp, Int.toNat_natCast]
    exact plW_ok ⟨by omega, by omega⟩ k
theorem pool_nodup (c : Int) {m : Nat} (hm : m ≤ 26) : (pool c m).Nodup := by
  unfold pool
  split
  · rename_i h
    refine nodup_map List.nodup_range fun a ha b hb e => ?_
    have ha := List.mem_range.mp ha
    have hb := List.mem_range.mp hb
    have := congrArg List.length e
    simp only [List.length_cons, List.length_take, ltr_len] at this
    omega
  · refine nodup_map List.nodup_range fun a ha b hb e => ?_
    have ha := List.mem_range.mp ha
    have hb := List.mem_range.mp hb
    obtain ⟨z, p, hz, h1, hp, h2⟩ := pool_sz c
    rw [hz, show (1 + (z : Int)).toNat = 1 + z by omega, hp, Int.toNat_natCast] at e
    exact plW_inj ⟨by omega, by omega⟩ h2 (by omega) (by omega) e
end Sg
namespace Sg
open PySem (Str)
/-! ### rows of a function, their names, each once -/
def sN (w : List Nat) : D := .str (T w)
def xd : Option (List Nat) → D
  | none => .non
  | some w => sN w
/-- an atom: a value or a name -/
def At (ws : List (List Nat)) (a : D) : Prop := (∃ v : Int, a = .int v ∧ inW v) ∨ ∃ w ∈ ws, a = sN w
inductive Rw where
  | copy (x : List Nat) (a : D) | op (x : List Nat) (s : Str) (a b : D) | new (x : List Nat) | get (x : List Nat) (a : D) (f : List Nat)
  | put (a : D) (f : List Nat) (b : D) | call (x f : List Nat) (as : List D) | out (a : D) | back (a : D) | iff (a : D) | whl (a : D) | els | fin
def Rw.d : Rw → D
  | .copy x a => .tup [.str "copy", sN x, a]
  | .op x s a b => .tup [.str "op", sN x, .str s, a, b]
  | .new x => .tup [.str "new", sN x]
  | .get x a f => .tup [.str "get", sN x, a, sN f]
  | .put a f b => .tup [.str "put", a, sN f, b]
  | .call x f as => .tup [.str "call", sN x, sN f, .tup as]
  | .out a => .tup [.str "out", a]
  | .back a => .tup [.str "back", a]
  | .iff a => .tup [.str "if", a]
  | .whl a => .tup [.str "while", a]
  | .els => .tup [.str "else"]
  | .fin => .tup [.str "end"]
def Rw.x : Rw → Option (List Nat)
  | .copy x _ => some x
  | .op x _ _ _ => some x
  | .new x => some x
  | .get x _ _ => some x
  | .call x _ _ => some x
  | _ => none
def Rw.as : Rw → List D
  | .copy _ a => [a]
  | .op _ _ a b => [a, b]
  | .get _ a _ => [a]
  | .put a _ b => [a, b]
  | .call _ _ as => as
  | .out a => [a]
  | .back a => [a]
  | .iff a => [a]
  | .whl a => [a]
  | _ => []
def Rw.fs : Rw → List (List Nat)
  | .get _ _ f => [f]
  | .put _ f _ => [f]
  | .call _ f _ => [f]
  | _ => []
def Rw.sg : Rw → List Str
  | .op _ s _ _ => [s]
  | _ => []
/-- a row of these names; fields and functions of those -/
def Rw.ok (ws os : List (List Nat)) (r : Rw) : Prop := (∀ x, r.x = some x → x ∈ ws) ∧ (∀ a ∈ r.as, At ws a) ∧ r.as.length ≤ 6 ∧ (∀ f ∈ r.fs, f ∈ os) ∧ ∀ s ∈ r.sg, s ∈ sgs
def addS (acc : List Str) (s : Str) : List Str := if s ∈ acc then acc else acc ++ [s]
def addAll (acc : List Str) (l : List Str) : List Str := l.foldl addS acc
def onceS : List Str → List D → List Str
  | acc, [] => acc
  | acc, .str s :: l => onceS (addS acc s) l
  | acc, _ :: l => onceS acc l
theorem addS_mem {acc : List Str} {s t : Str} : t ∈ addS acc s ↔ t ∈ acc ∨ t = s := by
  unfold addS
  by_cases h : s ∈ acc
  · rw [if_pos h]
    exact ⟨.inl, fun z => by rcases z with z | rfl; exact z; exact h⟩
  · rw [if_neg h]; simp
theorem addS_in {acc : List Str} {s : Str} (h : s ∈ acc) : addS acc s = acc := if_pos h
theorem addS_out {acc : List Str} {s : Str} (h : s ∉ acc) : addS acc s = acc ++ [s] := if_neg h
theorem addS_len {acc : List Str} {s : Str} : (addS acc s).length ≤ acc.length + 1 := by
  unfold addS; split <;> simp
theorem addAll_mem : ∀ {l acc : List Str} {t : Str}, t ∈ addAll acc l ↔ t ∈ acc ∨ t ∈ l
  | [], acc, t => by simp [addAll]
  | s :: l, acc, t => by
    show t ∈ addAll (addS acc s) l ↔ _
    rw [addAll_mem, addS_mem, List.mem_cons, or_assoc]
theorem addAll_app {a b acc : List Str} : addAll acc (a ++ b) = addAll (addAll acc a) b := List.foldl_append ..
theorem addAll_len : ∀ {l acc : List Str}, (addAll acc l).length ≤ acc.length + l.length
  | [], acc => Nat.le_refl _
  | s :: l, acc => by
    have h1 := addAll_len (l := l) (acc := addS acc s)
    have h2 := addS_len (acc := acc) (s := s)
    show (addAll (addS acc s) l).length ≤ _
    rw [List.length_cons]; omega
theorem addAll_nodup : ∀ {l acc : List Str}, (acc ++ l).Nodup → addAll acc l = acc ++ l
  | [], acc, _ => by simp [addAll]
  | s :: l, acc, h => by
    have hs : s ∉ acc := fun m => by
      rw [List.nodup_append] at h
      exact h.2.2 s m s (List.mem_cons_self ..) rfl
    show addAll (addS acc s) l = _
    rw [addS_out hs, addAll_nodup (by simpa using h)]
    simp
theorem onceS_app : ∀ {a b : List D} {acc : List Str}, onceS acc (a ++ b) = onceS (onceS acc a) b
  | [], b, acc => rfl
  | .str s :: a, b, acc => onceS_app (a := a) (b := b)
  | .non :: a, b, acc => onceS_app (a := a) (b := b)
  | .int i :: a, b, acc => onceS_app (a := a) (b := b)
  | .bl i :: a, b, acc => onceS_app (a := a) (b := b)
  | .tup i :: a, b, acc => onceS_app (a := a) (b := b)
  | .ctup i :: a, b, acc => onceS_app (a := a) (b := b)
  | .lst i :: a, b, acc => onceS_app (a := a) (b := b)
  | .dct k i :: a, b, acc => onceS_app (a := a) (b := b)
  | .ref i :: a, b, acc => onceS_app (a := a) (b := b)
theorem onceS_strs : ∀ {l acc : List Str}, onceS acc (l.map D.str) = addAll acc l
  | [], acc => rfl
  | s :: l, acc => onceS_strs (l := l) (acc := addS acc s)
theorem addAll_add {acc b : List Str} {s : Str} : addAll acc (addS b s) = addS (addAll acc b) s := by
  by_cases h : s ∈ b
  · rw [addS_in h, addS_in (addAll_mem.mpr (.inr h))]
  · rw [addS_out h, addAll_app]; rfl
theorem addAll_once : ∀ {l : List D} {acc b : List Str}, addAll acc (onceS b l) = onceS (addAll acc b) l
  | [], _, _ => rfl
  | .str s :: l, acc, b => by
    show addAll acc (onceS (addS b s) l) = onceS (addS (addAll acc b) s) l
    rw [addAll_once, addAll_add]
  | .non :: l, acc, b => addAll_once (l := l)
  | .int i :: l, acc, b => addAll_once (l := l)
  | .bl i :: l, acc, b => addAll_once (l := l)
  | .tup i :: l, acc, b => addAll_once (l := l)
  | .ctup i :: l, acc, b => addAll_once (l := l)
  | .lst i :: l, acc, b => addAll_once (l := l)
  | .dct k i :: l, acc, b => addAll_once (l := l)
  | .ref i :: l, acc, b => addAll_once (l := l)
theorem onceS_len : ∀ {l : List D} {acc : List Str}, (onceS acc l).length ≤ acc.length + l.length
  | [], acc => Nat.le_refl _
  | .str s :: l, acc => by
    have h1 := onceS_len (l := l) (acc := addS acc s)
    have h2 := addS_len (acc := acc) (s := s)
    show (onceS (addS acc s) l).length ≤ _
    rw [List.length_cons]; omega
  | .non :: l, acc => Nat.le_succ_of_le (onceS_len (l := l))
  | .int i :: l, acc => Nat.le_succ_of_le (onceS_len (l := l))
  | .bl i :: l, acc => Nat.le_succ_of_le (onceS_len (l := l))
  | .tup i :: l, acc => Nat.le_succ_of_le (onceS_len (l := l))
  | .ctup i :: l, acc => Nat.le_succ_of_le (onceS_len (l := l))
  | .lst i :: l, acc => Nat.le_succ_of_le (onceS_len (l := l))
  | .dct k i :: l, acc => Nat.le_succ_of_le (onceS_len (l := l))
  | .ref i :: l, acc => Nat.le_succ_of_le (onceS_len (l := l))
/-- texts and values alone -/
def Sc (a : D) : Prop := (∃ s, a = .str s) ∨ ∃ v, a = .int v
theorem onceS_all {P : Str → Prop} : ∀ {l : List D} {acc : List Str}, (∀ s ∈ acc, P s) → (∀ s, D.str s ∈ l → P s) → ∀ s ∈ onceS acc l, P s
  | [], acc, h, _ => h
  | .str s :: l, acc, h, h2 => onceS_all (l := l) (acc := addS acc s) (fun t ht => by rcases addS_mem.mp ht with ht | rfl; exact h t ht; exact h2 _ (List.mem_cons_self ..)) fun t ht => h2 t (List.mem_cons_of_mem _ ht)
  | .non :: l, acc, h, h2 => onceS_all (l := l) h fun t ht => h2 t (List.mem_cons_of_mem _ ht)
  | .int i :: l, acc, h, h2 => onceS_all (l := l) h fun t ht => h2 t (List.mem_cons_of_mem _ ht)
  | .bl i :: l, acc, h, h2 => onceS_all (l := l) h fun t ht => h2 t (List.mem_cons_of_mem _ ht)
  | .tup i :: l, acc, h, h2 => onceS_all (l := l) h fun t ht => h2 t (List.mem_cons_of_mem _ ht)
  | .ctup i :: l, acc, h, h2 => onceS_all (l := l) h fun t ht => h2 t (List.mem_cons_of_mem _ ht)
  | .lst i :: l, acc, h, h2 => onceS_all (l := l) h fun t ht => h2 t (List.mem_cons_of_mem _ ht)
  | .dct k i :: l, acc, h, h2 => onceS_all (l := l) h fun t ht => h2 t (List.mem_cons_of_mem _ ht)
  | .ref i :: l, acc, h, h2 => onceS_all (l := l) h fun t ht => h2 t (List.mem_cons_of_mem _ ht)
theorem At.sc {ws : List (List Nat)} {a : D} (h : At ws a) : Sc a := by
  rcases h with ⟨v, rfl, _⟩ | ⟨w, _, rfl⟩
  · exact .inr ⟨v, rfl⟩
  · exact .inl ⟨_, rfl⟩
/-- what a row tells of names: the given one, the atoms -/
def Rw.all (r : Rw) : List D := (match r.x with | some w => [sN w] | none => []) ++ r.as
def addO (acc : List Str) : Option (List Nat) → List Str
  | some w => addS acc (T w)
  | none => acc
/-- a function's names -/
def namesF (ps : List Str) (rs : List Rw) : List Str := rs.foldl (fun acc r => addAll (addO acc r.x) (onceS [] r.as)) ps
theorem namesF_due : ∀ {rs : List Rw} {ps : List Str}, namesF ps rs = onceS ps (rs.flatMap Rw.all)
  | [], _ => rfl
  | r :: rs, ps => by
    show namesF (addAll (addO ps r.x) (onceS [] r.as)) rs = _
    rw [namesF_due, addAll_once, List.flatMap_cons, onceS_app]
    congr 1
    unfold Rw.all
    rw [onceS_app]
    cases r.x with
    | none => rfl
    | some w => rfl
theorem names_due {rs : List Rw} {ps : List Str} (h : ps.Nodup) : namesF ps rs = onceS [] (ps.map D.str ++ rs.flatMap Rw.all) := by
  rw [onceS_app, onceS_strs, addAll_nodup (by simpa using h), List.nil_append, namesF_due]
end Sg
namespace Sg
/-! ### rows that open, close: what stands open; where they lead -/
inductive Kd where
  | iff | whl | els | fin | bck | oth
  deriving DecidableEq
def Kd.opn : Kd → Bool
  | .iff => true
  | .whl => true
  | _ => false
def Kd.non : Kd → Bool
  | .els => true
  | .fin => true
  | _ => false
abbrev Stk := List (Nat × Kd)
def stp1 (i : Nat) (k : Kd) (s : Stk) : Stk := match k with
  | .iff => (i, .iff) :: s
  | .whl => (i, .whl) :: s
  | .els => (match s with | [] => [] | (b, _) :: r => (b, .els) :: r)
  | .fin => s.tail
  | _ => s
def kAt (ks : List Kd) (i : Nat) : Kd := ks[i]?.getD .oth
def stk (ks : List Kd) : Nat → Stk
  | 0 => []
  | i + 1 => stp1 i (kAt ks i) (stk ks i)
def tpo (ks : List Kd) (i : Nat) : Nat := match stk ks i with
  | [] => 0
  | p :: _ => p.1
structure Wf (ks : List Kd) : Prop where
  els : ∀ i, kAt ks i = .els → ∃ b r, stk ks i = (b, .iff) :: r
  fin : ∀ i, kAt ks i = .fin → stk ks i ≠ []
  emp : stk ks ks.length = []
  last : ∃ m, ks.length = m + 1 ∧ kAt ks m = .bck
theorem kAt_lt {ks : List Kd} {i : Nat} (h : kAt ks i ≠ .oth) : i < ks.length := by
  by_cases hi : i < ks.length
  · exact hi
  · exact absurd (by unfold kAt; rw [List.getElem?_eq_none (by omega)]; rfl) h
theorem kAt_app {ks l : List Kd} {i : Nat} (h : i < ks.length) : kAt (ks ++ l) i = kAt ks i := by
  unfold kAt; rw [List.getElem?_append_left h]
theorem stk_app {ks l : List Kd} : ∀ {i : Nat}, i ≤ ks.length → stk (ks ++ l) i = stk ks i
  | 0, _ => rfl
  | i + 1, h => by
    show stp1 i (kAt (ks ++ l) i) (stk (ks ++ l) i) = stp1 i (kAt ks i) (stk ks i)
    rw [kAt_app (by omega), stk_app (by omega)]
/-- what stands open: places below, ever lower -/
theorem stp1_keys {i : Nat} {k : Kd} {s : Stk} : (stp1 i k s).map (·.1) = if k.opn then i :: s.map (·.1) else if k = .fin then (s.map (·.1)).tail else s.map (·.1) := by
  cases k with
  | els => cases s <;> rfl
  | fin => cases s <;> rfl
  | _ => rfl
def keys (ks : List Kd) (i : Nat) : List Nat := (stk ks i).map (·.1)
theorem keys_zero {ks : List Kd} : keys ks 0 = [] := rfl
theorem keys_succ {ks : List Kd} {i : Nat} : keys ks (i + 1) = if (kAt ks i).opn then i :: keys ks i else if kAt ks i = .fin then (keys ks i).tail else keys ks i := stp1_keys
theorem keys_dec (ks : List Kd) : ∀ i, (keys ks i).Pairwise (fun a b => b < a) ∧ ∀ a ∈ keys ks i, a < i
  | 0 => ⟨.nil, nofun⟩
  | i + 1 => by
    obtain ⟨h1, h2⟩ := keys_dec ks i
    rw [keys_succ]
    split
    · exact ⟨List.pairwise_cons.mpr ⟨h2, h1⟩, fun a ha => by
        rcases List.mem_cons.mp ha with rfl | ha
        · omega
        · have := h2 a ha; omega⟩
    · split
      · exact ⟨h1.tail, fun a ha => by have := h2 a (List.mem_of_mem_tail ha); omega⟩
      · exact ⟨h1, fun a ha => by have := h2 a ha; omega⟩
theorem keys_opn (ks : List Kd) : ∀ i, ∀ a ∈ keys ks i, (kAt ks a).opn = true
  | 0 => nofun
  | i + 1 => by
    have ih := keys_opn ks i
    rw [keys_succ]
    intro a ha
    split at ha
    · rename_i ho
      rcases List.mem_cons.mp ha with rfl | ha
      · exact ho
      · exact ih a ha
    · split at ha
      · exact ih a (List.mem_of_mem_tail ha)
      · exact ih a ha
theorem top_mem {ks : List Kd} {i : Nat} (h : stk ks i ≠ []) : ∃ r, keys ks i = tpo ks i :: r := by
  unfold keys tpo
  cases e : stk ks i with
  | nil => exact absurd e h
  | cons p r => exact ⟨r.map (·.1), rfl⟩
theorem Wf.ne {ks : List Kd} (w : Wf ks) {i : Nat} (h : (kAt ks i).non = true) : stk ks i ≠ [] := by
  cases e : kAt ks i with
  | els => obtain ⟨b, r, e2⟩ := w.els i e; rw [e2]; exact nofun
  | fin => exact w.fin i e
  | _ => rw [e] at h; cases h
theorem Wf.top_lt {ks : List Kd} (w : Wf ks) {i : Nat} (h : (kAt ks i).non = true) : tpo ks i < i := by
  obtain ⟨r, e⟩ := top_mem (w.ne h)
  exact (keys_dec ks i).2 _ (by rw [e]; exact List.mem_cons_self ..)
theorem Wf.top_opn {ks : List Kd} (w : Wf ks) {i : Nat} (h : (kAt ks i).non = true) : (kAt ks (tpo ks i)).opn = true := by
  obtain ⟨r, e⟩ := top_mem (w.ne h)
  exact keys_opn ks i _ (by rw [e]; exact List.mem_cons_self ..)
/-- gone is gone -/
theorem gone {ks : List Kd} {b e : Nat} (hb : b < e) (h : b ∉ keys ks e) : ∀ j, e ≤ j → b ∉ keys ks j := by
  intro j hj
  induction j with
  | zero => rw [keys_zero]; exact nofun
  | succ j ih =>
    by_cases hj2 : e ≤ j
    · have ih := ih hj2
      rw [keys_succ]
      split
      · intro z
        rcases List.mem_cons.mp z with z | z
        · omega
        · exact ih z
      · split
        · exact fun z => ih (List.mem_of_mem_tail z)
        · exact ih
    · have : e = j + 1 := by omega
      rw [← this]; exact h
theorem fin_gone {ks : List Kd} (w : Wf ks) {e : Nat} (h : kAt ks e = .fin) : ∀ j, e < j → tpo ks e ∉ keys ks j := by
  have hn : (kAt ks e).non = true := by rw [h]; rfl
  obtain ⟨r, hk⟩ := top_mem (w.ne hn)
  have h1 : tpo ks e ∉ keys ks (e + 1) := by
    rw [keys_succ, h, if_neg (by decide), if_pos rfl, hk]
    intro z
    have p := (keys_dec ks e).1
    rw [hk] at p
    exact absurd ((List.pairwise_cons.mp p).1 _ z) (by omega)
  exact fun j hj => gone (by have := w.top_lt hn; omega) h1 j hj
theorem fin_one {ks : List Kd} (w : Wf ks) {e e2 : Nat} (h : kAt ks e = .fin) (h2 : kAt ks e2 = .fin) (ht : tpo ks e = tpo ks e2) : e = e2 := by
  have key : ∀ {a b : Nat}, kAt ks a = .fin → kAt ks b = .fin → tpo ks a = tpo ks b → ¬ a < b := by
    intro a b ha hb ht hab
    obtain ⟨r, hk⟩ := top_mem (w.fin b hb)
    exact fin_gone w ha b hab (by rw [hk, ht]; exact List.mem_cons_self ..)
  have := key h h2 ht
  have := key h2 h ht.symm
  omega
/-- an else stands once -/
theorem els_lab {ks : List Kd} {x : Nat} (hx : kAt ks x = .els) (w : Wf ks) : ∀ j, x < j → ∀ l, (tpo ks x, l) ∈ stk ks j → l = .els := by
  have hn : (kAt ks x).non = true := by rw [hx]; rfl
  have tl := w.top_lt hn
  intro j
  induction j with
  | zero => intro z; omega
  | succ j ih =>
    intro hj l hl
    by_cases hj2 : x < j
    · have ih := ih hj2
      have hl : (tpo ks x, l) ∈ stp1 j (kAt ks j) (stk ks j) := hl
      cases e : kAt ks j with
      | iff =>
        rw [e] at hl
        rcases List.mem_cons.mp hl with z | z
        · have := (Prod.mk.inj z).1; omega
        · exact ih l z
      | whl =>
        rw [e] at hl
        rcases List.mem_cons.mp hl with z | z
        · have := (Prod.mk.inj z).1; omega
        · exact ih l z
      | els =>
        rw [e] at hl
        cases e2 : stk ks j with
        | nil => rw [e2] at hl; cases hl
        | cons p r =>
          obtain ⟨b, q⟩ := p
          rw [e2] at hl
          rcases List.mem_cons.mp hl with z | z
          · exact (Prod.mk.inj z).2
          · exact ih l (by rw [e2]; exact List.mem_cons_of_mem _ z)
      | fin => rw [e] at hl; exact ih l (List.mem_of_mem_tail hl)
      | bck => rw [e] at hl; exact ih l hl
      | oth => rw [e] at hl; exact ih l hl
    · have : j = x := by omega
      subst this
      have hl : (tpo ks j, l) ∈ stp1 j (kAt ks j) (stk ks j) := hl
      rw [hx] at hl
      obtain ⟨b, r, e2⟩ := w.els j hx
      rw [e2] at hl
      have et : tpo ks j = b := by unfold tpo; rw [e2]
      rcases List.mem_cons.mp hl with z | z
      · exact (Prod.mk.inj z).2
      · have p := (keys_dec ks j).1
        unfold keys at p
        rw [e2, List.map_cons, List.pairwise_cons] at p
        have := p.1 _ (List.mem_map.mpr ⟨_, z, rfl⟩)
        rw [et] at this
        exact absurd this (by dsimp; omega)
theorem els_one {ks : List Kd} (w : Wf ks) {e e2 : Nat} (h : kAt ks e = .els) (h2 : kAt ks e2 = .els) (ht : tpo ks e = tpo ks e2) : e = e2 := by
  have key : ∀ {a b : Nat}, kAt ks a = .els → kAt ks b = .els → tpo ks a = tpo ks b → ¬ a < b := by
    intro a b ha hb ht hab
    obtain ⟨b', r, e⟩ := w.els b hb
    have et : tpo ks b = b' := by unfold tpo; rw [e]
    have := els_lab ha w b hab .iff (by rw [e, ht, et]; exact List.mem_cons_self ..)
    cases this
  have := key h h2 ht
  have := key h2 h ht.symm
  omega
/-- what stands open with the word if is an if -/
theorem lab_ok (ks : List Kd) : ∀ (i b : Nat) (l : Kd), (b, l) ∈ stk ks i → l = .els ∨ kAt ks b = l
  | 0, b, l, h => by cases h
  | i + 1, b, l, h => by
    have ih := lab_ok ks i
    have h : (b, l) ∈ stp1 i (kAt ks i) (stk ks i) := h
    cases e : kAt ks i with
    | iff =>
      rw [e] at h
      rcases List.mem_cons.mp h with z | z
      · cases z; exact .inr e
      · exact ih b l z
    | whl =>
      rw [e] at h
      rcases List.mem_cons.mp h with z | z
      · cases z; exact .inr e
      · exact ih b l z
    | els =>
      rw [e] at h
      cases e2 : stk ks i with
      | nil => rw [e2] at h; cases h
      | cons p r =>
        obtain ⟨b2, q⟩ := p
        rw [e2] at h
        rcases List.mem_cons.mp h with z | z
        · cases z; exact .inl rfl
        · exact ih b l (by rw [e2]; exact List.mem_cons_of_mem _ z)
    | fin => rw [e] at h; exact ih b l (List.mem_of_mem_tail h)
    | bck => rw [e] at h; exact ih b l h
    | oth => rw [e] at h; exact ih b l h
/-- the end of what opens here; its else -/
def enOf (ks : List Kd) (k : Nat) : Option Nat := (List.range ks.length).find? fun e => decide (kAt ks e = .fin) && decide (tpo ks e = k)
def elOf (ks : List Kd) (k : Nat) : Option Nat := (List.range ks.length).find? fun e => decide (kAt ks e = .els) && decide (tpo ks e = k)
theorem enOf_eq {ks : List Kd} (w : Wf ks) {e : Nat} (h : kAt ks e = .fin) : enOf ks (tpo ks e) = some e := by
  unfold enOf
  cases q : (List.range ks.length).find? fun x => decide (kAt ks x = .fin) && decide (tpo ks x = tpo ks e) with
  | none =>
    rw [List.find?_eq_none] at q
    exact absurd (by rw [h]; simp) (q e (List.mem_range.mpr (kAt_lt (by rw [h]; exact nofun))))
  | some x =>
    have := List.find?_some q
    simp only [Bool.and_eq_true, decide_eq_true_eq] at this
    rw [fin_one w this.1 h this.2]
theorem elOf_eq {ks : List Kd} (w : Wf ks) {e : Nat} (h : kAt ks e = .els) : elOf ks (tpo ks e) = some e := by
  unfold elOf
  cases q : (List.range ks.length).find? fun x => decide (kAt ks x = .els) && decide (tpo ks x = tpo ks e) with
  | none =>
    rw [List.find?_eq_none] at q
    exact absurd (by rw [h]; simp) (q e (List.mem_range.mpr (kAt_lt (by rw [h]; exact nofun))))
  | some x =>
    have := List.find?_some q
    simp only [Bool.and_eq_true, decide_eq_true_eq] at this
    rw [els_one w this.1 h this.2]
theorem elOf_none {ks : List Kd} {k : Nat} (h : ∀ x, kAt ks x = .els → tpo ks x ≠ k) : elOf ks k = none := by
  unfold elOf
  rw [List.find?_eq_none]
  intro x _ z
  simp only [Bool.and_eq_true, decide_eq_true_eq] at z
  exact h x z.1 z.2
theorem elOf_some {ks : List Kd} {k x : Nat} (h : elOf ks k = some x) : kAt ks x = .els ∧ tpo ks x = k := by
  have := List.find?_some h
  simp only [Bool.and_eq_true, decide_eq_true_eq] at this
  exact this
theorem enOf_some {ks : List Kd} {k x : Nat} (h : enOf ks k = some x) : kAt ks x = .fin ∧ tpo ks x = k := by
  have := List.find?_some h
  simp only [Bool.and_eq_true, decide_eq_true_eq] at this
  exact this
/-- from an opener on: so deep at a place -/
def Fw (ks : List Kd) (k d j : Nat) : Prop := k < j ∧ j ≤ ks.length ∧ ∃ pre, pre.length + 1 = d ∧ keys ks j = pre ++ k :: keys ks k
theorem fw_start {ks : List Kd} {k : Nat} (h : (kAt ks k).opn = true) : Fw ks k 1 (k + 1) := by
  refine ⟨by omega, kAt_lt (by intro z; rw [z] at h; cases h), [], rfl, ?_⟩
  rw [keys_succ, if_pos h]; rfl
theorem fw_opn {ks : List Kd} {k d j : Nat} (h : Fw ks k d j) (o : (kAt ks j).opn = true) : Fw ks k (d + 1) (j + 1) := by
  obtain ⟨h1, h2, pre, h3, h4⟩ := h
  refine ⟨by omega, kAt_lt (by intro z; rw [z] at o; cases o), j :: pre, by simp [h3], ?_⟩
  rw [keys_succ, if_pos o, h4]; rfl
theorem fw_els {ks : List Kd} {k d j : Nat} (h : Fw ks k d j) (hj : j < ks.length) (o : (kAt ks j).opn = false) (o2 : kAt ks j ≠ .fin) : Fw ks k d (j + 1) := by
  obtain ⟨h1, h2, pre, h3, h4⟩ := h
  refine ⟨by omega, hj, pre, h3, ?_⟩
  rw [keys_succ, o, if_neg (by decide), if_neg o2, h4]
theorem fw_fin {ks : List Kd} {k d j : Nat} (h : Fw ks k (d + 2) j) (o : kAt ks j = .fin) : Fw ks k (d + 1) (j + 1) := by
  obtain ⟨h1, h2, pre, h3, h4⟩ := h
  cases pre with
  | nil => simp at h3
  | cons a pre =>
    refine ⟨by omega, kAt_lt (by rw [o]; exact nofun), pre, by simpa using h3, ?_⟩
    rw [keys_succ, o, if_neg (by decide), if_pos rfl, h4]; rfl
theorem fw_top {ks : List Kd} {k j : Nat} (h : Fw ks k 1 j) : tpo ks j = k := by
  obtain ⟨h1, h2, pre, h3, h4⟩ := h
  cases pre with
  | nil =>
    unfold keys at h4
    unfold tpo
    cases e : stk ks j with
    | nil => rw [e] at h4; cases h4
    | cons p r => rw [e] at h4; exact (List.cons.inj h4).1
  | cons a pre => simp at h3
theorem fw_deep {ks : List Kd} {k d j : Nat} (h : Fw ks k (d + 2) j) : tpo ks j ≠ k := by
  obtain ⟨h1, h2, pre, h3, h4⟩ := h
  cases pre with
  | nil => simp at h3
  | cons a pre =>
    have p := (keys_dec ks j).1
    rw [h4, List.cons_append, List.pairwise_cons] at p
    have := p.1 k (by simp)
    unfold keys at h4
    unfold tpo
    cases e : stk ks j with
    | nil => rw [e] at h4; cases h4
    | cons q r =>
      rw [e] at h4
      have := (List.cons.inj h4).1
      dsimp at *
      omega
theorem fw_lt {ks : List Kd} (w : Wf ks) {k d j : Nat} (h : Fw ks k d j) : j < ks.length := by
  obtain ⟨h1, h2, pre, h3, h4⟩ := h
  by_cases hj : j = ks.length
  · subst hj
    have : keys ks ks.length = [] := by unfold keys; rw [w.emp]; rfl
    rw [this] at h4
    cases pre <;> cases h4
  · omega
/-- back from what closes: so deep at a place -/
def Bw (ks : List Kd) (k d j : Nat) : Prop := j ≤ k ∧ (keys ks j).drop (d - 1) = keys ks k ∧ 1 ≤ d
theorem bw_start {ks : List Kd} {k : Nat} : Bw ks k 1 k := ⟨by omega, rfl, by omega⟩
theorem bw_fin {ks : List Kd} {k d j : Nat} (h : Bw ks k d (j + 1)) (o : kAt ks j = .fin) : Bw ks k (d + 1) j := by
  obtain ⟨h1, h2, h3⟩ := h
  refine ⟨by omega, ?_, by omega⟩
  rw [keys_succ, o, if_neg (by decide), if_pos rfl, List.drop_tail] at h2
  rw [← h2]; congr 1; omega
theorem bw_opn {ks : List Kd} {k d j : Nat} (h : Bw ks k (d + 2) (j + 1)) (o : (kAt ks j).opn = true) : Bw ks k (d + 1) j := by
  obtain ⟨h1, h2, h3⟩ := h
  refine ⟨by omega, ?_, by omega⟩
  rw [keys_succ, if_pos o] at h2
  exact h2
theorem bw_oth {ks : List Kd} {k d j : Nat} (h : Bw ks k d (j + 1)) (o : (kAt ks j).opn = false) (o2 : kAt ks j ≠ .fin) : Bw ks k d j := by
  obtain ⟨h1, h2, h3⟩ := h
  refine ⟨by omega, ?_, h3⟩
  rw [keys_succ, o, if_neg (by decide), if_neg o2] at h2
  exact h2
theorem bw_top {ks : List Kd} {k j : Nat} (h : Bw ks k 1 (j + 1)) (o : (kAt ks j).opn = true) : tpo ks k = j := by
  obtain ⟨h1, h2, h3⟩ := h
  rw [keys_succ, if_pos o] at h2
  unfold keys at h2
  unfold tpo
  cases e : stk ks k with
  | nil => rw [e] at h2; cases h2
  | cons p r => rw [e] at h2; exact (List.cons.inj h2).1.symm
theorem bw_zero {ks : List Kd} {k d : Nat} (h : Bw ks k d 0) : stk ks k = [] := by
  obtain ⟨h1, h2, h3⟩ := h
  rw [keys_zero, List.drop_nil] at h2
  exact List.map_eq_nil_iff.mp h2.symm
/-- the first stop from a place on -/
def lnd (ks : List Kd) : Nat → Nat → Nat
  | 0, a => a
  | f + 1, a => match kAt ks a with
    | .els => lnd ks f ((enOf ks (tpo ks a)).getD 0 + 1)
    | .fin => if kAt ks (tpo ks a) = .whl then tpo ks a else lnd ks f (a + 1)
    | _ => a
def lndF (ks : List Kd) (a : Nat) : Nat := lnd ks (ks.length - a) a
/-- where a row leads -/
def wayOf (ks : List Kd) (i : Nat) : Option (List Nat) := match kAt ks i with
  | .els => none
  | .fin => none
  | .bck => some []
  | .iff => some [lndF ks (i + 1), lndF ks ((elOf ks i).getD ((enOf ks i).getD 0) + 1)]
  | .whl => some [lndF ks (i + 1), lndF ks ((enOf ks i).getD 0 + 1)]
  | .oth => some [lndF ks (i + 1)]
/-- each that opens closes -/
theorem en_ex {ks : List Kd} (w : Wf ks) {k : Nat} : ∀ (m d j : Nat), ks.length - j ≤ m → Fw ks k d j → ∃ e, j ≤ e ∧ kAt ks e = .fin ∧ tpo ks e = k
  | 0, d, j, hm, h => by have := fw_lt w h; omega
  | m + 1, d, j, hm, h => by
    have hj := fw_lt w h
    by_cases o : (kAt ks j).opn = true
    · obtain ⟨e, h1, h2⟩ := en_ex w m _ _ (by omega) (fw_opn h o)
      exact ⟨e, by omega, h2⟩
    · by_cases o2 : kAt ks j = .fin
      · cases d with
        | zero => obtain ⟨_, _, pre, h3, _⟩ := h; omega
        | succ d =>
          cases d with
          | zero => exact ⟨j, by omega, o2, fw_top h⟩
          | succ d =>
            obtain ⟨e, h1, h2⟩ := en_ex w m _ _ (by omega) (fw_fin h o2)
            exact ⟨e, by omega, h2⟩
      · obtain ⟨e, h1, h2⟩ := en_ex w m _ _ (by omega) (fw_els h hj (by simpa using o) o2)
        exact ⟨e, by omega, h2⟩
theorem en_get {ks : List Kd} (w : Wf ks) {k : Nat} (h : (kAt ks k).opn = true) : ∃ e, enOf ks k = some e ∧ k < e ∧ e < ks.length ∧ kAt ks e = .fin ∧ tpo ks e = k := by
  obtain ⟨e, h1, h2, h3⟩ := en_ex w _ _ _ (Nat.le_refl _) (fw_start h)
  refine ⟨e, ?_, by omega, kAt_lt (by rw [h2]; exact nofun), h2, h3⟩
  rw [← h3]; exact enOf_eq w h2
theorem Wf.fin_lt {ks : List Kd} (w : Wf ks) {a : Nat} (h : (kAt ks a).non = true) : a + 1 < ks.length := by
  obtain ⟨m, h1, h2⟩ := w.last
  have := kAt_lt (show kAt ks a ≠ .oth by intro z; rw [z] at h; cases h)
  by_cases e : a = m
  · subst e; rw [h2] at h; cases h
  · omega
theorem els_en {ks : List Kd} (w : Wf ks) {a : Nat} (h : kAt ks a = .els) : ∃ e, enOf ks (tpo ks a) = some e ∧ a < e ∧ kAt ks e = .fin ∧ tpo ks e = tpo ks a ∧ e + 1 < ks.length := by
  have hn : (kAt ks a).non = true := by rw [h]; rfl
  obtain ⟨e, h1, h2, h3, h4, h5⟩ := en_get w (w.top_opn hn)
  refine ⟨e, h1, ?_, h4, h5, w.fin_lt (by rw [h4]; rfl)⟩
  by_cases z : e < a
  · have g := fin_gone w h4 a z
    obtain ⟨r, hk⟩ := top_mem (w.ne hn)
    exact absurd (by rw [h5, hk]; exact List.mem_cons_self ..) g
  · have : e ≠ a := by rintro rfl; rw [h] at h4; cases h4
    omega
theorem lnd_stop {ks : List Kd} {f a : Nat} (h : (kAt ks a).non = false) : lnd ks f a = a := by
  cases f with
  | zero => rfl
  | succ f =>
    unfold lnd
    split
    · rename_i e; rw [e] at h; cases h
    · rename_i e; rw [e] at h; cases h
    · rfl
theorem lnd_more {ks : List Kd} (w : Wf ks) : ∀ (f g a : Nat), ks.length - a ≤ f → ks.length - a ≤ g → lnd ks f a = lnd ks g a
  | 0, g, a, h, h2 => by
    rw [lnd_stop (f := g)]; rfl
    unfold kAt; rw [List.getElem?_eq_none (by omega)]; rfl
  | f + 1, 0, a, h, h2 => by
    rw [lnd_stop (f := f + 1)]; rfl
    unfold kAt; rw [List.getElem?_eq_none (by omega)]; rfl
  | f + 1, g + 1, a, h, h2 => by
    unfold lnd
    split
    · rename_i e
      obtain ⟨x, e1, e2, _⟩ := els_en w e
      rw [e1]
      exact lnd_more w f g _ (by show ks.length - (x + 1) ≤ f; omega) (by show ks.length - (x + 1) ≤ g; omega)
    · rename_i e
      split
      · rfl
      · exact lnd_more w f g _ (by omega) (by omega)
    · rfl
theorem lndF_els {ks : List Kd} (w : Wf ks) {a e : Nat} (h : kAt ks a = .els) (he : enOf ks (tpo ks a) = some e) : lndF ks a = lndF ks (e + 1) := by
  have ha := kAt_lt (show kAt ks a ≠ .oth by rw [h]; exact nofun)
  obtain ⟨x, e1, e2, _⟩ := els_en w h
  rw [he] at e1; cases e1
  unfold lndF
  have : ks.length - a = (ks.length - a - 1) + 1 := by omega
  rw [this]
  show (match kAt ks a with | .els => _ | .fin => _ | _ => _) = _
  rw [h, he]
  exact lnd_more w _ _ _ (by show ks.length - (e + 1) ≤ _; omega) (by show ks.length - (e + 1) ≤ _; omega)
theorem lndF_fin {ks : List Kd} (w : Wf ks) {a : Nat} (h : kAt ks a = .fin) : lndF ks a = if kAt ks (tpo ks a) = .whl then tpo ks a else lndF ks (a + 1) := by
  have ha := kAt_lt (show kAt ks a ≠ .oth by rw [h]; exact nofun)
  unfold lndF
  have : ks.length - a = (ks.length - a - 1) + 1 := by omega
  rw [this]
  show (match kAt ks a with | .els => _ | .fin => _ | _ => _) = _
  rw [h]
  show (if _ then _ else _) = _
  split
  · rfl
  · exact lnd_more w _ _ _ (by omega) (by omega)
theorem lndF_stop {ks : List Kd} {a : Nat} (h : (kAt ks a).non = false) : lndF ks a = a := lnd_stop h
end Sg
namespace Sg
open PySem (Str)
/-! ### rows as values -/
def kdS (s : Str) : Kd := if s = "if" then .iff else if s = "while" then .whl else if s = "else" then .els else if s = "end" then .fin else if s = "back" then .bck else .oth
theorem kdS_all (s : Str) : decide (s = "if") = decide (kdS s = .iff) ∧ decide (s = "while") = decide (kdS s = .whl) ∧ decide (s = "else") = decide (kdS s = .els) ∧ decide (s = "end") = decide (kdS s = .fin) ∧ decide (s = "back") = decide (kdS s = .bck) := by
  by_cases h1 : s = "if"
  · subst h1; decide +kernel
  · by_cases h2 : s = "while"
    · subst h2; decide +kernel
    · by_cases h3 : s = "else"
      · subst h3; decide +kernel
      · by_cases h4 : s = "end"
        · subst h4; decide +kernel
        · by_cases h5 : s = "back"
          · subst h5; decide +kernel
          · have e : kdS s = .oth := by unfold kdS; rw [if_neg h1, if_neg h2, if_neg h3, if_neg h4, if_neg h5]
            rw [e, decide_eq_false h1, decide_eq_false h2, decide_eq_false h3, decide_eq_false h4, decide_eq_false h5]
            decide
theorem kd_if (s : Str) : decide (s = "if") = decide (kdS s = .iff) := (kdS_all s).1
theorem kd_while (s : Str) : decide (s = "while") = decide (kdS s = .whl) := (kdS_all s).2.1
theorem kd_else (s : Str) : decide (s = "else") = decide (kdS s = .els) := (kdS_all s).2.2.1
theorem kd_end (s : Str) : decide (s = "end") = decide (kdS s = .fin) := (kdS_all s).2.2.2.1
theorem kd_back (s : Str) : decide (s = "back") = decide (kdS s = .bck) := (kdS_all s).2.2.2.2
def kdD : D → Kd
  | .tup (.str s :: _) => kdS s
  | _ => .oth
def IsRow (d : D) : Prop := ∃ s l, d = .tup (.str s :: l)
/-- rows and their kinds -/
def kds (rows : List D) : List Kd := rows.map kdD
theorem kds_len {rows : List D} : (kds rows).length = rows.length := by unfold kds; rw [List.length_map]
theorem row_at {rows : List D} (h : ∀ d ∈ rows, IsRow d) {i : Nat} (hi : i < rows.length) : ∃ s l, rows[i]? = some (.tup (.str s :: l)) ∧ kAt (kds rows) i = kdS s := by
  obtain ⟨s, l, e⟩ := h _ (List.getElem_mem hi)
  refine ⟨s, l, ?_, ?_⟩
  · rw [List.getElem?_eq_getElem hi, e]
  · unfold kAt kds
    rw [List.getElem?_map, List.getElem?_eq_getElem hi, e]; rfl
/-! ### dicts from places to places -/
theorem dpI_new {kvs : List (D × D)} {k : Int} {v : D} (h : dgI kvs k = none) : dpI kvs k v = kvs ++ [(.int k, v)] := by
  unfold dpI dput
  have e : kvs.any (fun p => decide (keyOf p.1 = some (.inl k))) = false := by
    rw [dget_any]; unfold dgI at h; rw [h]; rfl
  rw [e]; rfl
theorem dgI_app {kvs : List (D × D)} {p : D × D} {k : Int} : dgI (kvs ++ [p]) k = match dgI kvs k with | some d => some d | none => if keyOf p.1 = some (.inl k) then some p.2 else none := dget_app
/-- what is found of all that closes, ahead of a place -/
def opn (ks : List Kd) (m : Nat) : List (D × D) := ((List.range m).filter fun i => (kAt ks i).non).map fun i => (.int (i : Nat), .int (tpo ks i : Nat))
theorem opn_succ {ks : List Kd} {m : Nat} : opn ks (m + 1) = opn ks m ++ if (kAt ks m).non then [(.int (m : Nat), .int (tpo ks m : Nat))] else [] := by
  unfold opn
  rw [List.range_succ, List.filter_append, List.map_append]
  congr 1
  cases h : (kAt ks m).non <;> simp [h]
theorem opn_len {ks : List Kd} {m : Nat} : (opn ks m).length ≤ m := by
  unfold opn
  rw [List.length_map]
  have := List.length_filter_le (fun i => (kAt ks i).non) (List.range m)
  rw [List.length_range] at this
  exact this
theorem opn_get {ks : List Kd} : ∀ {m : Nat} {i : Nat}, dgI (opn ks m) (i : Nat) = if i < m ∧ (kAt ks i).non = true then some (.int (tpo ks i : Nat)) else none
  | 0, i => by rw [if_neg (by omega)]; rfl
  | m + 1, i => by
    rw [opn_succ]
    cases h : (kAt ks m).non with
    | false =>
      rw [if_neg (by decide), List.append_nil, opn_get]
      by_cases hi : i = m
      · subst hi
        rw [if_neg (by omega), if_neg (by rw [h]; simp)]
      · by_cases h2 : i < m ∧ (kAt ks i).non = true
        · rw [if_pos h2, if_pos ⟨by omega, h2.2⟩]
        · rw [if_neg h2, if_neg (fun z => h2 ⟨by omega, z.2⟩)]
    | true =>
      rw [if_pos rfl]
      by_cases hi : i = m
      · subst hi
        have e : dgI (opn ks i) (i : Nat) = none := by rw [opn_get, if_neg (by omega)]
        rw [dgI_app, e]
        exact (if_pos rfl).trans (if_pos (⟨by omega, h⟩ : i < i + 1 ∧ (kAt ks i).non = true)).symm
      · have ne : keyOf (D.int (m : Nat)) ≠ some (.inl ((i : Nat) : Int)) := by
          intro z
          have z : some (Sum.inl ((m : Nat) : Int) : L2.Key) = some (.inl ((i : Nat) : Int)) := z
          have := Sum.inl.inj (Option.some.inj z)
          omega
        by_cases h2 : i < m ∧ (kAt ks i).non = true
        · have e : dgI (opn ks m) (i : Nat) = some (.int (tpo ks i : Nat)) := by rw [opn_get, if_pos h2]
          rw [dgI_app, e]
          exact (if_pos (⟨by omega, h2.2⟩ : i < m + 1 ∧ (kAt ks i).non = true)).symm
        · have e : dgI (opn ks m) (i : Nat) = none := by rw [opn_get, if_neg h2]
          rw [dgI_app, e]
          exact (if_neg ne).trans (if_neg (fun z : i < m + 1 ∧ (kAt ks i).non = true => h2 ⟨by omega, z.2⟩)).symm
/-- the ends, the elses found ahead of a place -/
def fdM (ks : List Kd) (k : Kd) (m b : Nat) : Option Nat := (List.range m).find? fun e => decide (kAt ks e = k) && decide (tpo ks e = b)
theorem fdM_succ {ks : List Kd} {k : Kd} {m b : Nat} (one : ∀ e, kAt ks e = k → kAt ks m = k → tpo ks e = tpo ks m → e = m) : fdM ks k (m + 1) b = if kAt ks m = k ∧ b = tpo ks m then some m else fdM ks k m b := by
  unfold fdM
  rw [List.range_succ, List.find?_append]
  by_cases h : kAt ks m = k ∧ b = tpo ks m
  · rw [if_pos h]
    have e : (List.range m).find? (fun e => decide (kAt ks e = k) && decide (tpo ks e = b)) = none := by
      rw [List.find?_eq_none]
      intro x hx z
      simp only [Bool.and_eq_true, decide_eq_true_eq] at z
      have := one x z.1 h.1 (z.2.trans h.2)
      have := List.mem_range.mp hx
      omega
    rw [e]
    simp [h.1, h.2]
  · rw [if_neg h]
    have e : [m].find? (fun e => decide (kAt ks e = k) && decide (tpo ks e = b)) = none := by
      rw [List.find?_eq_none]
      intro x hx z
      rw [List.mem_singleton.mp hx] at z
      simp only [Bool.and_eq_true, decide_eq_true_eq] at z
      exact h ⟨z.1, z.2.symm⟩
    rw [e, Option.or_none]
theorem en_fd {ks : List Kd} {b : Nat} : enOf ks b = fdM ks .fin ks.length b := rfl
theorem el_fd {ks : List Kd} {b : Nat} : elOf ks b = fdM ks .els ks.length b := rfl
theorem keys_top {ks : List Kd} {i : Nat} (h : stk ks i ≠ []) : keys ks i = tpo ks i :: (keys ks i).tail := by
  obtain ⟨r, e⟩ := top_mem h
  rw [e]; rfl
def kI (ks : List Kd) (i : Nat) : List D := (keys ks i).reverse.map fun (k : Nat) => D.int k
theorem kI_top {ks : List Kd} {i : Nat} (h : stk ks i ≠ []) : kI ks i = ((keys ks i).tail.reverse.map fun (k : Nat) => D.int k) ++ [.int (tpo ks i : Nat)] := by
  unfold kI
  rw [keys_top h, List.reverse_cons, List.map_append]; rfl
theorem kI_succ {ks : List Kd} {i : Nat} : kI ks (i + 1) = if (kAt ks i).opn then kI ks i ++ [.int (i : Nat)] else if kAt ks i = .fin then (keys ks i).tail.reverse.map fun (k : Nat) => D.int k else kI ks i := by
  unfold kI
  rw [keys_succ]
  split
  · rw [List.reverse_cons, List.map_append]; rfl
  · split <;> rfl
theorem keys_len (ks : List Kd) : ∀ i, (keys ks i).length ≤ i
  | 0 => by rw [keys_zero]; exact Nat.le_refl _
  | i + 1 => by
    have := keys_len ks i
    rw [keys_succ]
    split
    · simp; omega
    · split
      · rw [List.length_tail]; omega
      · omega
theorem kI_len {ks : List Kd} {i : Nat} : (kI ks i).length ≤ i := by
  unfold kI; rw [List.length_map, List.length_reverse]; exact keys_len ks i
def wD : Option (List Nat) → D
  | none => .non
  | some l => .tup (l.map fun (k : Nat) => D.int k)
end Sg
namespace Sg
open PySem (Str)
/-! ### rows put together one behind another, with what stands open -/
inductive Stp : D → List D → List D → Prop
  | opn {s : Str} {n : D} {os : List D} : (s = "if" ∨ s = "while") → Stp (.tup [.str s, n]) os (os ++ [.str s])
  | els {os : List D} : Stp (.tup [.str "else"]) (os ++ [.str "if"]) (os ++ [.str "else"])
  | fin {x : D} {os : List D} : Stp (.tup [.str "end"]) (os ++ [x]) os
  | oth {d : D} {os : List D} : IsRow d → (kdD d).opn = false → (kdD d).non = false → Stp d os os
inductive Gen : List D → List D → Prop
  | nil : Gen [] []
  | snoc {rows os os' : List D} {d : D} : Gen rows os → Stp d os os' → Gen (rows ++ [d]) os'
theorem Gen.app {a : List D} (h : Gen a []) : ∀ {b os : List D}, Gen b os → Gen (a ++ b) os := by
  intro b os g
  induction g with
  | nil => rw [List.append_nil]; exact h
  | snoc g s ih => rw [← List.append_assoc]; exact .snoc ih s
theorem Gen.oths : ∀ {l a os : List D}, Gen a os → (∀ d ∈ l, IsRow d ∧ (kdD d).opn = false ∧ (kdD d).non = false) → Gen (a ++ l) os
  | [], a, os, g, h => by rw [List.append_nil]; exact g
  | d :: l, a, os, g, h => by
    obtain ⟨h1, h2, h3⟩ := h d (List.mem_cons_self ..)
    rw [show a ++ d :: l = (a ++ [d]) ++ l by simp]
    exact Gen.oths (.snoc g (.oth h1 h2 h3)) fun x hx => h x (List.mem_cons_of_mem _ hx)
theorem Gen.fins : ∀ {os a : List D}, Gen a os → Gen (a ++ List.replicate os.length (.tup [.str "end"])) [] := by
  intro os
  induction hn : os.length generalizing os with
  | zero =>
    intro a g
    rw [List.length_eq_zero_iff.mp hn] at g
    simpa using g
  | succ n ih =>
    intro a g
    have ne : os ≠ [] := by intro z; rw [z] at hn; cases hn
    have e := List.dropLast_concat_getLast ne
    rw [← e] at g
    have g2 := Gen.snoc g .fin
    have := ih (os := os.dropLast) (by rw [List.length_dropLast]; omega) g2
    rw [List.replicate_succ, show a ++ D.tup [.str "end"] :: List.replicate n (.tup [.str "end"]) = (a ++ [.tup [.str "end"]]) ++ List.replicate n (.tup [.str "end"]) by simp]
    exact this
theorem kdS_lits : kdS "if" = .iff ∧ kdS "while" = .whl ∧ kdS "else" = .els ∧ kdS "end" = .fin ∧ kdS "back" = .bck := by decide +kernel
def ldS : Kd → D
  | .iff => .str "if"
  | .whl => .str "while"
  | _ => .str "else"
theorem ldS_if {k : Kd} (h : ldS k = .str "if") : k = .iff := by
  cases k with
  | iff => rfl
  | whl => exact absurd (D.str.inj h) (by decide +kernel)
  | _ => exact absurd (D.str.inj h) (by decide +kernel)
structure Pw (ks : List Kd) : Prop where
  els : ∀ i, kAt ks i = .els → ∃ b r, stk ks i = (b, .iff) :: r
  fin : ∀ i, kAt ks i = .fin → stk ks i ≠ []
theorem kAt_snoc {ks : List Kd} {k : Kd} : kAt (ks ++ [k]) ks.length = k := by unfold kAt; rw [List.getElem?_append_right (Nat.le_refl _)]; simp
theorem Pw.snoc {ks : List Kd} (p : Pw ks) {k : Kd} (h1 : k = .els → ∃ b r, stk ks ks.length = (b, .iff) :: r) (h2 : k = .fin → stk ks ks.length ≠ []) : Pw (ks ++ [k]) := by
  have key : ∀ i, kAt (ks ++ [k]) i ≠ .oth → i < ks.length ∨ i = ks.length := fun i hi => by
    have := kAt_lt hi
    rw [List.length_append, List.length_singleton] at this
    omega
  refine ⟨fun i hi => ?_, fun i hi => ?_⟩
  · rcases key i (by rw [hi]; exact nofun) with z | z
    · rw [kAt_app z] at hi
      rw [stk_app (by omega)]; exact p.els i hi
    · subst z
      rw [kAt_snoc] at hi
      rw [stk_app (Nat.le_refl _)]; exact h1 hi
  · rcases key i (by rw [hi]; exact nofun) with z | z
    · rw [kAt_app z] at hi
      rw [stk_app (by omega)]; exact p.fin i hi
    · subst z
      rw [kAt_snoc] at hi
      rw [stk_app (Nat.le_refl _)]; exact h2 hi
theorem stk_snoc {ks : List Kd} {k : Kd} : stk (ks ++ [k]) (ks ++ [k]).length = stp1 ks.length k (stk ks ks.length) := by
  rw [List.length_append, List.length_singleton]
  show stp1 ks.length (kAt (ks ++ [k]) ks.length) (stk (ks ++ [k]) ks.length) = _
  rw [kAt_snoc, stk_app (Nat.le_refl _)]
theorem Gen.ok {rows os : List D} (g : Gen rows os) : (∀ d ∈ rows, IsRow d) ∧ Pw (kds rows) ∧ os = ((stk (kds rows) (kds rows).length).map fun p => ldS p.2).reverse := by
  induction g with
  | nil => exact ⟨nofun, ⟨fun i h => absurd h (by unfold kAt kds; simp), fun i h => absurd h (by unfold kAt kds; simp)⟩, rfl⟩
  | @snoc rows os os' d g s ih =>
    obtain ⟨i1, i2, i3⟩ := ih
    have ek : kds (rows ++ [d]) = kds rows ++ [kdD d] := by unfold kds; rw [List.map_append]; rfl
    obtain ⟨l1, l2, l3, l4, l5⟩ := kdS_lits
    have rowOf : ∀ x, IsRow x → ∀ y ∈ rows ++ [x], IsRow y := fun x hx y hy => by
      rcases List.mem_append.mp hy with z | z
      · exact i1 y z
      · rw [List.mem_singleton.mp z]; exact hx
    rw [ek, stk_snoc]
    cases s with
    | @opn s n _ hs =>
      refine ⟨rowOf _ ⟨_, _, rfl⟩, ?_, ?_⟩
      · rcases hs with rfl | rfl
        · exact i2.snoc (by rw [show kdD (.tup [.str "if", n]) = .iff from l1]; exact nofun) (by rw [show kdD (.tup [.str "if", n]) = .iff from l1]; exact nofun)
        · exact i2.snoc (by rw [show kdD (.tup [.str "while", n]) = .whl from l2]; exact nofun) (by rw [show kdD (.tup [.str "while", n]) = .whl from l2]; exact nofun)
      · rcases hs with rfl | rfl
        · rw [show kdD (.tup [.str "if", n]) = .iff from l1, i3]; simp [stp1, ldS]
        · rw [show kdD (.tup [.str "while", n]) = .whl from l2, i3]; simp [stp1, ldS]
    | @els os0 =>
      have i3' := congrArg List.reverse i3
      rw [List.reverse_reverse, List.reverse_append] at i3'
      cases q : stk (kds rows) (kds rows).length with
      | nil => rw [q] at i3'; cases i3'
      | cons p r =>
        obtain ⟨b, k⟩ := p
        rw [q] at i3'
        have e1 := (List.cons.inj i3').1
        have e2 := (List.cons.inj i3').2
        have ek := ldS_if (k := k) e1.symm
        subst ek
        refine ⟨rowOf _ ⟨_, _, rfl⟩, i2.snoc (fun _ => ⟨b, r, q⟩) (by rw [show kdD (.tup [.str "else"]) = .els from l3]; exact nofun), ?_⟩
        rw [show kdD (.tup [.str "else"]) = .els from l3]
        show os0 ++ [.str "else"] = (List.map (fun p => ldS p.2) ((b, Kd.els) :: r)).reverse
        rw [List.map_cons, List.reverse_cons]
        have : os0 = (List.map (fun p => ldS p.2) r).reverse := by
          rw [← List.reverse_reverse os0]
          exact congrArg List.reverse e2
        rw [this]; rfl
    | @fin x os0 =>
      have i3' := congrArg List.reverse i3
      rw [List.reverse_reverse, List.reverse_append] at i3'
      cases q : stk (kds rows) (kds rows).length with
      | nil => rw [q] at i3'; cases i3'
      | cons p r =>
        rw [q] at i3'
        have e2 := (List.cons.inj i3').2
        refine ⟨rowOf _ ⟨_, _, rfl⟩, i2.snoc (by rw [show kdD (.tup [.str "end"]) = .fin from l4]; exact nofun) (fun _ => by rw [q]; exact nofun), ?_⟩
        rw [show kdD (.tup [.str "end"]) = .fin from l4]
        show os' = (List.map (fun p => ldS p.2) r).reverse
        rw [← List.reverse_reverse os']
        exact congrArg List.reverse e2
    | oth hr h1 h2 =>
      refine ⟨rowOf _ hr, i2.snoc (fun z => by rw [z] at h2; cases h2) (fun z => by rw [z] at h2; cases h2), ?_⟩
      rw [i3]
      cases q : kdD d <;> rw [q] at h1 h2 <;> first | rfl | exact absurd h1 (by decide) | exact absurd h2 (by decide)
theorem Gen.wf {rows : List D} (g : Gen rows []) {m : Nat} (hl : rows.length = m + 1) (hb : kAt (kds rows) m = .bck) : Wf (kds rows) := by
  obtain ⟨_, p, e⟩ := g.ok
  refine ⟨p.els, p.fin, ?_, m, by rw [kds_len]; exact hl, hb⟩
  have := congrArg List.length e
  rw [List.length_reverse, List.length_map] at this
  exact List.length_eq_zero_iff.mp this.symm
/-- with a back behind -/
theorem Gen.back {rows : List D} (g : Gen rows []) {n : D} : Gen (rows ++ [.tup [.str "back", n]]) [] ∧ Wf (kds (rows ++ [.tup [.str "back", n]])) := by
  have kb : kdD (.tup [.str "back", n]) = .bck := kdS_lits.2.2.2.2
  have g2 : Gen (rows ++ [.tup [.str "back", n]]) [] := .snoc g (.oth ⟨_, _, rfl⟩ (by rw [kb]; rfl) (by rw [kb]; rfl))
  refine ⟨g2, g2.wf (m := rows.length) (by simp) ?_⟩
  unfold kAt kds
  rw [List.getElem?_map, List.getElem?_append_right (Nat.le_refl _)]
  simp [kb]
theorem Gen.rows {rows os : List D} (g : Gen rows os) : ∀ d ∈ rows, IsRow d := g.ok.1
theorem Gen.wfEnd {a b : List D} {n : D} (h : Gen a []) (g : Gen b []) : Gen (a ++ (b ++ [.tup [.str "back", n]])) [] ∧ Wf (kds (a ++ (b ++ [.tup [.str "back", n]]))) := by
  rw [← List.append_assoc]
  exact (h.app g).back
theorem Gen.strs {rows os : List D} (g : Gen rows os) : okDs os = true := by
  rw [g.ok.2.2]
  refine okDs_all fun d hd => ?_
  obtain ⟨p, _, rfl⟩ := List.mem_map.mp (List.mem_reverse.mp hd)
  cases p.2 <;> decide +kernel
theorem Gen.len {rows os : List D} (g : Gen rows os) : os.length ≤ rows.length := by
  rw [g.ok.2.2, List.length_reverse, List.length_map]
  have := keys_len (kds rows) (kds rows).length
  unfold keys at this
  rw [List.length_map, kds_len] at this
  rw [kds_len]; exact this
end Sg
namespace K13
open PySem PySem.Spec PyProof.Rows L2 Sg
def top (i : Nat) : Stmt := PySem.Challenge.pw_stopglass_k13_ways_of_rows.main.body.getD i (.Pass ⟨0, 0, 0, 0⟩)
def s_openers_1 : Sg.St :=
 .own 1 (.lst .nil)
def s_openers_2 : Sg.St :=
 .own 2 (.dnew .sc)
def l_openers_3 : Sts :=
 (.cons (.ite (.or (.cons (.op .eq (.idx (.var 4) (.int 0)) (.str "if")) (.cons (.op .eq (.idx (.var 4) (.int 0)) (.str "while")) .nil)))
  (.cons (.mc none 1 .append (.cons (.var 3) .nil))
 .nil)
  (.cons (.ite (.op .eq (.idx (.var 4) (.int 0)) (.str "else"))
  (.cons (.setI 2 (.var 3) (.idx (.var 1) (.neg (.int 1))))
 .nil)
  (.cons (.ite (.op .eq (.idx (.var 4) (.int 0)) (.str "end"))
  (.cons (.setP 2 (.var 3) 1)
 .nil)
  .nil)
 .nil))
 .nil))
 .nil)
def s_openers_3 : Sg.St :=
 .for (.many [3, 4]) (.enm (.var 0)) l_openers_3
def s_openers_4 : Sg.St :=
 .ret (.var 2)
def b_openers : Sts :=
 (.cons (s_openers_1)
 (.cons (s_openers_2)
 (.cons (s_openers_3)
 (.cons (s_openers_4)
 .nil))))
def i_openers : FI := ⟨["rows", "opened", "found", "at", "row"], ["rows"], ⟨1, 5, b_openers⟩, defArgs (top 1), defBody (top 1), defScope (top 1)⟩
def s_closers_1 : Sg.St :=
 .own 2 (.dnew .sc)
def s_closers_2 : Sg.St :=
 .own 3 (.dnew .sc)
def l_closers_3 : Sts :=
 (.cons (.ite (.op .eq (.idx (.idx (.var 0) (.var 4)) (.int 0)) (.str "else"))
  (.cons (.setI 2 (.var 5) (.var 4))
 .nil)
  (.cons (.setI 3 (.var 5) (.var 4))
 .nil))
 .nil)
def s_closers_3 : Sg.St :=
 .forI (.many [4, 5]) 1 l_closers_3
def s_closers_4 : Sg.St :=
 .ret (.tup (.cons (.var 2) (.cons (.var 3) .nil)))
def b_closers : Sts :=
 (.cons (s_closers_1)
 (.cons (s_closers_2)
 (.cons (s_closers_3)
 (.cons (.frz [2, 3]) (.cons (s_closers_4)
 .nil)))))
def i_closers : FI := ⟨["rows", "opening", "elses", "ends", "at", "begin"], ["rows", "opening"], ⟨2, 6, b_closers⟩, defArgs (top 2), defBody (top 2), defScope (top 2)⟩
def l_landing_1 : Sts :=
 (.cons (.asg 4 (.idx (.var 2) (.var 1)))
 (.cons (.ite (.op .eq (.idx (.idx (.var 0) (.var 1)) (.int 0)) (.str "else"))
  (.cons (.asg 1 (.op .add (.idx (.var 3) (.var 4)) (.int 1)))
 .nil)
  (.cons (.ite (.op .eq (.idx (.idx (.var 0) (.var 4)) (.int 0)) (.str "while"))
  (.cons (.ret (.var 4))
 .nil)
  (.cons (.asg 1 (.op .add (.var 1) (.int 1)))
 .nil))
 .nil))
 .nil))
def w_landing_2 : E :=
 (.or (.cons (.op .eq (.idx (.idx (.var 0) (.var 1)) (.int 0)) (.str "else")) (.cons (.op .eq (.idx (.idx (.var 0) (.var 1)) (.int 0)) (.str "end")) .nil)))
def b_landing : Sts :=
 (.cons (.while w_landing_2 l_landing_1)
 (.cons (.ret (.var 1))
 .nil))
def i_landing : FI := ⟨["rows", "at", "opening", "ends", "begin"], ["rows", "at", "opening", "ends"], ⟨4, 5, b_landing⟩, defArgs (top 3), defBody (top 3), defScope (top 3)⟩
def s_ways_1 : Sg.St :=
 .asg 1 (.call "openers" (.cons (.var 0) .nil))
def s_ways_2 : Sg.St :=
 .asgT [3, 4] (.call "closers" (.cons (.var 0) (.cons (.var 1) .nil)))
def s_ways_3 : Sg.St :=
 .own 2 (.lst .nil)
def l_ways_4 : Sts :=
 (.cons (.ite (.op .inn (.var 5) (.var 1))
  (.cons (.mc none 2 .append (.cons .non .nil))
 .nil)
  (.cons (.ite (.op .eq (.idx (.var 6) (.int 0)) (.str "back"))
  (.cons (.mc none 2 .append (.cons (.tup .nil) .nil))
 .nil)
  (.cons (.ite (.op .inn (.var 5) (.var 4))
  (.cons (.asg 7 (.bm (.var 3) .get (.cons (.var 5) (.cons (.idx (.var 4) (.var 5)) .nil))))
 (.cons (.asg 8 (.call "landing" (.cons (.var 0) (.cons (.op .add (.var 5) (.int 1)) (.cons (.var 1) (.cons (.var 4) .nil))))))
 (.cons (.mc none 2 .append (.cons (.tup (.cons (.var 8) (.cons (.call "landing" (.cons (.var 0) (.cons (.op .add (.var 7) (.int 1)) (.cons (.var 1) (.cons (.var 4) .nil))))) .nil))) .nil))
 .nil)))
  (.cons (.mc none 2 .append (.cons (.tup (.cons (.call "landing" (.cons (.var 0) (.cons (.op .add (.var 5) (.int 1)) (.cons (.var 1) (.cons (.var 4) .nil))))) .nil)) .nil))
 .nil))
 .nil))
 .nil))
 .nil)
def s_ways_4 : Sg.St :=
 .for (.many [5, 6]) (.enm (.var 0)) l_ways_4
def s_ways_5 : Sg.St :=
 .ret (.var 2)
def b_ways : Sts :=
 (.cons (s_ways_1)
 (.cons (s_ways_2)
 (.cons (s_ways_3)
 (.cons (s_ways_4)
 (.cons (s_ways_5)
 .nil)))))
def i_ways : FI := ⟨["rows", "opening", "found", "elses", "ends", "at", "row", "beyond", "yes"], ["rows"], ⟨1, 9, b_ways⟩, defArgs (top 4), defBody (top 4), defScope (top 4)⟩
def s__law_cell_1 : Sg.St :=
 .ite (.op .lt (.var 1) (.bi .len (.cons (.var 0) .nil)))
  (.cons (.ret (.idx (.var 0) (.var 1)))
 .nil)
  .nil
def s__law_cell_2 : Sg.St :=
 .asg 2 (.int 7)
def s__law_cell_3 : Sg.St :=
 .ite (.op .gt (.bi .len (.cons (.var 0) .nil)) (.int 0))
  (.cons (.asg 2 (.op .mod (.idx (.var 0) (.op .mod (.var 1) (.bi .len (.cons (.var 0) .nil)))) (.int 999983)))
 .nil)
  .nil
def s__law_cell_4 : Sg.St :=
 .ret (.op .mod (.op .mul (.op .add (.op .add (.var 2) (.op .mul (.int 613) (.var 1))) (.int 29)) (.op .add (.op .add (.var 2) (.op .mul (.int 71) (.var 1))) (.int 5))) (.int 1000003))
def b__law_cell : Sts :=
 (.cons (s__law_cell_1)
 (.cons (s__law_cell_2)
 (.cons (s__law_cell_3)
 (.cons (s__law_cell_4)
 .nil))))
def i__law_cell : FI := ⟨["_law_script", "_law_k", "_law_seed"], ["_law_script", "_law_k"], ⟨2, 3, b__law_cell⟩, defArgs (top 6), defBody (top 6), defScope (top 6)⟩
def b__law_part : Sts :=
 (.cons (.asg 3 (.tup (.cons (.int 10007) (.cons (.int 10009) (.cons (.int 10037) (.cons (.int 10039) (.cons (.int 10061) (.cons (.int 10067) (.cons (.int 10069) (.cons (.int 10079) .nil))))))))))
 (.cons (.ret (.op .mod (.op .mod (.op .add (.op .mul (.var 0) (.int 48271)) (.op .mul (.int 7919) (.var 1))) (.idx (.var 3) (.op .mod (.var 1) (.int 8)))) (.var 2)))
 .nil))
def i__law_part : FI := ⟨["_law_cell_here", "_law_j", "_law_many", "_law_primes"], ["_law_cell_here", "_law_j", "_law_many"], ⟨3, 4, b__law_part⟩, defArgs (top 7), defBody (top 7), defScope (top 7)⟩
def s__law_plain_1 : Sg.St :=
 .asg 1 (.op .mod (.var 0) (.op .pow (.int 2) (.int 48)))
def s__law_plain_2 : Sg.St :=
 .asg 2 (.lst (.cons (.tup (.cons (.str "copy") (.cons (.str "a") (.cons (.var 1) .nil)))) (.cons (.tup (.cons (.str "op") (.cons (.str "b") (.cons (.str "+") (.cons (.str "a") (.cons (.var 1) .nil)))))) (.cons (.tup (.cons (.str "new") (.cons (.str "c") .nil))) (.cons (.tup (.cons (.str "get") (.cons (.str "a") (.cons (.var 1) (.cons (.str "f") .nil))))) .nil)))))
def s__law_plain_3 : Sg.St :=
 .asg 2 (.op .add (.var 2) (.lst (.cons (.tup (.cons (.str "put") (.cons (.str "a") (.cons (.str "f") (.cons (.var 1) .nil))))) (.cons (.tup (.cons (.str "call") (.cons (.str "a") (.cons (.str "b") (.cons (.tup (.cons (.var 1) .nil)) .nil))))) (.cons (.tup (.cons (.str "out") (.cons (.var 1) .nil))) (.cons (.tup (.cons (.str "back") (.cons (.var 1) .nil))) .nil))))))
def s__law_plain_4 : Sg.St :=
 .ret (.idx (.var 2) (.call "_law_part" (.cons (.var 0) (.cons (.int 1) (.cons (.int 8) .nil)))))
def b__law_plain : Sts :=
 (.cons (s__law_plain_1)
 (.cons (s__law_plain_2)
 (.cons (s__law_plain_3)
 (.cons (s__law_plain_4)
 .nil))))
def i__law_plain : FI := ⟨["_law_cell_here", "_law_number", "_law_some"], ["_law_cell_here"], ⟨1, 3, b__law_plain⟩, defArgs (top 8), defBody (top 8), defScope (top 8)⟩
def s__law_rows_1 : Sg.St :=
 .own 3 (.lst .nil)
def s__law_rows_2 : Sg.St :=
 .own 4 (.lst .nil)
def l__law_rows_3 : Sts :=
 (.cons (.asg 7 (.call "_law_cell" (.cons (.var 0) (.cons (.op .add (.var 1) (.var 5)) .nil))))
 (.cons (.asg 8 (.call "_law_part" (.cons (.var 7) (.cons (.int 0) (.cons (.int 10) .nil)))))
 (.cons (.ite (.op .lt (.var 8) (.int 3))
  (.cons (.mc none 3 .append (.cons (.tup (.cons (.idx (.lst (.cons (.str "if") (.cons (.str "if") (.cons (.str "while") .nil)))) (.var 8)) (.cons (.op .mod (.var 7) (.op .pow (.int 2) (.int 48))) .nil))) .nil))
 (.cons (.mc none 4 .append (.cons (.idx (.idx (.var 3) (.neg (.int 1))) (.int 0)) .nil))
 .nil))
  (.cons (.ite (.and (.cons (.op .lt (.var 8) (.int 5)) (.cons (.op .ne (.var 4) (.lst .nil)) (.cons (.op .eq (.idx (.var 4) (.neg (.int 1))) (.str "if")) .nil))))
  (.cons (.mc none 3 .append (.cons (.tup (.cons (.str "else") .nil)) .nil))
 (.cons (.setI 4 (.neg (.int 1)) (.str "else"))
 .nil))
  (.cons (.ite (.and (.cons (.op .lt (.var 8) (.int 7)) (.cons (.op .ne (.var 4) (.lst .nil)) .nil)))
  (.cons (.mc none 3 .append (.cons (.tup (.cons (.str "end") .nil)) .nil))
 (.cons (.mc none 4 .pop .nil)
 .nil))
  (.cons (.mc none 3 .append (.cons (.call "_law_plain" (.cons (.var 7) .nil)) .nil))
 .nil))
 .nil))
 .nil))
 .nil)))
def s__law_rows_3 : Sg.St :=
 .for (.one 5) (.rng (.cons (.var 2) .nil)) l__law_rows_3
def l__law_rows_5 : Sts :=
 (.cons (.mc none 3 .append (.cons (.tup (.cons (.str "end") .nil)) .nil))
 .nil)
def s__law_rows_4 : Sg.St :=
 .for (.one 6) (.seq (.var 4)) l__law_rows_5
def s__law_rows_5 : Sg.St :=
 .mc none 3 .append (.cons (.tup (.cons (.str "back") (.cons (.op .mod (.call "_law_cell" (.cons (.var 0) (.cons (.var 1) .nil))) (.op .pow (.int 2) (.int 48))) .nil))) .nil)
def s__law_rows_6 : Sg.St :=
 .ret (.bi .tuple (.cons (.var 3) .nil))
def b__law_rows : Sts :=
 (.cons (s__law_rows_1)
 (.cons (s__law_rows_2)
 (.cons (s__law_rows_3)
 (.cons (.frz [4]) (.cons (s__law_rows_4)
 (.cons (s__law_rows_5)
 (.cons (s__law_rows_6)
 .nil)))))))
def i__law_rows : FI := ⟨["_law_script", "_law_at", "_law_many", "_law_rows_here", "_law_opened", "_law_k", "_law_one", "_law_cell_here", "_law_kind"], ["_law_script", "_law_at", "_law_many"], ⟨3, 9, b__law_rows⟩, defArgs (top 9), defBody (top 9), defScope (top 9)⟩
def l__law_end_1 : Sts :=
 (.cons (.asg 1 (.op .add (.var 1) (.int 1)))
 (.cons (.ite (.or (.cons (.op .eq (.idx (.idx (.var 0) (.var 1)) (.int 0)) (.str "if")) (.cons (.op .eq (.idx (.idx (.var 0) (.var 1)) (.int 0)) (.str "while")) .nil)))
  (.cons (.asg 2 (.op .add (.var 2) (.int 1)))
 .nil)
  (.cons (.ite (.op .eq (.idx (.idx (.var 0) (.var 1)) (.int 0)) (.str "end"))
  (.cons (.asg 2 (.op .sub (.var 2) (.int 1)))
 .nil)
  .nil)
 .nil))
 .nil))
def w__law_end_2 : E :=
 (.op .gt (.var 2) (.int 0))
def b__law_end : Sts :=
 (.cons (.asg 2 (.int 1))
 (.cons (.while w__law_end_2 l__law_end_1)
 (.cons (.ret (.var 1))
 .nil)))
def i__law_end : FI := ⟨["_law_rows_here", "_law_k", "_law_depth"], ["_law_rows_here", "_law_k"], ⟨2, 3, b__law_end⟩, defArgs (top 10), defBody (top 10), defScope (top 10)⟩
def l__law_else_1 : Sts :=
 (.cons (.asg 1 (.op .add (.var 1) (.int 1)))
 (.cons (.ite (.or (.cons (.op .eq (.idx (.idx (.var 0) (.var 1)) (.int 0)) (.str "if")) (.cons (.op .eq (.idx (.idx (.var 0) (.var 1)) (.int 0)) (.str "while")) .nil)))
  (.cons (.asg 2 (.op .add (.var 2) (.int 1)))
 .nil)
  (.cons (.ite (.op .eq (.idx (.idx (.var 0) (.var 1)) (.int 0)) (.str "end"))
  (.cons (.asg 2 (.op .sub (.var 2) (.int 1)))
 .nil)
  (.cons (.ite (.and (.cons (.op .eq (.idx (.idx (.var 0) (.var 1)) (.int 0)) (.str "else")) (.cons (.op .eq (.var 2) (.int 1)) .nil)))
  (.cons (.ret (.var 1))
 .nil)
  .nil)
 .nil))
 .nil))
 .nil))
def w__law_else_2 : E :=
 (.op .gt (.var 2) (.int 0))
def b__law_else : Sts :=
 (.cons (.asg 2 (.int 1))
 (.cons (.while w__law_else_2 l__law_else_1)
 (.cons (.ret (.var 1))
 .nil)))
def i__law_else : FI := ⟨["_law_rows_here", "_law_k", "_law_depth"], ["_law_rows_here", "_law_k"], ⟨2, 3, b__law_else⟩, defArgs (top 11), defBody (top 11), defScope (top 11)⟩
def l__law_opener_1 : Sts :=
 (.cons (.asg 1 (.op .sub (.var 1) (.int 1)))
 (.cons (.ite (.op .eq (.idx (.idx (.var 0) (.var 1)) (.int 0)) (.str "end"))
  (.cons (.asg 2 (.op .add (.var 2) (.int 1)))
 .nil)
  (.cons (.ite (.or (.cons (.op .eq (.idx (.idx (.var 0) (.var 1)) (.int 0)) (.str "if")) (.cons (.op .eq (.idx (.idx (.var 0) (.var 1)) (.int 0)) (.str "while")) .nil)))
  (.cons (.asg 2 (.op .sub (.var 2) (.int 1)))
 .nil)
  .nil)
 .nil))
 .nil))
def w__law_opener_2 : E :=
 (.op .gt (.var 2) (.int 0))
def b__law_opener : Sts :=
 (.cons (.asg 2 (.int 1))
 (.cons (.while w__law_opener_2 l__law_opener_1)
 (.cons (.ret (.var 1))
 .nil)))
def i__law_opener : FI := ⟨["_law_rows_here", "_law_k", "_law_depth"], ["_law_rows_here", "_law_k"], ⟨2, 3, b__law_opener⟩, defArgs (top 12), defBody (top 12), defScope (top 12)⟩
def l__law_behind_1 : Sts :=
 (.cons (.asg 2 (.call "_law_opener" (.cons (.var 0) (.cons (.var 1) .nil))))
 (.cons (.ite (.and (.cons (.op .eq (.idx (.idx (.var 0) (.var 1)) (.int 0)) (.str "end")) (.cons (.op .eq (.idx (.idx (.var 0) (.var 2)) (.int 0)) (.str "while")) .nil)))
  (.cons (.ret (.var 2))
 .nil)
  .nil)
 (.cons (.asg 1 (.op .add (.call "_law_end" (.cons (.var 0) (.cons (.var 2) .nil))) (.int 1)))
 .nil)))
def w__law_behind_2 : E :=
 (.or (.cons (.op .eq (.idx (.idx (.var 0) (.var 1)) (.int 0)) (.str "else")) (.cons (.op .eq (.idx (.idx (.var 0) (.var 1)) (.int 0)) (.str "end")) .nil)))
def b__law_behind : Sts :=
 (.cons (.asg 1 (.op .add (.var 1) (.int 1)))
 (.cons (.while w__law_behind_2 l__law_behind_1)
 (.cons (.ret (.var 1))
 .nil)))
def i__law_behind : FI := ⟨["_law_rows_here", "_law_k", "_law_begin"], ["_law_rows_here", "_law_k"], ⟨2, 3, b__law_behind⟩, defArgs (top 13), defBody (top 13), defScope (top 13)⟩
def s__law_due_1 : Sg.St :=
 .asg 2 (.idx (.idx (.var 0) (.var 1)) (.int 0))
def s__law_due_2 : Sg.St :=
 .ite (.or (.cons (.op .eq (.var 2) (.str "else")) (.cons (.op .eq (.var 2) (.str "end")) .nil)))
  (.cons (.ret .non)
 .nil)
  .nil
def s__law_due_3 : Sg.St :=
 .ite (.op .eq (.var 2) (.str "back"))
  (.cons (.ret (.tup .nil))
 .nil)
  .nil
def s__law_due_4 : Sg.St :=
 .ite (.op .eq (.var 2) (.str "if"))
  (.cons (.ret (.tup (.cons (.call "_law_behind" (.cons (.var 0) (.cons (.var 1) .nil))) (.cons (.call "_law_behind" (.cons (.var 0) (.cons (.call "_law_else" (.cons (.var 0) (.cons (.var 1) .nil))) .nil))) .nil))))
 .nil)
  .nil
def s__law_due_5 : Sg.St :=
 .ite (.op .eq (.var 2) (.str "while"))
  (.cons (.ret (.tup (.cons (.call "_law_behind" (.cons (.var 0) (.cons (.var 1) .nil))) (.cons (.call "_law_behind" (.cons (.var 0) (.cons (.call "_law_end" (.cons (.var 0) (.cons (.var 1) .nil))) .nil))) .nil))))
 .nil)
  .nil
def s__law_due_6 : Sg.St :=
 .ret (.tup (.cons (.call "_law_behind" (.cons (.var 0) (.cons (.var 1) .nil))) .nil))
def b__law_due : Sts :=
 (.cons (s__law_due_1)
 (.cons (s__law_due_2)
 (.cons (s__law_due_3)
 (.cons (s__law_due_4)
 (.cons (s__law_due_5)
 (.cons (s__law_due_6)
 .nil))))))
def i__law_due : FI := ⟨["_law_rows_here", "_law_k", "_law_kind"], ["_law_rows_here", "_law_k"], ⟨2, 3, b__law_due⟩, defArgs (top 14), defBody (top 14), defScope (top 14)⟩
def l__law_right_1 : Sts :=
 (.cons (.asg 3 (.call "_law_due" (.cons (.var 1) (.cons (.var 2) .nil))))
 (.cons (.ite (.isN false (.var 3))
  (.cons (.ite (.isN true (.idx (.var 0) (.var 2)))
  (.cons (.ret (.bl false))
 .nil)
  .nil)
 .nil)
  (.cons (.ite (.or (.cons (.not (.isT (.idx (.var 0) (.var 2)) .tuple)) (.cons (.op .ne (.idx (.var 0) (.var 2)) (.var 3)) .nil)))
  (.cons (.ret (.bl false))
 .nil)
  (.cons (.ite (.op .ne (.lc [4] (.one 4) (.seq (.idx (.var 0) (.var 2))) (.or (.cons (.not (.isT (.var 4) .int)) (.cons (.isT (.var 4) .bool) .nil))) (.var 4)) (.lst .nil))
  (.cons (.ret (.bl false))
 .nil)
  .nil)
 .nil))
 .nil))
 .nil))
def b__law_right : Sts :=
 (.cons (.ite (.or (.cons (.not (.isT (.var 0) .list)) (.cons (.op .ne (.bi .len (.cons (.var 0) .nil)) (.bi .len (.cons (.var 1) .nil))) .nil)))
  (.cons (.ret (.bl false))
 .nil)
  .nil)
 (.cons (.for (.one 2) (.rng (.cons (.bi .len (.cons (.var 1) .nil)) .nil)) l__law_right_1)
 (.cons (.ret (.bl true))
 .nil)))
def i__law_right : FI := ⟨["_law_found", "_law_rows_here", "_law_k", "_law_due_here", "_law_one"], ["_law_found", "_law_rows_here"], ⟨2, 5, b__law_right⟩, defArgs (top 15), defBody (top 15), defScope (top 15)⟩
def s_law_1 : Sg.St :=
 .asg 1 (.call "_law_cell" (.cons (.var 0) (.cons (.int 0) .nil)))
def s_law_2 : Sg.St :=
 .asg 2 (.op .mod (.var 1) (.int 10))
def s_law_3 : Sg.St :=
 .asg 3 (.lst .nil)
def s_law_4 : Sg.St :=
 .ite (.op .eq (.call "_law_part" (.cons (.var 1) (.cons (.int 0) (.cons (.int 8) .nil)))) (.int 1))
  (.cons (.asg 2 (.call "_law_part" (.cons (.var 1) (.cons (.int 1) (.cons (.int 21) .nil)))))
 (.cons (.asg 3 (.lc [8] (.one 8) (.rng (.cons (.call "_law_part" (.cons (.var 1) (.cons (.int 2) (.cons (.int 19) .nil)))) .nil)) (.bl true) (.call "_law_plain" (.cons (.call "_law_cell" (.cons (.var 0) (.cons (.op .add (.int 3) (.var 8)) .nil))) .nil))))
 .nil))
  .nil
def s_law_5 : Sg.St :=
 .asg 4 (.op .add (.bi .tuple (.cons (.var 3) .nil)) (.call "_law_rows" (.cons (.var 0) (.cons (.int 2) (.cons (.var 2) .nil)))))
def s_law_6 : Sg.St :=
 .ite (.op .eq (.call "_law_part" (.cons (.var 1) (.cons (.int 3) (.cons (.int 16) .nil)))) (.int 1))
  (.cons (.asg 7 (.op .add (.int 1) (.call "_law_part" (.cons (.var 1) (.cons (.int 4) (.cons (.int 29) .nil))))))
 (.cons (.asg 4 (.op .add (.lc [8] (.one 8) (.rng (.cons (.var 7) .nil)) (.bl true) (.tup (.cons (.idx (.lst (.cons (.str "if") (.cons (.str "while") .nil))) (.call "_law_part" (.cons (.op .add (.var 1) (.op .mul (.int 31) (.var 8))) (.cons (.int 5) (.cons (.int 2) .nil))))) (.cons (.int 7) .nil)))) (.rep (.lst (.cons (.tup (.cons (.str "end") .nil)) .nil)) (.var 7))))
 (.cons (.asg 4 (.bi .tuple (.cons (.op .add (.var 4) (.lst (.cons (.tup (.cons (.str "back") (.cons (.int 0) .nil))) .nil))) .nil)))
 .nil)))
  .nil
def s_law_7 : Sg.St :=
 .asg 5 (.call "_law_rows" (.cons (.var 0) (.cons (.int 33) (.cons (.op .mod (.call "_law_cell" (.cons (.var 0) (.cons (.int 1) .nil))) (.int 8)) .nil))))
def s_law_8 : Sg.St :=
 .own 6 (.call "ways" (.cons (.var 4) .nil))
def s_law_9 : Sg.St :=
 .ite (.or (.cons (.not (.brw [6] (.call "_law_right" (.cons (.var 6) (.cons (.var 4) .nil))))) (.cons (.not (.call "_law_right" (.cons (.call "ways" (.cons (.var 5) .nil)) (.cons (.var 5) .nil)))) .nil)))
  (.cons (.ret (.bl false))
 .nil)
  .nil
def s_law_10 : Sg.St :=
 .ite (.not (.brw [6] (.call "_law_right" (.cons (.var 6) (.cons (.var 4) .nil)))))
  (.cons (.ret (.bl false))
 .nil)
  .nil
def s_law_11 : Sg.St :=
 .mc none 6 .clear .nil
def s_law_12 : Sg.St :=
 .ret (.call "_law_right" (.cons (.call "ways" (.cons (.var 4) .nil)) (.cons (.var 4) .nil)))
def b_law : Sts :=
 (.cons (s_law_1)
 (.cons (s_law_2)
 (.cons (s_law_3)
 (.cons (s_law_4)
 (.cons (s_law_5)
 (.cons (s_law_6)
 (.cons (s_law_7)
 (.cons (s_law_8)
 (.cons (s_law_9)
 (.cons (s_law_10)
 (.cons (s_law_11)
 (.cons (s_law_12)
 .nil))))))))))))
def i_law : FI := ⟨["_law_script", "_law_cell_here", "_law_many", "_law_before", "_law_rows_here", "_law_other", "_law_first", "_law_deep", "_law_k"], ["_law_script"], ⟨1, 9, b_law⟩, defArgs (top 16), defBody (top 16), defScope (top 16)⟩
def tb_0 : List (Str × FI) := [("openers", i_openers),
  ("closers", i_closers),
  ("landing", i_landing),
  ("ways", i_ways),
  ("_law_cell", i__law_cell),
  ("_law_part", i__law_part),
  ("_law_plain", i__law_plain),
  ("_law_rows", i__law_rows),
  ("_law_end", i__law_end),
  ("_law_else", i__law_else),
  ("_law_opener", i__law_opener),
  ("_law_behind", i__law_behind),
  ("_law_due", i__law_due),
  ("_law_right", i__law_right),
  ("law", i_law)]
def tb : List (Str × FI) := tb_0

def G : Str → Option Fn := gOf tb
def frs_0 : List Str := ["enumerate",
  "len",
  "range",
  "tuple",
  "isinstance",
  "list",
  "bool",
  "int"]
def frs : List Str := frs_0

def cts : List (Str × D) := []

def gk : GK := gkOf tb frs cts
theorem g_openers : G "openers" = some ⟨1, 5, b_openers⟩ := by kernel_rfl
theorem o_openers : i_openers.Ok gk := ⟨⟨rfl, rfl, rfl, by decide +kernel, rfl, by decide +kernel, by decide +kernel⟩, rfl, rfl, by kernel_rfl⟩
theorem g_closers : G "closers" = some ⟨2, 6, b_closers⟩ := by kernel_rfl
theorem o_closers : i_closers.Ok gk := ⟨⟨rfl, rfl, rfl, by decide +kernel, rfl, by decide +kernel, by decide +kernel⟩, rfl, rfl, by kernel_rfl⟩
theorem g_landing : G "landing" = some ⟨4, 5, b_landing⟩ := by kernel_rfl
theorem o_landing : i_landing.Ok gk := ⟨⟨rfl, rfl, rfl, by decide +kernel, rfl, by decide +kernel, by decide +kernel⟩, rfl, rfl, by kernel_rfl⟩
theorem g_ways : G "ways" = some ⟨1, 9, b_ways⟩ := by kernel_rfl
theorem o_ways : i_ways.Ok gk := ⟨⟨rfl, rfl, rfl, by decide +kernel, rfl, by decide +kernel, by decide +kernel⟩, rfl, rfl, by kernel_rfl⟩
theorem g__law_cell : G "_law_cell" = some ⟨2, 3, b__law_cell⟩ := by kernel_rfl
theorem o__law_cell : i__law_cell.Ok gk := ⟨⟨rfl, rfl, rfl, by decide +kernel, rfl, by decide +kernel, by decide +kernel⟩, rfl, rfl, by kernel_rfl⟩
theorem g__law_part : G "_law_part" = some ⟨3, 4, b__law_part⟩ := by kernel_rfl
theorem o__law_part : i__law_part.Ok gk := ⟨⟨rfl, rfl, rfl, by decide +kernel, rfl, by decide +kernel, by decide +kernel⟩, rfl, rfl, by kernel_rfl⟩
theorem g__law_plain : G "_law_plain" = some ⟨1, 3, b__law_plain⟩ := by kernel_rfl
theorem o__law_plain : i__law_plain.Ok gk := ⟨⟨rfl, rfl, rfl, by decide +kernel, rfl, by decide +kernel, by decide +kernel⟩, rfl, rfl, by kernel_rfl⟩
theorem g__law_rows : G "_law_rows" = some ⟨3, 9, b__law_rows⟩ := by kernel_rfl
theorem o__law_rows : i__law_rows.Ok gk := ⟨⟨rfl, rfl, rfl, by decide +kernel, rfl, by decide +kernel, by decide +kernel⟩, rfl, rfl, by kernel_rfl⟩
theorem g__law_end : G "_law_end" = some ⟨2, 3, b__law_end⟩ := by kernel_rfl
theorem o__law_end : i__law_end.Ok gk := ⟨⟨rfl, rfl, rfl, by decide +kernel, rfl, by decide +kernel, by decide +kernel⟩, rfl, rfl, by kernel_rfl⟩
theorem g__law_else : G "_law_else" = some ⟨2, 3, b__law_else⟩ := by kernel_rfl
theorem o__law_else : i__law_else.Ok gk := ⟨⟨rfl, rfl, rfl, by decide +kernel, rfl, by decide +kernel, by decide +kernel⟩, rfl, rfl, by kernel_rfl⟩
theorem g__law_opener : G "_law_opener" = some ⟨2, 3, b__law_opener⟩ := by kernel_rfl
theorem o__law_opener : i__law_opener.Ok gk := ⟨⟨rfl, rfl, rfl, by decide +kernel, rfl, by decide +kernel, by decide +kernel⟩, rfl, rfl, by kernel_rfl⟩
theorem g__law_behind : G "_law_behind" = some ⟨2, 3, b__law_behind⟩ := by kernel_rfl
theorem o__law_behind : i__law_behind.Ok gk := ⟨⟨rfl, rfl, rfl, by decide +kernel, rfl, by decide +kernel, by decide +kernel⟩, rfl, rfl, by kernel_rfl⟩
theorem g__law_due : G "_law_due" = some ⟨2, 3, b__law_due⟩ := by kernel_rfl
theorem o__law_due : i__law_due.Ok gk := ⟨⟨rfl, rfl, rfl, by decide +kernel, rfl, by decide +kernel, by decide +kernel⟩, rfl, rfl, by kernel_rfl⟩
theorem g__law_right : G "_law_right" = some ⟨2, 5, b__law_right⟩ := by kernel_rfl
theorem o__law_right : i__law_right.Ok gk := ⟨⟨rfl, rfl, rfl, by decide +kernel, rfl, by decide +kernel, by decide +kernel⟩, rfl, rfl, by kernel_rfl⟩
theorem g_law : G "law" = some ⟨1, 9, b_law⟩ := by kernel_rfl
theorem o_law : i_law.Ok gk := ⟨⟨rfl, rfl, rfl, by decide +kernel, rfl, by decide +kernel, by decide +kernel⟩, rfl, rfl, by kernel_rfl⟩
def fn_0 : List He.DefD := [⟨("openers", none), "openers", "openers", defArgs (top 1), defBody (top 1), defScope (top 1), [], []⟩,
  ⟨("closers", none), "closers", "closers", defArgs (top 2), defBody (top 2), defScope (top 2), [], []⟩,
  ⟨("landing", none), "landing", "landing", defArgs (top 3), defBody (top 3), defScope (top 3), [], []⟩,
  ⟨("ways", none), "ways", "ways", defArgs (top 4), defBody (top 4), defScope (top 4), [], []⟩,
  ⟨("_law_cell", none), "_law_cell", "_law_cell", defArgs (top 6), defBody (top 6), defScope (top 6), [], []⟩,
  ⟨("_law_part", none), "_law_part", "_law_part", defArgs (top 7), defBody (top 7), defScope (top 7), [], []⟩,
  ⟨("_law_plain", none), "_law_plain", "_law_plain", defArgs (top 8), defBody (top 8), defScope (top 8), [], []⟩,
  ⟨("_law_rows", none), "_law_rows", "_law_rows", defArgs (top 9), defBody (top 9), defScope (top 9), [], []⟩,
  ⟨("_law_end", none), "_law_end", "_law_end", defArgs (top 10), defBody (top 10), defScope (top 10), [], []⟩,
  ⟨("_law_else", none), "_law_else", "_law_else", defArgs (top 11), defBody (top 11), defScope (top 11), [], []⟩,
  ⟨("_law_opener", none), "_law_opener", "_law_opener", defArgs (top 12), defBody (top 12), defScope (top 12), [], []⟩,
  ⟨("_law_behind", none), "_law_behind", "_law_behind", defArgs (top 13), defBody (top 13), defScope (top 13), [], []⟩,
  ⟨("_law_due", none), "_law_due", "_law_due", defArgs (top 14), defBody (top 14), defScope (top 14), [], []⟩,
  ⟨("_law_right", none), "_law_right", "_law_right", defArgs (top 15), defBody (top 15), defScope (top 15), [], []⟩,
  ⟨("law", none), "law", "law", defArgs (top 16), defBody (top 16), defScope (top 16), [], []⟩]
def fn : List He.DefD := fn_0

def fa_0 : List He.Fa := [.glo "openers",
  .glo "closers",
  .glo "landing",
  .glo "ways",
  .glo "_law_cell",
  .glo "_law_part",
  .glo "_law_plain",
  .glo "_law_rows",
  .glo "_law_end",
  .glo "_law_else",
  .glo "_law_opener",
  .glo "_law_behind",
  .glo "_law_due",
  .glo "_law_right",
  .glo "law",
  .free "enumerate",
  .free "len",
  .free "range",
  .free "tuple",
  .free "isinstance",
  .free "list",
  .free "bool",
  .free "int"]
def fa : List He.Fa := fa_0

def loose_0 : List PySem.Str := ["_law_behind",
  "_law_cell",
  "_law_due",
  "_law_else",
  "_law_end",
  "_law_opener",
  "_law_part",
  "_law_plain",
  "_law_right",
  "_law_rows",
  "closers",
  "landing",
  "openers",
  "ways"]
def loose : List PySem.Str := loose_0

abbrev R : PySem.W.OpenRow := PySem.W.OpenLaw.row PySem.Challenge.rw_stopglass_k13_ways_of_rows
abbrev hk : PySem.W.Hook := He.hookD 5 fa fn
def ob (s : PySem.W.SharedT) : He.AlD := He.obsDG 5 fa fn (HandSHeadRun.getT s)
theorem ob_eq (s : PySem.W.SharedT) : ob s = hk.obs s.abs := He.obsDG_eq (HandSHeadRun.getT_eq s)
theorem run (w : World) : HandSHeadRun.RunEq R (PySem.W.view R.prog [16]) hk ob 1500 loose w := by
  intro os
  kernel_rfl
section
variable {K : PySem.W.Frag} {h : Heap} {mg : Str → Option Value} (X : K.In h) (G' : h.Ns mainGlobals mg) (c : He.SaysD fa fn K)
include X G' c
theorem d_openers : DefOk K mg gk ("openers", i_openers) := by
  obtain ⟨fd, F⟩ := c.def_ 0 (d := ⟨("openers", none), "openers", "openers", defArgs (top 1), defBody (top 1), defScope (top 1), [], []⟩) rfl
  exact ⟨_, _, _, fd, F, o_openers, He.glo_ok X G' (c.fact 0 (f := .glo "openers") rfl), F.bindsN (ps := ["rows"]) fun _ _ _ _ _ _ us hl => match us, hl with | [_], _ => rfl⟩
theorem d_closers : DefOk K mg gk ("closers", i_closers) := by
  obtain ⟨fd, F⟩ := c.def_ 1 (d := ⟨("closers", none), "closers", "closers", defArgs (top 2), defBody (top 2), defScope (top 2), [], []⟩) rfl
  exact ⟨_, _, _, fd, F, o_closers, He.glo_ok X G' (c.fact 1 (f := .glo "closers") rfl), F.bindsN (ps := ["rows", "opening"]) fun _ _ _ _ _ _ us hl => match us, hl with | [_, _], _ => rfl⟩
theorem d_landing : DefOk K mg gk ("landing", i_landing) := by
  obtain ⟨fd, F⟩ := c.def_ 2 (d := ⟨("landing", none), "landing", "landing", defArgs (top 3), defBody (top 3), defScope (top 3), [], []⟩) rfl
  exact ⟨_, _, _, fd, F, o_landing, He.glo_ok X G' (c.fact 2 (f := .glo "landing") rfl), F.bindsN (ps := ["rows", "at", "opening", "ends"]) fun _ _ _ _ _ _ us hl => match us, hl with | [_, _, _, _], _ => rfl⟩
theorem d_ways : DefOk K mg gk ("ways", i_ways) := by
  obtain ⟨fd, F⟩ := c.def_ 3 (d := ⟨("ways", none), "ways", "ways", defArgs (top 4), defBody (top 4), defScope (top 4), [], []⟩) rfl
  exact ⟨_, _, _, fd, F, o_ways, He.glo_ok X G' (c.fact 3 (f := .glo "ways") rfl), F.bindsN (ps := ["rows"]) fun _ _ _ _ _ _ us hl => match us, hl with | [_], _ => rfl⟩
theorem d__law_cell : DefOk K mg gk ("_law_cell", i__law_cell) := by
  obtain ⟨fd, F⟩ := c.def_ 4 (d := ⟨("_law_cell", none), "_law_cell", "_law_cell", defArgs (top 6), defBody (top 6), defScope (top 6), [], []⟩) rfl
  exact ⟨_, _, _, fd, F, o__law_cell, He.glo_ok X G' (c.fact 4 (f := .glo "_law_cell") rfl), F.bindsN (ps := ["_law_script", "_law_k"]) fun _ _ _ _ _ _ us hl => match us, hl with | [_, _], _ => rfl⟩
theorem d__law_part : DefOk K mg gk ("_law_part", i__law_part) := by
  obtain ⟨fd, F⟩ := c.def_ 5 (d := ⟨("_law_part", none), "_law_part", "_law_part", defArgs (top 7), defBody (top 7), defScope (top 7), [], []⟩) rfl
  exact ⟨_, _, _, fd, F, o__law_part, He.glo_ok X G' (c.fact 5 (f := .glo "_law_part") rfl), F.bindsN (ps := ["_law_cell_here", "_law_j", "_law_many"]) fun _ _ _ _ _ _ us hl => match us, hl with | [_, _, _], _ => rfl⟩
theorem d__law_plain : DefOk K mg gk ("_law_plain", i__law_plain) := by
  obtain ⟨fd, F⟩ := c.def_ 6 (d := ⟨("_law_plain", none), "_law_plain", "_law_plain", defArgs (top 8), defBody (top 8), defScope (top 8), [], []⟩) rfl
  exact ⟨_, _, _, fd, F, o__law_plain, He.glo_ok X G' (c.fact 6 (f := .glo "_law_plain") rfl), F.bindsN (ps := ["_law_cell_here"]) fun _ _ _ _ _ _ us hl => match us, hl with | [_], _ => rfl⟩
theorem d__law_rows : DefOk K mg gk ("_law_rows", i__law_rows) := by
  obtain ⟨fd, F⟩ := c.def_ 7 (d := ⟨("_law_rows", none), "_law_rows", "_law_rows", defArgs (top 9), defBody (top 9), defScope (top 9), [], []⟩) rfl
  exact ⟨_, _, _, fd, F, o__law_rows, He.glo_ok X G' (c.fact 7 (f := .glo "_law_rows") rfl), F.bindsN (ps := ["_law_script", "_law_at", "_law_many"]) fun _ _ _ _ _ _ us hl => match us, hl with | [_, _, _], _ => rfl⟩
theorem d__law_end : DefOk K mg gk ("_law_end", i__law_end) := by
  obtain ⟨fd, F⟩ := c.def_ 8 (d := ⟨("_law_end", none), "_law_end", "_law_end", defArgs (top 10), defBody (top 10), defScope (top 10), [], []⟩) rfl
  exact ⟨_, _, _, fd, F, o__law_end, He.glo_ok X G' (c.fact 8 (f := .glo "_law_end") rfl), F.bindsN (ps := ["_law_rows_here", "_law_k"]) fun _ _ _ _ _ _ us hl => match us, hl with | [_, _], _ => rfl⟩
theorem d__law_else : DefOk K mg gk ("_law_else", i__law_else) := by
  obtain ⟨fd, F⟩ := c.def_ 9 (d := ⟨("_law_else", none), "_law_else", "_law_else", defArgs (top 11), defBody (top 11), defScope (top 11), [], []⟩) rfl
  exact ⟨_, _, _, fd, F, o__law_else, He.glo_ok X G' (c.fact 9 (f := .glo "_law_else") rfl), F.bindsN (ps := ["_law_rows_here", "_law_k"]) fun _ _ _ _ _ _ us hl => match us, hl with | [_, _], _ => rfl⟩
theorem d__law_opener : DefOk K mg gk ("_law_opener", i__law_opener) := by
  obtain ⟨fd, F⟩ := c.def_ 10 (d := ⟨("_law_opener", none), "_law_opener", "_law_opener", defArgs (top 12), defBody (top 12), defScope (top 12), [], []⟩) rfl
  exact ⟨_, _, _, fd, F, o__law_opener, He.glo_ok X G' (c.fact 10 (f := .glo "_law_opener") rfl), F.bindsN (ps := ["_law_rows_here", "_law_k"]) fun _ _ _ _ _ _ us hl => match us, hl with | [_, _], _ => rfl⟩
theorem d__law_behind : DefOk K mg gk ("_law_behind", i__law_behind) := by
  obtain ⟨fd, F⟩ := c.def_ 11 (d := ⟨("_law_behind", none), "_law_behind", "_law_behind", defArgs (top 13), defBody (top 13), defScope (top 13), [], []⟩) rfl
  exact ⟨_, _, _, fd, F, o__law_behind, He.glo_ok X G' (c.fact 11 (f := .glo "_law_behind") rfl), F.bindsN (ps := ["_law_rows_here", "_law_k"]) fun _ _ _ _ _ _ us hl => match us, hl with | [_, _], _ => rfl⟩
theorem d__law_due : DefOk K mg gk ("_law_due", i__law_due) := by
  obtain ⟨fd, F⟩ := c.def_ 12 (d := ⟨("_law_due", none), "_law_due", "_law_due", defArgs (top 14), defBody (top 14), defScope (top 14), [], []⟩) rfl
  exact ⟨_, _, _, fd, F, o__law_due, He.glo_ok X G' (c.fact 12 (f := .glo "_law_due") rfl), F.bindsN (ps := ["_law_rows_here", "_law_k"]) fun _ _ _ _ _ _ us hl => match us, hl with | [_, _], _ => rfl⟩
theorem d__law_right : DefOk K mg gk ("_law_right", i__law_right) := by
  obtain ⟨fd, F⟩ := c.def_ 13 (d := ⟨("_law_right", none), "_law_right", "_law_right", defArgs (top 15), defBody (top 15), defScope (top 15), [], []⟩) rfl
  exact ⟨_, _, _, fd, F, o__law_right, He.glo_ok X G' (c.fact 13 (f := .glo "_law_right") rfl), F.bindsN (ps := ["_law_found", "_law_rows_here"]) fun _ _ _ _ _ _ us hl => match us, hl with | [_, _], _ => rfl⟩
theorem d_law : DefOk K mg gk ("law", i_law) := by
  obtain ⟨fd, F⟩ := c.def_ 14 (d := ⟨("law", none), "law", "law", defArgs (top 16), defBody (top 16), defScope (top 16), [], []⟩) rfl
  exact ⟨_, _, _, fd, F, o_law, He.glo_ok X G' (c.fact 14 (f := .glo "law") rfl), F.bindsN (ps := ["_law_script"]) fun _ _ _ _ _ _ us hl => match us, hl with | [_], _ => rfl⟩
theorem tab : Tab K mg ca0 gk G := by
  refine tab_of (fun p hp => ?_) (fun x hx => ?_) (fun p hp => ?_)
  · have key : ∀ p ∈ tb, DefOk K mg gk p := by
      unfold tb tb_0
      simp only [List.cons_append, List.nil_append, List.append_nil, List.forall_mem_cons, List.not_mem_nil, false_implies, implies_true, and_true]
      exact ⟨d_openers X G' c, d_closers X G' c, d_landing X G' c, d_ways X G' c, d__law_cell X G' c, d__law_part X G' c, d__law_plain X G' c, d__law_rows X G' c, d__law_end X G' c, d__law_else X G' c, d__law_opener X G' c, d__law_behind X G' c, d__law_due X G' c, d__law_right X G' c, d_law X G' c⟩
    exact key p hp
  · have key : ∀ x ∈ frs, mg x = none := by
      unfold frs frs_0
      simp only [List.cons_append, List.nil_append, List.append_nil, List.forall_mem_cons, List.not_mem_nil, false_implies, implies_true, and_true]
      exact ⟨He.free_ok X G' (c.fact 15 (f := .free "enumerate") rfl), He.free_ok X G' (c.fact 16 (f := .free "len") rfl), He.free_ok X G' (c.fact 17 (f := .free "range") rfl), He.free_ok X G' (c.fact 18 (f := .free "tuple") rfl), He.free_ok X G' (c.fact 19 (f := .free "isinstance") rfl), He.free_ok X G' (c.fact 20 (f := .free "list") rfl), He.free_ok X G' (c.fact 21 (f := .free "bool") rfl), He.free_ok X G' (c.fact 22 (f := .free "int") rfl)⟩
    exact key x hx
  · exact absurd hp (by simp [cts])
end
/-- the law's end: what its walk comes to -/
theorem ends (wf n : Nat) (hn : n ≤ 230) (hr : ∀ ns : List Int, ns.length ≤ 63 → ∃ S', Sg.run G wf n "law" [.lst (ns.map D.int)] Sto.emp = .ok (.fr (.bl true)) S') : PySem.Challenge.rw_stopglass_k13_ways_of_rows.Holds := by
  open PySem PySem.W PySem.Calls PyProof.Rows in
  w_on; o_law
  refine HandSHeadRun.head_any (r := PySem.W.OpenLaw.row PySem.Challenge.rw_stopglass_k13_ways_of_rows) (q := PySem.W.view (PySem.W.OpenLaw.row PySem.Challenge.rw_stopglass_k13_ways_of_rows).prog [16]) (H := hk) (ob := ob) (M := 1500) (loose := loose) (d := HandSHeadRun.topDef (PySem.W.OpenLaw.row PySem.Challenge.rw_stopglass_k13_ways_of_rows).prog 16) (kwd := []) ob_eq
    (by kernel_rfl) (fun s => by kernel_rfl) run (by kernel_rfl) (by kernel_rfl) (by kernel_rfl) (by rfl) (by first | assumption | decide +kernel) (by decide +kernel) ⟨rfl, rfl, rfl, rfl, rfl, by decide +kernel⟩ ?hw ?hc
  case hw => w_witness2
  case hc =>
    refine walk_ofX (l := PySem.Challenge.rw_stopglass_k13_ways_of_rows) (n := 63) (k := n) (x := "_law_script") (CX := fun w => L2.CX (PySem.Challenge.rw_stopglass_k13_ways_of_rows).prog w) rfl (by decide) (by kernel_rfl) (room_top hn) ?F (fun w H s e s' => cx_none _ w H s e s')
    intro w mg fa h Y G' hmg0
    obtain ⟨K, KX, c⟩ := Y
    have hmg : mg ("law" : PySem.Str) = some (.ref fa) := by
      have e : (HandSHeadRun.topDef (PySem.W.OpenLaw.row PySem.Challenge.rw_stopglass_k13_ways_of_rows).prog 16).name = ("law" : PySem.Str) := by kernel_rfl
      rw [← e]
      exact hmg0
    have T := tab KX G' c
    obtain ⟨q, x, fa', fd, F, o, m, b⟩ := d_law KX G' c
    rw [hmg] at m
    cases m
    refine ⟨K, fd, spOf K ca0 1 (Sg.run G wf n "law"), KX, fun s v => ?_, fun H a ns hl hb _ hS => law_sp (n := 63) hr H a ns hl hS, fun base _ _ => law_fn (i := i_law) T (by kernel_rfl) F o rfl⟩
    exact FunD.bindsA (ps := ["_law_script"]) F (fun _ _ _ _ _ _ us hl => match us, hl with | [_], _ => rfl) s [v] rfl
end K13
namespace K13
open Sg
open PySem (Str)
variable {wf : Nat} {S : Sto}
/-! ### what closes, and what it closes -/
section
variable {cl : Str → List D → Sto → Res}
theorem op_opn {e0 : Option OV} {os : List D} {kvs : List (D × D)} {a : Int} {s : Str} {l : List D} (h : (kdS s).opn = true) (hl : os.length < lim) :
    execs cl wf l_openers_3 [e0, some (.ol os), some (.od .sc kvs), some (.fr (.int a)), some (.fr (.tup (.str s :: l)))] S = .nx [e0, some (.ol (os ++ [.int a])), some (.od .sc kvs), some (.fr (.int a)), some (.fr (.tup (.str s :: l)))] S := by
  have h1 := kd_if s
  have h2 := kd_while s
  cases hk : kdS s <;> rw [hk] at h h1 h2 <;> first | exact absurd h (by decide) | (simp at h1 h2; simp [l_openers_3, h1, h2, hl])
theorem op_els {e0 : Option OV} {os : List D} {kvs : List (D × D)} {a b : Int} {s : Str} {l : List D} (h : kdS s = .els) (hl : kvs.length < lim) :
    execs cl wf l_openers_3 [e0, some (.ol (os ++ [.int b])), some (.od .sc kvs), some (.fr (.int a)), some (.fr (.tup (.str s :: l)))] S = .nx [e0, some (.ol (os ++ [.int b])), some (.od .sc (dpI kvs a (.int b))), some (.fr (.int a)), some (.fr (.tup (.str s :: l)))] S := by
  have h1 := kd_if s
  have h2 := kd_while s
  have h3 := kd_else s
  rw [h] at h1 h2 h3
  simp at h1 h2 h3
  have e := setO_dI (k := a) (v := .int b) hl
  simp [l_openers_3, h1, h2, h3, atI_last, e]
theorem op_fin {e0 : Option OV} {os : List D} {kvs : List (D × D)} {a b : Int} {s : Str} {l : List D} (h : kdS s = .fin) (hl : kvs.length < lim) :
    execs cl wf l_openers_3 [e0, some (.ol (os ++ [.int b])), some (.od .sc kvs), some (.fr (.int a)), some (.fr (.tup (.str s :: l)))] S = .nx [e0, some (.ol os), some (.od .sc (dpI kvs a (.int b))), some (.fr (.int a)), some (.fr (.tup (.str s :: l)))] S := by
  have h1 := kd_if s
  have h2 := kd_while s
  have h3 := kd_else s
  have h4 := kd_end s
  rw [h] at h1 h2 h3 h4
  simp at h1 h2 h3 h4
  have e := setO_dI (k := a) (v := .int b) hl
  simp [l_openers_3, h1, h2, h3, h4, e]
theorem op_oth {e0 : Option OV} {os : List D} {kvs : List (D × D)} {a : Int} {s : Str} {l : List D} (h : (kdS s).opn = false) (h' : (kdS s).non = false) :
    execs cl wf l_openers_3 [e0, some (.ol os), some (.od .sc kvs), some (.fr (.int a)), some (.fr (.tup (.str s :: l)))] S = .nx [e0, some (.ol os), some (.od .sc kvs), some (.fr (.int a)), some (.fr (.tup (.str s :: l)))] S := by
  have h1 := kd_if s
  have h2 := kd_while s
  have h3 := kd_else s
  have h4 := kd_end s
  cases hk : kdS s <;> rw [hk] at h h' h1 h2 h3 h4 <;> first | exact absurd h (by decide) | exact absurd h' (by decide) | (simp at h1 h2 h3 h4; simp [l_openers_3, h1, h2, h3, h4])
theorem op_loop {rows : List D} (hr : ∀ d ∈ rows, IsRow d) (w : Wf (kds rows)) (hn : rows.length ≤ 1000) {e0 : Option OV} : ∀ (m i : Nat) (x3 x4 : Option OV), i + m = rows.length → ∃ y3 y4, forGo (execs cl wf l_openers_3) (.many [3, 4]) ((enumD i (rows.drop i))) [e0, some (.ol (kI (kds rows) i)), some (.od .sc (opn (kds rows) i)), x3, x4] S = .nx [e0, some (.ol (kI (kds rows) rows.length)), some (.od .sc (opn (kds rows) rows.length)), y3, y4] S
  | 0, i, x3, x4, hm => by
    have : i = rows.length := by omega
    subst this
    exact ⟨x3, x4, by rw [List.drop_length]; rfl⟩
  | m + 1, i, x3, x4, hm => by
    have hi : i < rows.length := by omega
    obtain ⟨s, l, hd, hk⟩ := row_at hr hi
    have hd' : rows.drop i = .tup (.str s :: l) :: rows.drop (i + 1) := by
      rw [List.drop_eq_getElem_cons hi]
      rw [List.getElem?_eq_getElem hi] at hd
      rw [Option.some.inj hd]
    obtain ⟨y3, y4, ih⟩ := op_loop (e0 := e0) hr w hn m (i + 1) (some (.fr (.int (i : Nat)))) (some (.fr (.tup (.str s :: l)))) (by omega)
    refine ⟨y3, y4, ?_⟩
    rw [hd']
    show forGo _ _ (.tup [.int (i : Nat), .tup (.str s :: l)] :: enumD (i + 1) (rows.drop (i + 1))) _ _ = _
    rw [forGo_cons]
    simp only [Tg.put, putAll, List.set_cons_succ, List.set_cons_zero, kForA_some]
    have l1 : (kI (kds rows) i).length < lim := by have := kI_len (ks := kds rows) (i := i); unfold lim; omega
    have l2 : (opn (kds rows) i).length < lim := by have := opn_len (ks := kds rows) (m := i); unfold lim; omega
    have dg : dgI (opn (kds rows) i) (i : Nat) = none := by rw [opn_get, if_neg (by omega)]
    rw [← ih]
    by_cases ho : (kdS s).opn = true
    · have e1 : kI (kds rows) (i + 1) = kI (kds rows) i ++ [.int (i : Nat)] := by rw [kI_succ, hk, if_pos ho]
      have e2 : opn (kds rows) (i + 1) = opn (kds rows) i := by
        rw [opn_succ, hk]
        cases q : kdS s <;> rw [q] at ho <;> first | exact absurd ho (by decide) | exact List.append_nil _
      rw [op_opn ho l1, e1, e2]; rfl
    · have ho : (kdS s).opn = false := by simpa using ho
      by_cases hf : (kdS s).non = true
      · have ne : stk (kds rows) i ≠ [] := w.ne (by rw [hk]; exact hf)
        have e2 : opn (kds rows) (i + 1) = dpI (opn (kds rows) i) (i : Nat) (.int (tpo (kds rows) i : Nat)) := by
          rw [opn_succ, hk, hf, dpI_new dg]; rfl
        cases q : kdS s with
        | els =>
          have e1 : kI (kds rows) (i + 1) = kI (kds rows) i := by rw [kI_succ, hk, q]; rfl
          rw [e1, e2, kI_top ne, op_els q l2]; rfl
        | fin =>
          have e1 : kI (kds rows) (i + 1) = (keys (kds rows) i).tail.reverse.map fun (k : Nat) => D.int k := by rw [kI_succ, hk, q]; rfl
          rw [e1, e2, kI_top ne, op_fin q l2]; rfl
        | _ => rw [q] at hf; cases hf
      · have hf : (kdS s).non = false := by simpa using hf
        have e1 : kI (kds rows) (i + 1) = kI (kds rows) i := by
          rw [kI_succ, hk, ho, if_neg (by decide), if_neg]
          intro z; rw [z] at hf; cases hf
        have e2 : opn (kds rows) (i + 1) = opn (kds rows) i := by rw [opn_succ, hk, hf]; exact List.append_nil _
        rw [op_oth ho hf, e1, e2]; rfl
theorem op_core {rows : List D} (hr : ∀ d ∈ rows, IsRow d) (w : Wf (kds rows)) (hn : rows.length ≤ 1000) : execs cl wf b_openers [some (.fr (.tup rows)), none, none, none, none] S = .rt (.od .sc (opn (kds rows) rows.length)) S := by
  obtain ⟨y3, y4, lp⟩ := op_loop (cl := cl) (wf := wf) (S := S) (e0 := some (.fr (.tup rows))) hr w hn rows.length 0 none none (by omega)
  have lp : forGo (execs cl wf l_openers_3) (.many [3, 4]) (enumD 0 rows) [some (.fr (.tup rows)), some (.ol []), some (.od .sc []), none, none] S = .nx [some (.fr (.tup rows)), some (.ol (kI (kds rows) rows.length)), some (.od .sc (opn (kds rows) rows.length)), y3, y4] S := lp
  simp only [b_openers]
  simp [s_openers_1, s_openers_2, s_openers_3, s_openers_4, enmO, lp]
/-! ### elses and ends -/
theorem cs_els {e1 : Option OV} {rows : List D} {es ns : List (D × D)} {a b : Int} {s : Str} {l : List D} (hd : L2.atI rows a = some (.tup (.str s :: l))) (h : kdS s = .els) (hl : es.length < lim) :
    execs cl wf l_closers_3 [some (.fr (.tup rows)), e1, some (.od .sc es), some (.od .sc ns), some (.fr (.int a)), some (.fr (.int b))] S = .nx [some (.fr (.tup rows)), e1, some (.od .sc (dpI es b (.int a))), some (.od .sc ns), some (.fr (.int a)), some (.fr (.int b))] S := by
  have h3 := kd_else s
  rw [h] at h3
  simp at h3
  have e := setO_dI (k := b) (v := .int a) hl
  simp [l_closers_3, hd, h3, e]
theorem cs_fin {e1 : Option OV} {rows : List D} {es ns : List (D × D)} {a b : Int} {s : Str} {l : List D} (hd : L2.atI rows a = some (.tup (.str s :: l))) (h : kdS s ≠ .els) (hl : ns.length < lim) :
    execs cl wf l_closers_3 [some (.fr (.tup rows)), e1, some (.od .sc es), some (.od .sc ns), some (.fr (.int a)), some (.fr (.int b))] S = .nx [some (.fr (.tup rows)), e1, some (.od .sc es), some (.od .sc (dpI ns b (.int a))), some (.fr (.int a)), some (.fr (.int b))] S := by
  have h3 := kd_else s
  rw [decide_eq_false h] at h3
  simp at h3
  have e := setO_dI (k := b) (v := .int a) hl
  simp [l_closers_3, hd, h3, e]
/-- what is told of elses, of ends, ahead of a place -/
def FdOk (ks : List Kd) (k : Kd) (m : Nat) (kvs : List (D × D)) : Prop := kvs.length ≤ m ∧ ∀ b : Nat, dgI kvs (b : Nat) = (fdM ks k m b).map fun (e : Nat) => D.int e
theorem fd_skip {ks : List Kd} {k : Kd} {m : Nat} {kvs : List (D × D)} (h : FdOk ks k m kvs) (hk : kAt ks m ≠ k) : FdOk ks k (m + 1) kvs := by
  refine ⟨by have := h.1; omega, fun b => ?_⟩
  rw [h.2, fdM_succ (fun e _ z => absurd z hk), if_neg fun z => hk z.1]
theorem fd_put {ks : List Kd} {k : Kd} {m : Nat} {kvs : List (D × D)} (h : FdOk ks k m kvs) (hk : kAt ks m = k) (one : ∀ e, kAt ks e = k → kAt ks m = k → tpo ks e = tpo ks m → e = m) : FdOk ks k (m + 1) (dpI kvs (tpo ks m : Nat) (.int (m : Nat))) := by
  refine ⟨by have := h.1; have := dpI_len (kvs := kvs) (k := (tpo ks m : Nat)) (v := .int (m : Nat)); omega, fun b => ?_⟩
  rw [dgI_dpI, fdM_succ one, h.2]
  by_cases hb : b = tpo ks m
  · rw [if_pos (by rw [hb]), if_pos ⟨hk, hb⟩]; rfl
  · rw [if_neg (by omega), if_neg fun z => hb z.2]
theorem cs_loop {rows : List D} (hr : ∀ d ∈ rows, IsRow d) (w : Wf (kds rows)) (hn : rows.length ≤ 1000) {e1 : Option OV} : ∀ (m i : Nat) (es ns : List (D × D)) (x4 x5 : Option OV), i + m = rows.length → FdOk (kds rows) .els i es → FdOk (kds rows) .fin i ns →
    ∃ es' ns' y4 y5, forGo (execs cl wf l_closers_3) (.many [4, 5]) (itmD (((List.range' i m).filter fun i => (kAt (kds rows) i).non).map fun i => (.int (i : Nat), .int (tpo (kds rows) i : Nat)))) [some (.fr (.tup rows)), e1, some (.od .sc es), some (.od .sc ns), x4, x5] S = .nx [some (.fr (.tup rows)), e1, some (.od .sc es'), some (.od .sc ns'), y4, y5] S ∧ FdOk (kds rows) .els rows.length es' ∧ FdOk (kds rows) .fin rows.length ns'
  | 0, i, es, ns, x4, x5, hm, he, hN => by
    have : i = rows.length := by omega
    subst this
    exact ⟨es, ns, x4, x5, rfl, he, hN⟩
  | m + 1, i, es, ns, x4, x5, hm, he, hN => by
    have hi : i < rows.length := by omega
    obtain ⟨s, l, hd, hk⟩ := row_at hr hi
    rw [List.range'_succ]
    cases hf : (kAt (kds rows) i).non with
    | false =>
      rw [List.filter_cons_of_neg (p := fun i => (kAt (kds rows) i).non) (by rw [hf]; decide)]
      exact cs_loop hr w hn m (i + 1) es ns x4 x5 (by omega) (fd_skip he (by intro z; rw [z] at hf; cases hf)) (fd_skip hN (by intro z; rw [z] at hf; cases hf))
    | true =>
      rw [List.filter_cons_of_pos (p := fun i => (kAt (kds rows) i).non) hf, List.map_cons]
      have hd2 : L2.atI rows (i : Nat) = some (.tup (.str s :: l)) := by rw [atI_cast]; exact hd
      have l1 : es.length < lim := by have := he.1; unfold lim; omega
      have l2 : ns.length < lim := by have := hN.1; unfold lim; omega
      by_cases q : kdS s = .els
      · have q' : kAt (kds rows) i = .els := hk.trans q
        obtain ⟨es', ns', y4, y5, ih, r⟩ := cs_loop (e1 := e1) hr w hn m (i + 1) _ ns (some (.fr (.int (i : Nat)))) (some (.fr (.int (tpo (kds rows) i : Nat)))) (by omega) (fd_put he q' fun e h1 h2 h3 => els_one w h1 h2 h3) (fd_skip hN (by rw [q']; exact nofun))
        refine ⟨es', ns', y4, y5, ?_, r⟩
        show forGo _ _ (.tup [.int (i : Nat), .int (tpo (kds rows) i : Nat)] :: itmD _) _ _ = _
        rw [forGo_cons]
        simp only [Tg.put, putAll, List.set_cons_succ, List.set_cons_zero, kForA_some]
        rw [cs_els hd2 q l1, ← ih]; rfl
      · have q' : kAt (kds rows) i = .fin := by
          rw [hk] at hf ⊢
          cases z : kdS s with
          | fin => rfl
          | els => exact absurd z q
          | _ => rw [z] at hf; cases hf
        obtain ⟨es', ns', y4, y5, ih, r⟩ := cs_loop (e1 := e1) hr w hn m (i + 1) es _ (some (.fr (.int (i : Nat)))) (some (.fr (.int (tpo (kds rows) i : Nat)))) (by omega) (fd_skip he (by rw [q']; exact nofun)) (fd_put hN q' fun e h1 h2 h3 => fin_one w h1 h2 h3)
        refine ⟨es', ns', y4, y5, ?_, r⟩
        show forGo _ _ (.tup [.int (i : Nat), .int (tpo (kds rows) i : Nat)] :: itmD _) _ _ = _
        rw [forGo_cons]
        simp only [Tg.put, putAll, List.set_cons_succ, List.set_cons_zero, kForA_some]
        rw [cs_fin hd2 q l2, ← ih]; rfl
theorem cs_core {rows : List D} (hr : ∀ d ∈ rows, IsRow d) (w : Wf (kds rows)) (hn : rows.length ≤ 1000) : ∃ es ns, FdOk (kds rows) .els rows.length es ∧ FdOk (kds rows) .fin rows.length ns ∧
    execs cl wf b_closers [some (.fr (.tup rows)), some (.fr (.dct .sc (opn (kds rows) rows.length))), none, none, none, none] S = .rt (.fr (.tup [.dct .sc es, .dct .sc ns])) S := by
  obtain ⟨es, ns, y4, y5, lp, h1, h2⟩ := cs_loop (cl := cl) (wf := wf) (S := S) (e1 := some (.fr (.dct .sc (opn (kds rows) rows.length)))) hr w hn rows.length 0 [] [] none none (by omega) ⟨Nat.le_refl _, fun b => rfl⟩ ⟨Nat.le_refl _, fun b => rfl⟩
  refine ⟨es, ns, h1, h2, ?_⟩
  rw [← List.range_eq_range'] at lp
  have lp : forGo (execs cl wf l_closers_3) (.many [4, 5]) (itmD (opn (kds rows) rows.length)) [some (.fr (.tup rows)), some (.fr (.dct .sc (opn (kds rows) rows.length))), some (.od .sc []), some (.od .sc []), none, none] S = .nx [some (.fr (.tup rows)), some (.fr (.dct .sc (opn (kds rows) rows.length))), some (.od .sc es), some (.od .sc ns), y4, y5] S := lp
  generalize opn (kds rows) rows.length = op at *
  have x3 : exec cl wf s_closers_3 [some (.fr (.tup rows)), some (.fr (.dct .sc op)), some (.od .sc []), some (.od .sc []), none, none] S = .nx [some (.fr (.tup rows)), some (.fr (.dct .sc op)), some (.od .sc es), some (.od .sc ns), y4, y5] S := by
    simp [s_closers_3, lp]
  simp [b_closers, s_closers_1, s_closers_2, x3, s_closers_4, exec_frz, frzR, need]
/-! ### where one lands -/
def env6 (rows : List D) (a : Int) (op ns : List (D × D)) (b : Option OV) : Env1 := [some (.fr (.tup rows)), some (.fr (.int a)), some (.fr (.dct .sc op)), some (.fr (.dct .sc ns)), b]
theorem ln_w {rows : List D} {a : Int} {op ns : List (D × D)} {b : Option OV} {s : Str} {l : List D} (hd : L2.atI rows a = some (.tup (.str s :: l))) : ev cl w_landing_2 (env6 rows a op ns b) S = .ok (.fr (.bl (kdS s).non)) S := by
  have h3 := kd_else s
  have h4 := kd_end s
  cases hk : kdS s <;> rw [hk] at h3 h4 <;> simp at h3 h4 <;> simp [w_landing_2, env6, hd, h3, h4] <;> rfl
theorem ln_els {rows : List D} {a : Int} {op ns : List (D × D)} {b : Option OV} {s : Str} {l : List D} {g e : Int} (hd : L2.atI rows a = some (.tup (.str s :: l))) (h : kdS s = .els) (ho : dgI op a = some (.int g)) (hN : dgI ns g = some (.int e)) :
    execs cl wf l_landing_1 (env6 rows a op ns b) S = .nx (env6 rows (e + 1) op ns (some (.fr (.int g)))) S := by
  have h3 := kd_else s
  rw [h] at h3
  simp at h3
  simp [l_landing_1, env6, hd, h3, ho, hN]
theorem ln_whl {rows : List D} {a : Int} {op ns : List (D × D)} {b : Option OV} {s s2 : Str} {l l2 : List D} {g : Int} (hd : L2.atI rows a = some (.tup (.str s :: l))) (h : kdS s = .fin) (ho : dgI op a = some (.int g)) (hg : L2.atI rows g = some (.tup (.str s2 :: l2))) (h2 : kdS s2 = .whl) :
    execs cl wf l_landing_1 (env6 rows a op ns b) S = .rt (.fr (.int g)) S := by
  have h3 := kd_else s
  rw [h] at h3
  have h4 := kd_while s2
  rw [h2] at h4
  simp at h3 h4
  simp [l_landing_1, env6, hd, h3, ho, hg, h4]
theorem ln_iff {rows : List D} {a : Int} {op ns : List (D × D)} {b : Option OV} {s s2 : Str} {l l2 : List D} {g : Int} (hd : L2.atI rows a = some (.tup (.str s :: l))) (h : kdS s = .fin) (ho : dgI op a = some (.int g)) (hg : L2.atI rows g = some (.tup (.str s2 :: l2))) (h2 : kdS s2 ≠ .whl) :
    execs cl wf l_landing_1 (env6 rows a op ns b) S = .nx (env6 rows (a + 1) op ns (some (.fr (.int g)))) S := by
  have h3 := kd_else s
  rw [h] at h3
  have h4 := kd_while s2
  rw [decide_eq_false h2] at h4
  simp at h3 h4
  simp [l_landing_1, env6, hd, h3, ho, hg, h4]
theorem ln_loop {rows : List D} (hr : ∀ d ∈ rows, IsRow d) (w : Wf (kds rows)) {ns : List (D × D)} (hN : FdOk (kds rows) .fin rows.length ns) : ∀ (m a f : Nat) (b : Option OV), a < rows.length → rows.length - a ≤ m → m < f →
    whGo (ev cl w_landing_2) (execs cl wf l_landing_1) f (env6 rows (a : Nat) (opn (kds rows) rows.length) ns b) S = .rt (.fr (.int (lndF (kds rows) a : Nat))) S ∨ ∃ b', whGo (ev cl w_landing_2) (execs cl wf l_landing_1) f (env6 rows (a : Nat) (opn (kds rows) rows.length) ns b) S = .nx (env6 rows (lndF (kds rows) a : Nat) (opn (kds rows) rows.length) ns b') S
  | m, a, 0, b, ha, hm, hf => by omega
  | 0, a, f + 1, b, ha, hm, hf => by omega
  | m + 1, a, f + 1, b, ha, hm, hf => by
    obtain ⟨s, l, hd, hk⟩ := row_at hr ha
    have hd2 : L2.atI rows (a : Nat) = some (.tup (.str s :: l)) := by rw [atI_cast]; exact hd
    have eN : ∀ g e : Nat, enOf (kds rows) g = some e → dgI ns (g : Nat) = some (.int (e : Nat)) := fun g e h => by
      rw [hN.2, show fdM (kds rows) .fin rows.length g = some e by rw [← h, en_fd, kds_len]]; rfl
    rw [whGo_succ, ln_w hd2]
    cases hn : (kdS s).non with
    | false =>
      rw [kWhA_f]
      exact .inr ⟨b, by rw [lndF_stop (by rw [hk]; exact hn)]⟩
    | true =>
      rw [kWhA_t]
      have hn2 : (kAt (kds rows) a).non = true := by rw [hk]; exact hn
      have ho : dgI (opn (kds rows) rows.length) (a : Nat) = some (.int (tpo (kds rows) a : Nat)) := by rw [opn_get, if_pos ⟨ha, hn2⟩]
      have tl := w.top_lt hn2
      cases q : kdS s with
      | els =>
        have q2 : kAt (kds rows) a = .els := hk.trans q
        obtain ⟨e, e1, e2, e3, e4, e5⟩ := els_en w q2
        rw [kds_len] at e5
        rw [ln_els hd2 q ho (eN _ _ e1), kWhB_nx, lndF_els w q2 e1]
        exact ln_loop hr w hN m (e + 1) f _ (by omega) (by omega) (by omega)
      | fin =>
        have q2 : kAt (kds rows) a = .fin := hk.trans q
        obtain ⟨s2, l2, hg, hk2⟩ := row_at hr (i := tpo (kds rows) a) (by omega)
        have hg2 : L2.atI rows (tpo (kds rows) a : Nat) = some (.tup (.str s2 :: l2)) := by rw [atI_cast]; exact hg
        rw [lndF_fin w q2, hk2]
        by_cases hw : kdS s2 = .whl
        · rw [if_pos hw, ln_whl hd2 q ho hg2 hw]
          exact .inl rfl
        · rw [if_neg hw, ln_iff hd2 q ho hg2 hw, kWhB_nx]
          have := w.fin_lt hn2
          rw [kds_len] at this
          exact ln_loop hr w hN m (a + 1) f _ (by omega) (by omega) (by omega)
      | _ => rw [q] at hn; exact absurd hn (by decide)
theorem ln_core {rows : List D} (hr : ∀ d ∈ rows, IsRow d) (w : Wf (kds rows)) {ns : List (D × D)} (hN : FdOk (kds rows) .fin rows.length ns) {a : Nat} (ha : a < rows.length) (hf : rows.length < wf) :
    execs cl wf b_landing (env6 rows (a : Nat) (opn (kds rows) rows.length) ns none) S = .rt (.fr (.int (lndF (kds rows) a : Nat))) S := by
  rcases ln_loop (cl := cl) (wf := wf) (S := S) hr w hN rows.length a wf none ha (by omega) hf with h | ⟨b', h⟩
  · generalize opn (kds rows) rows.length = op at *
    simp [b_landing, h]
  · generalize opn (kds rows) rows.length = op at *
    simp [b_landing, h]
    simp [env6]
/-! ### ways -/
def env9 (rows : List D) (op : List (D × D)) (acc : List D) (es ns : List (D × D)) (x5 x6 x7 x8 : Option OV) : Env1 := [some (.fr (.tup rows)), some (.fr (.dct .sc op)), some (.ol acc), some (.fr (.dct .sc es)), some (.fr (.dct .sc ns)), x5, x6, x7, x8]
theorem wy_non {rows : List D} {op es ns : List (D × D)} {acc : List D} {x7 x8 : Option OV} {a : Int} {r : D} (ho : (dgI op a).isSome = true) (hl : acc.length < lim) :
    execs cl wf l_ways_4 (env9 rows op acc es ns (some (.fr (.int a))) (some (.fr r)) x7 x8) S = .nx (env9 rows op (acc ++ [.non]) es ns (some (.fr (.int a))) (some (.fr r)) x7 x8) S := by
  simp [l_ways_4, env9, ho, hl]
theorem wy_back {rows : List D} {op es ns : List (D × D)} {acc : List D} {x7 x8 : Option OV} {a : Int} {s : Str} {l : List D} (ho : (dgI op a).isSome = false) (h : kdS s = .bck) (hl : acc.length < lim) :
    execs cl wf l_ways_4 (env9 rows op acc es ns (some (.fr (.int a))) (some (.fr (.tup (.str s :: l)))) x7 x8) S = .nx (env9 rows op (acc ++ [.tup []]) es ns (some (.fr (.int a))) (some (.fr (.tup (.str s :: l)))) x7 x8) S := by
  have h5 := kd_back s
  rw [h] at h5
  simp at h5
  simp [l_ways_4, env9, ho, hl, h5]
theorem wy_two {rows : List D} {op es ns : List (D × D)} {acc : List D} {x7 x8 : Option OV} {a b e y n : Int} {s : Str} {l : List D} (ho : (dgI op a).isSome = false) (h : kdS s ≠ .bck) (hN : dgI ns a = some (.int e)) (hE : (dgI es a).getD (.int e) = .int b) (h1 : cl "landing" [.tup rows, .int (a + 1), .dct .sc op, .dct .sc ns] S = .ok (.fr (.int y)) S) (h2 : cl "landing" [.tup rows, .int (b + 1), .dct .sc op, .dct .sc ns] S = .ok (.fr (.int n)) S) (hl : acc.length < lim) :
    execs cl wf l_ways_4 (env9 rows op acc es ns (some (.fr (.int a))) (some (.fr (.tup (.str s :: l)))) x7 x8) S = .nx (env9 rows op (acc ++ [.tup [.int y, .int n]]) es ns (some (.fr (.int a))) (some (.fr (.tup (.str s :: l)))) (some (.fr (.int b))) (some (.fr (.int y)))) S := by
  have h5 := kd_back s
  rw [decide_eq_false h] at h5
  simp at h5
  simp [l_ways_4, env9, ho, hl, h5, hN, hE, h1, h2]
theorem wy_one {rows : List D} {op es ns : List (D × D)} {acc : List D} {x7 x8 : Option OV} {a y : Int} {s : Str} {l : List D} (ho : (dgI op a).isSome = false) (h : kdS s ≠ .bck) (hN : dgI ns a = none) (h1 : cl "landing" [.tup rows, .int (a + 1), .dct .sc op, .dct .sc ns] S = .ok (.fr (.int y)) S) (hl : acc.length < lim) :
    execs cl wf l_ways_4 (env9 rows op acc es ns (some (.fr (.int a))) (some (.fr (.tup (.str s :: l)))) x7 x8) S = .nx (env9 rows op (acc ++ [.tup [.int y]]) es ns (some (.fr (.int a))) (some (.fr (.tup (.str s :: l)))) x7 x8) S := by
  have h5 := kd_back s
  rw [decide_eq_false h] at h5
  simp at h5
  simp [l_ways_4, env9, ho, hl, h5, hN, h1]
theorem en_none {ks : List Kd} (w : Wf ks) {k : Nat} (h : (kAt ks k).opn = false) : enOf ks k = none := by
  cases e : enOf ks k with
  | none => rfl
  | some x =>
    obtain ⟨h1, h2⟩ := enOf_some e
    have := w.top_opn (i := x) (by rw [h1]; rfl)
    rw [h2, h] at this; cases this
theorem wy_loop {rows : List D} (hr : ∀ d ∈ rows, IsRow d) (w : Wf (kds rows)) (hn : rows.length ≤ 1000) {es ns : List (D × D)} (hE : FdOk (kds rows) .els rows.length es) (hN : FdOk (kds rows) .fin rows.length ns)
    (hcl : ∀ a : Nat, a < rows.length → cl "landing" [.tup rows, .int (a : Nat), .dct .sc (opn (kds rows) rows.length), .dct .sc ns] S = .ok (.fr (.int (lndF (kds rows) a : Nat))) S) : ∀ (m i : Nat) (acc : List D) (x5 x6 x7 x8 : Option OV), i + m = rows.length → acc.length = i →
    ∃ y5 y6 y7 y8, forGo (execs cl wf l_ways_4) (.many [5, 6]) (enumD i (rows.drop i)) (env9 rows (opn (kds rows) rows.length) acc es ns x5 x6 x7 x8) S = .nx (env9 rows (opn (kds rows) rows.length) (acc ++ (List.range' i m).map fun j => wD (wayOf (kds rows) j)) es ns y5 y6 y7 y8) S
  | 0, i, acc, x5, x6, x7, x8, hm, ha => by
    have : i = rows.length := by omega
    subst this
    exact ⟨x5, x6, x7, x8, by rw [List.drop_length]; simp [enumD, forGo_nil]⟩
  | m + 1, i, acc, x5, x6, x7, x8, hm, ha => by
    have hi : i < rows.length := by omega
    obtain ⟨s, l, hd, hk⟩ := row_at hr hi
    have hd' : rows.drop i = .tup (.str s :: l) :: rows.drop (i + 1) := by
      rw [List.drop_eq_getElem_cons hi]
      rw [List.getElem?_eq_getElem hi] at hd
      rw [Option.some.inj hd]
    have hl : acc.length < lim := by unfold lim; omega
    have key : ∃ z7 z8, execs cl wf l_ways_4 (env9 rows (opn (kds rows) rows.length) acc es ns (some (.fr (.int (i : Nat)))) (some (.fr (.tup (.str s :: l)))) x7 x8) S = .nx (env9 rows (opn (kds rows) rows.length) (acc ++ [wD (wayOf (kds rows) i)]) es ns (some (.fr (.int (i : Nat)))) (some (.fr (.tup (.str s :: l)))) z7 z8) S := by
      have go := opn_get (ks := kds rows) (m := rows.length) (i := i)
      by_cases hf : (kdS s).non = true
      · rw [if_pos ⟨hi, by rw [hk]; exact hf⟩] at go
        have e : wayOf (kds rows) i = none := by
          unfold wayOf
          rw [hk]
          cases q : kdS s <;> rw [q] at hf <;> first | rfl | exact absurd hf (by decide)
        rw [e]
        exact ⟨x7, x8, wy_non (by rw [go]; rfl) hl⟩
      · rw [if_neg (fun z => hf (by rw [hk] at z; exact z.2))] at go
        have go2 : (dgI (opn (kds rows) rows.length) (i : Nat)).isSome = false := by rw [go]; rfl
        have non : ∀ {k : Kd}, kdS s = k → k.non = true → False := fun {k} e z => hf (by rw [e]; exact z)
        have fl : i + 1 < rows.length ∨ kdS s = .bck := by
          obtain ⟨mm, h1, h2⟩ := w.last
          rw [kds_len] at h1
          by_cases z : i = mm
          · subst z; exact .inr (hk.symm.trans h2)
          · exact .inl (by omega)
        by_cases ho : (kdS s).opn = true
        · have ho' : (kAt (kds rows) i).opn = true := by rw [hk]; exact ho
          obtain ⟨e, e1, e2, e3, e4, e5⟩ := en_get w ho'
          rw [kds_len] at e3
          have nb : kdS s ≠ .bck := by intro z; rw [z] at ho; exact absurd ho (by decide)
          have hi1 : i + 1 < rows.length := by rcases fl with z | z; exact z; exact absurd z nb
          have gN : dgI ns (i : Nat) = some (.int (e : Nat)) := by rw [hN.2, show fdM (kds rows) .fin rows.length i = some e by rw [← e1, en_fd, kds_len]]; rfl
          have gE : dgI es (i : Nat) = (elOf (kds rows) i).map fun (e : Nat) => D.int e := by rw [hE.2, el_fd, kds_len]
          have ef := w.fin_lt (a := e) (by rw [e4]; rfl)
          rw [kds_len] at ef
          have gB : (dgI es (i : Nat)).getD (.int (e : Nat)) = .int (((elOf (kds rows) i).getD e : Nat) : Int) := by
            rw [gE]; cases elOf (kds rows) i <;> rfl
          have bl : (elOf (kds rows) i).getD e + 1 < rows.length := by
            cases q : elOf (kds rows) i with
            | none => exact ef
            | some x =>
              have := w.fin_lt (a := x) (by rw [(elOf_some q).1]; rfl)
              rw [kds_len] at this
              exact this
          have h1 := hcl (i + 1) hi1
          have h2 := hcl ((elOf (kds rows) i).getD e + 1) bl
          have ew : wayOf (kds rows) i = some [lndF (kds rows) (i + 1), lndF (kds rows) ((elOf (kds rows) i).getD e + 1)] := by
            unfold wayOf
            rw [hk]
            cases q : kdS s with
            | iff => dsimp only; rw [e1]; rfl
            | whl =>
              dsimp only
              have : elOf (kds rows) i = none := elOf_none fun x hx hx2 => by
                obtain ⟨b, r, z⟩ := w.els x hx
                have hb : tpo (kds rows) x = b := by unfold tpo; rw [z]
                have := lab_ok (kds rows) x b .iff (by rw [z]; exact List.mem_cons_self ..)
                rw [← hb, hx2, hk, q] at this
                simp at this
              rw [this, e1]; rfl
            | _ => rw [q] at ho; exact absurd ho (by decide)
          rw [ew]
          exact ⟨_, _, wy_two go2 nb gN gB h1 h2 hl⟩
        · have ho : (kdS s).opn = false := by simpa using ho
          by_cases hb : kdS s = .bck
          · have ew : wayOf (kds rows) i = some [] := by unfold wayOf; rw [hk, hb]
            rw [ew]
            exact ⟨x7, x8, wy_back go2 hb hl⟩
          · have hi1 : i + 1 < rows.length := by rcases fl with z | z; exact z; exact absurd z hb
            have ew : wayOf (kds rows) i = some [lndF (kds rows) (i + 1)] := by
              unfold wayOf
              rw [hk]
              cases q : kdS s with
              | oth => rfl
              | bck => exact absurd q hb
              | els => exact (non q rfl).elim
              | fin => exact (non q rfl).elim
              | _ => rw [q] at ho; exact absurd ho (by decide)
            have gN : dgI ns (i : Nat) = none := by
              rw [hN.2]
              have := en_none w (k := i) (by rw [hk]; exact ho)
              rw [en_fd, kds_len] at this
              rw [this]; rfl
            rw [ew]
            exact ⟨x7, x8, wy_one go2 hb gN (hcl (i + 1) hi1) hl⟩
    obtain ⟨z7, z8, key⟩ := key
    obtain ⟨y5, y6, y7, y8, ih⟩ := wy_loop hr w hn hE hN hcl m (i + 1) (acc ++ [wD (wayOf (kds rows) i)]) (some (.fr (.int (i : Nat)))) (some (.fr (.tup (.str s :: l)))) z7 z8 (by omega) (by simp [ha])
    refine ⟨y5, y6, y7, y8, ?_⟩
    rw [hd']
    show forGo _ _ (.tup [.int (i : Nat), .tup (.str s :: l)] :: enumD (i + 1) (rows.drop (i + 1))) _ _ = _
    rw [forGo_cons]
    have pt : (Tg.many [5, 6]).put (.tup [.int (i : Nat), .tup (.str s :: l)]) (env9 rows (opn (kds rows) rows.length) acc es ns x5 x6 x7 x8) = some (env9 rows (opn (kds rows) rows.length) acc es ns (some (.fr (.int (i : Nat)))) (some (.fr (.tup (.str s :: l)))) x7 x8) := rfl
    rw [pt, kForA_some, key, kForB_nx, ih, List.range'_succ, List.map_cons, List.append_assoc]
    rfl
def wysD (rows : List D) : List D := (List.range rows.length).map fun j => wD (wayOf (kds rows) j)
theorem wy_core {rows : List D} (hr : ∀ d ∈ rows, IsRow d) (w : Wf (kds rows)) (hn : rows.length ≤ 1000) {es ns : List (D × D)} (hE : FdOk (kds rows) .els rows.length es) (hN : FdOk (kds rows) .fin rows.length ns)
    (h1 : cl "openers" [.tup rows] S = .ok (.od .sc (opn (kds rows) rows.length)) S) (h2 : cl "closers" [.tup rows, .dct .sc (opn (kds rows) rows.length)] S = .ok (.fr (.tup [.dct .sc es, .dct .sc ns])) S)
    (hcl : ∀ a : Nat, a < rows.length → cl "landing" [.tup rows, .int (a : Nat), .dct .sc (opn (kds rows) rows.length), .dct .sc ns] S = .ok (.fr (.int (lndF (kds rows) a : Nat))) S) :
    execs cl wf b_ways [some (.fr (.tup rows)), none, none, none, none, none, none, none, none] S = .rt (.ol (wysD rows)) S := by
  obtain ⟨y5, y6, y7, y8, lp⟩ := wy_loop (wf := wf) hr w hn hE hN hcl rows.length 0 [] none none none none (by omega) rfl
  rw [List.nil_append, ← List.range_eq_range'] at lp
  have lp : forGo (execs cl wf l_ways_4) (.many [5, 6]) (enumD 0 rows) (env9 rows (opn (kds rows) rows.length) [] es ns none none none none) S = .nx (env9 rows (opn (kds rows) rows.length) (wysD rows) es ns y5 y6 y7 y8) S := lp
  clear hcl
  generalize opn (kds rows) rows.length = op at *
  generalize wysD rows = ws at *
  have x4 : exec cl wf s_ways_4 (env9 rows op [] es ns none none none none) S = .nx (env9 rows op ws es ns y5 y6 y7 y8) S := by
    simp only [env9] at lp ⊢
    simp [s_ways_4, enmO, lp]
  simp only [env9] at x4
  have x2 : exec cl wf s_ways_2 [some (.fr (.tup rows)), some (.fr (.dct .sc op)), none, none, none, none, none, none, none] S = .nx [some (.fr (.tup rows)), some (.fr (.dct .sc op)), none, some (.fr (.dct .sc es)), some (.fr (.dct .sc ns)), none, none, none, none] S := by
    simp [s_ways_2, h2, putT, Tg.put, putAll]
  simp [b_ways, s_ways_1, x2, s_ways_3, h1, x4, s_ways_5]
end
/-- the ways of the rows -/
theorem ways_ok {n : Nat} {rows : List D} (hr : ∀ d ∈ rows, IsRow d) (w : Wf (kds rows)) (hn : rows.length ≤ 1000) (hf : 1000 < wf) : Sg.run G wf (n + 2) "ways" [.tup rows] S = .ok (.ol (wysD rows)) S := by
  obtain ⟨es, ns, hE, hN, hc⟩ := cs_core (cl := Sg.run G wf n) (wf := wf) (S := S) hr w hn
  have e1 : Sg.run G wf (n + 1) "openers" [.tup rows] S = .ok (.od .sc (opn (kds rows) rows.length)) S := by
    rw [run_succ g_openers rfl]
    simp only [startR, List.map_cons, List.map_nil, Nat.reduceSub, List.replicate, List.cons_append, List.nil_append, op_core hr w hn]
    rfl
  have e2 : Sg.run G wf (n + 1) "closers" [.tup rows, .dct .sc (opn (kds rows) rows.length)] S = .ok (.fr (.tup [.dct .sc es, .dct .sc ns])) S := by
    rw [run_succ g_closers rfl]
    simp only [startR, List.map_cons, List.map_nil, Nat.reduceSub, List.replicate, List.cons_append, List.nil_append, hc]
    rfl
  have e3 : ∀ a : Nat, a < rows.length → Sg.run G wf (n + 1) "landing" [.tup rows, .int (a : Nat), .dct .sc (opn (kds rows) rows.length), .dct .sc ns] S = .ok (.fr (.int (lndF (kds rows) a : Nat))) S := fun a ha => by
    have := ln_core (cl := Sg.run G wf n) (wf := wf) (S := S) hr w hN ha (by omega)
    simp only [env6] at this
    rw [run_succ g_landing rfl]
    simp only [startR, List.map_cons, List.map_nil, Nat.reduceSub, List.replicate, List.cons_append, List.nil_append, this]
    rfl
  have := wy_core hr w hn hE hN e1 e2 e3 (wf := wf)
  rw [run_succ g_ways rfl]
  simp only [startR, List.map_cons, List.map_nil, Nat.reduceSub, List.replicate, List.cons_append, List.nil_append, this]
  rfl
end K13
namespace K13
open Sg
open PySem (Str)
variable {wf : Nat} {S : Sto}
def env3 (rows : List D) (a d : Int) : Env1 := [some (.fr (.tup rows)), some (.fr (.int a)), some (.fr (.int d))]
section
variable {cl : Str → List D → Sto → Res}
/-! ### the end -/
theorem le_w {rows : List D} {a d : Int} : ev cl w__law_end_2 (env3 rows a d) S = .ok (.fr (.bl (decide (0 < d)))) S := by simp [w__law_end_2, env3]
theorem le_opn {rows : List D} {a d : Int} {s : Str} {l : List D} (hd : L2.atI rows (a + 1) = some (.tup (.str s :: l))) (h : (kdS s).opn = true) : execs cl wf l__law_end_1 (env3 rows a d) S = .nx (env3 rows (a + 1) (d + 1)) S := by
  have h1 := kd_if s
  have h2 := kd_while s
  cases hk : kdS s <;> rw [hk] at h h1 h2 <;> first | exact absurd h (by decide) | (simp at h1 h2; simp [l__law_end_1, env3, hd, h1, h2])
theorem le_fin {rows : List D} {a d : Int} {s : Str} {l : List D} (hd : L2.atI rows (a + 1) = some (.tup (.str s :: l))) (h : kdS s = .fin) : execs cl wf l__law_end_1 (env3 rows a d) S = .nx (env3 rows (a + 1) (d - 1)) S := by
  have h1 := kd_if s
  have h2 := kd_while s
  have h4 := kd_end s
  rw [h] at h1 h2 h4
  simp at h1 h2 h4
  simp [l__law_end_1, env3, hd, h1, h2, h4]
theorem le_oth {rows : List D} {a d : Int} {s : Str} {l : List D} (hd : L2.atI rows (a + 1) = some (.tup (.str s :: l))) (h : (kdS s).opn = false) (h' : kdS s ≠ .fin) : execs cl wf l__law_end_1 (env3 rows a d) S = .nx (env3 rows (a + 1) d) S := by
  have h1 := kd_if s
  have h2 := kd_while s
  have h4 := kd_end s
  cases hk : kdS s <;> rw [hk] at h h' h1 h2 h4 <;> first | exact absurd h (by decide) | exact absurd rfl h' | (simp at h1 h2 h4; simp [l__law_end_1, env3, hd, h1, h2, h4])
theorem le_loop {rows : List D} (hr : ∀ d ∈ rows, IsRow d) (w : Wf (kds rows)) {k e : Nat} (he : enOf (kds rows) k = some e) : ∀ (m d j f : Nat), Fw (kds rows) k (d + 1) (j + 1) → rows.length - (j + 1) ≤ m → m + 1 < f →
    whGo (ev cl w__law_end_2) (execs cl wf l__law_end_1) f (env3 rows (j : Nat) ((d + 1 : Nat) : Int)) S = .nx (env3 rows (e : Nat) 0) S
  | 0, d, j, f, h, hm, hf => by have := fw_lt w h; rw [kds_len] at this; omega
  | m + 1, d, j, 0, h, hm, hf => by omega
  | m + 1, d, j, f + 1, h, hm, hf => by
    have hj := fw_lt w h
    rw [kds_len] at hj
    obtain ⟨s, l, hd, hk⟩ := row_at hr hj
    have hd2 : L2.atI rows ((j : Int) + 1) = some (.tup (.str s :: l)) := by
      rw [show ((j : Nat) : Int) + 1 = ((j + 1 : Nat) : Int) by omega, atI_cast]; exact hd
    rw [whGo_succ, le_w, decide_eq_true (by omega), kWhA_t]
    by_cases ho : (kdS s).opn = true
    · rw [le_opn hd2 ho, kWhB_nx]
      have := le_loop hr w he m (d + 1) (j + 1) f (fw_opn h (by rw [hk]; exact ho)) (by omega) (by omega)
      rw [← this]; rfl
    · have ho : (kdS s).opn = false := by simpa using ho
      by_cases hf2 : kdS s = .fin
      · rw [le_fin hd2 hf2, kWhB_nx]
        have hk2 : kAt (kds rows) (j + 1) = .fin := hk.trans hf2
        cases d with
        | zero =>
          have t := fw_top h
          have : e = j + 1 := by
            have z := enOf_eq w hk2
            rw [t, he] at z
            exact Option.some.inj z
          subst this
          cases f with
          | zero => omega
          | succ f =>
            rw [whGo_succ, le_w, decide_eq_false (by omega), kWhA_f]; rfl
        | succ d =>
          have := le_loop hr w he m d (j + 1) f (fw_fin h hk2) (by omega) (by omega)
          rw [← this]
          show whGo _ _ _ (env3 rows (((j : Nat) : Int) + 1) (((d + 1 + 1 : Nat) : Int) - 1)) S = _
          rw [show (((d + 1 + 1 : Nat) : Int) - 1) = ((d + 1 : Nat) : Int) by omega]; rfl
      · rw [le_oth hd2 ho hf2, kWhB_nx]
        have := le_loop hr w he m d (j + 1) f (fw_els h (by rw [kds_len]; exact hj) (by rw [hk]; exact ho) (by rw [hk]; exact hf2)) (by omega) (by omega)
        rw [← this]; rfl
theorem le_core {rows : List D} (hr : ∀ d ∈ rows, IsRow d) (w : Wf (kds rows)) {k e : Nat} (he : enOf (kds rows) k = some e) (ho : (kAt (kds rows) k).opn = true) (hf : rows.length + 1 < wf) :
    execs cl wf b__law_end [some (.fr (.tup rows)), some (.fr (.int (k : Nat))), none] S = .rt (.fr (.int (e : Nat))) S := by
  have := le_loop (cl := cl) (wf := wf) (S := S) hr w he rows.length 0 k wf (fw_start ho) (by omega) (by omega)
  simp only [env3] at this
  have this : whGo (ev cl w__law_end_2) (execs cl wf l__law_end_1) wf [some (.fr (.tup rows)), some (.fr (.int (k : Nat))), some (.fr (.int 1))] S = _ := this
  simp [b__law_end, this]
/-! ### the else -/
theorem ls_w {rows : List D} {a d : Int} : ev cl w__law_else_2 (env3 rows a d) S = .ok (.fr (.bl (decide (0 < d)))) S := by simp [w__law_else_2, env3]
theorem ls_opn {rows : List D} {a d : Int} {s : Str} {l : List D} (hd : L2.atI rows (a + 1) = some (.tup (.str s :: l))) (h : (kdS s).opn = true) : execs cl wf l__law_else_1 (env3 rows a d) S = .nx (env3 rows (a + 1) (d + 1)) S := by
  have h1 := kd_if s
  have h2 := kd_while s
  cases hk : kdS s <;> rw [hk] at h h1 h2 <;> first | exact absurd h (by decide) | (simp at h1 h2; simp [l__law_else_1, env3, hd, h1, h2])
theorem ls_fin {rows : List D} {a d : Int} {s : Str} {l : List D} (hd : L2.atI rows (a + 1) = some (.tup (.str s :: l))) (h : kdS s = .fin) : execs cl wf l__law_else_1 (env3 rows a d) S = .nx (env3 rows (a + 1) (d - 1)) S := by
  have h1 := kd_if s
  have h2 := kd_while s
  have h4 := kd_end s
  rw [h] at h1 h2 h4
  simp at h1 h2 h4
  simp [l__law_else_1, env3, hd, h1, h2, h4]
theorem ls_els {rows : List D} {a d : Int} {s : Str} {l : List D} (hd : L2.atI rows (a + 1) = some (.tup (.str s :: l))) (h : kdS s = .els) : execs cl wf l__law_else_1 (env3 rows a d) S = if d = 1 then .rt (.fr (.int (a + 1))) S else .nx (env3 rows (a + 1) d) S := by
  have h1 := kd_if s
  have h2 := kd_while s
  have h3 := kd_else s
  have h4 := kd_end s
  rw [h] at h1 h2 h3 h4
  simp at h1 h2 h3 h4
  by_cases e : d = 1
  · rw [if_pos e]; simp [l__law_else_1, env3, hd, h1, h2, h3, h4, e]
  · rw [if_neg e]; simp [l__law_else_1, env3, hd, h1, h2, h3, h4, e]
theorem ls_oth {rows : List D} {a d : Int} {s : Str} {l : List D} (hd : L2.atI rows (a + 1) = some (.tup (.str s :: l))) (h : (kdS s).opn = false) (h' : (kdS s).non = false) : execs cl wf l__law_else_1 (env3 rows a d) S = .nx (env3 rows (a + 1) d) S := by
  have h1 := kd_if s
  have h2 := kd_while s
  have h3 := kd_else s
  have h4 := kd_end s
  cases hk : kdS s <;> rw [hk] at h h' h1 h2 h3 h4 <;> first | exact absurd h (by decide) | exact absurd h' (by decide) | (simp at h1 h2 h3 h4; simp [l__law_else_1, env3, hd, h1, h2, h3, h4])
theorem el_seen {ks : List Kd} (w : Wf ks) {k e : Nat} (he : enOf ks k = some e) (h : ∀ x, x ≤ e → kAt ks x = .els → tpo ks x ≠ k) : elOf ks k = none := by
  obtain ⟨h1, h2⟩ := enOf_some he
  refine elOf_none fun x hx z => ?_
  by_cases hxe : x ≤ e
  · exact h x hxe hx z
  · have g := fin_gone w h1 x (by omega)
    obtain ⟨r, hk⟩ := top_mem (w.ne (i := x) (by rw [hx]; rfl))
    exact g (by rw [hk, h2, z]; exact List.mem_cons_self ..)
theorem ls_loop {rows : List D} (hr : ∀ d ∈ rows, IsRow d) (w : Wf (kds rows)) {k e : Nat} (he : enOf (kds rows) k = some e) : ∀ (m d j f : Nat), Fw (kds rows) k (d + 1) (j + 1) → (∀ x, x ≤ j → kAt (kds rows) x = .els → tpo (kds rows) x ≠ k) → rows.length - (j + 1) ≤ m → m + 1 < f →
    (∃ x, elOf (kds rows) k = some x ∧ whGo (ev cl w__law_else_2) (execs cl wf l__law_else_1) f (env3 rows (j : Nat) ((d + 1 : Nat) : Int)) S = .rt (.fr (.int (x : Nat))) S) ∨ (elOf (kds rows) k = none ∧ whGo (ev cl w__law_else_2) (execs cl wf l__law_else_1) f (env3 rows (j : Nat) ((d + 1 : Nat) : Int)) S = .nx (env3 rows (e : Nat) 0) S)
  | 0, d, j, f, h, hx, hm, hf => by have := fw_lt w h; rw [kds_len] at this; omega
  | m + 1, d, j, 0, h, hx, hm, hf => by omega
  | m + 1, d, j, f + 1, h, hx, hm, hf => by
    have hj := fw_lt w h
    rw [kds_len] at hj
    obtain ⟨s, l, hd, hk⟩ := row_at hr hj
    have hd2 : L2.atI rows ((j : Int) + 1) = some (.tup (.str s :: l)) := by
      rw [show ((j : Nat) : Int) + 1 = ((j + 1 : Nat) : Int) by omega, atI_cast]; exact hd
    have hx2 : ∀ {q : Kd}, kdS s = q → q ≠ .els → ∀ x, x ≤ j + 1 → kAt (kds rows) x = .els → tpo (kds rows) x ≠ k := fun {q} e1 e2 x hxj hxe => by
      by_cases z : x = j + 1
      · subst z; rw [hk, e1] at hxe; exact absurd hxe e2
      · exact hx x (by omega) hxe
    rw [whGo_succ, ls_w, decide_eq_true (by omega), kWhA_t]
    by_cases ho : (kdS s).opn = true
    · rw [ls_opn hd2 ho, kWhB_nx]
      exact ls_loop hr w he m (d + 1) (j + 1) f (fw_opn h (by rw [hk]; exact ho)) (hx2 rfl (by intro z; rw [z] at ho; exact absurd ho (by decide))) (by omega) (by omega)
    · have ho : (kdS s).opn = false := by simpa using ho
      cases q : kdS s with
      | fin =>
        rw [ls_fin hd2 q, kWhB_nx]
        have hk2 : kAt (kds rows) (j + 1) = .fin := hk.trans q
        cases d with
        | zero =>
          have t := fw_top h
          have : e = j + 1 := by
            have z := enOf_eq w hk2
            rw [t, he] at z
            exact Option.some.inj z
          subst this
          cases f with
          | zero => omega
          | succ f =>
            refine .inr ⟨el_seen w he (hx2 q nofun), ?_⟩
            rw [whGo_succ, ls_w, decide_eq_false (by omega), kWhA_f]; rfl
        | succ d =>
          have := ls_loop hr w he m d (j + 1) f (fw_fin h hk2) (hx2 q nofun) (by omega) (by omega)
          have e2 : (((d + 1 + 1 : Nat) : Int) - 1) = ((d + 1 : Nat) : Int) := by omega
          rw [e2]
          exact this
      | els =>
        have hk2 : kAt (kds rows) (j + 1) = .els := hk.trans q
        rw [ls_els hd2 q]
        cases d with
        | zero =>
          have t := fw_top h
          rw [if_pos (show ((0 + 1 : Nat) : Int) = 1 from rfl)]
          exact .inl ⟨j + 1, by rw [← t]; exact elOf_eq w hk2, rfl⟩
        | succ d =>
          rw [if_neg (by omega), kWhB_nx]
          refine ls_loop hr w he m (d + 1) (j + 1) f (fw_els h (by rw [kds_len]; exact hj) (by rw [hk]; exact ho) (by rw [hk2]; exact nofun)) (fun x hxj hxe => ?_) (by omega) (by omega)
          by_cases z : x = j + 1
          · subst z; exact fw_deep h
          · exact hx x (by omega) hxe
      | iff => rw [q] at ho; exact absurd ho (by decide)
      | whl => rw [q] at ho; exact absurd ho (by decide)
      | bck =>
        rw [ls_oth hd2 ho (by rw [q]; rfl), kWhB_nx]
        exact ls_loop hr w he m d (j + 1) f (fw_els h (by rw [kds_len]; exact hj) (by rw [hk]; exact ho) (by rw [hk, q]; exact nofun)) (hx2 q nofun) (by omega) (by omega)
      | oth =>
        rw [ls_oth hd2 ho (by rw [q]; rfl), kWhB_nx]
        exact ls_loop hr w he m d (j + 1) f (fw_els h (by rw [kds_len]; exact hj) (by rw [hk]; exact ho) (by rw [hk, q]; exact nofun)) (hx2 q nofun) (by omega) (by omega)
theorem ls_core {rows : List D} (hr : ∀ d ∈ rows, IsRow d) (w : Wf (kds rows)) {k e : Nat} (he : enOf (kds rows) k = some e) (ho : (kAt (kds rows) k).opn = true) (hf : rows.length + 1 < wf) :
    execs cl wf b__law_else [some (.fr (.tup rows)), some (.fr (.int (k : Nat))), none] S = .rt (.fr (.int ((elOf (kds rows) k).getD e : Nat))) S := by
  have h0 : ∀ x, x ≤ k → kAt (kds rows) x = .els → tpo (kds rows) x ≠ k := fun x hx hxe z => by
    have := w.top_lt (i := x) (by rw [hxe]; rfl)
    omega
  rcases ls_loop (cl := cl) (wf := wf) (S := S) hr w he rows.length 0 k wf (fw_start ho) h0 (by omega) (by omega) with ⟨x, e1, h⟩ | ⟨e1, h⟩
  · simp only [env3] at h
    have h : whGo (ev cl w__law_else_2) (execs cl wf l__law_else_1) wf [some (.fr (.tup rows)), some (.fr (.int (k : Nat))), some (.fr (.int 1))] S = _ := h
    rw [e1]
    simp [b__law_else, h]
  · simp only [env3] at h
    have h : whGo (ev cl w__law_else_2) (execs cl wf l__law_else_1) wf [some (.fr (.tup rows)), some (.fr (.int (k : Nat))), some (.fr (.int 1))] S = _ := h
    rw [e1]
    simp [b__law_else, h]
/-! ### what opened -/
theorem lo_w {rows : List D} {a d : Int} : ev cl w__law_opener_2 (env3 rows a d) S = .ok (.fr (.bl (decide (0 < d)))) S := by simp [w__law_opener_2, env3]
theorem lo_opn {rows : List D} {a d : Int} {s : Str} {l : List D} (hd : L2.atI rows (a - 1) = some (.tup (.str s :: l))) (h : (kdS s).opn = true) : execs cl wf l__law_opener_1 (env3 rows a d) S = .nx (env3 rows (a - 1) (d - 1)) S := by
  have h1 := kd_if s
  have h2 := kd_while s
  have h4 := kd_end s
  cases hk : kdS s <;> rw [hk] at h h1 h2 h4 <;> first | exact absurd h (by decide) | (simp at h1 h2 h4; simp [l__law_opener_1, env3, hd, h1, h2, h4])
theorem lo_fin {rows : List D} {a d : Int} {s : Str} {l : List D} (hd : L2.atI rows (a - 1) = some (.tup (.str s :: l))) (h : kdS s = .fin) : execs cl wf l__law_opener_1 (env3 rows a d) S = .nx (env3 rows (a - 1) (d + 1)) S := by
  have h4 := kd_end s
  rw [h] at h4
  simp at h4
  simp [l__law_opener_1, env3, hd, h4]
theorem lo_oth {rows : List D} {a d : Int} {s : Str} {l : List D} (hd : L2.atI rows (a - 1) = some (.tup (.str s :: l))) (h : (kdS s).opn = false) (h' : kdS s ≠ .fin) : execs cl wf l__law_opener_1 (env3 rows a d) S = .nx (env3 rows (a - 1) d) S := by
  have h1 := kd_if s
  have h2 := kd_while s
  have h4 := kd_end s
  cases hk : kdS s <;> rw [hk] at h h' h1 h2 h4 <;> first | exact absurd h (by decide) | exact absurd rfl h' | (simp at h1 h2 h4; simp [l__law_opener_1, env3, hd, h1, h2, h4])
theorem lo_loop {rows : List D} (hr : ∀ d ∈ rows, IsRow d) {k : Nat} (hk0 : stk (kds rows) k ≠ []) (hkl : k ≤ rows.length) : ∀ (j d f : Nat), Bw (kds rows) k (d + 1) j → j + 1 < f →
    whGo (ev cl w__law_opener_2) (execs cl wf l__law_opener_1) f (env3 rows (j : Nat) ((d + 1 : Nat) : Int)) S = .nx (env3 rows (tpo (kds rows) k : Nat) 0) S
  | 0, d, f, h, hf => absurd (bw_zero h) hk0
  | j + 1, d, 0, h, hf => by omega
  | j + 1, d, f + 1, h, hf => by
    have hj : j < rows.length := by have := h.1; omega
    obtain ⟨s, l, hd, hk⟩ := row_at hr hj
    have e0 : ((j + 1 : Nat) : Int) - 1 = (j : Nat) := by omega
    have hd2 : L2.atI rows (((j + 1 : Nat) : Int) - 1) = some (.tup (.str s :: l)) := by rw [e0, atI_cast]; exact hd
    rw [whGo_succ, lo_w, decide_eq_true (by omega), kWhA_t]
    by_cases ho : (kdS s).opn = true
    · rw [lo_opn hd2 ho, kWhB_nx, e0]
      have ho2 : (kAt (kds rows) j).opn = true := by rw [hk]; exact ho
      cases d with
      | zero =>
        rw [bw_top h ho2]
        cases f with
        | zero => omega
        | succ f => rw [whGo_succ, lo_w, decide_eq_false (by omega), kWhA_f]; rfl
      | succ d =>
        have e2 : (((d + 1 + 1 : Nat) : Int) - 1) = ((d + 1 : Nat) : Int) := by omega
        rw [e2]
        exact lo_loop hr hk0 hkl j d f (bw_opn h ho2) (by omega)
    · have ho : (kdS s).opn = false := by simpa using ho
      by_cases hf2 : kdS s = .fin
      · rw [lo_fin hd2 hf2, kWhB_nx, e0]
        exact lo_loop hr hk0 hkl j (d + 1) f (bw_fin h (hk.trans hf2)) (by omega)
      · rw [lo_oth hd2 ho hf2, kWhB_nx, e0]
        exact lo_loop hr hk0 hkl j d f (bw_oth h (by rw [hk]; exact ho) (by rw [hk]; exact hf2)) (by omega)
theorem lo_core {rows : List D} (hr : ∀ d ∈ rows, IsRow d) {k : Nat} (hk0 : stk (kds rows) k ≠ []) (hkl : k ≤ rows.length) (hf : rows.length + 1 < wf) :
    execs cl wf b__law_opener [some (.fr (.tup rows)), some (.fr (.int (k : Nat))), none] S = .rt (.fr (.int (tpo (kds rows) k : Nat))) S := by
  have := lo_loop (cl := cl) (wf := wf) (S := S) hr hk0 hkl k 0 wf bw_start (by omega)
  simp only [env3] at this
  have this : whGo (ev cl w__law_opener_2) (execs cl wf l__law_opener_1) wf [some (.fr (.tup rows)), some (.fr (.int (k : Nat))), some (.fr (.int 1))] S = _ := this
  simp [b__law_opener, this]
/-! ### behind a row -/
def envB (rows : List D) (a : Int) (b : Option OV) : Env1 := [some (.fr (.tup rows)), some (.fr (.int a)), b]
theorem lb_w {rows : List D} {a : Int} {b : Option OV} {s : Str} {l : List D} (hd : L2.atI rows a = some (.tup (.str s :: l))) : ev cl w__law_behind_2 (envB rows a b) S = .ok (.fr (.bl (kdS s).non)) S := by
  have h3 := kd_else s
  have h4 := kd_end s
  cases hk : kdS s <;> rw [hk] at h3 h4 <;> simp at h3 h4 <;> simp [w__law_behind_2, envB, hd, h3, h4] <;> rfl
theorem lb_ret {rows : List D} {a : Int} {b : Option OV} {s s2 : Str} {l l2 : List D} {g : Int} (hd : L2.atI rows a = some (.tup (.str s :: l))) (h : kdS s = .fin) (ho : cl "_law_opener" [.tup rows, .int a] S = .ok (.fr (.int g)) S) (hg : L2.atI rows g = some (.tup (.str s2 :: l2))) (h2 : kdS s2 = .whl) :
    execs cl wf l__law_behind_1 (envB rows a b) S = .rt (.fr (.int g)) S := by
  have h3 := kd_end s
  rw [h] at h3
  have h4 := kd_while s2
  rw [h2] at h4
  simp at h3 h4
  simp [l__law_behind_1, envB, hd, h3, ho, hg, h4]
theorem lb_on {rows : List D} {a : Int} {b : Option OV} {s s2 : Str} {l l2 : List D} {g e : Int} (hd : L2.atI rows a = some (.tup (.str s :: l))) (ho : cl "_law_opener" [.tup rows, .int a] S = .ok (.fr (.int g)) S) (hg : L2.atI rows g = some (.tup (.str s2 :: l2))) (h2 : kdS s ≠ .fin ∨ kdS s2 ≠ .whl) (he : cl "_law_end" [.tup rows, .int g] S = .ok (.fr (.int e)) S) :
    execs cl wf l__law_behind_1 (envB rows a b) S = .nx (envB rows (e + 1) (some (.fr (.int g)))) S := by
  have h3 := kd_end s
  have h4 := kd_while s2
  by_cases z : kdS s = .fin
  · rcases h2 with h2 | h2
    · exact absurd z h2
    · rw [decide_eq_true z] at h3
      rw [decide_eq_false h2] at h4
      simp at h3 h4
      simp [l__law_behind_1, envB, hd, h3, ho, hg, h4, he]
  · rw [decide_eq_false z] at h3
    simp at h3
    simp [l__law_behind_1, envB, hd, h3, ho, hg, he]
theorem lb_loop {rows : List D} (hr : ∀ d ∈ rows, IsRow d) (w : Wf (kds rows)) (hop : ∀ k : Nat, k < rows.length → (kAt (kds rows) k).non = true → cl "_law_opener" [.tup rows, .int (k : Nat)] S = .ok (.fr (.int (tpo (kds rows) k : Nat))) S)
    (hen : ∀ k e : Nat, (kAt (kds rows) k).opn = true → enOf (kds rows) k = some e → cl "_law_end" [.tup rows, .int (k : Nat)] S = .ok (.fr (.int (e : Nat))) S) : ∀ (m a f : Nat) (b : Option OV), a < rows.length → rows.length - a ≤ m → m < f →
    whGo (ev cl w__law_behind_2) (execs cl wf l__law_behind_1) f (envB rows (a : Nat) b) S = .rt (.fr (.int (lndF (kds rows) a : Nat))) S ∨ ∃ b', whGo (ev cl w__law_behind_2) (execs cl wf l__law_behind_1) f (envB rows (a : Nat) b) S = .nx (envB rows (lndF (kds rows) a : Nat) b') S
  | m, a, 0, b, ha, hm, hf => by omega
  | 0, a, f + 1, b, ha, hm, hf => by omega
  | m + 1, a, f + 1, b, ha, hm, hf => by
    obtain ⟨s, l, hd, hk⟩ := row_at hr ha
    have hd2 : L2.atI rows (a : Nat) = some (.tup (.str s :: l)) := by rw [atI_cast]; exact hd
    rw [whGo_succ, lb_w hd2]
    cases hn : (kdS s).non with
    | false =>
      rw [kWhA_f]
      exact .inr ⟨b, by rw [lndF_stop (by rw [hk]; exact hn)]⟩
    | true =>
      rw [kWhA_t]
      have hn2 : (kAt (kds rows) a).non = true := by rw [hk]; exact hn
      have tl := w.top_lt hn2
      have ho := hop a ha hn2
      have to := w.top_opn hn2
      obtain ⟨s2, l2, hg, hk2⟩ := row_at hr (i := tpo (kds rows) a) (by omega)
      have hg2 : L2.atI rows (tpo (kds rows) a : Nat) = some (.tup (.str s2 :: l2)) := by rw [atI_cast]; exact hg
      cases q : kdS s with
      | els =>
        have q2 : kAt (kds rows) a = .els := hk.trans q
        obtain ⟨e, e1, e2, e3, e4, e5⟩ := els_en w q2
        rw [kds_len] at e5
        rw [lb_on hd2 ho hg2 (.inl (by rw [q]; exact nofun)) (hen _ e to e1), kWhB_nx, lndF_els w q2 e1]
        exact lb_loop hr w hop hen m (e + 1) f _ (by omega) (by omega) (by omega)
      | fin =>
        have q2 : kAt (kds rows) a = .fin := hk.trans q
        rw [lndF_fin w q2, hk2]
        by_cases hw : kdS s2 = .whl
        · rw [if_pos hw, lb_ret hd2 q ho hg2 hw]
          exact .inl rfl
        · rw [if_neg hw, lb_on hd2 ho hg2 (.inr hw) (hen _ a to (enOf_eq w q2)), kWhB_nx]
          have := w.fin_lt hn2
          rw [kds_len] at this
          exact lb_loop hr w hop hen m (a + 1) f _ (by omega) (by omega) (by omega)
      | _ => rw [q] at hn; exact absurd hn (by decide)
theorem lb_core {rows : List D} (hr : ∀ d ∈ rows, IsRow d) (w : Wf (kds rows)) (hop : ∀ k : Nat, k < rows.length → (kAt (kds rows) k).non = true → cl "_law_opener" [.tup rows, .int (k : Nat)] S = .ok (.fr (.int (tpo (kds rows) k : Nat))) S)
    (hen : ∀ k e : Nat, (kAt (kds rows) k).opn = true → enOf (kds rows) k = some e → cl "_law_end" [.tup rows, .int (k : Nat)] S = .ok (.fr (.int (e : Nat))) S) {a : Nat} (ha : a + 1 < rows.length) (hf : rows.length < wf) :
    execs cl wf b__law_behind [some (.fr (.tup rows)), some (.fr (.int (a : Nat))), none] S = .rt (.fr (.int (lndF (kds rows) (a + 1) : Nat))) S := by
  rcases lb_loop (cl := cl) (wf := wf) (S := S) hr w hop hen rows.length (a + 1) wf none ha (by omega) hf with h | ⟨b', h⟩
  · clear hop hen
    simp only [envB] at h
    have h : whGo (ev cl w__law_behind_2) (execs cl wf l__law_behind_1) wf [some (.fr (.tup rows)), some (.fr (.int ((a : Nat) + 1))), none] S = _ := h
    simp [b__law_behind, h]
  · clear hop hen
    simp only [envB] at h
    have h : whGo (ev cl w__law_behind_2) (execs cl wf l__law_behind_1) wf [some (.fr (.tup rows)), some (.fr (.int ((a : Nat) + 1))), none] S = _ := h
    simp [b__law_behind, h]
/-! ### what is due -/
theorem ld_core {rows : List D} {k y n : Int} {x : Int} {s : Str} {l : List D} {wy : Option (List Nat)} (hd : L2.atI rows k = some (.tup (.str s :: l)))
    (h1 : (kdS s).non = false → kdS s ≠ .bck → cl "_law_behind" [.tup rows, .int k] S = .ok (.fr (.int y)) S)
    (h2 : kdS s = .iff → cl "_law_else" [.tup rows, .int k] S = .ok (.fr (.int x)) S)
    (h3 : kdS s = .whl → cl "_law_end" [.tup rows, .int k] S = .ok (.fr (.int x)) S)
    (h4 : (kdS s).opn = true → cl "_law_behind" [.tup rows, .int x] S = .ok (.fr (.int n)) S) :
    execs cl wf b__law_due [some (.fr (.tup rows)), some (.fr (.int k)), none] S = .rt (.fr (match kdS s with | .els => .non | .fin => .non | .bck => .tup [] | .iff => .tup [.int y, .int n] | .whl => .tup [.int y, .int n] | .oth => .tup [.int y])) S := by
  have e1 := kd_if s
  have e2 := kd_while s
  have e3 := kd_else s
  have e4 := kd_end s
  have e5 := kd_back s
  cases q : kdS s with
  | iff =>
    rw [q] at e1 e2 e3 e4 e5 h1 h2 h3 h4
    have a1 := h1 rfl nofun
    have a2 := h2 rfl
    have a4 := h4 rfl
    simp at e1 e2 e3 e4 e5
    simp [b__law_due, s__law_due_1, s__law_due_2, s__law_due_3, s__law_due_4, s__law_due_5, s__law_due_6, hd, e1, e2, e3, e4, e5, a1, a2, a4]
  | whl =>
    rw [q] at e1 e2 e3 e4 e5 h1 h2 h3 h4
    have a1 := h1 rfl nofun
    have a3 := h3 rfl
    have a4 := h4 rfl
    simp at e1 e2 e3 e4 e5
    simp [b__law_due, s__law_due_1, s__law_due_2, s__law_due_3, s__law_due_4, s__law_due_5, s__law_due_6, hd, e1, e2, e3, e4, e5, a1, a3, a4]
  | els =>
    rw [q] at e1 e2 e3 e4 e5
    simp at e1 e2 e3 e4 e5
    simp [b__law_due, s__law_due_1, s__law_due_2, s__law_due_3, s__law_due_4, s__law_due_5, s__law_due_6, hd, e1, e2, e3, e4, e5]
  | fin =>
    rw [q] at e1 e2 e3 e4 e5
    simp at e1 e2 e3 e4 e5
    simp [b__law_due, s__law_due_1, s__law_due_2, s__law_due_3, s__law_due_4, s__law_due_5, s__law_due_6, hd, e1, e2, e3, e4, e5]
  | bck =>
    rw [q] at e1 e2 e3 e4 e5
    simp at e1 e2 e3 e4 e5
    simp [b__law_due, s__law_due_1, s__law_due_2, s__law_due_3, s__law_due_4, s__law_due_5, s__law_due_6, hd, e1, e2, e3, e4, e5]
  | oth =>
    rw [q] at e1 e2 e3 e4 e5 h1
    have a1 := h1 rfl nofun
    simp at e1 e2 e3 e4 e5
    simp [b__law_due, s__law_due_1, s__law_due_2, s__law_due_3, s__law_due_4, s__law_due_5, s__law_due_6, hd, e1, e2, e3, e4, e5, a1]
end
/-! ### the calls -/
section
variable {n : Nat} {rows : List D}
theorem end_ok (hr : ∀ d ∈ rows, IsRow d) (w : Wf (kds rows)) {k e : Nat} (he : enOf (kds rows) k = some e) (ho : (kAt (kds rows) k).opn = true) (hf : rows.length + 1 < wf) : Sg.run G wf (n + 1) "_law_end" [.tup rows, .int (k : Nat)] S = .ok (.fr (.int (e : Nat))) S := by
  rw [run_succ g__law_end rfl]
  simp only [startR, List.map_cons, List.map_nil, Nat.reduceSub, List.replicate, List.cons_append, List.nil_append, le_core hr w he ho hf]
  rfl
theorem else_ok (hr : ∀ d ∈ rows, IsRow d) (w : Wf (kds rows)) {k e : Nat} (he : enOf (kds rows) k = some e) (ho : (kAt (kds rows) k).opn = true) (hf : rows.length + 1 < wf) : Sg.run G wf (n + 1) "_law_else" [.tup rows, .int (k : Nat)] S = .ok (.fr (.int ((elOf (kds rows) k).getD e : Nat))) S := by
  rw [run_succ g__law_else rfl]
  simp only [startR, List.map_cons, List.map_nil, Nat.reduceSub, List.replicate, List.cons_append, List.nil_append, ls_core hr w he ho hf]
  rfl
theorem opener_ok (hr : ∀ d ∈ rows, IsRow d) {k : Nat} (hk0 : stk (kds rows) k ≠ []) (hkl : k ≤ rows.length) (hf : rows.length + 1 < wf) : Sg.run G wf (n + 1) "_law_opener" [.tup rows, .int (k : Nat)] S = .ok (.fr (.int (tpo (kds rows) k : Nat))) S := by
  rw [run_succ g__law_opener rfl]
  simp only [startR, List.map_cons, List.map_nil, Nat.reduceSub, List.replicate, List.cons_append, List.nil_append, lo_core hr hk0 hkl hf]
  rfl
theorem behind_ok (hr : ∀ d ∈ rows, IsRow d) (w : Wf (kds rows)) {a : Nat} (ha : a + 1 < rows.length) (hf : rows.length + 1 < wf) : Sg.run G wf (n + 2) "_law_behind" [.tup rows, .int (a : Nat)] S = .ok (.fr (.int (lndF (kds rows) (a + 1) : Nat))) S := by
  have := lb_core (cl := Sg.run G wf (n + 1)) (wf := wf) (S := S) hr w (fun k hk hn => opener_ok hr (w.ne hn) (by omega) hf) (fun k e h1 h2 => end_ok hr w h2 h1 hf) ha (by omega)
  rw [run_succ g__law_behind rfl]
  simp only [startR, List.map_cons, List.map_nil, Nat.reduceSub, List.replicate, List.cons_append, List.nil_append, this]
  rfl
theorem due_ok (hr : ∀ d ∈ rows, IsRow d) (w : Wf (kds rows)) {k : Nat} (hk : k < rows.length) (hf : rows.length + 1 < wf) : Sg.run G wf (n + 3) "_law_due" [.tup rows, .int (k : Nat)] S = .ok (.fr (wD (wayOf (kds rows) k))) S := by
  obtain ⟨s, l, hd, hks⟩ := row_at hr hk
  have hd2 : L2.atI rows (k : Nat) = some (.tup (.str s :: l)) := by rw [atI_cast]; exact hd
  have k1 : kdS s ≠ .bck → k + 1 < rows.length := fun hb => by
    obtain ⟨mm, h1, h2⟩ := w.last
    rw [kds_len] at h1
    by_cases z : k = mm
    · subst z; exact absurd (hks.symm.trans h2) hb
    · omega
  have eex : ∃ e : Nat, (kdS s).opn = true → enOf (kds rows) k = some e := by
    by_cases ho : (kdS s).opn = true
    · obtain ⟨e, e1, _⟩ := en_get w (k := k) (by rw [hks]; exact ho)
      exact ⟨e, fun _ => e1⟩
    · exact ⟨0, fun z => absurd z ho⟩
  obtain ⟨e, he⟩ := eex
  have hx : (kdS s).opn = true → (if kdS s = .whl then e else (elOf (kds rows) k).getD e) + 1 < rows.length := fun ho => by
    obtain ⟨h1, h2⟩ := enOf_some (he ho)
    have ef := w.fin_lt (a := e) (by rw [h1]; rfl)
    rw [kds_len] at ef
    split
    · exact ef
    · cases q : elOf (kds rows) k with
      | none => exact ef
      | some x =>
        have := w.fin_lt (a := x) (by rw [(elOf_some q).1]; rfl)
        rw [kds_len] at this
        exact this
  have := ld_core (cl := Sg.run G wf (n + 2)) (wf := wf) (S := S) (wy := none) (y := (lndF (kds rows) (k + 1) : Nat)) (x := ((if kdS s = .whl then e else (elOf (kds rows) k).getD e : Nat) : Int)) (n := (lndF (kds rows) ((if kdS s = .whl then e else (elOf (kds rows) k).getD e) + 1) : Nat)) hd2
    (fun _ hb => behind_ok hr w (k1 hb) hf)
    (fun q => by rw [if_neg (by rw [q]; exact nofun)]; exact else_ok (n := n + 1) hr w (he (by rw [q]; rfl)) (by rw [hks, q]; rfl) hf)
    (fun q => by rw [if_pos q]; exact end_ok (n := n + 1) hr w (he (by rw [q]; rfl)) (by rw [hks, q]; rfl) hf)
    (fun ho => behind_ok hr w (hx ho) hf)
  rw [run_succ g__law_due rfl]
  simp only [startR, List.map_cons, List.map_nil, Nat.reduceSub, List.replicate, List.cons_append, List.nil_append, this]
  show Rs.ok _ S = Rs.ok _ S
  congr 2
  unfold wayOf
  rw [hks]
  cases q : kdS s with
  | iff => rw [he (by rw [q]; rfl), if_neg (by exact nofun)]; rfl
  | whl => rw [he (by rw [q]; rfl), if_pos rfl]; rfl
  | _ => rfl
end
/-! ### what is right -/
section
variable {cl : Str → List D → Sto → Res}
theorem wD_ok {wy : Option (List Nat)} : okD (wD wy) = true ∧ depD (wD wy) ≤ 100 := by
  cases wy with
  | none => exact ⟨rfl, by decide⟩
  | some l =>
    constructor
    · show okDs (l.map fun (k : Nat) => D.int k) = true
      exact okDs_all fun d hd => by
        obtain ⟨k, _, rfl⟩ := List.mem_map.mp hd
        rfl
    · show depDs (l.map fun (k : Nat) => D.int k) + 1 ≤ 100
      have := depDs_le (k := 0) (ds := l.map fun (k : Nat) => D.int k) fun d hd => by
        obtain ⟨k, _, rfl⟩ := List.mem_map.mp hd
        exact Nat.le_refl _
      omega
theorem lr_step {rows fs : List D} {k : Int} {x3 x4 : Option OV} {wy : Option (List Nat)} (hl : ∀ l, wy = some l → l.length ≤ 10) (hf : L2.atI fs k = some (wD wy)) (hd : cl "_law_due" [.tup rows, .int k] S = .ok (.fr (wD wy)) S) :
    ∃ y4, execs cl wf l__law_right_1 [some (.fr (.lst fs)), some (.fr (.tup rows)), some (.fr (.int k)), x3, x4] S = .nx [some (.fr (.lst fs)), some (.fr (.tup rows)), some (.fr (.int k)), some (.fr (wD wy)), y4] S := by
  have er := eqD_refl (wD_ok (wy := wy)).1 (wD_ok (wy := wy)).2
  cases wy with
  | none =>
    have hf : L2.atI fs k = some .non := hf
    have hd : cl "_law_due" [.tup rows, .int k] S = .ok (.fr .non) S := hd
    refine ⟨x4, ?_⟩
    show _ = Out.nx [_, _, _, some (.fr .non), _] S
    simp [l__law_right_1, hf, hd]
  | some l =>
    have hl := hl l rfl
    have lc : ∀ x3', lcGo (ev cl (.or (.cons (.not (.isT (.var 4) .int)) (.cons (.isT (.var 4) .bool) .nil)))) (ev cl (.var 4)) false (.one 4) (wipeR [some (.fr (.lst fs)), some (.fr (.tup rows)), some (.fr (.int k)), x3', x4] [4]) (l.map fun (k : Nat) => D.int k) [] S = .ok [] S := fun x3' => by
      have := lcGo_pure (C := ev cl (.or (.cons (.not (.isT (.var 4) .int)) (.cons (.isT (.var 4) .bool) .nil)))) (E := ev cl (.var 4)) (f := false) (g := .one 4) (ρ := wipeR [some (.fr (.lst fs)), some (.fr (.tup rows)), some (.fr (.int k)), x3', x4] [4]) (S := S) (td := fun (k : Nat) => D.int k) (p := fun _ => false) (h := fun _ => .non) l [] (fun x hx => ⟨_, rfl, by simp [wipeR], nofun⟩) (by unfold lim; simp; omega)
      rw [this]; simp
    have hf : L2.atI fs k = some (.tup (l.map fun (k : Nat) => D.int k)) := hf
    have hd : cl "_law_due" [.tup rows, .int k] S = .ok (.fr (.tup (l.map fun (k : Nat) => D.int k))) S := hd
    have er : eqD (.tup (l.map fun (k : Nat) => D.int k)) (.tup (l.map fun (k : Nat) => D.int k)) = some true := er
    refine ⟨x4, ?_⟩
    show _ = Out.nx [_, _, _, some (.fr (.tup (l.map fun (k : Nat) => D.int k))), _] S
    generalize (l.map fun (k : Nat) => D.int k) = L at *
    have lc := lc (some (.fr (.tup L)))
    simp [l__law_right_1, hf, hd, er, lc, wlkD, seqD]
theorem wayOf_len {ks : List Kd} {i : Nat} : ∀ l, wayOf ks i = some l → l.length ≤ 10 := by
  intro l h
  unfold wayOf at h
  split at h <;> cases h <;> simp
theorem lr_loop {rows : List D} {fs : List D} (hf : ∀ k : Nat, k < rows.length → fs[k]? = some (wD (wayOf (kds rows) k))) (hd : ∀ k : Nat, k < rows.length → cl "_law_due" [.tup rows, .int (k : Nat)] S = .ok (.fr (wD (wayOf (kds rows) k))) S) : ∀ (m i : Nat) (x2 x3 x4 : Option OV), i + m ≤ rows.length →
    ∃ y2 y3 y4, forGo (execs cl wf l__law_right_1) (.one 2) ((List.range' i m).map fun (k : Nat) => D.int k) [some (.fr (.lst fs)), some (.fr (.tup rows)), x2, x3, x4] S = .nx [some (.fr (.lst fs)), some (.fr (.tup rows)), y2, y3, y4] S
  | 0, i, x2, x3, x4, h => ⟨x2, x3, x4, rfl⟩
  | m + 1, i, x2, x3, x4, h => by
    obtain ⟨z4, st⟩ := lr_step (wf := wf) (rows := rows) (x3 := x3) (x4 := x4) (k := (i : Nat)) wayOf_len (by rw [atI_cast]; exact hf i (by omega)) (hd i (by omega))
    obtain ⟨y2, y3, y4, ih⟩ := lr_loop hf hd m (i + 1) (some (.fr (.int (i : Nat)))) (some (.fr (wD (wayOf (kds rows) i)))) z4 (by omega)
    refine ⟨y2, y3, y4, ?_⟩
    rw [List.range'_succ, List.map_cons, forGo_cons]
    simp only [Tg.put, List.set_cons_succ, List.set_cons_zero, kForA_some]
    rw [st, kForB_nx, ih]
theorem lr_core {rows : List D} (hn : rows.length ≤ 1000) (hd : ∀ k : Nat, k < rows.length → cl "_law_due" [.tup rows, .int (k : Nat)] S = .ok (.fr (wD (wayOf (kds rows) k))) S) :
    execs cl wf b__law_right [some (.fr (.lst (wysD rows))), some (.fr (.tup rows)), none, none, none] S = .rt (.fr (.bl true)) S := by
  obtain ⟨y2, y3, y4, lp⟩ := lr_loop (wf := wf) (fs := wysD rows) (fun k hk => by unfold wysD; rw [List.getElem?_map, List.getElem?_range hk]; rfl) hd rows.length 0 none none none (by omega)
  clear hd
  have hl : (wysD rows).length = rows.length := by unfold wysD; simp
  have rg : rngO [.int (rows.length : Int)] = some ((List.range rows.length).map fun (k : Nat) => D.int k) := rngO_nat (by omega)
  rw [← List.range_eq_range'] at lp
  generalize wysD rows = ws at *
  generalize (List.range rows.length).map (fun (k : Nat) => D.int k) = L at *
  simp [b__law_right, hl, rg, lp]
end
theorem right_ok {n : Nat} {rows : List D} (hr : ∀ d ∈ rows, IsRow d) (w : Wf (kds rows)) (hn : rows.length ≤ 1000) (hf : 1001 < wf) : Sg.run G wf (n + 4) "_law_right" [.lst (wysD rows), .tup rows] S = .ok (.fr (.bl true)) S := by
  have := lr_core (cl := Sg.run G wf (n + 3)) (wf := wf) (S := S) hn fun k hk => due_ok hr w hk (by omega)
  rw [run_succ g__law_right rfl]
  simp only [startR, List.map_cons, List.map_nil, Nat.reduceSub, List.replicate, List.cons_append, List.nil_append, this]
  rfl
end K13
namespace K13
open Sg
open PySem (Str)
variable {wf : Nat} {S : Sto}
/-! ### a cell of the script -/
theorem cell_ok {n k : Nat} (hk : k ≤ 1000) (ns : List Int) : ∃ v : Int, Sg.run G wf (n + 1) "_law_cell" [.lst (ns.map D.int), .int k] S = .ok (.fr (.int v)) S := by
  rw [run_succ g__law_cell rfl]
  by_cases h : k < ns.length
  · have e : ns[k]? = some ns[k] := List.getElem?_eq_getElem h
    exact ⟨ns[k], by simp [b__law_cell, startR, s__law_cell_1, h, atI_cast, e]⟩
  · obtain ⟨s, hs1, hs2, hs⟩ : ∃ s : Int, 0 ≤ s ∧ s < 999983 ∧ exec (Sg.run G wf n) wf s__law_cell_3 [some (.fr (.lst (ns.map D.int))), some (.fr (.int k)), some (.fr (.int 7))] S = .nx [some (.fr (.lst (ns.map D.int))), some (.fr (.int k)), some (.fr (.int s))] S := by
      by_cases h0 : 0 < ns.length
      · have hlt : k % ns.length < ns.length := Nat.mod_lt _ h0
        have e : ns[k % ns.length]? = some ns[k % ns.length] := List.getElem?_eq_getElem hlt
        have e2 : L2.atI (ns.map D.int) ((k : Int) % (ns.length : Int)) = some (.int ns[k % ns.length]) := by
          rw [show ((k : Int) % (ns.length : Int)) = ((k % ns.length : Nat) : Int) by simp, atI_cast, List.getElem?_map, e]; rfl
        have h0' : (0 : Int) < (ns.length : Int) := by omega
        exact ⟨ns[k % ns.length] % 999983, Int.emod_nonneg _ (by decide), Int.emod_lt_of_pos _ (by decide), by simp [s__law_cell_3, h0, e2]⟩
      · have h0' : ¬ (0 : Int) < (ns.length : Int) := by omega
        exact ⟨7, by decide, by decide, by simp [s__law_cell_3, h0]⟩
    have m1 : op2 .mul (.int (s + 613 * k + 29)) (.int (s + 71 * k + 5)) = some (.int ((s + 613 * k + 29) * (s + 71 * k + 5))) := op2_mul_l ⟨by omega, by omega⟩
    exact ⟨_, by simp [b__law_cell, startR, s__law_cell_1, h, s__law_cell_2, hs, s__law_cell_4, m1]; rfl⟩
/-! ### a part -/
theorem part_core {cl : Str → List D → Sto → Res} {c j m k p1 p2 s q r p : Int} (h0 : op2 .mod (.int j) (.int 8) = some (.int k)) (h1 : op2 .mul (.int c) (.int 48271) = some (.int p1)) (h2 : op2 .mul (.int 7919) (.int j) = some (.int p2)) (h3 : op2 .add (.int p1) (.int p2) = some (.int s)) (h4 : L2.atI [D.int 10007, .int 10009, .int 10037, .int 10039, .int 10061, .int 10067, .int 10069, .int 10079] k = some (.int q)) (h5 : op2 .mod (.int s) (.int q) = some (.int r)) (h6 : op2 .mod (.int r) (.int m) = some (.int p)) :
    execs cl wf b__law_part [some (.fr (.int c)), some (.fr (.int j)), some (.fr (.int m)), none] S = .rt (.fr (.int p)) S := by
  simp [b__law_part, h0, h1, h2, h3, h4, h5, h6, - op2_mul_r, - op2_mul_l, - op2_add, - op2_mod]
theorem part_ok {n j : Nat} {c m : Int} (hm : 0 < m) (hj : j ≤ 1000) : Sg.run G wf (n + 1) "_law_part" [.int c, .int j, .int m] S = .ok (.fr (.int (ptF c j m))) S := by
  obtain ⟨a, b, b2⟩ := prmN_at j
  have e := part_core (wf := wf) (S := S) (cl := Sg.run G wf n) (c := c) (j := j) (m := m) (op2_mod (by decide)) (op2_mul_r ⟨by decide, by decide⟩) (op2_mul_l ⟨by decide, by decide⟩) op2_add (by rw [show (j : Int) % 8 = ((j % 8 : Nat) : Int) by omega]; exact a) (op2_mod b) (op2_mod hm)
  rw [run_succ g__law_part rfl]
  simp only [startR, List.map_cons, List.map_nil, Nat.reduceSub, List.replicate, List.cons_append, List.nil_append, e]
  rfl
/-! ### a plain row -/
def PLW : List Str := ["copy", "op", "new", "get", "put", "call", "out", "back"]
theorem plw_ok : ∀ w ∈ PLW, (kdS w).opn = false ∧ (kdS w).non = false := by decide +kernel
theorem pow48 : op2 .pow (.int 2) (.int 48) = some (.int 281474976710656) := rfl
def plD (v : Int) (j : Nat) : D := match j with
  | 0 => .tup [.str "copy", .str "a", .int v]
  | 1 => .tup [.str "op", .str "b", .str "+", .str "a", .int v]
  | 2 => .tup [.str "new", .str "c"]
  | 3 => .tup [.str "get", .str "a", .int v, .str "f"]
  | 4 => .tup [.str "put", .str "a", .str "f", .int v]
  | 5 => .tup [.str "call", .str "a", .str "b", .tup [.int v]]
  | 6 => .tup [.str "out", .int v]
  | _ => .tup [.str "back", .int v]
theorem plD_ok (v : Int) (j : Nat) : IsRow (plD v j) ∧ (kdD (plD v j)).opn = false ∧ (kdD (plD v j)).non = false := by
  have key : ∃ w l, plD v j = .tup (.str w :: l) ∧ w ∈ PLW := by
    unfold plD
    split <;> exact ⟨_, _, rfl, by decide +kernel⟩
  obtain ⟨w, l, e, hw⟩ := key
  rw [e]
  exact ⟨⟨w, l, rfl⟩, plw_ok w hw⟩
section
variable {cl : Str → List D → Sto → Res}
theorem plain_core {c : Int} {j : Nat} (hj : j < 8) (hp : cl "_law_part" [.int c, .int 1, .int 8] S = .ok (.fr (.int (j : Nat))) S) : execs cl wf b__law_plain [some (.fr (.int c)), none, none] S = .rt (.fr (plD (c % 281474976710656) j)) S := by
  have m : op2 .mod (.int c) (.int 281474976710656) = some (.int (c % 281474976710656)) := op2_mod (by decide)
  generalize c % 281474976710656 = v at *
  have x1 : exec cl wf s__law_plain_1 [some (.fr (.int c)), none, none] S = .nx [some (.fr (.int c)), some (.fr (.int v)), none] S := by
    simp [s__law_plain_1, pow48, m, - op2_mod]
  have x2 : exec cl wf s__law_plain_2 [some (.fr (.int c)), some (.fr (.int v)), none] S = .nx [some (.fr (.int c)), some (.fr (.int v)), some (.fr (.lst [plD v 0, plD v 1, plD v 2, plD v 3]))] S := by
    simp [s__law_plain_2, plD]
  have ad : op2 .add (.lst [plD v 0, plD v 1, plD v 2, plD v 3]) (.lst [plD v 4, plD v 5, plD v 6, plD v 7]) = some (.lst [plD v 0, plD v 1, plD v 2, plD v 3, plD v 4, plD v 5, plD v 6, plD v 7]) := rfl
  have x3 : exec cl wf s__law_plain_3 [some (.fr (.int c)), some (.fr (.int v)), some (.fr (.lst [plD v 0, plD v 1, plD v 2, plD v 3]))] S = .nx [some (.fr (.int c)), some (.fr (.int v)), some (.fr (.lst [plD v 0, plD v 1, plD v 2, plD v 3, plD v 4, plD v 5, plD v 6, plD v 7]))] S := by
    have e4 : D.tup [.str "put", .str "a", .str "f", .int v] = plD v 4 := rfl
    have e5 : D.tup [.str "call", .str "a", .str "b", .tup [.int v]] = plD v 5 := rfl
    have e6 : D.tup [.str "out", .int v] = plD v 6 := rfl
    have e7 : D.tup [.str "back", .int v] = plD v 7 := rfl
    simp [s__law_plain_3, e4, e5, e6, e7, ad]
  have x4 : exec cl wf s__law_plain_4 [some (.fr (.int c)), some (.fr (.int v)), some (.fr (.lst [plD v 0, plD v 1, plD v 2, plD v 3, plD v 4, plD v 5, plD v 6, plD v 7]))] S = .rt (.fr (plD v j)) S := by
    have at_ : L2.atI [plD v 0, plD v 1, plD v 2, plD v 3, plD v 4, plD v 5, plD v 6, plD v 7] ((j : Nat) : Int) = some (plD v j) := by
      rw [atI_cast]
      match j, hj with
      | 0, _ => rfl
      | 1, _ => rfl
      | 2, _ => rfl
      | 3, _ => rfl
      | 4, _ => rfl
      | 5, _ => rfl
      | 6, _ => rfl
      | 7, _ => rfl
    generalize [plD v 0, plD v 1, plD v 2, plD v 3, plD v 4, plD v 5, plD v 6, plD v 7] = L at *
    generalize plD v j = d at *
    simp [s__law_plain_4, hp, at_]
  simp [b__law_plain, x1, x2, x3, x4]
end
theorem plain_ok {n : Nat} (c : Int) : ∃ d, Sg.run G wf (n + 2) "_law_plain" [.int c] S = .ok (.fr d) S ∧ IsRow d ∧ (kdD d).opn = false ∧ (kdD d).non = false := by
  obtain ⟨p, e, hp⟩ := ptF_nat c 1 (show 0 < 8 by decide)
  have h := part_ok (wf := wf) (S := S) (n := n) (j := 1) (c := c) (m := 8) (by decide) (by decide)
  have e : ptF c 1 8 = (p : Int) := e
  rw [e] at h
  have := plain_core (cl := Sg.run G wf (n + 1)) (wf := wf) (S := S) hp h
  refine ⟨_, ?_, plD_ok (c % 281474976710656) p⟩
  rw [run_succ g__law_plain rfl]
  simp only [startR, List.map_cons, List.map_nil, Nat.reduceSub, List.replicate, List.cons_append, List.nil_append, this]
  rfl
/-! ### the rows -/
section
variable {cl : Str → List D → Sto → Res}
def envR (sc : D) (a m : Int) (rows os : List D) (k : Option OV) (x6 x7 x8 : Option OV) : Env1 := [some (.fr sc), some (.fr (.int a)), some (.fr (.int m)), some (.ol rows), some (.ol os), k, x6, x7, x8]
theorem gr_opn {sc : D} {a m k c kd v : Int} {w : Str} {rows os : List D} {x6 x7 x8 : Option OV} (hc : cl "_law_cell" [sc, .int (a + k)] S = .ok (.fr (.int c)) S) (hp : cl "_law_part" [.int c, .int 0, .int 10] S = .ok (.fr (.int kd)) S) (h3 : kd < 3) (hm : op2 .mod (.int c) (.int 281474976710656) = some (.int v))
    (hw : L2.atI [D.str "if", .str "if", .str "while"] kd = some (.str w)) (l1 : rows.length < lim) (l2 : os.length < lim) :
    execs cl wf l__law_rows_3 (envR sc a m rows os (some (.fr (.int k))) x6 x7 x8) S = .nx (envR sc a m (rows ++ [.tup [.str w, .int v]]) (os ++ [.str w]) (some (.fr (.int k))) x6 (some (.fr (.int c))) (some (.fr (.int kd)))) S := by
  simp [l__law_rows_3, envR, hc, hp, h3, hw, pow48, hm, l1, l2, atI_last, - op2_mod]
theorem gr_els {sc : D} {a m k c kd : Int} {rows os : List D} {x6 x7 x8 : Option OV} (hc : cl "_law_cell" [sc, .int (a + k)] S = .ok (.fr (.int c)) S) (hp : cl "_law_part" [.int c, .int 0, .int 10] S = .ok (.fr (.int kd)) S) (h3 : ¬ kd < 3) (h5 : kd < 5) (ho : okDs (os ++ [.str "if"]) = true) (l1 : rows.length < lim) :
    execs cl wf l__law_rows_3 (envR sc a m rows (os ++ [.str "if"]) (some (.fr (.int k))) x6 x7 x8) S = .nx (envR sc a m (rows ++ [.tup [.str "else"]]) (os ++ [.str "else"]) (some (.fr (.int k))) x6 (some (.fr (.int c))) (some (.fr (.int kd)))) S := by
  have e : eqD (.lst (os ++ [D.str "if"])) (.lst []) = some false := (eqD_lst0 ho).trans (by simp)
  have st : setO (.ol (os ++ [D.str "if"])) (.int (-1)) (.str "else") = some (.ol (os ++ [.str "else"])) := by
    show (L2.ixN (os ++ [D.str "if"]).length (-1)).map (fun j => OV.ol ((os ++ [D.str "if"]).set j (.str "else"))) = _
    have : L2.ixN (os ++ [D.str "if"]).length (-1) = some os.length := by
      unfold L2.ixN; simp; omega
    rw [this]; simp
  simp [l__law_rows_3, envR, hc, hp, h3, h5, e, l1, atI_last, st]
theorem gr_fin {sc : D} {a m k c kd : Int} {rows os : List D} {x6 x7 x8 : Option OV} {s : Str} (hc : cl "_law_cell" [sc, .int (a + k)] S = .ok (.fr (.int c)) S) (hp : cl "_law_part" [.int c, .int 0, .int 10] S = .ok (.fr (.int kd)) S) (h3 : ¬ kd < 3) (h5 : ¬ kd < 5 ∨ s ≠ "if") (h7 : kd < 7) (ho : okDs (os ++ [.str s]) = true) (l1 : rows.length < lim) :
    execs cl wf l__law_rows_3 (envR sc a m rows (os ++ [.str s]) (some (.fr (.int k))) x6 x7 x8) S = .nx (envR sc a m (rows ++ [.tup [.str "end"]]) os (some (.fr (.int k))) x6 (some (.fr (.int c))) (some (.fr (.int kd)))) S := by
  have e : eqD (.lst (os ++ [D.str s])) (.lst []) = some false := (eqD_lst0 ho).trans (by simp)
  by_cases q : kd < 5
  · rcases h5 with h5 | h5
    · exact absurd q h5
    · simp [l__law_rows_3, envR, hc, hp, h3, h5, q, h7, e, l1, atI_last]
  · simp [l__law_rows_3, envR, hc, hp, h3, q, h7, e, l1, atI_last]
theorem gr_oth {sc d : D} {a m k c kd : Int} {rows os : List D} {x6 x7 x8 : Option OV} (hc : cl "_law_cell" [sc, .int (a + k)] S = .ok (.fr (.int c)) S) (hp : cl "_law_part" [.int c, .int 0, .int 10] S = .ok (.fr (.int kd)) S) (h3 : ¬ kd < 3) (h7 : ¬ kd < 7 ∨ os = []) (hd : cl "_law_plain" [.int c] S = .ok (.fr d) S) (l1 : rows.length < lim) :
    execs cl wf l__law_rows_3 (envR sc a m rows os (some (.fr (.int k))) x6 x7 x8) S = .nx (envR sc a m (rows ++ [d]) os (some (.fr (.int k))) x6 (some (.fr (.int c))) (some (.fr (.int kd)))) S := by
  rcases h7 with h7 | h7
  · have h5 : ¬ kd < 5 := by omega
    simp [l__law_rows_3, envR, hc, hp, h3, h5, h7, hd, l1]
  · subst h7
    by_cases h5 : kd < 5
    · have h7 : kd < 7 := by omega
      simp [l__law_rows_3, envR, hc, hp, h3, h5, h7, hd, l1]
    · by_cases h7 : kd < 7
      · simp [l__law_rows_3, envR, hc, hp, h3, h5, h7, hd, l1]
      · simp [l__law_rows_3, envR, hc, hp, h3, h5, h7, hd, l1]
theorem gr_turn {sc : D} {a m k c kd : Int} {rows os : List D} {x6 x7 x8 : Option OV} (g : Gen rows os) (hc : cl "_law_cell" [sc, .int (a + k)] S = .ok (.fr (.int c)) S) (hp : cl "_law_part" [.int c, .int 0, .int 10] S = .ok (.fr (.int kd)) S) (h0 : 0 ≤ kd)
    (hd : ∃ d, cl "_law_plain" [.int c] S = .ok (.fr d) S ∧ IsRow d ∧ (kdD d).opn = false ∧ (kdD d).non = false) (l1 : rows.length < 1000) :
    ∃ d os' y7 y8, execs cl wf l__law_rows_3 (envR sc a m rows os (some (.fr (.int k))) x6 x7 x8) S = .nx (envR sc a m (rows ++ [d]) os' (some (.fr (.int k))) x6 y7 y8) S ∧ Gen (rows ++ [d]) os' := by
  obtain ⟨d, hd, r1, r2, r3⟩ := hd
  have l2 : os.length < lim := by have := g.len; unfold lim; omega
  have l1 : rows.length < lim := by unfold lim; omega
  have oth : (¬ kd < 7 ∨ os = []) → ¬ kd < 3 → ∃ d os' y7 y8, execs cl wf l__law_rows_3 (envR sc a m rows os (some (.fr (.int k))) x6 x7 x8) S = .nx (envR sc a m (rows ++ [d]) os' (some (.fr (.int k))) x6 y7 y8) S ∧ Gen (rows ++ [d]) os' :=
    fun h7 h3 => ⟨d, os, _, _, gr_oth hc hp h3 h7 hd l1, .snoc g (.oth r1 r2 r3)⟩
  by_cases h3 : kd < 3
  · have hm : op2 .mod (.int c) (.int 281474976710656) = some (.int (c % 281474976710656)) := op2_mod (by decide)
    have hw : ∃ w : Str, L2.atI [D.str "if", .str "if", .str "while"] kd = some (.str w) ∧ (w = "if" ∨ w = "while") := by
      obtain ⟨j, rfl⟩ := Int.eq_ofNat_of_zero_le h0
      have hj : j < 3 := by omega
      match j, hj with
      | 0, _ => exact ⟨"if", rfl, .inl rfl⟩
      | 1, _ => exact ⟨"if", rfl, .inl rfl⟩
      | 2, _ => exact ⟨"while", rfl, .inr rfl⟩
    obtain ⟨w, hw, hw2⟩ := hw
    exact ⟨_, _, _, _, gr_opn hc hp h3 hm hw l1 l2, .snoc g (.opn hw2)⟩
  · by_cases h7 : kd < 7
    · by_cases hos : os = []
      · exact oth (.inr hos) h3
      · have e := List.dropLast_concat_getLast hos
        have hs := g.strs
        obtain ⟨s, hl⟩ : ∃ s, os.getLast hos = .str s := by
          have hm := List.getLast_mem hos
          have hm2 : os.getLast hos ∈ ((stk (kds rows) (kds rows).length).map fun p => ldS p.2).reverse := g.ok.2.2 ▸ hm
          obtain ⟨p, _, hp⟩ := List.mem_map.mp (List.mem_reverse.mp hm2)
          rw [← hp]
          cases p.2 <;> exact ⟨_, rfl⟩
        rw [hl] at e
        generalize os.dropLast = o at *
        subst e
        by_cases h5 : kd < 5 ∧ s = "if"
        · obtain ⟨h5, rfl⟩ := h5
          exact ⟨_, _, _, _, gr_els hc hp h3 h5 hs l1, .snoc g .els⟩
        · exact ⟨_, _, _, _, gr_fin hc hp h3 (by by_cases q : kd < 5; exact .inr fun z => h5 ⟨q, z⟩; exact .inl q) h7 hs l1, .snoc g .fin⟩
    · exact oth (.inl h7) h3
theorem gr_loop {sc : D} {a : Nat} {m : Int} {x6 : Option OV} (hc : ∀ k : Nat, k ≤ 1000 → ∃ c : Int, cl "_law_cell" [sc, .int k] S = .ok (.fr (.int c)) S) (hp : ∀ c : Int, cl "_law_part" [.int c, .int 0, .int 10] S = .ok (.fr (.int (ptF c 0 10))) S)
    (hd : ∀ c : Int, ∃ d, cl "_law_plain" [.int c] S = .ok (.fr d) S ∧ IsRow d ∧ (kdD d).opn = false ∧ (kdD d).non = false) (ha : a ≤ 100) : ∀ (n i : Nat) (rows os : List D) (x5 x7 x8 : Option OV), Gen rows os → rows.length = i → i + n ≤ 100 →
    ∃ rows' os' y5 y7 y8, forGo (execs cl wf l__law_rows_3) (.one 5) ((List.range' i n).map fun (k : Nat) => D.int k) (envR sc a m rows os x5 x6 x7 x8) S = .nx (envR sc a m rows' os' y5 x6 y7 y8) S ∧ Gen rows' os' ∧ rows'.length = i + n
  | 0, i, rows, os, x5, x7, x8, g, hi, hn => ⟨rows, os, x5, x7, x8, rfl, g, by omega⟩
  | n + 1, i, rows, os, x5, x7, x8, g, hi, hn => by
    obtain ⟨c, hc1⟩ := hc (a + i) (by omega)
    have hc1 : cl "_law_cell" [sc, .int ((a : Int) + (i : Int))] S = .ok (.fr (.int c)) S := by rw [← Int.natCast_add]; exact hc1
    obtain ⟨d, os', y7, y8, st, g'⟩ := gr_turn (wf := wf) (m := m) (x6 := x6) (x7 := x7) (x8 := x8) g hc1 (hp c) (ptF_lt c 0 (by decide)).1 (hd c) (by omega)
    obtain ⟨r', o', z5, z7, z8, ih, g2, e2⟩ := gr_loop (m := m) (x6 := x6) hc hp hd ha n (i + 1) (rows ++ [d]) os' (some (.fr (.int (i : Nat)))) y7 y8 g' (by simp [hi]) (by omega)
    refine ⟨r', o', z5, z7, z8, ?_, g2, by omega⟩
    rw [List.range'_succ, List.map_cons, forGo_cons]
    have pt : (Tg.one 5).put (.int (i : Nat)) (envR sc a m rows os x5 x6 x7 x8) = some (envR sc a m rows os (some (.fr (.int (i : Nat)))) x6 x7 x8) := rfl
    rw [pt, kForA_some, st, kForB_nx, ih]
theorem ge_loop {e0 e1 e2 e4 x5 x7 x8 : Option OV} : ∀ (os rows : List D) (x6 : Option OV), rows.length + os.length < lim → ∃ y6, forGo (execs cl wf l__law_rows_5) (.one 6) os [e0, e1, e2, some (.ol rows), e4, x5, x6, x7, x8] S = .nx [e0, e1, e2, some (.ol (rows ++ List.replicate os.length (.tup [.str "end"]))), e4, x5, y6, x7, x8] S
  | [], rows, x6, h => ⟨x6, by rw [forGo_nil]; simp⟩
  | o :: os, rows, x6, h => by
    rw [List.length_cons] at h
    obtain ⟨y6, ih⟩ := ge_loop (e0 := e0) (e1 := e1) (e2 := e2) (e4 := e4) (x5 := x5) (x7 := x7) (x8 := x8) os (rows ++ [.tup [.str "end"]]) (some (.fr o)) (by simp; omega)
    refine ⟨y6, ?_⟩
    have hl : rows.length < lim := by omega
    have st : execs cl wf l__law_rows_5 [e0, e1, e2, some (.ol rows), e4, x5, some (.fr o), x7, x8] S = .nx [e0, e1, e2, some (.ol (rows ++ [.tup [.str "end"]])), e4, x5, some (.fr o), x7, x8] S := by simp [l__law_rows_5, hl]
    rw [forGo_cons]
    simp only [Tg.put, List.set_cons_succ, List.set_cons_zero, kForA_some]
    rw [st, kForB_nx, ih, List.append_assoc, List.length_cons, List.replicate_succ]; rfl
theorem rows_core {sc : D} {a many : Nat} (hc : ∀ k : Nat, k ≤ 1000 → ∃ c : Int, cl "_law_cell" [sc, .int k] S = .ok (.fr (.int c)) S) (hp : ∀ c : Int, cl "_law_part" [.int c, .int 0, .int 10] S = .ok (.fr (.int (ptF c 0 10))) S)
    (hd : ∀ c : Int, ∃ d, cl "_law_plain" [.int c] S = .ok (.fr d) S ∧ IsRow d ∧ (kdD d).opn = false ∧ (kdD d).non = false) (ha : a ≤ 100) (hm : many ≤ 100) :
    ∃ rs n, execs cl wf b__law_rows [some (.fr sc), some (.fr (.int (a : Nat))), some (.fr (.int (many : Nat))), none, none, none, none, none, none] S = .rt (.fr (.tup (rs ++ [.tup [.str "back", n]]))) S ∧ Gen rs [] ∧ rs.length ≤ 200 := by
  obtain ⟨rows, os, y5, y7, y8, lp, g, e⟩ := gr_loop (wf := wf) (m := (many : Nat)) (x6 := none) hc hp hd ha many 0 [] [] none none none .nil rfl (by omega)
  rw [← List.range_eq_range'] at lp
  obtain ⟨c, hc⟩ := hc a (by omega)
  have rg := rngO_nat (n := many) (by omega)
  have gl := g.len
  obtain ⟨y6, lp2⟩ := ge_loop (cl := cl) (wf := wf) (S := S) (e0 := some (.fr sc)) (e1 := some (.fr (.int (a : Nat)))) (e2 := some (.fr (.int (many : Nat)))) (e4 := some (.fr (.lst os))) (x5 := y5) (x7 := y7) (x8 := y8) os rows none (by unfold lim; omega)
  have hm : op2 .mod (.int c) (.int 281474976710656) = some (.int (c % 281474976710656)) := op2_mod (by decide)
  refine ⟨rows ++ List.replicate os.length (.tup [.str "end"]), .int (c % 281474976710656), ?_, g.fins, by simp; omega⟩
  clear hp hd
  simp only [envR] at lp
  have l5 : (rows ++ List.replicate os.length (D.tup [.str "end"])).length < lim := by simp; unfold lim; omega
  generalize (List.range many).map (fun (k : Nat) => D.int k) = L at *
  generalize rows ++ List.replicate os.length (D.tup [.str "end"]) = R2 at *
  generalize c % 281474976710656 = v at *
  generalize (a : Int) = ai at *
  generalize (many : Int) = mi at *
  have x3 : exec cl wf s__law_rows_3 [some (.fr sc), some (.fr (.int ai)), some (.fr (.int mi)), some (.ol []), some (.ol []), none, none, none, none] S = .nx [some (.fr sc), some (.fr (.int ai)), some (.fr (.int mi)), some (.ol rows), some (.ol os), y5, none, y7, y8] S := by
    simp [s__law_rows_3, rg, lp]
  have x4 : exec cl wf s__law_rows_4 [some (.fr sc), some (.fr (.int ai)), some (.fr (.int mi)), some (.ol rows), some (.fr (.lst os)), y5, none, y7, y8] S = .nx [some (.fr sc), some (.fr (.int ai)), some (.fr (.int mi)), some (.ol R2), some (.fr (.lst os)), y5, y6, y7, y8] S := by
    simp [s__law_rows_4, wlkD, seqD, lp2]
  have x5 : exec cl wf s__law_rows_5 [some (.fr sc), some (.fr (.int ai)), some (.fr (.int mi)), some (.ol R2), some (.fr (.lst os)), y5, y6, y7, y8] S = .nx [some (.fr sc), some (.fr (.int ai)), some (.fr (.int mi)), some (.ol (R2 ++ [.tup [.str "back", .int v]])), some (.fr (.lst os)), y5, y6, y7, y8] S := by
    simp [s__law_rows_5, hc, pow48, hm, l5, - op2_mod]
  simp [b__law_rows, s__law_rows_1, s__law_rows_2, x3, exec_frz, frzR, need, x4, x5, s__law_rows_6]
end
end K13
namespace K13
open Sg
open PySem (Str)
variable {wf : Nat} {S : Sto}
theorem gen_opns {n : D} : ∀ {ws : List Str} {a os : List D}, (∀ w ∈ ws, w = "if" ∨ w = "while") → Gen a os → Gen (a ++ ws.map fun w => D.tup [.str w, n]) (os ++ ws.map D.str)
  | [], a, os, _, g => by simpa using g
  | w :: ws, a, os, h, g => by
    have := gen_opns (n := n) (ws := ws) (fun x hx => h x (List.mem_cons_of_mem _ hx)) (.snoc g (.opn (n := n) (h w (List.mem_cons_self ..))))
    simpa using this
section
variable {cl : Str → List D → Sto → Res} {sc : D} {c : Int}
def E9 (sc : D) (c : Int) (x2 x3 x4 x5 x6 x7 : Option OV) : Env1 := [some (.fr sc), some (.fr (.int c)), x2, x3, x4, x5, x6, x7, none]
theorem law_4 (hc : ∀ k : Nat, k ≤ 1000 → ∃ c : Int, cl "_law_cell" [sc, .int k] S = .ok (.fr (.int c)) S) (hp : ∀ (c m : Int) (j : Nat), 0 < m → j ≤ 1000 → cl "_law_part" [.int c, .int j, .int m] S = .ok (.fr (.int (ptF c j m))) S)
    (hd : ∀ c : Int, ∃ d, cl "_law_plain" [.int c] S = .ok (.fr d) S ∧ IsRow d ∧ (kdD d).opn = false ∧ (kdD d).non = false) {m0 : Nat} (hm0 : m0 ≤ 20) :
    ∃ (m : Nat) (bef : List D), m ≤ 20 ∧ bef.length ≤ 18 ∧ (∀ d ∈ bef, IsRow d ∧ (kdD d).opn = false ∧ (kdD d).non = false) ∧ exec cl wf s_law_4 (E9 sc c (some (.fr (.int (m0 : Nat)))) (some (.fr (.lst []))) none none none none) S = .nx (E9 sc c (some (.fr (.int (m : Nat)))) (some (.fr (.lst bef))) none none none none) S := by
  have p0 := hp c 8 0 (by decide) (by decide)
  have p0 : cl "_law_part" [.int c, .int 0, .int 8] S = _ := p0
  by_cases h : ptF c 0 8 = 1
  · rw [h] at p0
    obtain ⟨m, e1, hm⟩ := ptF_nat c 1 (show 0 < 21 by decide)
    obtain ⟨b, e2, hb⟩ := ptF_nat c 2 (show 0 < 19 by decide)
    have p1 : cl "_law_part" [.int c, .int 1, .int 21] S = .ok (.fr (.int (m : Nat))) S := by rw [← e1]; exact hp c 21 1 (by decide) (by decide)
    have p2 : cl "_law_part" [.int c, .int 2, .int 19] S = .ok (.fr (.int (b : Nat))) S := by rw [← e2]; exact hp c 19 2 (by decide) (by decide)
    have rg := rngO_nat (n := b) (by omega)
    have key : ∀ k : Nat, k ≤ 100 → ∃ d cc, cl "_law_cell" [sc, .int (3 + (k : Int))] S = .ok (.fr (.int cc)) S ∧ cl "_law_plain" [.int cc] S = .ok (.fr d) S ∧ IsRow d ∧ (kdD d).opn = false ∧ (kdD d).non = false := fun k hk => by
      obtain ⟨cc, h1⟩ := hc (3 + k) (by omega)
      obtain ⟨d, h2, h3⟩ := hd cc
      exact ⟨d, cc, by rw [show (3 + (k : Int)) = ((3 + k : Nat) : Int) by omega]; exact h1, h2, h3⟩
    obtain ⟨f, hf⟩ : ∃ f : Nat → D, ∀ k : Nat, k ≤ 100 → ∃ cc, cl "_law_cell" [sc, .int (3 + (k : Int))] S = .ok (.fr (.int cc)) S ∧ cl "_law_plain" [.int cc] S = .ok (.fr (f k)) S ∧ IsRow (f k) ∧ (kdD (f k)).opn = false ∧ (kdD (f k)).non = false :=
      ⟨fun k => if h : k ≤ 100 then (key k h).choose else .non, fun k hk => by
        have := (key k hk).choose_spec
        dsimp only
        rw [dif_pos hk]; exact this⟩
    have lc : lcGo (ev cl (.bl true)) (ev cl (.call "_law_plain" (.cons (.call "_law_cell" (.cons (.var 0) (.cons (.op .add (.int 3) (.var 8)) .nil))) .nil))) true (.one 8) (wipeR (E9 sc c (some (.fr (.int (m : Nat)))) (some (.fr (.lst []))) none none none none) [8]) ((List.range b).map fun (k : Nat) => D.int k) [] S = .ok ((List.range b).map f) S := by
      refine lcGo_map (td := fun (k : Nat) => D.int k) (h := f) (List.range b) (fun k hk => ?_) (by simp; unfold lim; omega)
      have hk := List.mem_range.mp hk
      obtain ⟨cc, h1, h2, _⟩ := hf k (by omega)
      refine ⟨[some (.fr sc), some (.fr (.int c)), some (.fr (.int (m : Nat))), some (.fr (.lst [])), none, none, none, none, some (.fr (.int k))], rfl, rfl, .fr (f k), ?_, rfl⟩
      generalize f k = fk at *
      simp [h1, h2]
    refine ⟨m, (List.range b).map f, by omega, by simp; omega, fun d hd => ?_, ?_⟩
    · obtain ⟨k, hk, rfl⟩ := List.mem_map.mp hd
      have hk := List.mem_range.mp hk
      obtain ⟨_, _, _, h3⟩ := hf k (by omega)
      exact h3
    · clear hc hp hd key hf
      generalize (List.range b).map f = L at *
      simp only [E9] at lc ⊢
      simp [s_law_4, p0, p1, p2, rg, lc]
  · refine ⟨m0, [], hm0, by simp, nofun, ?_⟩
    clear hc hp hd
    simp only [E9]
    simp [s_law_4, p0, h]
theorem law_5 {m : Nat} {bef rows : List D} (h : cl "_law_rows" [sc, .int 2, .int (m : Nat)] S = .ok (.fr (.tup rows)) S) (hl : bef.length + rows.length ≤ lim) :
    exec cl wf s_law_5 (E9 sc c (some (.fr (.int (m : Nat)))) (some (.fr (.lst bef))) none none none none) S = .nx (E9 sc c (some (.fr (.int (m : Nat)))) (some (.fr (.lst bef))) (some (.fr (.tup (bef ++ rows)))) none none none) S := by
  have ad : op2 .add (.tup bef) (.tup rows) = some (.tup (bef ++ rows)) := by
    show (if bef.length + rows.length ≤ lim then some (D.tup (bef ++ rows)) else none) = _
    rw [if_pos hl]
  simp only [E9]
  simp [s_law_5, h, ad]
theorem law_6 (hp : ∀ (c m : Int) (j : Nat), 0 < m → j ≤ 1000 → cl "_law_part" [.int c, .int j, .int m] S = .ok (.fr (.int (ptF c j m))) S) {x2 x3 : Option OV} {R : List D} :
    ∃ (R' : List D) (x7 : Option OV), (R' = R ∨ ∃ rs n, R' = rs ++ [.tup [.str "back", n]] ∧ Gen rs [] ∧ rs.length ≤ 200) ∧ exec cl wf s_law_6 (E9 sc c x2 x3 (some (.fr (.tup R))) none none none) S = .nx (E9 sc c x2 x3 (some (.fr (.tup R'))) none none x7) S := by
  have p0 : cl "_law_part" [.int c, .int 3, .int 16] S = _ := hp c 16 3 (by decide) (by decide)
  by_cases h : ptF c 3 16 = 1
  · rw [h] at p0
    obtain ⟨b, e2, hb⟩ := ptF_nat c 4 (show 0 < 29 by decide)
    have p2 : cl "_law_part" [.int c, .int 4, .int 29] S = .ok (.fr (.int (b : Nat))) S := by rw [← e2]; exact hp c 29 4 (by decide) (by decide)
    let f : Nat → Str := fun k => if ptF (c + 31 * (k : Int)) 5 2 = 0 then "if" else "while"
    have fw : ∀ k, f k = "if" ∨ f k = "while" := fun k => by
      show (if _ then _ else _) = _ ∨ (if _ then _ else _) = _
      split
      · exact .inl rfl
      · exact .inr rfl
    have rg := rngO_nat (n := 1 + b) (by omega)
    have lc : ∀ x4, lcGo (ev cl (.bl true)) (ev cl (.tup (.cons (.idx (.lst (.cons (.str "if") (.cons (.str "while") .nil))) (.call "_law_part" (.cons (.op .add (.var 1) (.op .mul (.int 31) (.var 8))) (.cons (.int 5) (.cons (.int 2) .nil))))) (.cons (.int 7) .nil)))) false (.one 8) (wipeR [some (.fr sc), some (.fr (.int c)), x2, x3, x4, none, none, some (.fr (.int (1 + b : Nat))), none] [8]) ((List.range (1 + b)).map fun (k : Nat) => D.int k) [] S = .ok ((List.range (1 + b)).map fun k => D.tup [.str (f k), .int 7]) S := fun x4 => by
      refine lcGo_map (td := fun (k : Nat) => D.int k) (h := fun k => D.tup [.str (f k), .int 7]) (List.range (1 + b)) (fun k hk => ?_) (by simp; unfold lim; omega)
      refine ⟨[some (.fr sc), some (.fr (.int c)), x2, x3, x4, none, none, some (.fr (.int (1 + b : Nat))), some (.fr (.int k))], rfl, rfl, .fr (D.tup [.str (f k), .int 7]), ?_, rfl⟩
      have pk : cl "_law_part" [.int (c + 31 * (k : Int)), .int 5, .int 2] S = _ := hp (c + 31 * (k : Int)) 2 5 (by decide) (by decide)
      have m1 : op2 .mul (.int 31) (.int (k : Int)) = some (.int (31 * (k : Int))) := op2_mul_l ⟨by decide, by decide⟩
      have at_ : L2.atI [D.str "if", .str "while"] (ptF (c + 31 * (k : Int)) 5 2) = some (.str (f k)) := by
        obtain ⟨j, e, hj⟩ := ptF_nat (c + 31 * (k : Int)) 5 (show 0 < 2 by decide)
        have e : ptF (c + 31 * (k : Int)) 5 2 = (j : Int) := e
        show L2.atI _ _ = some (D.str (if ptF (c + 31 * (k : Int)) 5 2 = 0 then ("if" : Str) else "while"))
        rw [e]
        match j, hj with
        | 0, _ => rfl
        | 1, _ => rfl
      generalize f k = fk at *
      generalize ptF (c + 31 * (k : Int)) 5 2 = pt at *
      generalize 31 * (k : Int) = kk at *
      simp [m1, pk, at_, - op2_mul_l, - op2_mul_r]
    have em : (List.range (1 + b)).map (fun k => D.tup [.str (f k), .int 7]) = ((List.range (1 + b)).map f).map fun w => D.tup [.str w, .int 7] := by rw [List.map_map]; rfl
    have g := gen_opns (n := .int 7) (ws := (List.range (1 + b)).map f) (fun w hw => by
      obtain ⟨k, _, rfl⟩ := List.mem_map.mp hw
      exact fw k) .nil
    have g2 := g.fins
    simp only [List.nil_append, List.length_map, List.length_range] at g2
    rw [← em] at g2
    refine ⟨((List.range (1 + b)).map fun k => D.tup [.str (f k), .int 7]) ++ List.replicate (1 + b) (.tup [.str "end"]) ++ [.tup [.str "back", .int 0]], some (.fr (.int (1 + b : Nat))), .inr ⟨_, _, rfl, g2, by simp; omega⟩, ?_⟩
    have lL : ((List.range (1 + b)).map fun k => D.tup [.str (f k), .int 7]).length = 1 + b := by simp
    clear hp g g2 em fw
    generalize hL : (List.range (1 + b)).map (fun k => D.tup [.str (f k), .int 7]) = L at *
    clear hL
    have e1 : (1 : Int) + (b : Nat) = ((1 + b : Nat) : Int) := by omega
    have fl : ∀ n : Nat, (List.replicate n [D.tup [.str "end"]]).flatten = List.replicate n (D.tup [.str "end"]) := fun n => by
      induction n with
      | zero => rfl
      | succ n ih => rw [List.replicate_succ, List.replicate_succ, List.flatten_cons, ih]; rfl
    have rp : repO [.tup [.str "end"]] (.fr (.int ((1 + b : Nat) : Int))) = some (.ol (List.replicate (1 + b) (.tup [.str "end"]))) := by
      have cnd : (decide (-1000 ≤ ((1 + b : Nat) : Int)) && decide (((1 + b : Nat) : Int) ≤ 1000) && decide ([D.tup [.str "end"]].length ≤ 1000)) = true := by
        rw [decide_eq_true (show -1000 ≤ ((1 + b : Nat) : Int) by omega), decide_eq_true (show ((1 + b : Nat) : Int) ≤ 1000 by omega)]; rfl
      unfold repO
      dsimp only
      rw [if_pos cnd, Int.toNat_natCast]
      rw [fl]
    have a1 : op2 .add (.lst L) (.lst (List.replicate (1 + b) (.tup [.str "end"]))) = some (.lst (L ++ List.replicate (1 + b) (.tup [.str "end"]))) := by
      show (if _ ≤ lim then _ else none) = _
      rw [if_pos (by simp [lL]; unfold lim; omega)]
    have a2 : op2 .add (.lst (L ++ List.replicate (1 + b) (.tup [.str "end"]))) (.lst [.tup [.str "back", .int 0]]) = some (.lst (L ++ List.replicate (1 + b) (.tup [.str "end"]) ++ [.tup [.str "back", .int 0]])) := by
      show (if _ ≤ lim then _ else none) = _
      rw [if_pos (by simp [lL]; unfold lim; omega)]
    generalize List.replicate (1 + b) (D.tup [.str "end"]) = E at *
    generalize ((1 + b : Nat) : Int) = bi at *
    have lc := lc (some (.fr (.tup R)))
    simp only [E9]
    simp [s_law_6, p0, p2, e1, rg, lc, rp, a1, a2]
  · refine ⟨R, none, .inl rfl, ?_⟩
    clear hp
    simp only [E9]
    simp [s_law_6, p0, h]
theorem law_rest {R O : List D} {x2 x3 x7 : Option OV} (hS : S.cells.isEmpty = true) (h7 : ∃ o : Int, cl "_law_cell" [sc, .int 1] S = .ok (.fr (.int o)) S ∧ cl "_law_rows" [sc, .int 33, .int (o % 8)] S = .ok (.fr (.tup O)) S)
    (w1 : cl "ways" [.tup R] S = .ok (.ol (wysD R)) S) (w2 : cl "ways" [.tup O] S = .ok (.ol (wysD O)) S) (r1 : cl "_law_right" [.lst (wysD R), .tup R] S = .ok (.fr (.bl true)) S) (r2 : cl "_law_right" [.lst (wysD O), .tup O] S = .ok (.fr (.bl true)) S) :
    execs cl wf (.cons (s_law_7) (.cons (s_law_8) (.cons (s_law_9) (.cons (s_law_10) (.cons (s_law_11) (.cons (s_law_12) .nil)))))) (E9 sc c x2 x3 (some (.fr (.tup R))) none none x7) S = .rt (.fr (.bl true)) S := by
  obtain ⟨o, h7, h8⟩ := h7
  generalize wysD R = wr at *
  generalize wysD O = wo at *
  simp only [E9]
  have x7 : exec cl wf s_law_7 [some (.fr sc), some (.fr (.int c)), x2, x3, some (.fr (.tup R)), none, none, x7, none] S = .nx [some (.fr sc), some (.fr (.int c)), x2, x3, some (.fr (.tup R)), some (.fr (.tup O)), none, x7, none] S := by
    simp [s_law_7, h7, h8]
  have x9 : exec cl wf s_law_9 [some (.fr sc), some (.fr (.int c)), x2, x3, some (.fr (.tup R)), some (.fr (.tup O)), some (.ol wr), ‹Option OV›, none] S = .nx [some (.fr sc), some (.fr (.int c)), x2, x3, some (.fr (.tup R)), some (.fr (.tup O)), some (.ol wr), ‹Option OV›, none] S := by
    simp [s_law_9, r1, r2, w2, hS, frzR, need]
  have x10 : exec cl wf s_law_10 [some (.fr sc), some (.fr (.int c)), x2, x3, some (.fr (.tup R)), some (.fr (.tup O)), some (.ol wr), ‹Option OV›, none] S = .nx [some (.fr sc), some (.fr (.int c)), x2, x3, some (.fr (.tup R)), some (.fr (.tup O)), some (.ol wr), ‹Option OV›, none] S := by
    simp [s_law_10, r1, hS, frzR, need]
  simp [x7, s_law_8, w1, x9, x10, s_law_11, s_law_12, r1]
end
theorem rows_ok {n a many : Nat} (hf : 1001 < wf) (ns : List Int) (ha : a ≤ 100) (hm : many ≤ 100) : ∃ rs b, Sg.run G wf (n + 3) "_law_rows" [.lst (ns.map D.int), .int (a : Nat), .int (many : Nat)] S = .ok (.fr (.tup (rs ++ [.tup [.str "back", b]]))) S ∧ Gen rs [] ∧ rs.length ≤ 200 := by
  obtain ⟨rs, b, e, g⟩ := rows_core (cl := Sg.run G wf (n + 2)) (wf := wf) (S := S) (sc := .lst (ns.map D.int)) (fun k hk => cell_ok (n := n + 1) hk ns) (fun c => part_ok (n := n + 1) (j := 0) (by decide) (by decide)) (fun c => plain_ok (n := n) c) ha hm
  refine ⟨rs, b, ?_, g⟩
  rw [run_succ g__law_rows rfl]
  simp only [startR, List.map_cons, List.map_nil, Nat.reduceSub, List.replicate, List.cons_append, List.nil_append, e]
  rfl
theorem law_ok (ns : List Int) : ∃ S', Sg.run G 2000 20 "law" [.lst (ns.map D.int)] Sto.emp = .ok (.fr (.bl true)) S' := by
  refine ⟨Sto.emp, ?_⟩
  have hS : Sto.emp.cells.isEmpty = true := rfl
  generalize Sto.emp = S at *
  obtain ⟨c, hc0⟩ := cell_ok (wf := 2000) (S := S) (n := 18) (k := 0) (by decide) ns
  have hc0 : Sg.run G 2000 19 "_law_cell" [.lst (ns.map D.int), .int 0] S = .ok (.fr (.int c)) S := hc0
  have hc : ∀ k : Nat, k ≤ 1000 → ∃ c : Int, Sg.run G 2000 19 "_law_cell" [.lst (ns.map D.int), .int k] S = .ok (.fr (.int c)) S := fun k hk => cell_ok (n := 18) hk ns
  have hp : ∀ (c m : Int) (j : Nat), 0 < m → j ≤ 1000 → Sg.run G 2000 19 "_law_part" [.int c, .int j, .int m] S = .ok (.fr (.int (ptF c j m))) S := fun c m j hm hj => part_ok (n := 18) hm hj
  have hd : ∀ c : Int, ∃ d, Sg.run G 2000 19 "_law_plain" [.int c] S = .ok (.fr d) S ∧ IsRow d ∧ (kdD d).opn = false ∧ (kdD d).non = false := fun c => plain_ok (n := 17) c
  obtain ⟨m0, e0, hm0⟩ : ∃ m0 : Nat, c % 10 = (m0 : Int) ∧ m0 ≤ 20 := ⟨(c % 10).toNat, by omega, by omega⟩
  obtain ⟨m, bef, hm, hb, hbo, x4⟩ := law_4 (wf := 2000) (c := c) hc hp hd hm0
  obtain ⟨rs, n, er, g, hl⟩ := rows_ok (wf := 2000) (S := S) (n := 16) (a := 2) (many := m) (by decide) ns (by decide) (by omega)
  have er : Sg.run G 2000 19 "_law_rows" [.lst (ns.map D.int), .int 2, .int (m : Nat)] S = _ := er
  have x5 := law_5 (cl := Sg.run G 2000 19) (wf := 2000) (c := c) (bef := bef) er (by simp; unfold lim; omega)
  obtain ⟨R, x7, hR, x6⟩ := law_6 (wf := 2000) (sc := .lst (ns.map D.int)) (c := c) (x2 := some (.fr (.int (m : Nat)))) (x3 := some (.fr (.lst bef))) (R := bef ++ (rs ++ [.tup [.str "back", n]])) hp
  have fin : (∀ d ∈ R, IsRow d) ∧ Wf (kds R) ∧ R.length ≤ 1000 := by
    rcases hR with rfl | ⟨rs2, n2, rfl, g2, hl2⟩
    · have gb : Gen bef [] := by
        have := Gen.oths .nil hbo
        rwa [List.nil_append] at this
      obtain ⟨g1, w1⟩ := Gen.wfEnd (n := n) gb g
      exact ⟨g1.rows, w1, by simp; omega⟩
    · obtain ⟨g1, w1⟩ := g2.back (n := n2)
      exact ⟨g1.rows, w1, by simp; omega⟩
  obtain ⟨f1, f2, f3⟩ := fin
  obtain ⟨o, ho⟩ := hc 1 (by decide)
  obtain ⟨m2, e2, hm2⟩ : ∃ m2 : Nat, o % 8 = (m2 : Int) ∧ m2 ≤ 20 := ⟨(o % 8).toNat, by omega, by omega⟩
  obtain ⟨rs2, n2, er2, g2, hl2⟩ := rows_ok (wf := 2000) (S := S) (n := 16) (a := 33) (many := m2) (by decide) ns (by decide) (by omega)
  obtain ⟨g3, w3⟩ := g2.back (n := n2)
  have l3 : (rs2 ++ [D.tup [.str "back", n2]]).length ≤ 1000 := by simp; omega
  have xr := law_rest (cl := Sg.run G 2000 19) (wf := 2000) (S := S) (sc := .lst (ns.map D.int)) (c := c) (R := R) (O := rs2 ++ [.tup [.str "back", n2]]) (x2 := some (.fr (.int (m : Nat)))) (x3 := some (.fr (.lst bef))) (x7 := x7) hS ⟨o, ho, by rw [e2]; exact er2⟩
    (ways_ok (n := 17) f1 f2 f3 (by decide)) (ways_ok (n := 17) g3.rows w3 l3 (by decide)) (right_ok (n := 15) f1 f2 f3 (by decide)) (right_ok (n := 15) g3.rows w3 l3 (by decide))
  have md : op2 .mod (.int c) (.int 10) = some (.int (m0 : Nat)) := by rw [← e0]; exact op2_mod (by decide)
  rw [run_succ g_law rfl]
  generalize Sg.run G 2000 19 = cl at *
  generalize D.lst (ns.map D.int) = sc at *
  have x1 : exec cl 2000 s_law_1 [some (.fr sc), none, none, none, none, none, none, none, none] S = .nx [some (.fr sc), some (.fr (.int c)), none, none, none, none, none, none, none] S := by simp [s_law_1, hc0]
  have x2 : exec cl 2000 s_law_2 [some (.fr sc), some (.fr (.int c)), none, none, none, none, none, none, none] S = .nx [some (.fr sc), some (.fr (.int c)), some (.fr (.int (m0 : Nat))), none, none, none, none, none, none] S := by simp [s_law_2, md, - op2_mod]
  have x3 : exec cl 2000 s_law_3 [some (.fr sc), some (.fr (.int c)), some (.fr (.int (m0 : Nat))), none, none, none, none, none, none] S = .nx (E9 sc c (some (.fr (.int (m0 : Nat)))) (some (.fr (.lst []))) none none none none) S := by simp [s_law_3, E9]
  have fin2 : execs cl 2000 b_law [some (.fr sc), none, none, none, none, none, none, none, none] S = .rt (.fr (.bl true)) S := by
    simp only [b_law, execs_cons, x1, x2, x3, x4, x5, x6, kSeq_nx]
    simp only [execs_cons] at xr
    exact xr
  simp only [startR, List.map_cons, List.map_nil, Nat.reduceSub, List.replicate, List.cons_append, List.nil_append, fin2]
  rfl
theorem final : PySem.Challenge.rw_stopglass_k13_ways_of_rows.Holds := ends 2000 20 (by decide) fun ns _ => law_ok ns
end K13
theorem PySem.Challenge.cw_stopglass_k13_ways_of_rows_holds : PySem.Challenge.rw_stopglass_k13_ways_of_rows.Holds :=
  K13.final
