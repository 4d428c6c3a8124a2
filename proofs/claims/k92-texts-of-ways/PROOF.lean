import PyProof.Rows.All
import HandS.ForMost
import HandS.ForExc
import HandS.TupAny
import HandS.TupMul
import HandS.IsInst
import HandS.Deep
import HandS.Wide
import HandS.Style
import KE.DataCmp
import PyProof.StrBlock2
import HandS.RaiseMore
import HandS.Text
import KE.SortCalls
import HandS.Conv
import HandS.More
import HandS.Small
import HandS.SetKeys
import HandS.Strs
import HandS.ForSpec
import Open.SpecLaws
import KE.OsGo
import HandS.FStr
import KE.IntTextLaws
import PySem.Challenge.RW_letterways_k92_whole_texts_of_ways_and_t
import PyProof.Rows.StrDigitsNeg
import KE.IntBitsLaws
set_option Elab.async false
set_option linter.all false
set_option maxRecDepth 100000
set_option maxHeartbeats 2000000
namespace Z
open PySem PySem.Spec PyProof.Rows L2

/-- how a tuple stands: made and tracked; of the written part; made and known to its object -/
inductive TK where
  | t | s | k
  deriving DecidableEq, Inhabited
/-- data: tuples and frozen lists and dicts by their content, mutable things by their address -/
inductive D where
  | non
  | bl (b : Bool)
  | int (i : Int)
  | str (x : Str)
  | ref (a : Addr)
  | tp (k : TK) (ds : List D)
  | lst (ds : List D)
  | flst (ds : List D)
  | dK (ks : List Key) (ds : List D)
  | dT (ks : List (List Key)) (ds : List D)
  deriving Inhabited
abbrev D.tup (ds : List D) : D := .tp .t ds
/-- a mutable thing -/
inductive MO where
  | lst (ds : List D)
  | dK (kvs : List (Key × D))
  | dT (kvs : List (List Key × D))
  | ins (C : Addr) (fs : List (Str × D))
abbrev MH := Addr → Option MO
def up (M : MH) (a : Addr) (o : MO) : MH := fun b => if b = a then some o else M b
def er (M : MH) (a : Addr) : MH := fun b => if b = a then none else M b
@[simp] theorem up_same {M : MH} {a : Addr} {o : MO} : up M a o a = some o := by unfold up; rw [if_pos rfl]
theorem up_ne {M : MH} {a b : Addr} {o : MO} (h : b ≠ a) : up M a o b = M b := by unfold up; rw [if_neg h]
@[simp] theorem up_up {M : MH} {a : Addr} {o u : MO} : up (up M a o) a u = up M a u := by
  funext b; unfold up; split <;> rfl
theorem er_up {M : MH} {a : Addr} {o : MO} (h : M a = none) : er (up M a o) a = M := by
  funext b; unfold er up
  by_cases e : b = a
  · rw [if_pos e, e, h]
  · rw [if_neg e, if_neg e]

section
variable (K : PySem.W.Frag)
/-- a tuple, a list of the written part -/
def StT (a : Addr) (xs : List V) : Prop :=
  ∃ (o : Obj) (its : Array Value) (n : Nat), K.lookup a = some o ∧ o.cls = .type "tuple" ∧ o.data = .seq its n ∧ its.size ≤ sizeLine ∧ Vals xs its.toList
def TupR (M : MH) (H : Hp) (a : Addr) (vs : List V) : TK → Prop
  | .t => M a = none ∧ H a = some (.tup vs)
  | .s => StT K a vs
  | .k => ∃ o, M a = none ∧ H a = some (.frz o (.tup vs)) ∧ o.dict = none
/-- a list that stays: the script's, or one of the written part -/
def FlR (M : MH) (H : Hp) (a : Addr) (vs : List V) : Prop :=
  (∃ o, M a = none ∧ H a = some (.frz o (.lst vs))) ∨
    ∃ (o : Obj) (its : Array Value) (n : Nat), K.lookup a = some o ∧ o.cls = .type "list" ∧ o.dict = none ∧ o.data = .seq its n ∧ its.size ≤ sizeLine ∧ Vals vs its.toList
mutual
def Rp (M : MH) (H : Hp) : D → V → Prop
  | .non, v => v = .non
  | .bl b, v => v = .bl b
  | .int i, v => v = .int i
  | .str x, v => v = .str x
  | .ref a, v => v = .ref a
  | .tp k ds, v => ∃ a vs, v = .ref a ∧ TupR K M H a vs k ∧ RpL M H ds vs
  | .lst ds, v => ∃ a vs, v = .ref a ∧ M a = none ∧ H a = some (.lst vs) ∧ RpL M H ds vs
  | .flst ds, v => ∃ a vs, v = .ref a ∧ FlR K M H a vs ∧ RpL M H ds vs
  | .dK ks ds, v => ∃ a vs, v = .ref a ∧ M a = none ∧ Rd H a (.dK (ks.zip vs)) ∧ ks.length = ds.length ∧ RpL M H ds vs
  | .dT ks ds, v => ∃ a vs, v = .ref a ∧ M a = none ∧ Rd H a (.dT (ks.zip vs)) ∧ ks.length = ds.length ∧ RpL M H ds vs
def RpL (M : MH) (H : Hp) : List D → List V → Prop
  | [], vs => vs = []
  | d :: ds, vs => ∃ v r, vs = v :: r ∧ Rp M H d v ∧ RpL M H ds r
end
/-- nothing that stands unmarked is touched -/
def Ev (M : MH) (H : Hp) (M' : MH) (H' : Hp) : Prop := ∀ a o, H a = some o → M a = none → H' a = some o ∧ M' a = none
theorem Ev.refl (M : MH) (H : Hp) : Ev M H M H := fun _ _ h m => ⟨h, m⟩
theorem Ev.trans {M M1 M2 : MH} {H H1 H2 : Hp} (a : Ev M H M1 H1) (b : Ev M1 H1 M2 H2) : Ev M H M2 H2 := fun c o h m =>
  let ⟨h1, m1⟩ := a c o h m
  b c o h1 m1
variable {K}
theorem TupR.ev {M M' : MH} {H H' : Hp} (e : Ev M H M' H') {a : Addr} {vs : List V} {k : TK} (r : TupR K M H a vs k) : TupR K M' H' a vs k := by
  cases k with
  | t =>
    obtain ⟨g1, g2⟩ := e a _ r.2 r.1
    exact ⟨g2, g1⟩
  | s => exact r
  | k =>
    obtain ⟨o, h1, h2, h3⟩ := r
    obtain ⟨g1, g2⟩ := e a _ h2 h1
    exact ⟨o, g2, g1, h3⟩
theorem FlR.ev {M M' : MH} {H H' : Hp} (e : Ev M H M' H') {a : Addr} {vs : List V} (r : FlR K M H a vs) : FlR K M' H' a vs := by
  rcases r with ⟨o, h1, h2⟩ | r
  · obtain ⟨g1, g2⟩ := e a _ h2 h1
    exact .inl ⟨o, g2, g1⟩
  · exact .inr r
theorem FlR.sq {M : MH} {H : Hp} {a : Addr} {vs : List V} (r : FlR K M H a vs) : SqL K H a vs := by
  rcases r with ⟨o, h1, h2⟩ | r
  · exact .inl (.inr ⟨o, h2⟩)
  · exact .inr r
theorem TupR.sq {M : MH} {H : Hp} {a : Addr} {vs : List V} {k : TK} (r : TupR K M H a vs k) : SqT K H a vs := by
  cases k with
  | t => exact .inl (.inl r.2)
  | s => exact .inr r
  | k =>
    obtain ⟨o, h1, h2, h3⟩ := r
    exact .inl (.inr ⟨o, h2⟩)
theorem Rd.ev {M M' : MH} {H H' : Hp} (e : Ev M H M' H') {a : Addr} {u : HO} (m : M a = none) (r : Rd H a u) : Rd H' a u ∧ M' a = none := by
  rcases r with h | ⟨o, h⟩
  · obtain ⟨g1, g2⟩ := e a _ h m
    exact ⟨.inl g1, g2⟩
  · obtain ⟨g1, g2⟩ := e a _ h m
    exact ⟨.inr ⟨o, g1⟩, g2⟩
mutual
theorem Rp.ev {M M' : MH} {H H' : Hp} (e : Ev M H M' H') : ∀ (d : D) (v : V), Rp K M H d v → Rp K M' H' d v
  | .non, _, h => h
  | .bl _, _, h => h
  | .int _, _, h => h
  | .str _, _, h => h
  | .ref _, _, h => h
  | .tp k ds, v, h => by
    obtain ⟨a, vs, h1, h2, h3⟩ := h
    exact ⟨a, vs, h1, h2.ev e, RpL.ev e ds vs h3⟩
  | .lst ds, v, h => by
    obtain ⟨a, vs, h1, h2, h3, h4⟩ := h
    obtain ⟨g1, g2⟩ := e a _ h3 h2
    exact ⟨a, vs, h1, g2, g1, RpL.ev e ds vs h4⟩
  | .flst ds, v, h => by
    obtain ⟨a, vs, h1, h2, h3⟩ := h
    exact ⟨a, vs, h1, h2.ev e, RpL.ev e ds vs h3⟩
  | .dK ks ds, v, h => by
    obtain ⟨a, vs, h1, h2, h3, h4, h5⟩ := h
    obtain ⟨g1, g2⟩ := Rd.ev e h2 h3
    exact ⟨a, vs, h1, g2, g1, h4, RpL.ev e ds vs h5⟩
  | .dT ks ds, v, h => by
    obtain ⟨a, vs, h1, h2, h3, h4, h5⟩ := h
    obtain ⟨g1, g2⟩ := Rd.ev e h2 h3
    exact ⟨a, vs, h1, g2, g1, h4, RpL.ev e ds vs h5⟩
theorem RpL.ev {M M' : MH} {H H' : Hp} (e : Ev M H M' H') : ∀ (ds : List D) (vs : List V), RpL K M H ds vs → RpL K M' H' ds vs
  | [], _, h => h
  | d :: ds, vs, h => by
    obtain ⟨v, r, h1, h2, h3⟩ := h
    exact ⟨v, r, h1, Rp.ev e d v h2, RpL.ev e ds r h3⟩
end
theorem RpL.length {M : MH} {H : Hp} : ∀ {ds : List D} {vs : List V}, RpL K M H ds vs → vs.length = ds.length
  | [], _, h => by
    have h : _ = [] := h
    subst h; rfl
  | d :: ds, vs, h => by
    obtain ⟨v, r, h1, h2, h3⟩ := h
    subst h1
    simp only [List.length_cons, RpL.length h3]
theorem RpL.get {M : MH} {H : Hp} : ∀ {ds : List D} {vs : List V} {i : Nat} {d : D}, RpL K M H ds vs → ds[i]? = some d → ∃ v, vs[i]? = some v ∧ Rp K M H d v
  | [], _, _, _, _, e => by simp at e
  | d :: ds, vs, 0, d', h, e => by
    obtain ⟨v, r, h1, h2, h3⟩ := h
    subst h1
    have e' : d = d' := by simpa using e
    subst e'
    exact ⟨v, rfl, h2⟩
  | d :: ds, vs, i + 1, d', h, e => by
    obtain ⟨v, r, h1, h2, h3⟩ := h
    subst h1
    obtain ⟨w, e1, e2⟩ := RpL.get (i := i) h3 (by simpa using e)
    exact ⟨w, by simpa using e1, e2⟩
theorem RpL.get' {M : MH} {H : Hp} {ds : List D} {vs : List V} {i : Nat} {v : V} (h : RpL K M H ds vs) (e : vs[i]? = some v) : ∃ d, ds[i]? = some d ∧ Rp K M H d v := by
  have hl := h.length
  obtain ⟨h1, h2⟩ := List.getElem?_eq_some_iff.mp e
  have h3 : i < ds.length := by omega
  obtain ⟨w, e1, e2⟩ := h.get (List.getElem?_eq_getElem h3)
  rw [e] at e1
  cases e1
  exact ⟨_, List.getElem?_eq_getElem h3, e2⟩
theorem RpL.append {M : MH} {H : Hp} : ∀ {ds es : List D} {vs ws : List V}, RpL K M H ds vs → RpL K M H es ws → RpL K M H (ds ++ es) (vs ++ ws)
  | [], _, _, _, h, g => by
    have h : _ = [] := h
    subst h; exact g
  | d :: ds, es, vs, ws, h, g => by
    obtain ⟨v, r, h1, h2, h3⟩ := h
    subst h1
    exact ⟨v, r ++ ws, rfl, h2, RpL.append h3 g⟩
theorem RpL.take {M : MH} {H : Hp} : ∀ (n : Nat) {ds : List D} {vs : List V}, RpL K M H ds vs → RpL K M H (ds.take n) (vs.take n)
  | 0, _, _, _ => by simp [RpL]
  | n + 1, [], _, h => by
    have h : _ = [] := h
    subst h; simp [RpL]
  | n + 1, d :: ds, vs, h => by
    obtain ⟨v, r, h1, h2, h3⟩ := h
    subst h1
    exact ⟨v, r.take n, rfl, h2, RpL.take n h3⟩
theorem RpL.drop {M : MH} {H : Hp} : ∀ (n : Nat) {ds : List D} {vs : List V}, RpL K M H ds vs → RpL K M H (ds.drop n) (vs.drop n)
  | 0, _, _, h => h
  | n + 1, [], _, h => by
    have h : _ = [] := h
    subst h; simp [RpL]
  | n + 1, d :: ds, vs, h => by
    obtain ⟨v, r, h1, h2, h3⟩ := h
    subst h1
    exact RpL.drop n h3
theorem RpL.set {M : MH} {H : Hp} {d : D} {v : V} (hd : Rp K M H d v) : ∀ (i : Nat) {ds : List D} {vs : List V}, RpL K M H ds vs → RpL K M H (ds.set i d) (vs.set i v)
  | _, [], _, h => by
    have h : _ = [] := h
    subst h; simp [RpL]
  | 0, d' :: ds, vs, h => by
    obtain ⟨w, r, h1, h2, h3⟩ := h
    subst h1
    exact ⟨v, r, rfl, hd, h3⟩
  | i + 1, d' :: ds, vs, h => by
    obtain ⟨w, r, h1, h2, h3⟩ := h
    subst h1
    exact ⟨w, r.set i v, rfl, h2, RpL.set hd i h3⟩
theorem RpL.reverse {M : MH} {H : Hp} : ∀ {ds : List D} {vs : List V}, RpL K M H ds vs → RpL K M H ds.reverse vs.reverse
  | [], _, h => by
    have h : _ = [] := h
    subst h; exact rfl
  | d :: ds, vs, h => by
    obtain ⟨w, r, h1, h2, h3⟩ := h
    subst h1
    rw [List.reverse_cons, List.reverse_cons]
    exact RpL.append (RpL.reverse h3) ⟨w, [], rfl, h2, rfl⟩
theorem RpL.one {M : MH} {H : Hp} {d : D} {v : V} (h : Rp K M H d v) : RpL K M H [d] [v] := ⟨v, [], rfl, h, rfl⟩
end
end Z

namespace Z
open PySem PySem.Spec PyProof.Rows L2

section
variable (K : PySem.W.Frag)
def OR (M : MH) (H : Hp) (a : Addr) : MO → Prop
  | .lst ds => ∃ vs, H a = some (.lst vs) ∧ RpL K M H ds vs
  | .dK kvs => ∃ vs, H a = some (.dK ((kvs.map (·.1)).zip vs)) ∧ RpL K M H (kvs.map (·.2)) vs
  | .dT kvs => ∃ vs, H a = some (.dT ((kvs.map (·.1)).zip vs)) ∧ RpL K M H (kvs.map (·.2)) vs
  | .ins C fs => ∃ dx vs, H a = some (.ins C dx ((fs.map (·.1)).zip vs)) ∧ RpL K M H (fs.map (·.2)) vs
def RM (M : MH) (H : Hp) : Prop := ∀ a o, M a = some o → OR K M H a o
variable {K}
theorem OR.has {M : MH} {H : Hp} {a : Addr} {o : MO} (h : OR K M H a o) : ∃ u, H a = some u := by
  cases o with
  | lst ds => obtain ⟨vs, h, _⟩ := h; exact ⟨_, h⟩
  | dK ds => obtain ⟨vs, h, _⟩ := h; exact ⟨_, h⟩
  | dT ds => obtain ⟨vs, h, _⟩ := h; exact ⟨_, h⟩
  | ins C fs => obtain ⟨dx, vs, h, _⟩ := h; exact ⟨_, h⟩
theorem OR.ev {M M' : MH} {H H' : Hp} (e : Ev M H M' H') {a : Addr} {o : MO} (he : H' a = H a) (h : OR K M H a o) : OR K M' H' a o := by
  cases o with
  | lst ds => obtain ⟨vs, h, r⟩ := h; exact ⟨vs, he.trans h, RpL.ev e _ _ r⟩
  | dK ds => obtain ⟨vs, h, r⟩ := h; exact ⟨vs, he.trans h, RpL.ev e _ _ r⟩
  | dT ds => obtain ⟨vs, h, r⟩ := h; exact ⟨vs, he.trans h, RpL.ev e _ _ r⟩
  | ins C fs => obtain ⟨dx, vs, h, r⟩ := h; exact ⟨dx, vs, he.trans h, RpL.ev e _ _ r⟩
theorem RM.free {M : MH} {H : Hp} (h : RM K M H) {p : Addr} (e : H p = none) : M p = none := by
  cases q : M p with
  | none => rfl
  | some o =>
    obtain ⟨u, z⟩ := (h p o q).has
    rw [e] at z; cases z
/-- a new thing, unmarked -/
theorem Ev.new {M : MH} {H : Hp} {p : Addr} {u : HO} (e : H p = none) : Ev M H M (upd H p u) := fun a o h m =>
  ⟨by rw [upd_ne (ne_of_none h e)]; exact h, m⟩
theorem RM.new {M : MH} {H : Hp} {p : Addr} {u : HO} (h : RM K M H) (e : H p = none) : RM K M (upd H p u) := fun a o q => by
  obtain ⟨v, z⟩ := (h a o q).has
  exact (h a o q).ev (Ev.new e) (by rw [upd_ne (ne_of_none z e)])
/-- a new thing, marked -/
theorem Ev.newM {M : MH} {H : Hp} {p : Addr} {u : HO} {o : MO} (e : H p = none) : Ev M H (up M p o) (upd H p u) := fun a w h m =>
  ⟨by rw [upd_ne (ne_of_none h e)]; exact h, by rw [up_ne (ne_of_none h e)]; exact m⟩
theorem RM.newM {M : MH} {H : Hp} {p : Addr} {u : HO} {o : MO} (h : RM K M H) (e : H p = none) (n : OR K (up M p o) (upd H p u) p o) : RM K (up M p o) (upd H p u) := fun a w q => by
  by_cases z : a = p
  · subst z
    rw [up_same] at q
    cases q
    exact n
  · rw [up_ne z] at q
    exact (h a w q).ev (Ev.newM e) (upd_ne z)
/-- a marked thing is written -/
theorem Ev.wr {M : MH} {H : Hp} {p : Addr} {u : HO} {o o' : MO} (e : M p = some o') : Ev M H (up M p o) (upd H p u) := fun a w h m => by
  have z : a ≠ p := fun z => by subst z; rw [e] at m; cases m
  exact ⟨by rw [upd_ne z]; exact h, by rw [up_ne z]; exact m⟩
theorem RM.wr {M : MH} {H : Hp} {p : Addr} {u : HO} {o o' : MO} (h : RM K M H) (e : M p = some o') (n : OR K (up M p o) (upd H p u) p o) : RM K (up M p o) (upd H p u) := fun a w q => by
  by_cases z : a = p
  · subst z
    rw [up_same] at q
    cases q
    exact n
  · rw [up_ne z] at q
    exact (h a w q).ev (Ev.wr e) (upd_ne z)
/-- a marked thing is forgotten -/
def Sub (M' M : MH) : Prop := ∀ a o, M' a = some o → M a = some o
theorem Sub.refl (M : MH) : Sub M M := fun _ _ h => h
theorem Sub.trans {A B C : MH} (h : Sub A B) (g : Sub B C) : Sub A C := fun a o q => g a o (h a o q)
theorem Ev.sub {M M' : MH} {H : Hp} (s : Sub M' M) : Ev M H M' H := fun a o h m => ⟨h, by
  cases q : M' a with
  | none => rfl
  | some w => rw [s a w q] at m; cases m⟩
theorem RM.sub {M M' : MH} {H : Hp} (h : RM K M H) (s : Sub M' M) : RM K M' H := fun a o q => (h a o (s a o q)).ev (Ev.sub s) rfl
theorem er_none {M : MH} {p : Addr} : er M p p = none := by unfold er; rw [if_pos rfl]
theorem Sub.er {M : MH} {p : Addr} : Sub (er M p) M := fun a o q => by
  unfold Z.er at q
  by_cases z : a = p
  · rw [if_pos z] at q; cases q
  · rw [if_neg z] at q; exact q
theorem Sub.up {M : MH} {p : Addr} {o : MO} (h : M p = .none) : Sub M (up M p o) := fun a w q => by
  rw [up_ne (fun z => by subst z; rw [h] at q; cases q)]; exact q
end

/-! ### slots -/
abbrev En := List (Option D)
def getE : En → Nat → Option D
  | [], _ => none
  | x :: _, 0 => x
  | _ :: r, n + 1 => getE r n
def setE : En → Nat → D → En
  | [], _, _ => []
  | _ :: r, 0, d => some d :: r
  | x :: r, n + 1, d => x :: setE r n d
def wipeE1 : En → Nat → En
  | [], _ => []
  | _ :: r, 0 => none :: r
  | x :: r, n + 1 => x :: wipeE1 r n
def wipeE : En → List Nat → En
  | e, [] => e
  | e, v :: vs => wipeE1 (wipeE e vs) v
theorem getE_eq : ∀ (e : En) (i : Nat), getE e i = (e[i]?).join
  | [], i => by simp [getE]
  | x :: r, 0 => by cases x <;> simp [getE]
  | x :: r, n + 1 => by
    show getE r n = _
    rw [getE_eq r n]; simp
theorem setE_eq : ∀ (e : En) (i : Nat) (d : D), setE e i d = e.set i (some d)
  | [], i, d => by simp [setE]
  | x :: r, 0, d => by simp [setE]
  | x :: r, n + 1, d => by
    show x :: setE r n d = _
    rw [setE_eq r n d]; simp
theorem wipeE1_eq : ∀ (e : En) (i : Nat), wipeE1 e i = e.set i none
  | [], i => by simp [wipeE1]
  | x :: r, 0 => by simp [wipeE1]
  | x :: r, n + 1 => by
    show x :: wipeE1 r n = _
    rw [wipeE1_eq r n]; simp
section
variable (K : PySem.W.Frag)
structure RS (M : MH) (H : Hp) (e : En) (σ : L2.St) : Prop where
  len : e.length = σ.length
  get : ∀ i d, getE e i = some d → ∃ v, σ[i]? = some (some v) ∧ Rp K M H d v
variable {K}
theorem RS.ev {M M' : MH} {H H' : Hp} (v : Ev M H M' H') {e : En} {σ : L2.St} (r : RS K M H e σ) : RS K M' H' e σ :=
  ⟨r.len, fun i d h => let ⟨w, h1, h2⟩ := r.get i d h; ⟨w, h1, Rp.ev v d w h2⟩⟩
theorem RS.set {M : MH} {H : Hp} {e : En} {σ : L2.St} (r : RS K M H e σ) (i : Nat) {d : D} {v : V} (h : Rp K M H d v) : RS K M H (setE e i d) (σ.set i (some v)) := by
  refine ⟨by rw [setE_eq, List.length_set, List.length_set]; exact r.len, fun j d' hj => ?_⟩
  rw [getE_eq, setE_eq] at hj
  by_cases z : j = i
  · subst z
    by_cases hl : j < e.length
    · rw [List.getElem?_set_self hl] at hj
      have hj : d = d' := by simpa using hj
      subst hj
      exact ⟨v, List.getElem?_set_self (by rw [← r.len]; exact hl), h⟩
    · rw [List.getElem?_eq_none (by rw [List.length_set]; omega)] at hj
      cases hj
  · rw [List.getElem?_set_ne (Ne.symm z)] at hj
    obtain ⟨w, h1, h2⟩ := r.get j d' (by rw [getE_eq]; exact hj)
    exact ⟨w, by rw [List.getElem?_set_ne (Ne.symm z)]; exact h1, h2⟩
theorem RS.wipe1 {M : MH} {H : Hp} {e : En} {σ : L2.St} (r : RS K M H e σ) (i : Nat) : RS K M H (wipeE1 e i) (σ.set i none) := by
  refine ⟨by rw [wipeE1_eq, List.length_set, List.length_set]; exact r.len, fun j d' hj => ?_⟩
  rw [getE_eq, wipeE1_eq] at hj
  by_cases z : j = i
  · subst z
    by_cases hl : j < e.length
    · rw [List.getElem?_set_self hl] at hj
      cases hj
    · rw [List.getElem?_eq_none (by rw [List.length_set]; omega)] at hj
      cases hj
  · rw [List.getElem?_set_ne (Ne.symm z)] at hj
    obtain ⟨w, h1, h2⟩ := r.get j d' (by rw [getE_eq]; exact hj)
    exact ⟨w, by rw [List.getElem?_set_ne (Ne.symm z)]; exact h1, h2⟩
theorem RS.wipe {M : MH} {H : Hp} {e : En} {σ : L2.St} (r : RS K M H e σ) : ∀ vs : List Nat, RS K M H (wipeE e vs) (wipe σ vs)
  | [] => r
  | v :: vs => (RS.wipe r vs).wipe1 v
end

/-! ### lifted readings -/
abbrev Q3 := D → MH → Prop
abbrev T3 := En → MH → Q3 → Prop
abbrev TB3 := En → MH → (Bool → MH → Prop) → Prop
abbrev TL3 := En → MH → (List D → MH → Prop) → Prop
abbrev O1 := D → MH → Q3 → Prop
abbrev O2 := D → D → MH → Q3 → Prop
abbrev OL := List D → MH → Q3 → Prop
section
variable (K : PySem.W.Frag) (M0 : MH) (H0 : Hp)
/-- what is wanted of data is what is wanted of values -/
def Cv (M : MH) (H : Hp) (Q3 : Q3) (Q : VK) : Prop := ∀ d M' v H', Q3 d M' → Rp K M' H' d v → RM K M' H' → Ev M H M' H' → Q v H'
def CvB (M : MH) (H : Hp) (Q3 : Bool → MH → Prop) (Q : Bool → Hp → Prop) : Prop := ∀ b M' H', Q3 b M' → RM K M' H' → Ev M H M' H' → Q b H'
def CvL (M : MH) (H : Hp) (Q3 : List D → MH → Prop) (Q : List V → Hp → Prop) : Prop := ∀ ds M' vs H', Q3 ds M' → RpL K M' H' ds vs → RM K M' H' → Ev M H M' H' → Q vs H'
def LE (t : T3) : TE := fun σ H Q => ∃ e M Q3, RS K M H e σ ∧ RM K M H ∧ Ev M0 H0 M H ∧ t e M Q3 ∧ Cv K M H Q3 Q
def LT (t : TB3) : TT := fun σ H Q => ∃ e M Q3, RS K M H e σ ∧ RM K M H ∧ Ev M0 H0 M H ∧ t e M Q3 ∧ CvB K M H Q3 Q
def LA (t : TL3) : TA := fun σ H Q => ∃ e M Q3, RS K M H e σ ∧ RM K M H ∧ Ev M0 H0 M H ∧ t e M Q3 ∧ CvL K M H Q3 Q
def LO1 (o : O1) : V → Hp → VK → Prop := fun x H Q => ∃ d M Q3, Rp K M H d x ∧ RM K M H ∧ o d M Q3 ∧ Cv K M H Q3 Q
def LO2 (o : O2) : R2 := fun x y H Q => ∃ d1 d2 M Q3, Rp K M H d1 x ∧ Rp K M H d2 y ∧ RM K M H ∧ o d1 d2 M Q3 ∧ Cv K M H Q3 Q
def LOL (o : OL) : List V → Hp → VK → Prop := fun xs H Q => ∃ ds M Q3, RpL K M H ds xs ∧ RM K M H ∧ o ds M Q3 ∧ Cv K M H Q3 Q
variable {K M0 H0}
theorem Cv.from {M M1 : MH} {H H1 : Hp} {Q3 : Q3} {Q : VK} (c : Cv K M H Q3 Q) (e : Ev M H M1 H1) : Cv K M1 H1 Q3 Q := fun d M' v H' q r m e' => c d M' v H' q r m (e.trans e')
theorem CvB.from {M M1 : MH} {H H1 : Hp} {Q3 : Bool → MH → Prop} {Q : Bool → Hp → Prop} (c : CvB K M H Q3 Q) (e : Ev M H M1 H1) : CvB K M1 H1 Q3 Q := fun d M' H' q m e' => c d M' H' q m (e.trans e')
theorem CvL.from {M M1 : MH} {H H1 : Hp} {Q3 : List D → MH → Prop} {Q : List V → Hp → Prop} (c : CvL K M H Q3 Q) (e : Ev M H M1 H1) : CvL K M1 H1 Q3 Q := fun d M' v H' q r m e' => c d M' v H' q r m (e.trans e')
theorem Cv.now {M : MH} {H : Hp} {Q3 : Q3} {Q : VK} (c : Cv K M H Q3 Q) {d : D} {v : V} (m : RM K M H) (q : Q3 d M) (r : Rp K M H d v) : Q v H := c d M v H q r m (Ev.refl M H)
theorem _root_.L2.PE.imp {X : Cx} {e : Expr} {t t' : TE} (h : PE X e t) (f : ∀ σ H Q, t' σ H Q → t σ H Q) : PE X e t' := ⟨fun pins s σ H Q I q => h.run pins s σ H Q I (f _ _ _ q)⟩
theorem _root_.L2.PT.imp {X : Cx} {e : Expr} {t t' : TT} (h : PT X e t) (f : ∀ σ H Q, t' σ H Q → t σ H Q) : PT X e t' := ⟨fun pins s σ H Q I q => h.run pins s σ H Q I (f _ _ _ q)⟩
theorem _root_.L2.PW.imp {X : Cx} {e : Expr} {t t' : TT} (h : PW X e t) (f : ∀ σ H Q, t' σ H Q → t σ H Q) : PW X e t' := ⟨fun w pins s σ H Q I q => h.run w pins s σ H Q I (f _ _ _ q)⟩
theorem _root_.L2.PA.imp {X : Cx} {es : List Expr} {t t' : TA} (h : PA X es t) (f : ∀ σ H Q, t' σ H Q → t σ H Q) : PA X es t' := ⟨fun pos pins s σ H Q I q => h.run pos pins s σ H Q I (f _ _ _ q)⟩
theorem _root_.L2.PS.imp {X : Cx} {st : Stmt} {t t' : TS} (h : PS X st t) (f : ∀ D σ H, t' D σ H → t D σ H) : PS X st t' := ⟨fun pins s σ H D I q => h.run pins s σ H D I (f _ _ _ q)⟩
theorem _root_.L2.PSs.imp {X : Cx} {st : List Stmt} {t t' : TS} (h : PSs X st t) (f : ∀ D σ H, t' D σ H → t D σ H) : PSs X st t' := ⟨fun pins s σ H D I q => h.run pins s σ H D I (f _ _ _ q)⟩
theorem _root_.L2.PI.imp {X : Cx} {tg it : Expr} {t t' : TI} (h : PI X tg it t) (f : ∀ σ H R, t' σ H R → t σ H R) : PI X tg it t' := ⟨fun pins s σ H R I q => h.run pins s σ H R I (f _ _ _ q)⟩
theorem oimp {X : Cx} {f : Value → Value → Sem Value} {r r' : R2} (h : OpR X f r) (g : ∀ x y H Q, r' x y H Q → r x y H Q) : OpR X f r' := fun pins s σ H x y v u Q I rx ry q => h pins s σ H x y v u Q I rx ry (g _ _ _ _ q)
theorem uimp {X : Cx} {f : Value → Sem Value} {r r' : V → Hp → VK → Prop} (h : UnR X f r) (g : ∀ x H Q, r' x H Q → r x H Q) : UnR X f r' := fun pins s σ H x v Q I rx q => h pins s σ H x v Q I rx (g _ _ _ q)
theorem cimp {X : Cx} {f : Value} {r r' : List V → Hp → VK → Prop} (h : CallR X f r) (g : ∀ x H Q, r' x H Q → r x H Q) : CallR X f r' := fun pins s σ H x v Q I rx q => h pins s σ H x v Q I rx (g _ _ _ q)

/-! #### sequencing -/
/-- one part, then something -/
theorem LE.then {t : T3} {σ : L2.St} {e : En} {M : MH} {H : Hp} {P : Q3} {Q : VK} (rs : RS K M H e σ) (rm : RM K M H) (ev : Ev M0 H0 M H) (h : t e M P)
    (f : ∀ d M1 v H1, P d M1 → Rp K M1 H1 d v → RS K M1 H1 e σ → RM K M1 H1 → Ev M0 H0 M1 H1 → Ev M H M1 H1 → Q v H1) : LE K M0 H0 t σ H Q :=
  ⟨e, M, P, rs, rm, ev, h, fun d M1 v H1 q r m e1 => f d M1 v H1 q r (rs.ev e1) m (ev.trans e1) e1⟩
theorem LT.then {t : TB3} {σ : L2.St} {e : En} {M : MH} {H : Hp} {P : Bool → MH → Prop} {Q : Bool → Hp → Prop} (rs : RS K M H e σ) (rm : RM K M H) (ev : Ev M0 H0 M H) (h : t e M P)
    (f : ∀ d M1 H1, P d M1 → RS K M1 H1 e σ → RM K M1 H1 → Ev M0 H0 M1 H1 → Ev M H M1 H1 → Q d H1) : LT K M0 H0 t σ H Q :=
  ⟨e, M, P, rs, rm, ev, h, fun d M1 H1 q m e1 => f d M1 H1 q (rs.ev e1) m (ev.trans e1) e1⟩
theorem LA.then {t : TL3} {σ : L2.St} {e : En} {M : MH} {H : Hp} {P : List D → MH → Prop} {Q : List V → Hp → Prop} (rs : RS K M H e σ) (rm : RM K M H) (ev : Ev M0 H0 M H) (h : t e M P)
    (f : ∀ d M1 v H1, P d M1 → RpL K M1 H1 d v → RS K M1 H1 e σ → RM K M1 H1 → Ev M0 H0 M1 H1 → Ev M H M1 H1 → Q v H1) : LA K M0 H0 t σ H Q :=
  ⟨e, M, P, rs, rm, ev, h, fun d M1 v H1 q r m e1 => f d M1 v H1 q r (rs.ev e1) m (ev.trans e1) e1⟩

/-! #### names, constants -/
def loc3 (i : Nat) : T3 := fun e M Q => match getE e i with | some d => Q d M | none => False
def con3 (d : D) : T3 := fun _ M Q => Q d M
section
variable {X : Cx}
theorem z_loc {e : Expr} {i : Nat} (h : PE X e (tVar i)) : PE X e (LE K M0 H0 (loc3 i)) := h.imp fun σ H Q ⟨en, M, P, rs, rm, ev, t, c⟩ => by
  unfold loc3 at t
  cases q : getE en i with
  | none => rw [q] at t; exact t.elim
  | some d =>
    rw [q] at t
    obtain ⟨v, h1, h2⟩ := rs.get i d q
    exact ⟨v, h1, c.now rm t h2⟩
theorem z_con {e : Expr} {d : D} {v : V} (h : PE X e (tC v)) (r : ∀ M H, Rp K M H d v) : PE X e (LE K M0 H0 (con3 d)) := h.imp fun σ H Q ⟨en, M, P, rs, rm, ev, t, c⟩ => c.now rm t (r M H)
/-! #### operators -/
def op2 (o : O2) (ta tb : T3) : T3 := fun e M Q => ta e M fun x M1 => tb e M1 fun y M2 => o x y M2 Q
def op1 (o : O1) (ta : T3) : T3 := fun e M Q => ta e M fun x M1 => o x M1 Q
theorem lo2 {o : O2} {ta tb : T3} {σ : L2.St} {H : Hp} {Q : VK} (h : LE K M0 H0 (op2 o ta tb) σ H Q) : tOp (LO2 K o) (LE K M0 H0 ta) (LE K M0 H0 tb) σ H Q := by
  obtain ⟨en, M, P, rs, rm, ev, t, c⟩ := h
  exact LE.then rs rm ev t fun x M1 v1 H1 t1 r1 rs1 rm1 ev1 e1 => LE.then rs1 rm1 ev1 t1 fun y M2 v2 H2 t2 r2 rs2 rm2 ev2 e2 =>
    ⟨x, y, M2, P, Rp.ev e2 _ _ r1, r2, rm2, t2, c.from (e1.trans e2)⟩
theorem lo1 {o : O1} {ta : T3} {σ : L2.St} {H : Hp} {Q : VK} (h : LE K M0 H0 (op1 o ta) σ H Q) : tUn (LO1 K o) (LE K M0 H0 ta) σ H Q := by
  obtain ⟨en, M, P, rs, rm, ev, t, c⟩ := h
  exact LE.then rs rm ev t fun x M1 v1 H1 t1 r1 rs1 rm1 ev1 e1 => ⟨x, M1, P, r1, rm1, t1, c.from e1⟩
variable {a b : Expr} {ta tb : T3} {pos : Pos}
theorem z_op {op : Operator} {o : O2} (ho : OpR X (binaryOp op) (LO2 K o)) (ha : PE X a (LE K M0 H0 ta)) (hb : PE X b (LE K M0 H0 tb)) : PE X (.BinOp a op b pos) (LE K M0 H0 (op2 o ta tb)) :=
  (pe_op ho ha hb).imp fun _ _ _ h => lo2 h
theorem z_un {op : UnaryOp} {o : O1} (ho : UnR X (unaryOp op) (LO1 K o)) (ha : PE X a (LE K M0 H0 ta)) : PE X (.UnaryOp op a pos) (LE K M0 H0 (op1 o ta)) :=
  (pe_un ho ha).imp fun _ _ _ h => lo1 h
theorem z_cmp {op : CmpOp} {o : O2} (ho : OpR X (compareOp op) (LO2 K o)) (ha : PE X a (LE K M0 H0 ta)) (hb : PE X b (LE K M0 H0 tb)) (hm : behindInMarks op b = false) : PE X (.Compare a [op] [b] pos) (LE K M0 H0 (op2 o ta tb)) :=
  (pe_cmpR ho ha hb hm).imp fun _ _ _ h => lo2 h
/-- a value that is a bool, as a test -/
def tst (t : T3) : TB3 := fun e M Q => t e M fun d M1 => match d with | .bl b => Q b M1 | _ => False
theorem lt_of {t : T3} {σ : L2.St} {H : Hp} {Q : Bool → Hp → Prop} (h : LT K M0 H0 (tst t) σ H Q) : LE K M0 H0 t σ H fun x H1 => ∃ k, x = .bl k ∧ Q k H1 := by
  obtain ⟨en, M, P, rs, rm, ev, t, c⟩ := h
  refine LE.then rs rm ev t fun x M1 v1 H1 t1 r1 rs1 rm1 ev1 e1 => ?_
  cases x with
  | bl b => exact ⟨b, r1, c b M1 H1 t1 rm1 e1⟩
  | _ => exact t1.elim
theorem z_tcmp {op : CmpOp} {o : O2} (ho : OpR X (compareOp op) (LO2 K o)) (ha : PE X a (LE K M0 H0 ta)) (hb : PE X b (LE K M0 H0 tb)) (hm : behindInMarks op b = false) : PT X (.Compare a [op] [b] pos) (LT K M0 H0 (tst (op2 o ta tb))) :=
  (pt_cmpR ho ha hb hm).imp fun _ _ _ h => by
    have h := lt_of h
    obtain ⟨en, M, P, rs, rm, ev, t, c⟩ := h
    exact lo2 ⟨en, M, P, rs, rm, ev, t, c⟩
/-! #### a op1 b op2 c -/
def chain3 (o o' : O2) (ta tb tc : T3) : T3 := fun e M Q => ta e M fun x M1 => tb e M1 fun y M2 => o x y M2 fun z M3 => match z with
  | .bl true => tc e M3 fun w M4 => o' y w M4 Q
  | .bl false => Q (.bl false) M3
  | _ => False
theorem lchain {o o' : O2} {ta tb tc : T3} {σ : L2.St} {H : Hp} {Q : VK} (h : LE K M0 H0 (chain3 o o' ta tb tc) σ H Q) : tChain (LO2 K o) (LO2 K o') (LE K M0 H0 ta) (LE K M0 H0 tb) (LE K M0 H0 tc) σ H Q := by
  obtain ⟨en, M, P, rs, rm, ev, t, c⟩ := h
  refine LE.then rs rm ev t fun x M1 v1 H1 t1 r1 rs1 rm1 ev1 e1 => LE.then rs1 rm1 ev1 t1 fun y M2 v2 H2 t2 r2 rs2 rm2 ev2 e2 => ?_
  refine ⟨x, y, M2, _, Rp.ev e2 _ _ r1, r2, rm2, t2, fun z M3 v3 H3 t3 r3 rm3 e3 => ?_⟩
  cases z with
  | bl k =>
    refine ⟨k, r3, ?_⟩
    cases k with
    | true =>
      rw [if_pos rfl]
      exact LE.then (rs2.ev e3) rm3 (ev2.trans e3) t3 fun w M4 v4 H4 t4 r4 rs4 rm4 ev4 e4 => ⟨y, w, M4, P, Rp.ev (e3.trans e4) _ _ r2, r4, rm4, t4, c.from (e1.trans (e2.trans (e3.trans e4)))⟩
    | false =>
      rw [if_neg Bool.false_ne_true]
      exact c (.bl false) M3 _ H3 t3 rfl rm3 (e1.trans (e2.trans e3))
  | _ => exact t3.elim
theorem z_chain {op op' : CmpOp} {o o' : O2} {tc : T3} {c : Expr} (ho : OpR X (compareOp op) (LO2 K o)) (ho' : OpR X (compareOp op') (LO2 K o')) (ha : PE X a (LE K M0 H0 ta)) (hb : PE X b (LE K M0 H0 tb)) (hc : PE X c (LE K M0 H0 tc))
    (hm : lastMarks [op, op'] [b, c] = false) : PE X (.Compare a [op, op'] [b, c] pos) (LE K M0 H0 (chain3 o o' ta tb tc)) := (pe_chain ho ho' ha hb hc hm).imp fun _ _ _ h => lchain h
theorem z_tchain {op op' : CmpOp} {o o' : O2} {tc : T3} {c : Expr} (ho : OpR X (compareOp op) (LO2 K o)) (ho' : OpR X (compareOp op') (LO2 K o')) (ha : PE X a (LE K M0 H0 ta)) (hb : PE X b (LE K M0 H0 tb)) (hc : PE X c (LE K M0 H0 tc))
    (hm : lastMarks [op, op'] [b, c] = false) : PT X (.Compare a [op, op'] [b, c] pos) (LT K M0 H0 (tst (chain3 o o' ta tb tc))) := (pt_chain ho ho' ha hb hc hm).imp fun _ _ _ h => lchain (lt_of h)

/-! #### and, or, not, if as values of any kind come later; here as tests and as bools -/
def and3 (t u : TB3) : TB3 := fun e M Q => t e M fun b M1 => match b with | true => u e M1 Q | false => Q false M1
def or3 (t u : TB3) : TB3 := fun e M Q => t e M fun b M1 => match b with | true => Q true M1 | false => u e M1 Q
def not3 (t : TB3) : TB3 := fun e M Q => t e M fun b M1 => Q (!b) M1
def ite3 (t : TB3) (a b : T3) : T3 := fun e M Q => t e M fun c M1 => match c with | true => a e M1 Q | false => b e M1 Q
def andV3 (t u : T3) : T3 := fun e M Q => t e M fun d M1 => match d with | .bl true => u e M1 Q | .bl false => Q (.bl false) M1 | _ => False
def orV3 (t u : T3) : T3 := fun e M Q => t e M fun d M1 => match d with | .bl true => Q (.bl true) M1 | .bl false => u e M1 Q | _ => False
def notV3 (t : T3) : T3 := fun e M Q => t e M fun d M1 => match d with | .bl b => Q (.bl (!b)) M1 | _ => False
variable {tA tB : TB3} {rest : List Expr}
theorem z_wand (ha : PT X a (LT K M0 H0 tA)) (hb : PW X (.BoolOp .And (b :: rest) pos) (LT K M0 H0 tB)) : PW X (.BoolOp .And (a :: b :: rest) pos) (LT K M0 H0 (and3 tA tB)) :=
  (pw_and ha hb).imp fun σ H Q ⟨en, M, P, rs, rm, ev, t, c⟩ => LT.then rs rm ev t fun d M1 H1 t1 rs1 rm1 ev1 e1 => by
    cases d with
    | true => rw [if_pos rfl]; exact ⟨en, M1, P, rs1, rm1, ev1, t1, c.from e1⟩
    | false => rw [if_neg Bool.false_ne_true]; exact c false M1 H1 t1 rm1 e1
theorem z_wor (ha : PT X a (LT K M0 H0 tA)) (hb : PW X (.BoolOp .Or (b :: rest) pos) (LT K M0 H0 tB)) : PW X (.BoolOp .Or (a :: b :: rest) pos) (LT K M0 H0 (or3 tA tB)) :=
  (pw_or ha hb).imp fun σ H Q ⟨en, M, P, rs, rm, ev, t, c⟩ => LT.then rs rm ev t fun d M1 H1 t1 rs1 rm1 ev1 e1 => by
    cases d with
    | true => rw [if_pos rfl]; exact c true M1 H1 t1 rm1 e1
    | false => rw [if_neg Bool.false_ne_true]; exact ⟨en, M1, P, rs1, rm1, ev1, t1, c.from e1⟩
theorem z_wand1 (ha : PT X a (LT K M0 H0 tA)) : PW X (.BoolOp .And [a] pos) (LT K M0 H0 tA) := pw_and1 ha
theorem z_wor1 (ha : PT X a (LT K M0 H0 tA)) : PW X (.BoolOp .Or [a] pos) (LT K M0 H0 tA) := pw_or1 ha
theorem z_not (ha : PT X a (LT K M0 H0 tA)) : PT X (.UnaryOp .Not a pos) (LT K M0 H0 (not3 tA)) :=
  (pt_not ha).imp fun σ H Q ⟨en, M, P, rs, rm, ev, t, c⟩ => LT.then rs rm ev t fun d M1 H1 t1 rs1 rm1 ev1 e1 => c (!d) M1 H1 t1 rm1 e1
theorem z_ite {c : Expr} (hc : PT X c (LT K M0 H0 tA)) (ha : PE X a (LE K M0 H0 ta)) (hb : PE X b (LE K M0 H0 tb)) : PE X (.IfExp c a b pos) (LE K M0 H0 (ite3 tA ta tb)) :=
  (pe_ifExp hc ha hb).imp fun σ H Q ⟨en, M, P, rs, rm, ev, t, c⟩ => LT.then rs rm ev t fun d M1 H1 t1 rs1 rm1 ev1 e1 => by
    cases d with
    | true => rw [if_pos rfl]; exact ⟨en, M1, P, rs1, rm1, ev1, t1, c.from e1⟩
    | false => rw [if_neg Bool.false_ne_true]; exact ⟨en, M1, P, rs1, rm1, ev1, t1, c.from e1⟩
theorem z_vand (ha : PE X a (LE K M0 H0 ta)) (hb : PE X (.BoolOp .And (b :: rest) pos) (LE K M0 H0 tb)) : PE X (.BoolOp .And (a :: b :: rest) pos) (LE K M0 H0 (andV3 ta tb)) :=
  (pe_and ha hb).imp fun σ H Q ⟨en, M, P, rs, rm, ev, t, c⟩ => LE.then rs rm ev t fun d M1 v1 H1 t1 r1 rs1 rm1 ev1 e1 => by
    cases d with
    | bl k =>
      refine ⟨k, r1, ?_⟩
      cases k with
      | true => rw [if_pos rfl]; exact ⟨en, M1, P, rs1, rm1, ev1, t1, c.from e1⟩
      | false => rw [if_neg Bool.false_ne_true]; exact c (.bl false) M1 _ H1 t1 rfl rm1 e1
    | _ => exact t1.elim
theorem z_vor (ha : PE X a (LE K M0 H0 ta)) (hb : PE X (.BoolOp .Or (b :: rest) pos) (LE K M0 H0 tb)) : PE X (.BoolOp .Or (a :: b :: rest) pos) (LE K M0 H0 (orV3 ta tb)) :=
  (pe_or ha hb).imp fun σ H Q ⟨en, M, P, rs, rm, ev, t, c⟩ => LE.then rs rm ev t fun d M1 v1 H1 t1 r1 rs1 rm1 ev1 e1 => by
    cases d with
    | bl k =>
      refine ⟨k, r1, ?_⟩
      cases k with
      | true => rw [if_pos rfl]; exact c (.bl true) M1 _ H1 t1 rfl rm1 e1
      | false => rw [if_neg Bool.false_ne_true]; exact ⟨en, M1, P, rs1, rm1, ev1, t1, c.from e1⟩
    | _ => exact t1.elim
theorem z_vnot (ha : PE X a (LE K M0 H0 ta)) : PE X (.UnaryOp .Not a pos) (LE K M0 H0 (notV3 ta)) :=
  (pe_not ha).imp fun σ H Q ⟨en, M, P, rs, rm, ev, t, c⟩ => LE.then rs rm ev t fun d M1 v1 H1 t1 r1 rs1 rm1 ev1 e1 => by
    cases d with
    | bl k => exact ⟨k, r1, c (.bl (!k)) M1 _ H1 t1 rfl rm1 e1⟩
    | _ => exact t1.elim
/-! #### argument lists, displays -/
def nil3 : TL3 := fun _ M Q => Q [] M
def cons3 (t : T3) (u : TL3) : TL3 := fun e M Q => t e M fun d M1 => u e M1 fun ds M2 => Q (d :: ds) M2
variable {es : List Expr} {tl : TL3}
theorem z_nil : PA X [] (LA K M0 H0 nil3) := pa_nil.imp fun σ H Q ⟨en, M, P, rs, rm, ev, t, c⟩ => c [] M [] H t rfl rm (Ev.refl _ _)
theorem z_cons (ha : PE X a (LE K M0 H0 ta)) (hr : PA X es (LA K M0 H0 tl)) (hs : starEach (a :: es) X.env = (false, eval a X.env) :: starEach es X.env) : PA X (a :: es) (LA K M0 H0 (cons3 ta tl)) :=
  (pa_cons ha hr hs).imp fun σ H Q ⟨en, M, P, rs, rm, ev, t, c⟩ => LE.then rs rm ev t fun d M1 v1 H1 t1 r1 rs1 rm1 ev1 e1 =>
    LA.then rs1 rm1 ev1 t1 fun ds M2 vs H2 t2 r2 rs2 rm2 ev2 e2 => c (d :: ds) M2 (v1 :: vs) H2 t2 ⟨v1, vs, rfl, Rp.ev e2 _ _ r1, r2⟩ rm2 (e1.trans e2)
def tup3 (t : TL3) : T3 := fun e M Q => t e M fun ds M1 => ds.length ≤ sizeLine ∧ Q (.tup ds) M1
def lst3 (t : TL3) : T3 := fun e M Q => t e M fun ds M1 => ds.length ≤ sizeLine ∧ Q (.lst ds) M1
def lstM3 (t : TL3) : T3 := fun e M Q => t e M fun ds M1 => ds.length ≤ sizeLine ∧ ∀ p, M1 p = none → Q (.ref p) (up M1 p (.lst ds))
theorem Rp.tupNew {M : MH} {H : Hp} {p : Addr} {ds : List D} {vs : List V} (rm : RM K M H) (hp : H p = none) (r : RpL K M H ds vs) : Rp K M (upd H p (.tup vs)) (.tup ds) (.ref p) :=
  ⟨p, vs, rfl, ⟨rm.free hp, upd_same⟩, RpL.ev (Ev.new hp) _ _ r⟩
theorem Rp.lstNew {M : MH} {H : Hp} {p : Addr} {ds : List D} {vs : List V} (rm : RM K M H) (hp : H p = none) (r : RpL K M H ds vs) : Rp K M (upd H p (.lst vs)) (.lst ds) (.ref p) :=
  ⟨p, vs, rfl, rm.free hp, upd_same, RpL.ev (Ev.new hp) _ _ r⟩
theorem RM.lstNew {M : MH} {H : Hp} {p : Addr} {ds : List D} {vs : List V} (rm : RM K M H) (hp : H p = none) (r : RpL K M H ds vs) : RM K (up M p (.lst ds)) (upd H p (.lst vs)) :=
  rm.newM hp ⟨vs, upd_same, RpL.ev (Ev.newM hp) _ _ r⟩
theorem z_tup {k : Nat} (h : PA X es (LA K M0 H0 tl)) : PE X (.Tuple es k pos) (LE K M0 H0 (tup3 tl)) :=
  (pe_tup h).imp fun σ H Q ⟨en, M, P, rs, rm, ev, t, c⟩ => LA.then rs rm ev t fun ds M1 vs H1 ⟨hl, t1⟩ r1 rs1 rm1 ev1 e1 =>
    ⟨by rw [r1.length]; exact hl, fun p hp => c (.tup ds) M1 (.ref p) _ t1 (Rp.tupNew rm1 hp r1) (rm1.new hp) (e1.trans (Ev.new hp))⟩
theorem z_lst (h : PA X es (LA K M0 H0 tl)) : PE X (.List es pos) (LE K M0 H0 (lst3 tl)) :=
  (pe_lst h).imp fun σ H Q ⟨en, M, P, rs, rm, ev, t, c⟩ => LA.then rs rm ev t fun ds M1 vs H1 ⟨hl, t1⟩ r1 rs1 rm1 ev1 e1 =>
    ⟨by rw [r1.length]; exact hl, fun p hp => c (.lst ds) M1 (.ref p) _ t1 (Rp.lstNew rm1 hp r1) (rm1.new hp) (e1.trans (Ev.new hp))⟩
theorem z_lstM (h : PA X es (LA K M0 H0 tl)) : PE X (.List es pos) (LE K M0 H0 (lstM3 tl)) :=
  (pe_lst h).imp fun σ H Q ⟨en, M, P, rs, rm, ev, t, c⟩ => LA.then rs rm ev t fun ds M1 vs H1 ⟨hl, t1⟩ r1 rs1 rm1 ev1 e1 =>
    ⟨by rw [r1.length]; exact hl, fun p hp => c (.ref p) _ (.ref p) _ (t1 p (rm1.free hp)) rfl (rm1.lstNew hp r1) (e1.trans (Ev.newM hp))⟩
end
end
end Z

namespace Z
open PySem PySem.Spec PyProof.Rows L2

/-! ### reading -/
def asT : D → Option (List D)
  | .tp _ ds => some ds
  | _ => none
def asL (M : MH) : D → Option (List D)
  | .lst ds => some ds
  | .flst ds => some ds
  | .ref a => match M a with | some (.lst ds) => some ds | _ => none
  | _ => none
/-- a list that may be anything but the script -/
def exL (M : MH) : D → Option (List D)
  | .lst ds => some ds
  | .ref a => match M a with | some (.lst ds) => some ds | _ => none
  | _ => none
/-- a tracked list by its content -/
def rdL (M : MH) : D → D
  | .ref a => match M a with | some (.lst ds) => .lst ds | _ => .ref a
  | d => d
mutual
def toPy : D → PyData
  | .non => .none
  | .bl b => .bool b
  | .int i => .int i
  | .str x => .str x
  | .tp _ ds => .tuple (toPyL ds)
  | .lst ds => .list (toPyL ds)
  | .flst _ => .dict []
  | .ref _ => .dict []
  | .dK _ _ => .dict []
  | .dT _ _ => .dict []
def toPyL : List D → List PyData
  | [] => []
  | d :: ds => toPy d :: toPyL ds
end
mutual
/-- ==, by data -/
def eqv : D → D → Bool
  | .non, .non => true
  | .bl a, .bl b => a == b
  | .bl a, .int j => (if a then 1 else 0) == j
  | .int i, .bl b => i == (if b then 1 else 0)
  | .int i, .int j => i == j
  | .str x, .str y => x == y
  | .tp _ xs, .tp _ ys => eqvL xs ys
  | .lst xs, .lst ys => eqvL xs ys
  | _, _ => false
def eqvL : List D → List D → Bool
  | [], [] => true
  | x :: xs, y :: ys => eqv x y && eqvL xs ys
  | _, _ => false
end
mutual
theorem eqv_py : ∀ x y : D, eqv x y = PyData.eqv (toPy x) (toPy y)
  | .tp _ xs, y => by cases y <;> simp only [eqv, toPy, PyData.eqv] <;> exact eqvL_py xs _
  | .lst xs, y => by cases y <;> simp only [eqv, toPy, PyData.eqv] <;> exact eqvL_py xs _
  | .non, y => by cases y <;> simp only [eqv, toPy, PyData.eqv]
  | .bl _, y => by cases y <;> simp only [eqv, toPy, PyData.eqv]
  | .int _, y => by cases y <;> simp only [eqv, toPy, PyData.eqv]
  | .str _, y => by cases y <;> simp only [eqv, toPy, PyData.eqv]
  | .ref _, y => by cases y <;> simp only [eqv, toPy, PyData.eqv]
  | .flst _, y => by cases y <;> simp only [eqv, toPy, PyData.eqv]
  | .dK _ _, y => by cases y <;> simp only [eqv, toPy, PyData.eqv]
  | .dT _ _, y => by cases y <;> simp only [eqv, toPy, PyData.eqv]
theorem eqvL_py : ∀ xs ys : List D, eqvL xs ys = PyData.eqvAll (toPyL xs) (toPyL ys)
  | [], [] => by simp only [eqvL, toPyL, PyData.eqvAll]
  | [], _ :: _ => by simp only [eqvL, toPyL, PyData.eqvAll]
  | _ :: _, [] => by simp only [eqvL, toPyL, PyData.eqvAll]
  | x :: xs, y :: ys => by simp only [eqvL, toPyL, PyData.eqvAll, eqv_py x y, eqvL_py xs ys]
end
mutual
/-- plain data of a depth below n whose texts are texts -/
def lay : Nat → D → Bool
  | _, .non => true
  | _, .bl _ => true
  | _, .int _ => true
  | _, .str x => PyData.strOk x
  | n + 1, .tp _ ds => layL n ds
  | n + 1, .lst ds => layL n ds
  | _, _ => false
def layL : Nat → List D → Bool
  | _, [] => true
  | n, d :: ds => lay n d && layL n ds
end
theorem layL_all (n : Nat) : ∀ ds : List D, layL n ds = ds.all (lay n)
  | [] => by simp [layL]
  | d :: ds => by rw [layL, layL_all n ds]; simp
mutual
theorem lay_py : ∀ (n : Nat) (d : D), lay n d = true → (toPy d).canLay0 = true ∧ (toPy d).depth ≤ n
  | _, .non, _ => by simp [toPy, PyData.canLay0, PyData.depth]
  | _, .bl _, _ => by simp [toPy, PyData.canLay0, PyData.depth]
  | _, .int _, _ => by simp [toPy, PyData.canLay0, PyData.depth]
  | n, .str x, h => by
    have h' : PyData.strOk x = true := by cases n <;> simpa [lay] using h
    simp [toPy, PyData.canLay0, PyData.depth, h']
  | n + 1, .tp _ ds, h => by
    obtain ⟨h1, h2⟩ := layL_py n ds (by simpa [lay] using h)
    simp only [toPy, PyData.canLay0, PyData.depth]
    exact ⟨h1, by omega⟩
  | n + 1, .lst ds, h => by
    obtain ⟨h1, h2⟩ := layL_py n ds (by simpa [lay] using h)
    simp only [toPy, PyData.canLay0, PyData.depth]
    exact ⟨h1, by omega⟩
  | 0, .tp _ _, h => by simp [lay] at h
  | 0, .lst _, h => by simp [lay] at h
  | n, .ref _, h => by cases n <;> simp [lay] at h
  | n, .flst _, h => by cases n <;> simp [lay] at h
  | n, .dK _ _, h => by cases n <;> simp [lay] at h
  | n, .dT _ _, h => by cases n <;> simp [lay] at h
theorem layL_py : ∀ (n : Nat) (ds : List D), layL n ds = true → PyData.canLayAll0 (toPyL ds) = true ∧ PyData.depthAll (toPyL ds) ≤ n
  | _, [], _ => by simp [toPyL, PyData.canLayAll0, PyData.depthAll]
  | n, d :: ds, h => by
    rw [layL, Bool.and_eq_true] at h
    obtain ⟨h1, h2⟩ := lay_py n d h.1
    obtain ⟨g1, g2⟩ := layL_py n ds h.2
    simp only [toPyL, PyData.canLayAll0, PyData.depthAll, h1, g1, Bool.and_self, true_and]
    omega
end
mutual
/-- plain data of a depth at most n -/
def pd : Nat → D → Bool
  | _, .non => true
  | _, .bl _ => true
  | _, .int _ => true
  | _, .str _ => true
  | n + 1, .tp _ ds => pdL n ds
  | n + 1, .lst ds => pdL n ds
  | _, _ => false
def pdL : Nat → List D → Bool
  | _, [] => true
  | n, d :: ds => pd n d && pdL n ds
end
mutual
theorem pd_lay : ∀ (n : Nat) (d : D), lay n d = true → pd n d = true
  | n, .non, _ => by cases n <;> rfl
  | n, .bl _, _ => by cases n <;> rfl
  | n, .int _, _ => by cases n <;> rfl
  | n, .str _, _ => by cases n <;> rfl
  | n + 1, .tp _ ds, h => by
    simp only [lay] at h
    simp only [pd]
    exact pdL_lay n ds h
  | n + 1, .lst ds, h => by
    simp only [lay] at h
    simp only [pd]
    exact pdL_lay n ds h
  | 0, .tp _ _, h => by simp [lay] at h
  | 0, .lst _, h => by simp [lay] at h
  | n, .flst _, h => by cases n <;> simp [lay] at h
  | n, .ref _, h => by cases n <;> simp [lay] at h
  | n, .dK _ _, h => by cases n <;> simp [lay] at h
  | n, .dT _ _, h => by cases n <;> simp [lay] at h
theorem pdL_lay : ∀ (n : Nat) (ds : List D), layL n ds = true → pdL n ds = true
  | _, [], _ => rfl
  | n, d :: ds, h => by
    rw [layL, Bool.and_eq_true] at h
    rw [pdL, pd_lay n d h.1, pdL_lay n ds h.2]; rfl
end
mutual
theorem pd_depth : ∀ (n : Nat) (d : D), pd n d = true → (toPy d).depth ≤ n
  | n, .non, _ => by simp [toPy, PyData.depth]
  | n, .bl _, _ => by simp [toPy, PyData.depth]
  | n, .int _, _ => by simp [toPy, PyData.depth]
  | n, .str _, _ => by simp [toPy, PyData.depth]
  | n + 1, .tp _ ds, h => by
    have := pdL_depth n ds (by simpa [pd] using h)
    simp only [toPy, PyData.depth]; omega
  | n + 1, .lst ds, h => by
    have := pdL_depth n ds (by simpa [pd] using h)
    simp only [toPy, PyData.depth]; omega
  | 0, .tp _ _, h => by simp [pd] at h
  | 0, .lst _, h => by simp [pd] at h
  | n, .flst _, h => by cases n <;> simp [pd] at h
  | n, .ref _, h => by cases n <;> simp [pd] at h
  | n, .dK _ _, h => by cases n <;> simp [pd] at h
  | n, .dT _ _, h => by cases n <;> simp [pd] at h
theorem pdL_depth : ∀ (n : Nat) (ds : List D), pdL n ds = true → PyData.depthAll (toPyL ds) ≤ n
  | _, [], _ => by simp [toPyL, PyData.depthAll]
  | n, d :: ds, h => by
    rw [pdL, Bool.and_eq_true] at h
    have h1 := pd_depth n d h.1
    have h2 := pdL_depth n ds h.2
    simp only [toPyL, PyData.depthAll]; omega
end
theorem shaped_of_lay {d : D} (h : lay 60 d = true) : SeqAt.shaped (toPy d) = true := by
  obtain ⟨h1, h2⟩ := lay_py 60 d h
  unfold SeqAt.shaped
  rw [h1, decide_eq_true (by omega)]; rfl
/-! ### order -/
mutual
def ltD : D → D → Bool
  | .bl a, .bl b => decide (b2i a < b2i b)
  | .int i, .int j => decide (i < j)
  | .str x, .str y => decide (x.cps.toList < y.cps.toList)
  | .tp _ xs, .tp _ ys => ltL xs ys
  | .lst xs, .lst ys => ltL xs ys
  | _, _ => false
def ltL : List D → List D → Bool
  | x :: xs, y :: ys => if eqv x y = true then ltL xs ys else ltD x y
  | [], _ :: _ => true
  | _, _ => false
end
mutual
def likeD : D → D → Bool
  | .non, .non => true
  | .bl _, .bl _ => true
  | .int _, .int _ => true
  | .str _, .str _ => true
  | .tp _ xs, .tp _ ys => likeL xs ys
  | .lst xs, .lst ys => likeL xs ys
  | _, _ => false
def likeL : List D → List D → Bool
  | x :: xs, y :: ys => likeD x y && likeL xs ys
  | _, _ => true
end
mutual
theorem like_py : ∀ x y : D, likeD x y = true → PySem.W.alike (toPy x) (toPy y) = true
  | .tp _ xs, y, h => by cases y <;> simp only [likeD, Bool.false_eq_true] at h <;> simp only [toPy, PySem.W.alike] <;> exact likeL_py xs _ h
  | .lst xs, y, h => by cases y <;> simp only [likeD, Bool.false_eq_true] at h <;> simp only [toPy, PySem.W.alike] <;> exact likeL_py xs _ h
  | .non, y, h => by cases y <;> simp only [likeD, Bool.false_eq_true] at h <;> simp only [toPy, PySem.W.alike]
  | .bl _, y, h => by cases y <;> simp only [likeD, Bool.false_eq_true] at h <;> simp only [toPy, PySem.W.alike]
  | .int _, y, h => by cases y <;> simp only [likeD, Bool.false_eq_true] at h <;> simp only [toPy, PySem.W.alike]
  | .str _, y, h => by cases y <;> simp only [likeD, Bool.false_eq_true] at h <;> simp only [toPy, PySem.W.alike]
  | .ref _, y, h => by cases y <;> simp only [likeD, Bool.false_eq_true] at h
  | .flst _, y, h => by cases y <;> simp only [likeD, Bool.false_eq_true] at h
  | .dK _ _, y, h => by cases y <;> simp only [likeD, Bool.false_eq_true] at h
  | .dT _ _, y, h => by cases y <;> simp only [likeD, Bool.false_eq_true] at h
theorem likeL_py : ∀ xs ys : List D, likeL xs ys = true → PySem.W.alikeAll (toPyL xs) (toPyL ys) = true
  | [], ys, _ => by cases ys <;> simp only [toPyL, PySem.W.alikeAll]
  | _ :: _, [], _ => by simp only [toPyL, PySem.W.alikeAll]
  | x :: xs, y :: ys, h => by
    rw [likeL, Bool.and_eq_true] at h
    simp only [toPyL, PySem.W.alikeAll, like_py x y h.1, likeL_py xs ys h.2, Bool.and_self]
end
mutual
theorem lt_py : ∀ x y : D, likeD x y = true → PySem.W.dataLt (toPy x) (toPy y) = ltD x y
  | .tp _ xs, y, h => by cases y <;> simp only [likeD, Bool.false_eq_true] at h <;> simp only [toPy, PySem.W.dataLt_tuple, ltD] <;> exact ltL_py xs _ h
  | .lst xs, y, h => by cases y <;> simp only [likeD, Bool.false_eq_true] at h <;> simp only [toPy, PySem.W.dataLt_list, ltD] <;> exact ltL_py xs _ h
  | .non, y, h => by cases y <;> simp only [likeD, Bool.false_eq_true] at h <;> simp only [toPy, ltD] <;> rfl
  | .bl _, y, h => by cases y <;> simp only [likeD, Bool.false_eq_true] at h <;> simp only [toPy, ltD, PySem.W.dataLt_bool]
  | .int _, y, h => by cases y <;> simp only [likeD, Bool.false_eq_true] at h <;> simp only [toPy, ltD, PySem.W.dataLt_int]
  | .str _, y, h => by cases y <;> simp only [likeD, Bool.false_eq_true] at h <;> simp only [toPy, ltD, PySem.W.dataLt_str]
  | .ref _, y, h => by cases y <;> simp only [likeD, Bool.false_eq_true] at h
  | .flst _, y, h => by cases y <;> simp only [likeD, Bool.false_eq_true] at h
  | .dK _ _, y, h => by cases y <;> simp only [likeD, Bool.false_eq_true] at h
  | .dT _ _, y, h => by cases y <;> simp only [likeD, Bool.false_eq_true] at h
theorem ltL_py : ∀ xs ys : List D, likeL xs ys = true → PyProof.Rows.lexLt itemOrd (PySem.W.keyToksAll (toPyL xs)) (PySem.W.keyToksAll (toPyL ys)) = ltL xs ys
  | [], [], _ => by simp only [toPyL, ltL]; decide +kernel
  | [], y :: ys, _ => by
    simp only [toPyL, ltL]
    rw [PySem.W.toks_all_cons]
    show PyProof.Rows.lexLt itemOrd [Sum.inl 0] (Sum.inl 1 :: _) = true
    rfl
  | _ :: _, [], _ => by
    simp only [toPyL, ltL]
    rw [PySem.W.toks_all_cons]
    rfl
  | x :: xs, y :: ys, h => by
    rw [likeL, Bool.and_eq_true] at h
    have hl := like_py x y h.1
    simp only [toPyL, ltL]
    by_cases e : eqv x y = true
    · rw [if_pos e, PySem.W.dataLt_all_yes hl (by rw [← eqv_py]; exact e)]
      exact ltL_py xs ys h.2
    · rw [if_neg e, PySem.W.dataLt_all_no hl (by rw [← eqv_py]; simpa using e)]
      exact lt_py x y h.1
end
section
variable {K : PySem.W.Frag} {M : MH} {H : Hp}
theorem asT_sq {d : D} {ds : List D} {v : V} (e : asT d = some ds) (r : Rp K M H d v) : ∃ a vs, v = .ref a ∧ SqT K H a vs ∧ RpL K M H ds vs := by
  cases d with
  | tp k es =>
    have e : es = ds := by simpa [asT] using e
    subst e
    obtain ⟨a, vs, h1, h2, h3⟩ := r
    exact ⟨a, vs, h1, h2.sq, h3⟩
  | _ => simp [asT] at e
theorem asL_sq {d : D} {ds : List D} {v : V} (m : RM K M H) (e : asL M d = some ds) (r : Rp K M H d v) : ∃ a vs, v = .ref a ∧ SqL K H a vs ∧ RpL K M H ds vs := by
  cases d with
  | lst es =>
    have e : es = ds := by simpa [asL] using e
    subst e
    obtain ⟨a, vs, h1, h2, h3, h4⟩ := r
    exact ⟨a, vs, h1, .inl (.inl h3), h4⟩
  | flst es =>
    have e : es = ds := by simpa [asL] using e
    subst e
    obtain ⟨a, vs, h1, h2, h3⟩ := r
    exact ⟨a, vs, h1, h2.sq, h3⟩
  | ref a =>
    have r : v = .ref a := r
    dsimp only [asL] at e
    cases q : M a with
    | none => rw [q] at e; cases e
    | some o =>
      rw [q] at e
      cases o with
      | lst es =>
        have e : es = ds := by simpa using e
        subst e
        obtain ⟨vs, h1, h2⟩ := m a _ q
        exact ⟨a, vs, r, .inl (.inl h1), h2⟩
      | _ => cases e
  | _ => simp [asL] at e
theorem exL_sq {d : D} {ds : List D} {v : V} (m : RM K M H) (e : exL M d = some ds) (r : Rp K M H d v) : ∃ a vs, v = .ref a ∧ H a = some (.lst vs) ∧ RpL K M H ds vs := by
  cases d with
  | lst es =>
    have e : es = ds := by simpa [exL] using e
    subst e
    obtain ⟨a, vs, h1, h2, h3, h4⟩ := r
    exact ⟨a, vs, h1, h3, h4⟩
  | ref a =>
    have r : v = .ref a := r
    dsimp only [exL] at e
    cases q : M a with
    | none => rw [q] at e; cases e
    | some o =>
      rw [q] at e
      cases o with
      | lst es =>
        have e : es = ds := by simpa using e
        subst e
        obtain ⟨vs, h1, h2⟩ := m a _ q
        exact ⟨a, vs, r, h1, h2⟩
      | _ => cases e
  | _ => simp [exL] at e
mutual
theorem Rp.dp : ∀ (n : Nat) (d : D) (v : V), Rp K M H d v → pd n d = true → Dp K H v (toPy d)
  | _, .non, v, r, _ => by
    have r : v = .non := r
    subst r; exact .non
  | _, .bl b, v, r, _ => by
    have r : v = .bl b := r
    subst r; exact .bl b
  | _, .int i, v, r, _ => by
    have r : v = .int i := r
    subst r; exact .int i
  | _, .str x, v, r, _ => by
    have r : v = .str x := r
    subst r; exact .str x
  | n + 1, .tp _ ds, v, r, h => by
    obtain ⟨a, vs, h1, h2, h3⟩ := r
    subst h1
    exact .tup h2.sq (RpL.dp n ds vs h3 h)
  | n + 1, .lst ds, v, r, h => by
    obtain ⟨a, vs, h1, h2, h3, h4⟩ := r
    subst h1
    exact .lst (.inl (.inl h3)) (RpL.dp n ds vs h4 h)
  | 0, .tp _ _, v, r, h => by simp [pd] at h
  | 0, .lst _, v, r, h => by simp [pd] at h
  | n, .flst _, v, r, h => by cases n <;> simp [pd] at h
  | n, .ref _, v, r, h => by cases n <;> simp [pd] at h
  | n, .dK _ _, v, r, h => by cases n <;> simp [pd] at h
  | n, .dT _ _, v, r, h => by cases n <;> simp [pd] at h
theorem RpL.dp : ∀ (n : Nat) (ds : List D) (vs : List V), RpL K M H ds vs → pdL n ds = true → DpAll K H vs (toPyL ds)
  | _, [], vs, r, _ => by
    have r : vs = [] := r
    subst r; exact .nil
  | n, d :: ds, vs, r, h => by
    obtain ⟨v, w, h1, h2, h3⟩ := r
    subst h1
    rw [pdL, Bool.and_eq_true] at h
    exact .cons (Rp.dp n d v h2 h.1) (RpL.dp n ds w h3 h.2)
end
theorem rdL_rp {d : D} {v : V} (m : RM K M H) (r : Rp K M H d v) : (∃ ds, asL M d = some ds ∧ rdL M d = .lst ds) ∨ rdL M d = d := by
  cases d with
  | ref a =>
    dsimp only [rdL, asL]
    cases q : M a with
    | none => exact .inr rfl
    | some o =>
      cases o with
      | lst es => exact .inl ⟨es, rfl, rfl⟩
      | _ => exact .inr rfl
  | _ => exact .inr rfl
theorem rdL_dp {n : Nat} {d : D} {v : V} (m : RM K M H) (r : Rp K M H d v) (h : pd n (rdL M d) = true) : Dp K H v (toPy (rdL M d)) := by
  rcases rdL_rp m r with ⟨ds, e1, e2⟩ | e
  · obtain ⟨a, vs, h1, h2, h3⟩ := asL_sq m e1 r
    rw [e2] at h ⊢
    subst h1
    cases n with
    | zero => simp [pd] at h
    | succ n => exact .lst h2 (RpL.dp n ds vs h3 h)
  · rw [e] at h ⊢
    exact Rp.dp n d v r h
end
end Z

namespace Z
open PySem PySem.Spec PyProof.Rows L2

/-! ### arithmetic -/
def add3 : O2 := fun x y M Q => match x, y with
  | .int i, .int j => Q (.int (i + j)) M
  | .str a, .str b => a.length + b.length ≤ sizeLine ∧ Q (.str (a ++ b)) M
  | .tup a, .tup b => a.length + b.length ≤ sizeLine ∧ Q (.tup (a ++ b)) M
  | x, y => match exL M x, exL M y with
    | some a, some b => a.length + b.length ≤ sizeLine ∧ Q (.lst (a ++ b)) M
    | _, _ => False
def sub3 : O2 := fun x y M Q => match x, y with
  | .int i, .int j => Q (.int (i - j)) M
  | _, _ => False
def WideOk (i j : Int) : Prop := IntMulOk i j
def mul3 : O2 := fun x y M Q => match x, y with
  | .int i, .int j => WideOk i j ∧ Q (.int (i * j)) M
  | .tup a, .int k => a ≠ [] ∧ 2 ≤ k ∧ k ≤ 1000 ∧ a.length ≤ 1000 ∧ Q (.tup (List.replicate k.toNat a).flatten) M
  | .str a, .int k => (0 ≤ k ∧ k ≤ 1000 ∧ a.length ≤ 1000) ∧ Q (.str (Txt.mul a k)) M
  | x, .int k => match exL M x with
    | some a => -(2 ^ 63) ≤ k ∧ k < 2 ^ 63 ∧ a.length * k.toNat ≤ sizeLine ∧ Q (.lst (List.replicate k.toNat a).flatten) M
    | none => False
  | _, _ => False
def fdv3 : O2 := fun x y M Q => match x, y with
  | .int i, .int j => (j ≠ 0 ∧ j.natAbs < 1073741824) ∧ Q (.int (i.fdiv j)) M
  | _, _ => False
def mod3 : O2 := fun x y M Q => match x, y with
  | .int i, .int j => j ≠ 0 ∧ Q (.int (i.fmod j)) M
  | _, _ => False
def pow3 : O2 := fun x y M Q => match x, y with
  | .int i, .int j => (0 ≤ j ∧ j ≤ 1000000 ∧ i.natAbs < 2 ^ 64) ∧ Q (.int (i ^ j.toNat)) M
  | _, _ => False
def neg3 : O1 := fun x M Q => match x with
  | .int i => Q (.int (-i)) M
  | _ => False
theorem rp_int {K : PySem.W.Frag} {M : MH} {H : Hp} {i : Int} {v : V} (h : Rp K M H (.int i) v) : v = .int i := h
theorem rp_str {K : PySem.W.Frag} {M : MH} {H : Hp} {x : Str} {v : V} (h : Rp K M H (.str x) v) : v = .str x := h
theorem rp_bl {K : PySem.W.Frag} {M : MH} {H : Hp} {b : Bool} {v : V} (h : Rp K M H (.bl b) v) : v = .bl b := h
section
variable {X : Cx}
theorem zo_sub : OpR X (binaryOp .Sub) (LO2 X.K sub3) := oimp op_sub fun x y H Q ⟨d1, d2, M, Q3, r1, r2, rm, o, c⟩ => by
  unfold sub3 at o
  split at o
  · exact ⟨_, _, r1, r2, c.now rm o rfl⟩
  · exact o.elim
theorem zo_fdv : OpR X (binaryOp .FloorDiv) (LO2 X.K fdv3) := oimp op_fdivN fun x y H Q ⟨d1, d2, M, Q3, r1, r2, rm, o, c⟩ => by
  unfold fdv3 at o
  split at o
  · exact ⟨_, _, r1, r2, o.1, c.now rm o.2 rfl⟩
  · exact o.elim
theorem zo_mod : OpR X (binaryOp .Mod) (LO2 X.K mod3) := oimp op_modN fun x y H Q ⟨d1, d2, M, Q3, r1, r2, rm, o, c⟩ => by
  unfold mod3 at o
  split at o
  · exact ⟨_, _, r1, r2, o.1, c.now rm o.2 rfl⟩
  · exact o.elim
theorem zo_pow : OpR X (binaryOp .Pow) (LO2 X.K pow3) := oimp op_pow fun x y H Q ⟨d1, d2, M, Q3, r1, r2, rm, o, c⟩ => by
  unfold pow3 at o
  split at o
  · exact ⟨_, _, r1, r2, o.1, c.now rm o.2 rfl⟩
  · exact o.elim
theorem zo_neg : UnR X (unaryOp .USub) (LO1 X.K neg3) := uimp un_neg fun x H Q ⟨d1, M, Q3, r1, rm, o, c⟩ => by
  unfold neg3 at o
  split at o
  · exact ⟨_, r1, c.now rm o rfl⟩
  · exact o.elim
theorem op_mulOk : OpR X (binaryOp .Mult) (rI IntMulOk fun i j => .int (i * j)) := opI fun _ _ _ _ _ _ _ hc q => mul_int q hc
theorem or2 {f : Value → Value → Sem Value} {r r' : R2} (h : OpR X f r) (h' : OpR X f r') : OpR X f (fun x y H Q => r x y H Q ∨ r' x y H Q) := OpR.or h h'
theorem zo_add : OpR X (binaryOp .Add) (LO2 X.K add3) := oimp (or2 op_add (or2 op_add_str (or2 op_catA op_cat))) fun x y H Q ⟨d1, d2, M, Q3, r1, r2, rm, o, c⟩ => by
  unfold add3 at o
  split at o
  · exact .inl ⟨_, _, r1, r2, c.now rm o rfl⟩
  · exact .inr (.inl ⟨_, _, r1, r2, o.1, c.now rm o.2 rfl⟩)
  · rename_i a b
    obtain ⟨p, vs, h1, ⟨h2, h3⟩, h4⟩ := r1
    obtain ⟨q, ws, g1, ⟨g2, g3⟩, g4⟩ := r2
    obtain ⟨o1, o2⟩ := o
    refine .inr (.inr (.inl ⟨p, q, vs, ws, h1, g1, .inl (.inl h3), .inl (.inl g3), by rw [h4.length, g4.length]; exact o1, fun e => ?_, fun _ e => ?_, fun _ _ l hl => ?_⟩))
    · have ea : a = [] := by
        have := h4.length
        rw [e] at this
        exact List.eq_nil_of_length_eq_zero this.symm
      subst ea
      exact c.now rm o2 ⟨q, ws, rfl, ⟨g2, g3⟩, g4⟩
    · have eb : b = [] := by
        have := g4.length
        rw [e] at this
        exact List.eq_nil_of_length_eq_zero this.symm
      subst eb
      rw [List.append_nil] at o2
      exact c.now rm o2 ⟨p, vs, rfl, ⟨h2, h3⟩, h4⟩
    · exact c _ M _ _ o2 (Rp.tupNew rm hl (h4.append g4)) (rm.new hl) (Ev.new hl)
  · split at o
    · rename_i a b e1 e2
      obtain ⟨p, vs, h1, h3, h4⟩ := exL_sq rm e1 r1
      obtain ⟨q, ws, g1, g3, g4⟩ := exL_sq rm e2 r2
      exact .inr (.inr (.inr ⟨p, q, vs, ws, h1, g1, h3, g3, by rw [h4.length, g4.length]; exact o.1, fun l hl => c _ M _ _ o.2 (Rp.lstNew rm hl (h4.append g4)) (rm.new hl) (Ev.new hl)⟩))
    · exact o.elim
/-- lists one behind the other, a new one that may change -/
def addM3 : O2 := fun x y M Q => match exL M x, exL M y with
  | some a, some b => a.length + b.length ≤ sizeLine ∧ ∀ p, M p = none → Q (.ref p) (up M p (.lst (a ++ b)))
  | _, _ => False
theorem zo_addM : OpR X (binaryOp .Add) (LO2 X.K addM3) := oimp op_cat fun x y H Q ⟨d1, d2, M, Q3, r1, r2, rm, o, c⟩ => by
  unfold addM3 at o
  split at o
  · rename_i a b e1 e2
    obtain ⟨p, vs, h1, h3, h4⟩ := exL_sq rm e1 r1
    obtain ⟨q, ws, g1, g3, g4⟩ := exL_sq rm e2 r2
    exact ⟨p, q, vs, ws, h1, g1, h3, g3, by rw [h4.length, g4.length]; exact o.1, fun l hl => c _ _ _ _ (o.2 l (rm.free hl)) rfl (rm.lstNew hl (h4.append g4)) (Ev.newM hl)⟩
  · exact o.elim
theorem RpL.rep {K : PySem.W.Frag} {M : MH} {H : Hp} {ds : List D} {vs : List V} (h : RpL K M H ds vs) : ∀ n : Nat, RpL K M H (List.replicate n ds).flatten (List.replicate n vs).flatten
  | 0 => rfl
  | n + 1 => by
    rw [List.replicate_succ, List.replicate_succ, List.flatten_cons, List.flatten_cons]
    exact h.append (RpL.rep h n)
theorem mul_fits {a : Str} {k : Int} (h0 : 0 ≤ k) (h1 : k ≤ 1000) (h2 : a.length ≤ 1000) : MulOk a k := by
  refine ⟨?_, fun h3 _ => ?_, fun h3 _ => ?_⟩
  · rw [decide_eq_false (by omega), decide_eq_false (by omega)]; rfl
  · have hk : 1 ≤ k := by omega
    have : (2 ^ 63 - 1) / 1000 ≤ ((2 : Int) ^ 63 - 1) / k := by
      refine Int.le_ediv_of_mul_le (by omega) ?_
      have : ((2 : Int) ^ 63 - 1) / 1000 * k ≤ ((2 : Int) ^ 63 - 1) / 1000 * 1000 := Int.mul_le_mul_of_nonneg_left h1 (by decide)
      exact Int.le_trans this (by decide)
    have h4 : (1000 : Int) ≤ (2 ^ 63 - 1) / 1000 := by decide
    omega
  · unfold Builtin.Str.tooLong
    have h4 : a.length * k.toNat ≤ 1000 * 1000 := Nat.mul_le_mul h2 (by omega)
    have h5 : 1000 * 1000 ≤ sizeLine := by decide
    exact decide_eq_false (by omega)
theorem op_mul_str : OpR X (binaryOp .Mult) (fun x y H Q => ∃ a n, x = .str a ∧ y = .int n ∧ MulOk a n ∧ Q (.str (Txt.mul a n)) H) := by
  intro pins s σ H x y v u Q I rx ry h
  obtain ⟨a, n, rfl, rfl, ok, q⟩ := h
  obtain ⟨t, rfl⟩ := rx
  obtain ⟨t2, rfl⟩ := ry
  exact PySem.SB.mul ok fun t' k => ⟨.str (Txt.mul a n), H, I.tok _, ⟨_, rfl⟩, q⟩
theorem zo_mul : OpR X (binaryOp .Mult) (LO2 X.K mul3) := oimp (or2 op_mulOk (or2 op_repT (or2 op_rep op_mul_str))) fun x y H Q ⟨d1, d2, M, Q3, r1, r2, rm, o, c⟩ => by
  unfold mul3 at o
  split at o
  · exact .inl ⟨_, _, r1, r2, o.1, c.now rm o.2 rfl⟩
  · rename_i a k
    obtain ⟨p, vs, h1, ⟨h2, h3⟩, h4⟩ := r1
    obtain ⟨o1, o2, o3, o4, o5⟩ := o
    refine .inr (.inl ⟨p, k, vs, h1, r2, .inl (.inl h3), fun e => o1 ?_, o2, o3, by rw [h4.length]; exact o4, fun l hl => c _ M _ _ o5 (Rp.tupNew rm hl (h4.rep _)) (rm.new hl) (Ev.new hl)⟩)
    have := h4.length
    rw [e] at this
    exact List.eq_nil_of_length_eq_zero this.symm
  · exact .inr (.inr (.inr ⟨_, _, rp_str r1, rp_int r2, mul_fits o.1.1 o.1.2.1 o.1.2.2, c.now rm o.2 rfl⟩))
  · split at o
    · rename_i e1
      obtain ⟨p, vs, h1, h3, h4⟩ := exL_sq rm e1 r1
      exact .inr (.inr (.inl ⟨p, _, vs, h1, r2, h3, o.1, o.2.1, by rw [h4.length]; exact o.2.2.1, fun l hl => c _ M _ _ o.2.2.2 (Rp.lstNew rm hl (h4.rep _)) (rm.new hl) (Ev.new hl)⟩))
    · exact o.elim
  · exact o.elim
end

/-! ### == and != -/
/-- scalars that are compared at sight -/
def sc2 : D → D → Bool
  | .non, .non => true | .non, .int _ => true | .int _, .non => true | .non, .bl _ => true | .bl _, .non => true | .non, .str _ => true | .str _, .non => true
  | .int _, .int _ => true | .bl _, .bl _ => true | .str _, .str _ => true
  | .int _, .str _ => true | .str _, .int _ => true | .bl _, .str _ => true | .str _, .bl _ => true
  | _, _ => false
def eqOk (M : MH) (x y : D) : Bool := sc2 x y || (lay 60 (rdL M x) && lay 60 (rdL M y))
def eq3 : O2 := fun x y M Q => eqOk M x y = true ∧ Q (.bl (eqv (rdL M x) (rdL M y))) M
def ne3 : O2 := fun x y M Q => eqOk M x y = true ∧ Q (.bl (!eqv (rdL M x) (rdL M y))) M
section
variable {X : Cx}
theorem sc2_scal {K : PySem.W.Frag} {M : MH} {H : Hp} {x y : D} {v w : V} (h : sc2 x y = true) (rx : Rp K M H x v) (ry : Rp K M H y w) : scal v w = true ∧ decide (v = w) = eqv (rdL M x) (rdL M y) := by
  cases x <;> cases y <;> first
    | (exact absurd h Bool.false_ne_true)
    | (have rx := show v = _ from rx
       have ry := show w = _ from ry
       subst rx; subst ry
       refine ⟨rfl, ?_⟩
       simp only [eqv, rdL]
       first | exact dec_int | exact dec_bl | exact dec_str | simp)
theorem zo_eq (hu : X.A.units + 64 < cLine) : OpR X (compareOp .Eq) (LO2 X.K eq3) := oimp (or2 op_eq (op_eqD hu)) fun x y H Q ⟨d1, d2, M, Q3, r1, r2, rm, o, c⟩ => by
  obtain ⟨h, o⟩ := o
  unfold eqOk at h
  rw [Bool.or_eq_true] at h
  rcases h with h | h
  · obtain ⟨h1, h2⟩ := sc2_scal h r1 r2
    exact .inl ⟨h1, c.now rm o (by rw [h2]; rfl)⟩
  · rw [Bool.and_eq_true] at h
    refine .inr ⟨_, _, rdL_dp rm r1 (pd_lay _ _ h.1), rdL_dp rm r2 (pd_lay _ _ h.2), shaped_of_lay h.1, shaped_of_lay h.2, c.now rm o ?_⟩
    rw [eqv_py]; rfl
theorem zo_ne (hu : X.A.units + 64 < cLine) : OpR X (compareOp .NotEq) (LO2 X.K ne3) := oimp (or2 op_ne (op_neD hu)) fun x y H Q ⟨d1, d2, M, Q3, r1, r2, rm, o, c⟩ => by
  obtain ⟨h, o⟩ := o
  unfold eqOk at h
  rw [Bool.or_eq_true] at h
  rcases h with h | h
  · obtain ⟨h1, h2⟩ := sc2_scal h r1 r2
    exact .inl ⟨h1, c.now rm o (by rw [h2]; rfl)⟩
  · rw [Bool.and_eq_true] at h
    refine .inr ⟨_, _, rdL_dp rm r1 (pd_lay _ _ h.1), rdL_dp rm r2 (pd_lay _ _ h.2), shaped_of_lay h.1, shaped_of_lay h.2, c.now rm o ?_⟩
    rw [eqv_py]; rfl
end
/-! ### < <= > >= -/
def notNon : D → Bool
  | .non => false
  | _ => true
def ltOk (M : MH) (x y : D) : Bool := likeD (rdL M x) (rdL M y) && notNon (rdL M x) && pd 60 (rdL M x) && pd 60 (rdL M y)
def lt3 : O2 := fun x y M Q => match x, y with
  | .int i, .int j => Q (.bl (decide (i < j))) M
  | x, y => ltOk M x y = true ∧ Q (.bl (ltD (rdL M x) (rdL M y))) M
def le3 : O2 := fun x y M Q => match x, y with
  | .int i, .int j => Q (.bl (decide (i ≤ j))) M
  | x, y => ltOk M x y = true ∧ Q (.bl (!ltD (rdL M y) (rdL M x))) M
def gt3 : O2 := fun x y M Q => match x, y with
  | .int i, .int j => Q (.bl (decide (j < i))) M
  | x, y => ltOk M x y = true ∧ Q (.bl (ltD (rdL M y) (rdL M x))) M
def ge3 : O2 := fun x y M Q => match x, y with
  | .int i, .int j => Q (.bl (decide (j ≤ i))) M
  | x, y => ltOk M x y = true ∧ Q (.bl (!ltD (rdL M x) (rdL M y))) M
section
variable {X : Cx}
/-- an order's operator on data -/
theorem op_ord {op : CmpOp} {g : PyData → PyData → Bool}
    (rule : ∀ (s : Shared) (da db : PyData) (a b : Value) (as bs : List Addr) (Q : Value → Shared → Prop), Reads s.heap a da as → Reads s.heap b db bs → PySem.W.alike da db = true → da ≠ .none → X.A.units + min da.depth db.depth < cLine → Q (.bool (g da db)) s → wpAny (model X.prog X.w) X.A (compareOp op a b) Q X.xe s) :
    OpR X (compareOp op) (fun x y H Q => ∃ da db, Dp X.K H x da ∧ Dp X.K H y db ∧ PySem.W.alike da db = true ∧ da ≠ .none ∧ X.A.units + min da.depth db.depth < cLine ∧ Q (.bl (g da db)) H) := by
  intro pins s σ H x y v u Q I rx ry ⟨da, db, h1, h2, h3, h4, h5, q⟩
  obtain ⟨as, g1⟩ := Dp.reads I da x v h1 rx
  obtain ⟨bs, g2⟩ := Dp.reads I db y u h2 ry
  exact rule s da db v u as bs _ g1 g2 h3 h4 h5 ⟨.bl _, H, I, rfl, q⟩
theorem ltOk_parts {M : MH} {H : Hp} {x y : D} {v w : V} (hu : X.A.units + 64 < cLine) (rm : RM X.K M H) (h : ltOk M x y = true) (rx : Rp X.K M H x v) (ry : Rp X.K M H y w) :
    Dp X.K H v (toPy (rdL M x)) ∧ Dp X.K H w (toPy (rdL M y)) ∧ PySem.W.alike (toPy (rdL M x)) (toPy (rdL M y)) = true ∧ toPy (rdL M x) ≠ .none ∧ X.A.units + min (toPy (rdL M x)).depth (toPy (rdL M y)).depth < cLine ∧ likeD (rdL M x) (rdL M y) = true := by
  unfold ltOk at h
  simp only [Bool.and_eq_true] at h
  obtain ⟨⟨⟨h1, h2⟩, h3⟩, h4⟩ := h
  refine ⟨rdL_dp rm rx h3, rdL_dp rm ry h4, like_py _ _ h1, fun e => ?_, ?_, h1⟩
  · revert h2 e
    cases rdL M x <;> simp [notNon, toPy]
  · have := pd_depth _ _ h3
    omega
mutual
theorem like_comm : ∀ x y : D, likeD x y = likeD y x
  | .tp _ xs, y => by cases y <;> simp only [likeD] <;> exact likeL_comm xs _
  | .lst xs, y => by cases y <;> simp only [likeD] <;> exact likeL_comm xs _
  | .non, y => by cases y <;> simp only [likeD]
  | .bl _, y => by cases y <;> simp only [likeD]
  | .int _, y => by cases y <;> simp only [likeD]
  | .str _, y => by cases y <;> simp only [likeD]
  | .ref _, y => by cases y <;> simp only [likeD]
  | .flst _, y => by cases y <;> simp only [likeD]
  | .dK _ _, y => by cases y <;> simp only [likeD]
  | .dT _ _, y => by cases y <;> simp only [likeD]
theorem likeL_comm : ∀ xs ys : List D, likeL xs ys = likeL ys xs
  | [], [] => rfl
  | [], _ :: _ => by simp only [likeL]
  | _ :: _, [] => by simp only [likeL]
  | x :: xs, y :: ys => by simp only [likeL, like_comm x y, likeL_comm xs ys]
end
theorem zo_lt (hu : X.A.units + 64 < cLine) : OpR X (compareOp .Lt) (LO2 X.K lt3) := oimp (or2 op_lt (op_ord fun s da db a b as bs Q => PySem.W.lt_data)) fun x y H Q ⟨d1, d2, M, Q3, r1, r2, rm, o, c⟩ => by
  unfold lt3 at o
  split at o
  · exact .inl ⟨_, _, r1, r2, c.now rm o rfl⟩
  · obtain ⟨h1, h2, h3, h4, h5, h6⟩ := ltOk_parts hu rm o.1 r1 r2
    exact .inr ⟨_, _, h1, h2, h3, h4, h5, c.now rm o.2 (by rw [lt_py _ _ h6]; rfl)⟩
theorem zo_le (hu : X.A.units + 64 < cLine) : OpR X (compareOp .LtE) (LO2 X.K le3) := oimp (or2 op_le (op_ord fun s da db a b as bs Q => PySem.W.le_data)) fun x y H Q ⟨d1, d2, M, Q3, r1, r2, rm, o, c⟩ => by
  unfold le3 at o
  split at o
  · exact .inl ⟨_, _, r1, r2, c.now rm o rfl⟩
  · obtain ⟨h1, h2, h3, h4, h5, h6⟩ := ltOk_parts hu rm o.1 r1 r2
    exact .inr ⟨_, _, h1, h2, h3, h4, h5, c.now rm o.2 (by rw [lt_py _ _ (by rw [like_comm]; exact h6)]; rfl)⟩
theorem zo_gt (hu : X.A.units + 64 < cLine) : OpR X (compareOp .Gt) (LO2 X.K gt3) := oimp (or2 op_gt (op_ord (g := fun a b => PySem.W.dataLt b a) fun s da db a b as bs Q => PySem.W.gt_data)) fun x y H Q ⟨d1, d2, M, Q3, r1, r2, rm, o, c⟩ => by
  unfold gt3 at o
  split at o
  · exact .inl ⟨_, _, r1, r2, c.now rm o rfl⟩
  · obtain ⟨h1, h2, h3, h4, h5, h6⟩ := ltOk_parts hu rm o.1 r1 r2
    exact .inr ⟨_, _, h1, h2, h3, h4, h5, c.now rm o.2 (by rw [lt_py _ _ (by rw [like_comm]; exact h6)]; rfl)⟩
theorem zo_ge (hu : X.A.units + 64 < cLine) : OpR X (compareOp .GtE) (LO2 X.K ge3) := oimp (or2 op_ge (op_ord (g := fun a b => !PySem.W.dataLt a b) fun s da db a b as bs Q => PySem.W.ge_data)) fun x y H Q ⟨d1, d2, M, Q3, r1, r2, rm, o, c⟩ => by
  unfold ge3 at o
  split at o
  · exact .inl ⟨_, _, r1, r2, c.now rm o rfl⟩
  · obtain ⟨h1, h2, h3, h4, h5, h6⟩ := ltOk_parts hu rm o.1 r1 r2
    exact .inr ⟨_, _, h1, h2, h3, h4, h5, c.now rm o.2 (by rw [lt_py _ _ h6]; rfl)⟩
end
/-! ### is None -/
def isNon : D → Bool
  | .non => true
  | _ => false
def isN3 : O2 := fun x y M Q => match y with | .non => Q (.bl (isNon x)) M | _ => False
def notN3 : O2 := fun x y M Q => match y with | .non => Q (.bl (!isNon x)) M | _ => False
theorem isNon_v {K : PySem.W.Frag} {M : MH} {H : Hp} {d : D} {v : V} (r : Rp K M H d v) : decide (v = .non) = isNon d := by
  cases d with
  | non =>
    have r := show v = _ from r
    subst r; rfl
  | bl _ =>
    have r := show v = _ from r
    subst r; rfl
  | int _ =>
    have r := show v = _ from r
    subst r; rfl
  | str _ =>
    have r := show v = _ from r
    subst r; rfl
  | ref _ =>
    have r := show v = _ from r
    subst r; rfl
  | tp _ _ => obtain ⟨a, vs, h, _⟩ := r; subst h; rfl
  | lst _ => obtain ⟨a, vs, h, _⟩ := r; subst h; rfl
  | flst _ => obtain ⟨a, vs, h, _⟩ := r; subst h; rfl
  | dK _ _ => obtain ⟨a, vs, h, _⟩ := r; subst h; rfl
  | dT _ _ => obtain ⟨a, vs, h, _⟩ := r; subst h; rfl
section
variable {X : Cx}
theorem zo_isN : OpR X (compareOp .Is) (LO2 X.K isN3) := oimp op_isN fun x y H Q ⟨d1, d2, M, Q3, r1, r2, rm, o, c⟩ => by
  unfold isN3 at o
  split at o
  · exact ⟨r2, c.now rm o (by rw [isNon_v r1]; rfl)⟩
  · exact o.elim
theorem zo_notN : OpR X (compareOp .IsNot) (LO2 X.K notN3) := oimp op_notN fun x y H Q ⟨d1, d2, M, Q3, r1, r2, rm, o, c⟩ => by
  unfold notN3 at o
  split at o
  · exact ⟨r2, c.now rm o (by rw [isNon_v r1]; rfl)⟩
  · exact o.elim
end
/-! ### dicts, by look-up -/
def asK (M : MH) : D → Option (List (Key × D))
  | .dK ks ds => some (ks.zip ds)
  | .ref a => match M a with | some (.dK kvs) => some kvs | _ => none
  | _ => none
def asD (M : MH) : D → Option (List (List Key × D))
  | .dT ks ds => some (ks.zip ds)
  | .ref a => match M a with | some (.dT kvs) => some kvs | _ => none
  | _ => none
def keyK : D → Option Key
  | .int i => some (.inl i)
  | .str x => some (.inr x)
  | _ => none
def keysK : List D → Option (List Key)
  | [] => some []
  | d :: ds => match keyK d, keysK ds with | some k, some ks => some (k :: ks) | _, _ => none
def keyT : D → Option (List Key)
  | .tup ds => keysK ds
  | _ => none
section
variable {κ : Type} [DecidableEq κ]
def valD (kvs : List (κ × D)) (k : κ) : Option D := (kvs.find? fun kv => decide (kv.1 = k)).map (·.2)
def putD (kvs : List (κ × D)) (k : κ) (v : D) : List (κ × D) :=
  if (kvs.any fun kv => decide (kv.1 = k)) = true then kvs.map (fun kv => if kv.1 = k then (kv.1, v) else kv) else kvs ++ [(k, v)]
theorem valD_nil {k : κ} : valD ([] : List (κ × D)) k = none := rfl
theorem valD_pos {p : κ × D} {r : List (κ × D)} {k : κ} (e : p.1 = k) : valD (p :: r) k = some p.2 := by simp [valD, List.find?_cons, e]
theorem valD_neg {p : κ × D} {r : List (κ × D)} {k : κ} (e : ¬ p.1 = k) : valD (p :: r) k = valD r k := by simp [valD, List.find?_cons, e]
end
section
variable {K : PySem.W.Frag} {M : MH} {H : Hp} {κ : Type} [DecidableEq κ]
/-- a dict's pairs over its values -/
theorem val_rp {k : κ} : ∀ {kvs : List (κ × D)} {vs : List V}, RpL K M H (kvs.map (·.2)) vs → (valD kvs k = none ∧ valV ((kvs.map (·.1)).zip vs) k = none) ∨ ∃ d v, valD kvs k = some d ∧ valV ((kvs.map (·.1)).zip vs) k = some v ∧ Rp K M H d v
  | [], vs, h => .inl ⟨rfl, by simp [valV_nil]⟩
  | p :: r, vs, h => by
    obtain ⟨v, w, h1, h2, h3⟩ := h
    subst h1
    rw [List.map_cons, List.zip_cons_cons]
    by_cases e : p.1 = k
    · exact .inr ⟨p.2, v, valD_pos e, valV_pos (p := (p.1, v)) e, h2⟩
    · rw [valD_neg e, valV_neg (p := (p.1, v)) e]
      exact val_rp h3
theorem put_rp {k : κ} {d : D} {v : V} (hd : Rp K M H d v) {kvs : List (κ × D)} {vs : List V} (h : RpL K M H (kvs.map (·.2)) vs) :
    ∃ ws, putK ((kvs.map (·.1)).zip vs) k v = ((putD kvs k d).map (·.1)).zip ws ∧ RpL K M H ((putD kvs k d).map (·.2)) ws := by
  have any : ∀ {kvs : List (κ × D)} {vs : List V}, RpL K M H (kvs.map (·.2)) vs → (((kvs.map (·.1)).zip vs).any fun kv => decide (kv.1 = k)) = kvs.any fun kv => decide (kv.1 = k) := by
    intro kvs
    induction kvs with
    | nil => intro vs h; simp
    | cons p r ih =>
      intro vs h
      obtain ⟨u, w, h1, h2, h3⟩ := h
      subst h1
      rw [List.map_cons, List.zip_cons_cons, List.any_cons, List.any_cons, ih h3]
  have mp : ∀ {kvs : List (κ × D)} {vs : List V}, RpL K M H (kvs.map (·.2)) vs → ∃ ws, (((kvs.map (·.1)).zip vs).map fun kv => if kv.1 = k then (kv.1, v) else kv) = ((kvs.map fun kv => if kv.1 = k then (kv.1, d) else kv).map (·.1)).zip ws ∧ RpL K M H ((kvs.map fun kv => if kv.1 = k then (kv.1, d) else kv).map (·.2)) ws := by
    intro kvs
    induction kvs with
    | nil =>
      intro vs h
      have h : vs = [] := h
      subst h
      exact ⟨[], rfl, rfl⟩
    | cons p r ih =>
      intro vs h
      obtain ⟨u, w, h1, h2, h3⟩ := h
      subst h1
      obtain ⟨ws, e1, e2⟩ := ih h3
      by_cases e : p.1 = k
      · refine ⟨v :: ws, ?_, ?_⟩
        · simp only [List.map_cons, List.zip_cons_cons, if_pos e, e1]
        · simp only [List.map_cons, if_pos e]
          exact ⟨v, ws, rfl, hd, e2⟩
      · refine ⟨u :: ws, ?_, ?_⟩
        · simp only [List.map_cons, List.zip_cons_cons, if_neg e, e1]
        · simp only [List.map_cons, if_neg e]
          exact ⟨u, ws, rfl, h2, e2⟩
  unfold putK putD
  rw [any h]
  by_cases a : (kvs.any fun kv => decide (kv.1 = k)) = true
  · rw [if_pos a, if_pos a]
    exact mp h
  · rw [if_neg a, if_neg a]
    refine ⟨vs ++ [v], ?_, ?_⟩
    · rw [List.map_append, List.map_cons, List.map_nil, List.zip_append (by rw [h.length]; simp)]
      rfl
    · rw [List.map_append]
      exact h.append (RpL.one hd)
theorem keyK_v {d : D} {k : Key} {v : V} (e : keyK d = some k) (r : Rp K M H d v) : v = kV k := by
  cases d with
  | int i =>
    have e : Sum.inl i = k := by simpa [keyK] using e
    subst e
    exact r
  | str x =>
    have e : Sum.inr x = k := by simpa [keyK] using e
    subst e
    exact r
  | _ => simp [keyK] at e
theorem keysK_v : ∀ {ds : List D} {ks : List Key} {vs : List V}, keysK ds = some ks → RpL K M H ds vs → vs = ks.map kV
  | [], ks, vs, e, r => by
    have e : [] = ks := by simpa [keysK] using e
    subst e
    exact r
  | d :: ds, ks, vs, e, r => by
    obtain ⟨v, w, h1, h2, h3⟩ := r
    subst h1
    unfold keysK at e
    split at e
    · rename_i k ks' e1 e2
      have e : k :: ks' = ks := by simpa using e
      subst e
      rw [keyK_v e1 h2, keysK_v e2 h3]; rfl
    · cases e
theorem asK_h {d : D} {kvs : List (Key × D)} {v : V} (m : RM K M H) (e : asK M d = some kvs) (r : Rp K M H d v) : ∃ a vs, v = .ref a ∧ Rd H a (.dK ((kvs.map (·.1)).zip vs)) ∧ RpL K M H (kvs.map (·.2)) vs := by
  cases d with
  | dK ks ds =>
    have e : ks.zip ds = kvs := by simpa [asK] using e
    subst e
    obtain ⟨a, vs, h1, h2, h3, h4, h5⟩ := r
    refine ⟨a, vs, h1, ?_, ?_⟩
    · rw [List.map_fst_zip (Nat.le_of_eq h4)]; exact h3
    · rw [List.map_snd_zip (Nat.le_of_eq h4.symm)]; exact h5
  | ref a =>
    dsimp only [asK] at e
    cases q : M a with
    | none => rw [q] at e; cases e
    | some o =>
      rw [q] at e
      cases o with
      | dK kvs' =>
        have e : kvs' = kvs := by simpa using e
        subst e
        obtain ⟨vs, h1, h2⟩ := m a _ q
        exact ⟨a, vs, r, .inl h1, h2⟩
      | _ => cases e
  | _ => simp [asK] at e
theorem asD_h {d : D} {kvs : List (List Key × D)} {v : V} (m : RM K M H) (e : asD M d = some kvs) (r : Rp K M H d v) : ∃ a vs, v = .ref a ∧ Rd H a (.dT ((kvs.map (·.1)).zip vs)) ∧ RpL K M H (kvs.map (·.2)) vs := by
  cases d with
  | dT ks ds =>
    have e : ks.zip ds = kvs := by simpa [asD] using e
    subst e
    obtain ⟨a, vs, h1, h2, h3, h4, h5⟩ := r
    refine ⟨a, vs, h1, ?_, ?_⟩
    · rw [List.map_fst_zip (Nat.le_of_eq h4)]; exact h3
    · rw [List.map_snd_zip (Nat.le_of_eq h4.symm)]; exact h5
  | ref a =>
    dsimp only [asD] at e
    cases q : M a with
    | none => rw [q] at e; cases e
    | some o =>
      rw [q] at e
      cases o with
      | dT kvs' =>
        have e : kvs' = kvs := by simpa using e
        subst e
        obtain ⟨vs, h1, h2⟩ := m a _ q
        exact ⟨a, vs, r, .inl h1, h2⟩
      | _ => cases e
  | _ => simp [asD] at e
end
/-- what a dict holds at a key: none where it is no dict or the key no key -/
def dfind (M : MH) (x y : D) : Option (Option D) :=
  match asK M x, keyK y with
  | some kvs, some k => some (valD kvs k)
  | _, _ => match asD M x, keyT y with
    | some kvs, some k => some (valD kvs k)
    | _, _ => none
theorem dfind_h {K : PySem.W.Frag} {M : MH} {H : Hp} {x y : D} {v w : V} {o : Option D} (m : RM K M H) (e : dfind M x y = some o) (rx : Rp K M H x v) (ry : Rp K M H y w) :
    ∃ a r, v = .ref a ∧ DGet H a w r ∧ ((o = none ∧ r = none) ∨ ∃ d u, o = some d ∧ r = some u ∧ Rp K M H d u) := by
  unfold dfind at e
  split at e
  · rename_i kvs k e1 e2
    obtain ⟨a, vs, h1, h2, h3⟩ := asK_h m e1 rx
    have hk := keyK_v e2 ry
    subst hk
    refine ⟨a, _, h1, .inl ⟨_, _, h2, rfl, rfl⟩, ?_⟩
    have e : valD kvs k = o := by simpa using e
    subst e
    rcases val_rp (k := k) h3 with ⟨g1, g2⟩ | ⟨d, u, g1, g2, g3⟩
    · exact .inl ⟨g1, g2⟩
    · exact .inr ⟨d, u, g1, g2, g3⟩
  · split at e
    · rename_i kvs k e1 e2
      obtain ⟨a, vs, h1, h2, h3⟩ := asD_h m e1 rx
      have e : valD kvs k = o := by simpa using e
      subst e
      cases y with
      | tp tk es =>
        cases tk with
        | s => simp [keyT] at e2
        | k => simp [keyT] at e2
        | t =>
        obtain ⟨b, ws, g1, ⟨g2, g3⟩, g4⟩ := ry
        have hk := keysK_v e2 g4
        subst hk g1
        refine ⟨a, _, h1, .inr ⟨_, _, _, h2, rfl, g3, rfl⟩, ?_⟩
        rcases val_rp (k := k) h3 with ⟨g1, g2⟩ | ⟨d, u, g1, g2, g3⟩
        · exact .inl ⟨g1, g2⟩
        · exact .inr ⟨d, u, g1, g2, g3⟩
      | _ => simp [keyT] at e2
    · cases e
/-! ### in, not in -/
def seqM (M : MH) (d : D) : Option (List D) := match asT d with | some ds => some ds | none => asL M d
def inOk (x : D) (ds : List D) : Bool := lay 59 x && layL 59 ds
def inAns (M : MH) (x y : D) : Option Bool :=
  match y with
  | .str z => match x with | .str i => some (!(Builtin.Str.occurrences z i 0 z.length 1).isEmpty) | _ => none
  | y => match seqM M y with
    | some ds => if inOk x ds = true then some (ds.any fun z => eqv z x) else none
    | none => match dfind M y x with
      | some o => some o.isSome
      | none => none
def in3 : O2 := fun x y M Q => match inAns M x y with | some b => Q (.bl b) M | none => False
def nin3 : O2 := fun x y M Q => match inAns M x y with | some b => Q (.bl (!b)) M | none => False
section
variable {X : Cx}
theorem toPyL_get : ∀ {ds : List D} {j : Nat} {z : PyData}, (toPyL ds)[j]? = some z → ∃ d, ds[j]? = some d ∧ toPy d = z
  | [], j, z, h => by simp [toPyL] at h
  | d :: ds, 0, z, h => ⟨d, rfl, by simpa [toPyL] using h⟩
  | d :: ds, j + 1, z, h => by
    obtain ⟨e, h1, h2⟩ := toPyL_get (ds := ds) (j := j) (z := z) (by simpa [toPyL] using h)
    exact ⟨e, by simpa using h1, h2⟩
noncomputable def rowF (us : List Value) (ds : List D) (x : D) (y : Value) : Bool := @decide (∃ (i : Nat) (d : D), us[i]? = some y ∧ ds[i]? = some d ∧ eqv d x = true) (Classical.propDecidable _)
theorem rowF_t {us : List Value} {ds : List D} {x : D} {y : Value} (e : ∃ (i : Nat) (d : D), us[i]? = some y ∧ ds[i]? = some d ∧ eqv d x = true) : rowF us ds x y = true := @decide_eq_true _ (Classical.propDecidable _) e
theorem rowF_f {us : List Value} {ds : List D} {x : D} {y : Value} (e : ¬ ∃ (i : Nat) (d : D), us[i]? = some y ∧ ds[i]? = some d ∧ eqv d x = true) : rowF us ds x y = false := @decide_eq_false _ (Classical.propDecidable _) e
theorem of_rowF {us : List Value} {ds : List D} {x : D} {y : Value} (e : rowF us ds x y = true) : ∃ (i : Nat) (d : D), us[i]? = some y ∧ ds[i]? = some d ∧ eqv d x = true := @of_decide_eq_true _ (Classical.propDecidable _) e
/-- == of a datum and one of a row's items -/
theorem row_eqAt {pins : List (Addr × Obj)} {σ : L2.St} {H : Hp} {M : MH} {s : Shared} (hu : X.A.units + 64 < cLine) (I : Inv X pins σ H s) {x : D} {v : V} {u : Value} (hx : lay 59 x = true) (rx : Rp X.K M H x v) (rv : RelV v u) :
    ∀ {ds : List D} {vs : List V} {us : List Value}, layL 59 ds = true → RpL X.K M H ds vs → Vals vs us → ∃ e : Value → Bool, (∀ y ∈ us, SeqAt.EqAt X.A.in1 s y u (e y)) ∧ us.any e = ds.any fun z => eqv z x := by
  obtain ⟨as, rd⟩ := Dp.reads I _ v u (Rp.dp 59 x v rx (pd_lay _ _ hx)) rv
  have cx := lay_py 59 x hx
  -- the answer by value: read the data back
  have one : ∀ (d : D) (w : V) (y : Value), lay 59 d = true → Rp X.K M H d w → RelV w y → SeqAt.EqAt X.A.in1 s y u (eqv d x) := fun d w y h r q => by
    obtain ⟨bs, rb⟩ := Dp.reads I _ w y (Rp.dp 59 d w r (pd_lay _ _ h)) q
    have cd := lay_py 59 d h
    rw [eqv_py]
    exact SeqAt.eqAt_reads _ _ X.A.in1 s y u _ _ rb rd cd.1 cx.1 (by
      show X.A.units + 1 + _ < cLine
      omega)
  intro ds vs us hl hr hv
  refine ⟨rowF us ds x, fun y hy => ?_, ?_⟩
  · by_cases e : ∃ (i : Nat) (d : D), us[i]? = some y ∧ ds[i]? = some d ∧ eqv d x = true
    · obtain ⟨i, d, h1, h2, h3⟩ := id e
      rw [rowF_t e]
      obtain ⟨w, g1, g2⟩ := hr.get h2
      obtain ⟨y', g3, g4⟩ := hv.get g1
      rw [h1] at g3
      cases g3
      rw [← h3]
      refine one d w y ?_ g2 g4
      rw [layL_all, List.all_eq_true] at hl
      exact hl d (List.mem_of_getElem? h2)
    · rw [rowF_f e]
      obtain ⟨i, hi⟩ := List.getElem?_of_mem hy
      have hil : i < ds.length := by
        have h1 := hv.length
        have h2 := hr.length
        have h3 := (List.getElem?_eq_some_iff.mp hi).1
        omega
      have h2 : ds[i]? = some ds[i] := List.getElem?_eq_getElem hil
      obtain ⟨w, g1, g2⟩ := hr.get h2
      obtain ⟨y', g3, g4⟩ := hv.get g1
      rw [hi] at g3
      cases g3
      have nf : eqv ds[i] x = false := by
        cases q : eqv ds[i] x with
        | false => rfl
        | true => exact (e ⟨i, _, hi, h2, q⟩).elim
      rw [← nf]
      refine one _ w y ?_ g2 g4
      rw [layL_all, List.all_eq_true] at hl
      exact hl _ (List.mem_of_getElem? h2)
  · have len : us.length = ds.length := by rw [← hv.length, hr.length]
    rw [Bool.eq_iff_iff, List.any_eq_true, List.any_eq_true]
    constructor
    · rintro ⟨y, hy, h⟩
      obtain ⟨i, d, h1, h2, h3⟩ := of_rowF h
      exact ⟨d, List.mem_of_getElem? h2, h3⟩
    · rintro ⟨d, hd, h⟩
      obtain ⟨i, hi⟩ := List.getElem?_of_mem hd
      have hil : i < us.length := by
        have := (List.getElem?_eq_some_iff.mp hi).1
        omega
      exact ⟨us[i], List.getElem_mem hil, rowF_t ⟨i, d, List.getElem?_eq_getElem hil, hi, h⟩⟩
theorem seqM_sq {K : PySem.W.Frag} {M : MH} {H : Hp} {d : D} {ds : List D} {v : V} (m : RM K M H) (e : seqM M d = some ds) (r : Rp K M H d v) : ∃ a vs, v = .ref a ∧ (SqL K H a vs ∨ SqT K H a vs) ∧ RpL K M H ds vs := by
  unfold seqM at e
  split at e
  · rename_i ds' e1
    cases e
    obtain ⟨a, vs, h1, h2, h3⟩ := asT_sq e1 r
    exact ⟨a, vs, h1, .inr h2, h3⟩
  · obtain ⟨a, vs, h1, h2, h3⟩ := asL_sq m e r
    exact ⟨a, vs, h1, .inl h2, h3⟩
theorem zo_in (hu : X.A.units + 64 < cLine) : OpR X (compareOp .In) (LO2 X.K in3) := by
  intro pins s σ H x y v u Q I rx ry ⟨d1, d2, M, Q3, r1, r2, rm, o, c⟩
  unfold in3 at o
  split at o
  · rename_i b e
    unfold inAns at e
    split at e
    · rename_i z
      split at e
      · rename_i i
        obtain rfl := Option.some.inj e
        obtain ⟨t, rfl⟩ := rp_str r1 ▸ rx
        obtain ⟨t', rfl⟩ := rp_str r2 ▸ ry
        exact in_str (fin_bl I (c.now rm o rfl) (by simp))
      · cases e
    · split at e
      · rename_i ds e2
        split at e
        · rename_i hok
          obtain rfl := Option.some.inj e
          unfold inOk at hok
          rw [Bool.and_eq_true] at hok
          obtain ⟨a, vs, h1, h2, h3⟩ := seqM_sq rm e2 r2
          subst h1
          cases ry
          rcases h2 with h2 | h2
          · obtain ⟨its, rv, pl, hz⟩ := I.list h2
            obtain ⟨f, g1, g2⟩ := row_eqAt hu I hok.1 r1 rx hok.2 h3 rv
            refine SeqAt.in_listAt f pl.isList (fun w hw => g1 w (by simpa using hw)) ⟨.bl _, H, I, rfl, ?_⟩
            rw [show its.toArray.any f = its.any f by simp, g2]
            exact c.now rm o rfl
          · obtain ⟨its, rv, pl, hz⟩ := I.tuple h2
            obtain ⟨f, g1, g2⟩ := row_eqAt hu I hok.1 r1 rx hok.2 h3 rv
            refine SeqAt.in_tupleAt f pl (fun w hw => g1 w (by simpa using hw)) ⟨.bl _, H, I, rfl, ?_⟩
            rw [show its.toArray.any f = its.any f by simp, g2]
            exact c.now rm o rfl
        · cases e
      · split at e
        · rename_i ov e3
          have e : ov.isSome = b := by simpa using e
          subst e
          obtain ⟨a, r, h1, h2, h3⟩ := dfind_h rm e3 r2 r1
          subst h1
          cases ry
          have hs : r.isSome = ov.isSome := by
            rcases h3 with ⟨g1, g2⟩ | ⟨d, u', g1, g2, _⟩ <;> rw [g1, g2] <;> rfl
          exact d_in (by omega) I h2 rx fun s' I' => ⟨.bl _, H, I', rfl, by rw [hs]; exact c.now rm o rfl⟩
        · cases e
  · exact o.elim
theorem zo_nin (hu : X.A.units + 64 < cLine) : OpR X (compareOp .NotIn) (LO2 X.K nin3) := by
  intro pins s σ H x y v u Q I rx ry ⟨d1, d2, M, Q3, r1, r2, rm, o, c⟩
  unfold nin3 at o
  split at o
  · rename_i b e
    unfold inAns at e
    split at e
    · rename_i z
      split at e
      · rename_i i
        obtain rfl := Option.some.inj e
        obtain ⟨t, rfl⟩ := rp_str r1 ▸ rx
        obtain ⟨t', rfl⟩ := rp_str r2 ▸ ry
        exact notIn_str (fin_bl I (c.now rm o rfl) (by simp))
      · cases e
    · split at e
      · rename_i ds e2
        split at e
        · rename_i hok
          obtain rfl := Option.some.inj e
          unfold inOk at hok
          rw [Bool.and_eq_true] at hok
          obtain ⟨a, vs, h1, h2, h3⟩ := seqM_sq rm e2 r2
          subst h1
          cases ry
          rcases h2 with h2 | h2
          · obtain ⟨its, rv, pl, hz⟩ := I.list h2
            obtain ⟨f, g1, g2⟩ := row_eqAt hu I hok.1 r1 rx hok.2 h3 rv
            refine SeqAt.notIn_listAt f pl.isList (fun w hw => g1 w (by simpa using hw)) ⟨.bl _, H, I, rfl, ?_⟩
            rw [show its.toArray.any f = its.any f by simp, g2]
            exact c.now rm o rfl
          · obtain ⟨its, rv, pl, hz⟩ := I.tuple h2
            obtain ⟨f, g1, g2⟩ := row_eqAt hu I hok.1 r1 rx hok.2 h3 rv
            refine SeqAt.notIn_tupleAt f pl (fun w hw => g1 w (by simpa using hw)) ⟨.bl _, H, I, rfl, ?_⟩
            rw [show its.toArray.any f = its.any f by simp, g2]
            exact c.now rm o rfl
        · cases e
      · split at e
        · rename_i ov e3
          have e : ov.isSome = b := by simpa using e
          subst e
          obtain ⟨a, r, h1, h2, h3⟩ := dfind_h rm e3 r2 r1
          subst h1
          cases ry
          have hs : r.isSome = ov.isSome := by
            rcases h3 with ⟨g1, g2⟩ | ⟨d, u', g1, g2, _⟩ <;> rw [g1, g2] <;> rfl
          exact d_notIn (by omega) I h2 rx fun s' I' => ⟨.bl _, H, I', rfl, by rw [hs]; exact c.now rm o rfl⟩
        · cases e
  · exact o.elim
end
/-! ### subscripts -/
def ixAns (M : MH) (x y : D) : Option D := match y with
  | .int i => match x with
    | .str z => if z.length ≤ sizeLine then (match atI z.cps.toList i with | some c => some (.str ⟨#[c]⟩) | none => none) else none
    | x => match seqM M x with
      | some ds => atI ds i
      | none => (dfind M x (.int i)).join
  | y => (dfind M x y).join
def ix3 : O2 := fun x y M Q => match ixAns M x y with | some d => Q d M | none => False
theorem atI_rp {K : PySem.W.Frag} {M : MH} {H : Hp} {ds : List D} {vs : List V} {i : Int} {d : D} (r : RpL K M H ds vs) (e : atI ds i = some d) : ∃ v, atI vs i = some v ∧ Rp K M H d v := by
  unfold atI at e ⊢
  rw [r.length]
  cases q : ixN ds.length i with
  | none => rw [q] at e; cases e
  | some j =>
    rw [q] at e
    obtain ⟨v, h1, h2⟩ := r.get (show ds[j]? = some d from e)
    exact ⟨v, h1, h2⟩
section
variable {X : Cx}
theorem ix_dict (hu : X.A.units + 1 < cLine) : IxR X (fun x y H Q => ∃ a v, x = .ref a ∧ DGet H a y (some v) ∧ Q v H) := by
  intro value slice pins s σ H x y v u Q I rx ry ⟨a, w, e, g, q⟩ hs
  subst e
  cases rx
  exact tail_any (dict_typeIs I g) PySem.F.slot_dict_getitem.lookup (d_getItem hu I g ry fun w' s3 I3 rw' => ⟨w, H, I3, rw', q⟩) hs
theorem iximp {r r' : R2} (h : IxR X r) (g : ∀ x y H Q, r' x y H Q → r x y H Q) : IxR X r' := fun va sl pins s σ H x y v u Q I rx ry q hs => h va sl pins s σ H x y v u Q I rx ry (g _ _ _ _ q) hs
theorem zi_ix (hu : X.A.units + 64 < cLine) : IxR X (LO2 X.K ix3) := iximp (IxR.or ix_seq (ix_dict (by omega))) fun x y H Q ⟨d1, d2, M, Q3, r1, r2, rm, o, c⟩ => by
  unfold ix3 at o
  split at o
  · rename_i d e
    have dic : ∀ {y' : D}, Rp X.K M H y' y → (dfind M d1 y').join = some d → (∃ a v, x = .ref a ∧ DGet H a y (some v) ∧ Q v H) := fun {y'} ry e => by
      cases q : dfind M d1 y' with
      | none => rw [q] at e; cases e
      | some o' =>
        rw [q] at e
        have e : o' = some d := e
        subst e
        obtain ⟨a, r, h1, h2, h3⟩ := dfind_h rm q r1 ry
        rcases h3 with ⟨g, _⟩ | ⟨d', v, g1, g2, g3⟩
        · cases g
        · cases g1
          subst g2
          exact ⟨a, v, h1, h2, c.now rm o g3⟩
    unfold ixAns at e
    split at e
    · rename_i i
      split at e
      · rename_i z
        split at e
        · rename_i hz
          split at e
          · rename_i ch ec
            obtain rfl := Option.some.inj e
            exact .inl (.inr (.inr ⟨_, _, _, r1, r2, hz, ec, c.now rm o rfl⟩))
          · cases e
        · cases e
      · split at e
        · rename_i ds e1
          obtain ⟨a, vs, h1, h2, h3⟩ := seqM_sq rm e1 r1
          obtain ⟨v, g1, g2⟩ := atI_rp h3 e
          rcases h2 with h2 | h2
          · exact .inl (.inl ⟨a, vs, i, v, h1, r2, h2, g1, c.now rm o g2⟩)
          · exact .inl (.inr (.inl ⟨a, vs, i, v, h1, r2, h2, g1, c.now rm o g2⟩))
        · exact .inr (dic r2 e)
    · exact .inr (dic r2 e)
  · exact o.elim
theorem z_ix {K : PySem.W.Frag} {M0 : MH} {H0 : Hp} {o : O2} {a b : Expr} {ta tb : T3} {pos : Pos} (hr : IxR X (LO2 K o)) (ha : PE X a (LE K M0 H0 ta)) (hb : PE X b (LE K M0 H0 tb)) (hs : PlainIx b) : PE X (.Subscript a b pos) (LE K M0 H0 (op2 o ta tb)) :=
  (pe_ix hr ha hb hs).imp fun _ _ _ h => lo2 h
end
end Z

namespace Z
open PySem PySem.Spec PyProof.Rows L2
def c1 (o : O1) : OL := fun ds M Q => match ds with
  | [d] => o d M Q
  | _ => False
def c2 (o : O2) : OL := fun ds M Q => match ds with
  | [d, e] => o d e M Q
  | _ => False
def ofO (f : MH → D → Option D) : O1 := fun d M Q => match f M d with | some r => Q r M | none => False
def ofO2 (f : MH → D → D → Option D) : O2 := fun d e M Q => match f M d e with | some r => Q r M | none => False
section
variable {K : PySem.W.Frag}
theorem lol1 {o : O1} {xs : List V} {H : Hp} {Q : VK} (h : LOL K (c1 o) xs H Q) : ∃ x, xs = [x] ∧ LO1 K o x H Q := by
  obtain ⟨ds, M, Q3, r, rm, o', c⟩ := h
  unfold c1 at o'
  split at o'
  · obtain ⟨x, y, h1, h2, h3⟩ := r
    have h3 : y = [] := h3
    subst h3
    exact ⟨x, h1, _, M, Q3, h2, rm, o', c⟩
  · exact o'.elim
theorem lol2 {o : O2} {xs : List V} {H : Hp} {Q : VK} (h : LOL K (c2 o) xs H Q) : ∃ x y, xs = [x, y] ∧ LO2 K o x y H Q := by
  obtain ⟨ds, M, Q3, r, rm, o', c⟩ := h
  unfold c2 at o'
  split at o'
  · obtain ⟨x, y, h1, h2, h3⟩ := r
    obtain ⟨x', y', g1, g2, g3⟩ := h3
    have g3 : y' = [] := g3
    subst g3 g1
    exact ⟨x, x', h1, _, _, M, Q3, h2, g2, rm, o', c⟩
  · exact o'.elim
theorem lo1f {f : MH → D → Option D} {x : V} {H : Hp} {Q : VK} (h : LO1 K (ofO f) x H Q) : ∃ d M Q3 r, Rp K M H d x ∧ RM K M H ∧ f M d = some r ∧ Q3 r M ∧ Cv K M H Q3 Q := by
  obtain ⟨d, M, Q3, r, rm, o, c⟩ := h
  unfold ofO at o
  split at o
  · rename_i z e
    exact ⟨d, M, Q3, z, r, rm, e, o, c⟩
  · exact o.elim
end
/-! ### len, int, abs, min, max of two -/
def lenA (M : MH) (d : D) : Option D := match d with
  | .str x => if x.length ≤ sizeLine then some (.int x.length) else none
  | d => match seqM M d with
    | some ds => some (.int ds.length)
    | none => none
def intA (_ : MH) : D → Option D
  | .int i => some (.int i)
  | .bl k => some (.int (if k then 1 else 0))
  | .str x => if x.length ≤ 640 then (match PySem.intText? x with | some n => some (.int n) | none => none) else none
  | _ => none
/-- str() of an int, of a text -/
def strA (_ : MH) : D → Option D
  | .int i => if i.natAbs.log2 < 1920 then some (.str (toString i)) else none
  | .str x => some (.str x)
  | _ => none
def absA (_ : MH) : D → Option D
  | .int i => some (.int (if i < 0 then -i else i))
  | _ => none
def maxA (_ : MH) : D → D → Option D
  | .int i, .int j => some (.int (if j > i then j else i))
  | _, _ => none
def minA (_ : MH) : D → D → Option D
  | .int i, .int j => some (.int (if j < i then j else i))
  | _, _ => none
section
variable {X : Cx}
theorem zc_len : CallR X (.builtin "len") (LOL X.K (c1 (ofO lenA))) := cimp call_len fun xs H Q h => by
  obtain ⟨x, rfl, h'⟩ := lol1 h
  obtain ⟨d, M, Q3, r, r1, rm, e, q, c⟩ := lo1f h'
  unfold lenA at e
  split at e
  · split at e
    · rename_i z hz
      obtain rfl := Option.some.inj e
      have r1 := rp_str r1
      subst r1
      exact ⟨_, z.length, rfl, ⟨hz, rfl⟩, c.now rm q rfl⟩
    · cases e
  · split at e
    · rename_i ds e2
      obtain rfl := Option.some.inj e
      obtain ⟨a, vs, h1, h2, h3⟩ := seqM_sq rm e2 r1
      subst h1
      refine ⟨_, ds.length, rfl, ?_, c.now rm q rfl⟩
      rw [← h3.length]
      rcases h2 with h2 | h2
      · exact .inl ⟨vs, h2, rfl⟩
      · exact .inr ⟨vs, h2, rfl⟩
    · cases e
theorem zc_int : CallR X (.type "int") (LOL X.K (c1 (ofO intA))) := cimp (CallR.or call_int1 call_int_str) fun xs H Q h => by
  obtain ⟨x, rfl, h'⟩ := lol1 h
  obtain ⟨d, M, Q3, r, r1, rm, e, q, c⟩ := lo1f h'
  unfold intA at e
  split at e
  · obtain rfl := Option.some.inj e
    have r1 := rp_int r1
    subst r1
    exact .inl (.inl ⟨_, rfl, c.now rm q rfl⟩)
  · obtain rfl := Option.some.inj e
    have r1 := rp_bl r1
    subst r1
    exact .inl (.inr ⟨_, rfl, c.now rm q rfl⟩)
  · have r1 := rp_str r1
    subst r1
    split at e
    · rename_i hz
      split at e
      · rename_i n hn
        obtain rfl := Option.some.inj e
        exact .inr ⟨_, n, rfl, hn, hz, c.now rm q rfl⟩
      · cases e
    · cases e
  · cases e
theorem zc_strI : CallR X (.type "str") (LOL X.K (c1 (ofO strA))) := cimp (CallR.or call_str_int SkE.call_str_str) fun xs H Q h => by
  obtain ⟨x, rfl, h'⟩ := lol1 h
  obtain ⟨d, M, Q3, r, r1, rm, e, q, c⟩ := lo1f h'
  unfold strA at e
  split at e
  · have r1 := rp_int r1
    subst r1
    split at e
    · rename_i hz
      obtain rfl := Option.some.inj e
      exact .inl ⟨_, rfl, hz, c.now rm q rfl⟩
    · cases e
  · obtain rfl := Option.some.inj e
    have r1 := rp_str r1
    subst r1
    exact .inr ⟨_, rfl, c.now rm q rfl⟩
  · cases e
theorem zc_abs : CallR X (.builtin "abs") (LOL X.K (c1 (ofO absA))) := cimp call_abs fun xs H Q h => by
  obtain ⟨x, rfl, h'⟩ := lol1 h
  obtain ⟨d, M, Q3, r, r1, rm, e, q, c⟩ := lo1f h'
  unfold absA at e
  split at e
  · obtain rfl := Option.some.inj e
    have r1 := rp_int r1
    subst r1
    exact ⟨_, rfl, c.now rm q rfl⟩
  · cases e
theorem zc_max2 (hc : X.calm = true) : CallR X (.builtin "max") (LOL X.K (c2 (ofO2 maxA))) := cimp (call_max2 hc) fun xs H Q h => by
  obtain ⟨x, y, rfl, d, e, M, Q3, r1, r2, rm, o, c⟩ := lol2 h
  unfold ofO2 at o
  split at o
  · rename_i z q
    unfold maxA at q
    split at q
    · obtain rfl := Option.some.inj q
      have r1 := rp_int r1
      have r2 := rp_int r2
      subst r1 r2
      exact ⟨_, _, rfl, c.now rm o rfl⟩
    · cases q
  · exact o.elim
theorem zc_min2 (hc : X.calm = true) : CallR X (.builtin "min") (LOL X.K (c2 (ofO2 minA))) := cimp (call_min2 hc) fun xs H Q h => by
  obtain ⟨x, y, rfl, d, e, M, Q3, r1, r2, rm, o, c⟩ := lol2 h
  unfold ofO2 at o
  split at o
  · rename_i z q
    unfold minA at q
    split at q
    · obtain rfl := Option.some.inj q
      have r1 := rp_int r1
      have r2 := rp_int r2
      subst r1 r2
      exact ⟨_, _, rfl, c.now rm o rfl⟩
    · cases q
  · exact o.elim
end
/-! ### sum, all, any of a list -/
def intsOf : List D → Option (List Int)
  | [] => some []
  | .int i :: r => match intsOf r with | some l => some (i :: l) | none => none
  | _ => none
def blsOf : List D → Option (List Bool)
  | [] => some []
  | .bl i :: r => match blsOf r with | some l => some (i :: l) | none => none
  | _ => none
theorem intsOf_eq : ∀ {ds : List D} {ns : List Int}, intsOf ds = some ns → ds = ns.map D.int
  | [], ns, h => by
    have h : [] = ns := by simpa [intsOf] using h
    subst h; rfl
  | d :: ds, ns, h => by
    cases d with
    | int i =>
      dsimp only [intsOf] at h
      split at h
      · rename_i l e
        obtain rfl := Option.some.inj h
        rw [intsOf_eq e]; rfl
      · cases h
    | _ => simp [intsOf] at h
theorem blsOf_eq : ∀ {ds : List D} {ns : List Bool}, blsOf ds = some ns → ds = ns.map D.bl
  | [], ns, h => by
    have h : [] = ns := by simpa [blsOf] using h
    subst h; rfl
  | d :: ds, ns, h => by
    cases d with
    | bl i =>
      dsimp only [blsOf] at h
      split at h
      · rename_i l e
        obtain rfl := Option.some.inj h
        rw [blsOf_eq e]; rfl
      · cases h
    | _ => simp [blsOf] at h
@[simp] theorem intsOf_map (ns : List Int) : intsOf (ns.map D.int) = some ns := by
  induction ns with
  | nil => rfl
  | cons a r ih => simp only [List.map_cons, intsOf, ih]
@[simp] theorem blsOf_map (ns : List Bool) : blsOf (ns.map D.bl) = some ns := by
  induction ns with
  | nil => rfl
  | cons a r ih => simp only [List.map_cons, blsOf, ih]
theorem ints_v {K : PySem.W.Frag} {M : MH} {H : Hp} : ∀ {ns : List Int} {vs : List V}, RpL K M H (ns.map D.int) vs → vs = ns.map V.int
  | [], vs, h => h
  | n :: ns, vs, h => by
    obtain ⟨v, r, h1, h2, h3⟩ := h
    subst h1
    rw [rp_int h2, ints_v h3]; rfl
theorem bls_v {K : PySem.W.Frag} {M : MH} {H : Hp} : ∀ {ns : List Bool} {vs : List V}, RpL K M H (ns.map D.bl) vs → vs = ns.map V.bl
  | [], vs, h => h
  | n :: ns, vs, h => by
    obtain ⟨v, r, h1, h2, h3⟩ := h
    subst h1
    rw [rp_bl h2, bls_v h3]; rfl
def sumA (M : MH) (d : D) : Option D := match asL M d with
  | some ds => match intsOf ds with | some ns => some (.int ns.sum) | none => none
  | none => none
def allA (M : MH) (d : D) : Option D := match asL M d with
  | some ds => match blsOf ds with | some bs => some (.bl (bs.all id)) | none => none
  | none => none
def anyA (M : MH) (d : D) : Option D := match asL M d with
  | some ds => match blsOf ds with | some bs => some (.bl (bs.any id)) | none => none
  | none => none
/-- the least one of some ints; the greatest one -/
def leastI : Int → List Int → Int
  | m, [] => m
  | m, x :: r => leastI (if x < m then x else m) r
def mostI : Int → List Int → Int
  | m, [] => m
  | m, x :: r => mostI (if x > m then x else m) r
theorem leastI_mem : ∀ (r : List Int) (m : Int), leastI m r ∈ m :: r ∧ ∀ y ∈ m :: r, leastI m r ≤ y
  | [], m => by simp [leastI]
  | x :: r, m => by
    unfold leastI
    obtain ⟨h1, h2⟩ := leastI_mem r (if x < m then x else m)
    by_cases e : x < m
    · rw [if_pos e] at h1 h2 ⊢
      refine ⟨by simp only [List.mem_cons] at h1 ⊢; rcases h1 with h | h <;> simp [h], fun y hy => ?_⟩
      simp only [List.mem_cons] at hy
      have hx := h2 x (by simp)
      rcases hy with hy | hy | hy
      · omega
      · omega
      · exact h2 y (by simp [hy])
    · rw [if_neg e] at h1 h2 ⊢
      refine ⟨by simp only [List.mem_cons] at h1 ⊢; rcases h1 with h | h <;> simp [h], fun y hy => ?_⟩
      simp only [List.mem_cons] at hy
      have hx := h2 m (by simp)
      rcases hy with hy | hy | hy
      · omega
      · omega
      · exact h2 y (by simp [hy])
theorem mostI_mem : ∀ (r : List Int) (m : Int), mostI m r ∈ m :: r ∧ ∀ y ∈ m :: r, y ≤ mostI m r
  | [], m => by simp [mostI]
  | x :: r, m => by
    unfold mostI
    obtain ⟨h1, h2⟩ := mostI_mem r (if x > m then x else m)
    by_cases e : x > m
    · rw [if_pos e] at h1 h2 ⊢
      refine ⟨by simp only [List.mem_cons] at h1 ⊢; rcases h1 with h | h <;> simp [h], fun y hy => ?_⟩
      simp only [List.mem_cons] at hy
      have hx := h2 x (by simp)
      rcases hy with hy | hy | hy
      · omega
      · omega
      · exact h2 y (by simp [hy])
    · rw [if_neg e] at h1 h2 ⊢
      refine ⟨by simp only [List.mem_cons] at h1 ⊢; rcases h1 with h | h <;> simp [h], fun y hy => ?_⟩
      simp only [List.mem_cons] at hy
      have hx := h2 m (by simp)
      rcases hy with hy | hy | hy
      · omega
      · omega
      · exact h2 y (by simp [hy])
def minL (M : MH) (d : D) : Option D := match asL M d with
  | some ds => match intsOf ds with | some (n :: ns) => some (.int (leastI n ns)) | _ => none
  | none => none
def maxL (M : MH) (d : D) : Option D := match asL M d with
  | some ds => match intsOf ds with | some (n :: ns) => some (.int (mostI n ns)) | _ => none
  | none => none
section
variable {X : Cx}
theorem asL_ints {M : MH} {H : Hp} {d : D} {v : V} {ds : List D} {ns : List Int} (rm : RM X.K M H) (e1 : asL M d = some ds) (e2 : intsOf ds = some ns) (r : Rp X.K M H d v) : ∃ a, v = .ref a ∧ SqL X.K H a (ns.map V.int) := by
  obtain ⟨a, vs, h1, h2, h3⟩ := asL_sq rm e1 r
  rw [intsOf_eq e2] at h3
  rw [ints_v h3] at h2
  exact ⟨a, h1, h2⟩
theorem asL_bls {M : MH} {H : Hp} {d : D} {v : V} {ds : List D} {ns : List Bool} (rm : RM X.K M H) (e1 : asL M d = some ds) (e2 : blsOf ds = some ns) (r : Rp X.K M H d v) : ∃ a, v = .ref a ∧ SqL X.K H a (ns.map V.bl) := by
  obtain ⟨a, vs, h1, h2, h3⟩ := asL_sq rm e1 r
  rw [blsOf_eq e2] at h3
  rw [bls_v h3] at h2
  exact ⟨a, h1, h2⟩
theorem zc_sum (hc : X.calm = true) : CallR X (.builtin "sum") (LOL X.K (c1 (ofO sumA))) := cimp (cr_sum hc) fun xs H Q h => by
  obtain ⟨x, rfl, h'⟩ := lol1 h
  obtain ⟨d, M, Q3, r, r1, rm, e, q, c⟩ := lo1f h'
  unfold sumA at e
  split at e
  · split at e
    · obtain rfl := Option.some.inj e
      rename_i e1 _ _ e2
      obtain ⟨a, h1, h2⟩ := asL_ints rm e1 e2 r1
      subst h1
      exact ⟨a, _, rfl, h2, c.now rm q rfl⟩
    · cases e
  · cases e
theorem zc_all (hc : X.calm = true) : CallR X (.builtin "all") (LOL X.K (c1 (ofO allA))) := cimp (cr_all hc) fun xs H Q h => by
  obtain ⟨x, rfl, h'⟩ := lol1 h
  obtain ⟨d, M, Q3, r, r1, rm, e, q, c⟩ := lo1f h'
  unfold allA at e
  split at e
  · split at e
    · obtain rfl := Option.some.inj e
      rename_i e1 _ _ e2
      obtain ⟨a, h1, h2⟩ := asL_bls rm e1 e2 r1
      subst h1
      exact ⟨a, _, rfl, h2, c.now rm q rfl⟩
    · cases e
  · cases e
theorem zc_any (hc : X.calm = true) : CallR X (.builtin "any") (LOL X.K (c1 (ofO anyA))) := cimp (cr_any hc) fun xs H Q h => by
  obtain ⟨x, rfl, h'⟩ := lol1 h
  obtain ⟨d, M, Q3, r, r1, rm, e, q, c⟩ := lo1f h'
  unfold anyA at e
  split at e
  · split at e
    · obtain rfl := Option.some.inj e
      rename_i e1 _ _ e2
      obtain ⟨a, h1, h2⟩ := asL_bls rm e1 e2 r1
      subst h1
      exact ⟨a, _, rfl, h2, c.now rm q rfl⟩
    · cases e
  · cases e
theorem zc_minL (hc : X.calm = true) : CallR X (.builtin "min") (LOL X.K (c1 (ofO minL))) := cimp (cr_min hc) fun xs H Q h => by
  obtain ⟨x, rfl, h'⟩ := lol1 h
  obtain ⟨d, M, Q3, r, r1, rm, e, q, c⟩ := lo1f h'
  unfold minL at e
  split at e
  · split at e
    · obtain rfl := Option.some.inj e
      rename_i e1 _ _ _ e2
      obtain ⟨a, h1, h2⟩ := asL_ints rm e1 e2 r1
      subst h1
      rename_i n ns
      refine ⟨a, _, rfl, h2, by simp, fun m hm hl => ?_⟩
      obtain ⟨g1, g2⟩ := leastI_mem ns n
      have e1 := hl _ g1
      have e2 := g2 _ hm
      have e3 : m = leastI n ns := by omega
      rw [e3]
      exact c.now rm q rfl
    · cases e
  · cases e
theorem zc_maxL (hc : X.calm = true) : CallR X (.builtin "max") (LOL X.K (c1 (ofO maxL))) := cimp (cr_max hc) fun xs H Q h => by
  obtain ⟨x, rfl, h'⟩ := lol1 h
  obtain ⟨d, M, Q3, r, r1, rm, e, q, c⟩ := lo1f h'
  unfold maxL at e
  split at e
  · split at e
    · obtain rfl := Option.some.inj e
      rename_i e1 _ _ _ e2
      obtain ⟨a, h1, h2⟩ := asL_ints rm e1 e2 r1
      subst h1
      rename_i n ns
      refine ⟨a, _, rfl, h2, by simp, fun m hm hl => ?_⟩
      obtain ⟨g1, g2⟩ := mostI_mem ns n
      have e1 := hl _ g1
      have e2 := g2 _ hm
      have e3 : m = mostI n ns := by omega
      rw [e3]
      exact c.now rm q rfl
    · cases e
  · cases e
end
/-! ### tuple(x), list(x) -/
/-- a list that is made, to be changed or not -/
def resL (m : Bool) (ds : List D) (M : MH) (Q : Q3) : Prop := match m with
  | false => Q (.lst ds) M
  | true => ∀ p, M p = none → Q (.ref p) (up M p (.lst ds))
theorem resL_cv {K : PySem.W.Frag} {m : Bool} {ds : List D} {M : MH} {H : Hp} {vs : List V} {Q3 : Q3} {Q : VK} {p : Addr} (h : resL m ds M Q3) (rm : RM K M H) (r : RpL K M H ds vs) (hp : H p = none) (c : Cv K M H Q3 Q) : Q (.ref p) (upd H p (.lst vs)) := by
  cases m with
  | false => exact c _ M _ _ h (Rp.lstNew rm hp r) (rm.new hp) (Ev.new hp)
  | true => exact c _ _ _ _ (h p (rm.free hp)) rfl (rm.lstNew hp r) (Ev.newM hp)
def tupA (k : TK) : O1 := fun d M Q => match k, d with
  | .t, .tp k ds => Q (.tp k ds) M
  | .t, d => match asL M d with | some ds => Q (.tup ds) M | none => False
  | .k, d => match asL M d with | some ds => Q (.tp .k ds) M | none => False
  | .s, _ => False
def kD : Key → D
  | .inl i => .int i
  | .inr x => .str x
def lstA (m : Bool) : O1 := fun d M Q => match seqM M d with
  | some ds => resL m ds M Q
  | none => match asD M d with
    | some kvs => resL m (kvs.map fun kv => D.tup (kv.1.map kD)) M Q
    | none => match asK M d with
      | some kvs => resL m (kvs.map fun kv => kD kv.1) M Q
      | none => False
section
variable {X : Cx}
/-- tuple(a list): the tuple is known to its object -/
theorem call_tuple_k : CallR X (.type "tuple") (fun xs H Q => ∃ p ys, xs = [.ref p] ∧ SqL X.K H p ys ∧ ∀ l o, H l = none → o.dict = none → Q (.ref l) (upd H l (.frz o (.tup ys)))) := by
  intro pins s σ H xs us Q I r ⟨p, ys, e, hq, q⟩
  subst e
  obtain ⟨u, rfl, rx⟩ := vals1 r
  cases rx
  obtain ⟨its, r', pl, hz⟩ := I.list hq
  refine call_tuple_list pl.isList (fun h' kp => ?_) (by have := r'.length; simp only [List.size_toArray]; omega)
  have J : Inv X pins σ H { s with heap := h' } := I.kept (t' := s.toks) kp
  have J2 : Inv X pins σ (upd H h'.objs.size (.frz { cls := .type "tuple", data := .seq its.toArray } (.tup ys))) { s with heap := h'.push { cls := .type "tuple", data := .seq its.toArray } } :=
    J.laid (t' := s.toks) (fun b o e => Heap.get?_push_of_some _ e) (Nat.le_refl _) ⟨Heap.get?_push_size _ rfl, hz, its, r', IsTup.new _ _⟩
  exact ⟨.ref h'.objs.size, _, J2, rfl, q _ _ (J.hok.fresh (Nat.le_refl _)) rfl⟩
theorem zc_tup (k : TK) : CallR X (.type "tuple") (LOL X.K (c1 (tupA k))) := cimp (CallR.or call_tuple_of call_tuple_k) fun xs H Q h => by
  obtain ⟨x, rfl, d, M, Q3, r1, rm, o, c⟩ := lol1 h
  unfold tupA at o
  split at o
  · obtain ⟨a, vs, h1, h2, h3⟩ := r1
    subst h1
    exact .inl ⟨a, vs, rfl, .inr ⟨h2.sq, c.now rm o ⟨a, vs, rfl, h2, h3⟩⟩⟩
  · split at o
    · rename_i e1
      obtain ⟨a, vs, h1, h2, h3⟩ := asL_sq rm e1 r1
      subst h1
      exact .inl ⟨a, vs, rfl, .inl ⟨h2, fun l hl => c _ M _ _ o (Rp.tupNew rm hl h3) (rm.new hl) (Ev.new hl)⟩⟩
    · exact o.elim
  · split at o
    · rename_i e1
      obtain ⟨a, vs, h1, h2, h3⟩ := asL_sq rm e1 r1
      subst h1
      exact .inr ⟨a, vs, rfl, h2, fun l ob hl hd => c _ M _ _ o ⟨l, vs, rfl, ⟨ob, rm.free hl, upd_same, hd⟩, RpL.ev (Ev.new hl) _ _ h3⟩ (rm.new hl) (Ev.new hl)⟩
    · exact o.elim
  · exact o.elim
theorem kD_rp {K : PySem.W.Frag} {M : MH} {H : Hp} : ∀ k : Key, Rp K M H (kD k) (kV k)
  | .inl i => rfl
  | .inr x => rfl
theorem kDs_rp {K : PySem.W.Frag} {M : MH} {H : Hp} : ∀ ks : List Key, RpL K M H (ks.map kD) (ks.map kV)
  | [] => rfl
  | k :: r => ⟨_, _, rfl, kD_rp k, kDs_rp r⟩
theorem keys_rp {K : PySem.W.Frag} {M : MH} {H : Hp} (rm : RM K M H) : ∀ {ps : List (List Key × V)} {bs : List Addr} {kvs : List (List Key × D)}, IsKeys H ps bs → ps.map (·.1) = kvs.map (·.1) → RpL K M H (kvs.map fun kv => D.tup (kv.1.map kD)) (bs.map V.ref)
  | [], bs, kvs, h, e => by
    cases h
    have : kvs = [] := by simpa using e.symm
    subst this; rfl
  | p :: ps, bs, [], h, e => by simp at e
  | p :: ps, bs, kv :: kvs, h, e => by
    rw [List.map_cons, List.map_cons] at e
    obtain ⟨e1, e2⟩ := List.cons.inj e
    cases h with
    | cons h1 h2 =>
      rename_i b bs'
      refine ⟨.ref b, bs'.map V.ref, rfl, ⟨b, _, rfl, ⟨?_, h1⟩, by rw [e1]; exact kDs_rp _⟩, keys_rp rm h2 e2⟩
      cases q : M b with
      | none => rfl
      | some o =>
        exfalso
        have z := rm b o q
        cases o with
        | lst ds => obtain ⟨vs, z, _⟩ := z; rw [h1] at z; cases z
        | dK ds => obtain ⟨vs, z, _⟩ := z; rw [h1] at z; cases z
        | dT ds => obtain ⟨vs, z, _⟩ := z; rw [h1] at z; cases z
        | ins C fs => obtain ⟨dx, vs, z, _⟩ := z; rw [h1] at z; cases z
theorem keysK_rp {K : PySem.W.Frag} {M : MH} {H : Hp} : ∀ {ps : List (Key × V)} {kvs : List (Key × D)}, ps.map (·.1) = kvs.map (·.1) → RpL K M H (kvs.map fun kv => kD kv.1) (ps.map fun kv => kV kv.1)
  | [], kvs, e => by
    have : kvs = [] := by simpa using e.symm
    subst this; rfl
  | p :: ps, [], e => by simp at e
  | p :: ps, kv :: kvs, e => by
    rw [List.map_cons, List.map_cons] at e
    obtain ⟨e1, e2⟩ := List.cons.inj e
    refine ⟨_, _, rfl, ?_, keysK_rp e2⟩
    show Rp K M H (kD kv.1) (kV p.1)
    rw [e1]; exact kD_rp _
theorem zc_lst (hcalm : X.calm = true) (m : Bool) : CallR X (.type "list") (LOL X.K (c1 (lstA m))) := cimp (CallR.or call_list_of (CallR.or (call_list_dT hcalm) (call_listD hcalm))) fun xs H Q h => by
  obtain ⟨x, rfl, d, M, Q3, r1, rm, o, c⟩ := lol1 h
  unfold lstA at o
  split at o
  · rename_i e1
    obtain ⟨a, vs, h1, h2, h3⟩ := seqM_sq rm e1 r1
    subst h1
    exact .inl ⟨a, vs, rfl, h2, fun l hl => resL_cv o rm h3 hl c⟩
  · split at o
    · rename_i kvs e1
      obtain ⟨a, vs, h1, h2, h3⟩ := asD_h rm e1 r1
      subst h1
      have hl : (kvs.map (·.1)).length = vs.length := by rw [h3.length]; simp
      exact .inr (.inl ⟨a, _, rfl, h2, fun p bs hp hk => resL_cv o rm (keys_rp rm hk (by rw [List.map_fst_zip (Nat.le_of_eq hl)])) hp c⟩)
    · split at o
      · rename_i kvs e1
        obtain ⟨a, vs, h1, h2, h3⟩ := asK_h rm e1 r1
        subst h1
        have hl : (kvs.map (·.1)).length = vs.length := by rw [h3.length]; simp
        exact .inr (.inr ⟨a, _, rfl, h2, fun p hp => resL_cv o rm (keysK_rp (by rw [List.map_fst_zip (Nat.le_of_eq hl)])) hp c⟩)
      · exact o.elim
end
/-! ### sorted(a list) -/
def leS (a b : D) : Bool := !PySem.W.dataLt (toPy b) (toPy a)
def sortD (ds : List D) : List D := ds.mergeSort leS
def sortOk (ds : List D) : Prop := (∀ d ∈ ds, ∀ e ∈ ds, likeD d e = true) ∧ (∀ d ∈ ds, pd 60 d = true) ∧ ((∀ d ∈ ds, ∃ k x r, d = .tp k (x :: r)) ∨ ∀ d ∈ ds, d ≠ .non ∧ ∀ k xs, d ≠ .tp k xs)
def srtA : O1 := fun d M Q => match asL M d with
  | some ds => sortOk ds ∧ Q (.lst (sortD ds)) M
  | none => False
section
variable {X : Cx}
theorem toPy_mem : ∀ {ds : List D} {z : PyData}, z ∈ ds.map toPy → ∃ d ∈ ds, toPy d = z := fun h => by
  obtain ⟨d, h1, h2⟩ := List.mem_map.mp h
  exact ⟨d, h1, h2⟩
theorem each_rp {M : MH} {H : Hp} : ∀ {ds : List D} {vs : List V} {us : List Value}, RpL X.K M H ds vs → Vals vs us → PySem.W.EachIs (fun (u : Value) (d : D) => ∃ v, RelV v u ∧ Rp X.K M H d v) us ds
  | [], vs, us, h, r => by
    have h : vs = [] := h
    subst h
    cases r
    exact .nil
  | d :: ds, vs, us, h, r => by
    obtain ⟨v, w, h1, h2, h3⟩ := h
    subst h1
    cases r with
    | cons r1 r2 => exact .cons ⟨v, r1, h2⟩ (each_rp h3 r2)
theorem of_each {M : MH} {H : Hp} : ∀ {ds : List D} {us : List Value}, PySem.W.EachIs (fun (u : Value) (d : D) => ∃ v, RelV v u ∧ Rp X.K M H d v) us ds → ∃ vs, RpL X.K M H ds vs ∧ Vals vs us
  | _, _, .nil => ⟨[], rfl, .nil⟩
  | d :: ds, u :: us, .cons h t => by
    obtain ⟨v, h1, h2⟩ := h
    obtain ⟨vs, g1, g2⟩ := of_each t
    exact ⟨v :: vs, ⟨v, vs, rfl, h2, g1⟩, .cons h1 g2⟩
theorem each_map {α β γ : Type} {R : α → γ → Prop} (f : β → γ) : ∀ {as : List α} {bs : List β}, PySem.W.EachIs (fun a b => R a (f b)) as bs → PySem.W.EachIs R as (bs.map f)
  | _, _, .nil => .nil
  | _, _, .cons h t => .cons h (each_map f t)
theorem each_and {α β : Type} {R : α → β → Prop} {P : β → Prop} : ∀ {as : List α} {bs : List β}, PySem.W.EachIs R as bs → (∀ b ∈ bs, P b) → PySem.W.EachIs (fun a b => R a b ∧ P b) as bs
  | _, _, .nil, _ => .nil
  | _, _, .cons h t, p => .cons ⟨h, p _ (by simp)⟩ (each_and t fun b hb => p b (by simp [hb]))
theorem reads_of {pins : List (Addr × Obj)} {σ : L2.St} {H : Hp} {s : Shared} {M : MH} (I : Inv X pins σ H s) {d : D} {u : Value} (h : (∃ v, RelV v u ∧ Rp X.K M H d v) ∧ pd 60 d = true) : ∃ as, Reads s.heap u (toPy d) as := by
  obtain ⟨⟨v, h1, h2⟩, h3⟩ := h
  exact Dp.reads I _ v u (Rp.dp 60 d v h2 h3) h1
theorem zc_srt (hu : X.A.units + 100 < cLine) : CallR X (.builtin "sorted") (LOL X.K (c1 srtA)) := by
  intro pins s σ H xs us Q I r h
  obtain ⟨x, rfl, d, M, Q3, r1, rm, o, c⟩ := lol1 h
  unfold srtA at o
  split at o
  · rename_i ds e1
    obtain ⟨⟨k1, k2, k3⟩, o⟩ := o
    obtain ⟨a, vs, h1, h2, h3⟩ := asL_sq rm e1 r1
    subst h1
    obtain ⟨its, rv, pl, hz⟩ := I.list h2
    rw [Vals.ref1 r]
    have each := each_rp h3 rv
    -- the state in which it is sorted
    have keep : ∀ b ob, s.heap.get? b = some ob → (PySem.W.sortingHeap (PySem.W.copyHeap s.heap its) (s.heap.objs.size + 1) its).get? b = some ob := fun b ob e => PySem.W.sorting_copy_old e
    have I2 : Inv X pins σ H { s with heap := PySem.W.sortingHeap (PySem.W.copyHeap s.heap its) (s.heap.objs.size + 1) its } := I.kept (t' := s.toks) keep
    have hal : PySem.W.AllAlike (ds.map toPy) := fun z hz z' hz' => by
      obtain ⟨d1, g1, rfl⟩ := toPy_mem hz
      obtain ⟨d2, g2, rfl⟩ := toPy_mem hz'
      exact like_py _ _ (k1 d1 g1 d2 g2)
    have er := each_map (R := fun (u : Value) (p : PyData) => ∃ as, Reads (PySem.W.sortingHeap (PySem.W.copyHeap s.heap its) (s.heap.objs.size + 1) its) u p as) toPy ((each_and each k2).mono fun u d h => reads_of I2 h)
    have S := PySem.W.SortsAt.data (prog := X.prog) (w := X.w) (A := X.A.in1.in1) (s := { s with heap := PySem.W.sortingHeap (PySem.W.copyHeap s.heap its) (s.heap.objs.size + 1) its }) er hal (by
      rcases k3 with k3 | k3
      · refine .inl fun z hz => ?_
        obtain ⟨d1, g1, rfl⟩ := toPy_mem hz
        obtain ⟨k, x, r, rfl⟩ := k3 d1 g1
        exact ⟨toPy x, toPyL r, by simp [toPy, toPyL]⟩
      · refine .inr fun z hz => ?_
        obtain ⟨d1, g1, rfl⟩ := toPy_mem hz
        obtain ⟨n1, n2⟩ := k3 d1 g1
        refine ⟨fun e => n1 ?_, fun xs e => ?_⟩
        · cases d1 <;> simp [toPy] at e
          rfl
        · cases d1 with
          | tp k es => exact n2 k es rfl
          | _ => simp [toPy] at e) (fun z hz => by
        obtain ⟨d1, g1, rfl⟩ := toPy_mem hz
        have := pd_depth 60 d1 (k2 d1 g1)
        show X.A.units + 1 + 1 + _ < cLine
        omega)
    have hlen := rv.length
    refine PySem.W.sorted_vals pl.isList S (by omega) ?_
    have out := PySem.W.sortVals_each (κ := PySem.W.dataKind (PySem.W.sortingHeap (PySem.W.copyHeap s.heap its) (s.heap.objs.size + 1) its) (ds.map toPy)) (rev := false) (fun d => PySem.W.keyToks (toPy d)) each
      ((each_and (each_and each k2) (P := fun d => d ∈ ds) fun b hb => hb).mono fun u d h => by
        obtain ⟨as, rd⟩ := reads_of I2 h.1
        exact PySem.W.dataKind_some hal (List.mem_map.mpr ⟨d, h.2, rfl⟩) rd)
    obtain ⟨ws, w1, w2⟩ := of_each out
    obtain ⟨ep, he'⟩ := PyProof.Rows.sortedAll_at s.heap its (PySem.W.sortVals (PySem.W.dataKind (PySem.W.sortingHeap (PySem.W.copyHeap s.heap its) (s.heap.objs.size + 1) its) (ds.map toPy)) false its its).toArray
    have wl : ws.length ≤ sizeLine := by
      rw [w1.length, (List.mergeSort_perm _ _).length_eq, ← h3.length]; exact hz
    have hf : H (s.heap.objs.size + 1) = none := I.hok.fresh (Nat.le_succ _)
    refine ⟨.ref _, upd H (s.heap.objs.size + 1) (.lst ws), I.laid (t' := s.toks) (fun _ _ => PyProof.Rows.sortedAll_old) (Nat.le_succ _) ⟨wl, _, ep, w2, he'⟩, rfl, ?_⟩
    exact c _ M _ _ o (Rp.lstNew rm hf w1) (rm.new hf) (Ev.new hf)
  · exact o.elim
end
/-! ### isinstance -/
inductive Ty where
  | tint | tbool | tstr | ttup | tlst
  deriving DecidableEq
def Ty.name : Ty → String
  | .tint => "int" | .tbool => "bool" | .tstr => "str" | .ttup => "tuple" | .tlst => "list"
def isTy (M : MH) (d : D) (T : Ty) : Option Bool := match d with
  | .non => some false
  | .bl _ => some (decide (T = .tbool ∨ T = .tint))
  | .int _ => some (decide (T = .tint))
  | .str _ => some (decide (T = .tstr))
  | .tp _ _ => some (decide (T = .ttup))
  | d => match asL M d with
    | some _ => some (decide (T = .tlst))
    | none => none
def isi3 (T : Ty) : O1 := fun d M Q => match isTy M d T with | some b => Q (.bl b) M | none => False
section
variable {X : Cx}
theorem kit_all : ∀ T : Ty, kitB "NoneType" T.name = some false ∧ kitB "bool" T.name = some (decide (T = .tbool ∨ T = .tint)) ∧ kitB "int" T.name = some (decide (T = .tint)) ∧ kitB "str" T.name = some (decide (T = .tstr)) ∧ kitB "tuple" T.name = some (decide (T = .ttup)) ∧ kitB "list" T.name = some (decide (T = .tlst)) := by
  intro T
  cases T <;> decide +kernel
theorem z_isi {K : PySem.W.Frag} {M0 : MH} {H0 : Hp} (hK : X.K = K) {T : Ty} {e : Expr} {te : T3} {p p2 pos : Pos} {tn : Str} (hg : Gl X "isinstance") (hm : X.mg "isinstance" = none) (hgT : Gl X tn) (hmT : X.mg tn = none) (hT : bootBuiltins tn = some (.type T.name)) (hn : tn ≠ "__name__") (hd : (tn == ("__debug__" : Str)) = false)
    (he : PE X e (LE K M0 H0 te)) (hs : starEach [e, .Name tn p2] X.env = [(false, eval e X.env), (false, eval (.Name tn p2) X.env)]) (hp1 : starEach [.Name tn p2] X.env = [(false, eval (.Name tn p2) X.env)]) : PE X (.Call (.Name "isinstance" p) [e, .Name tn p2] [] pos) (LE K M0 H0 (op1 (isi3 T) te)) := by
  subst hK
  have ha : PA X [e, .Name tn p2] (tCons (LE X.K M0 H0 te) (tCons (tC (.ty T.name)) tNil)) := pa_cons he (pa_cons (pe_bltn hgT hmT hT rfl hn hd) pa_nil) (by rw [hs, hp1])
  refine (pe_callB call_isi hg hm (by decide +kernel) ha (by decide) (by decide) (by rw [hs, hp1]) (by rw [hp1]; rfl)).imp fun σ H Q ⟨en, M, P, rs, rm, ev, t, c⟩ => ?_
  refine LE.then rs rm ev t fun d M1 v1 H1 t1 r1 rs1 rm1 ev1 e1 => ?_
  unfold isi3 at t1
  split at t1
  · rename_i b q
    refine ⟨v1, .ty T.name, ?_⟩
    obtain ⟨k1, k2, k3, k4, k5, k6⟩ := kit_all T
    have fin : ∀ {t : String} {b' : Bool}, kitB t T.name = some b' → b = b' → TyX X.K H1 v1 (.type t) → ∃ (t u : Value) (b : Bool), [v1, V.ty T.name] = [v1, .ty T.name] ∧ ClsV (.ty T.name) u ∧ TyX X.K H1 v1 t ∧ PySem.W.kitOne X.K t u = some b ∧ Q (.bl b) H1 := fun {t b'} k e z =>
      ⟨.type t, .type T.name, b', rfl, .ty _, z, kit_ty k, by rw [← e]; exact c _ M1 _ H1 t1 rfl rm1 e1⟩
    have lst : ∀ {ds : List D}, asL M1 d = some ds → TyX X.K H1 v1 (.type "list") := fun {ds} e => by
      obtain ⟨a, vs, h1, h2, h3⟩ := asL_sq rm1 e r1
      subst h1
      rcases h2 with (h2 | ⟨ob, h2⟩) | ⟨o, its, n, h2, h4, _⟩
      · exact .base (.lst h2)
      · exact .base (.frz h2)
      · exact .kList h2 h4
    unfold isTy at q
    split at q
    · have q := Option.some.inj q
      have r1 := show v1 = _ from r1
      subst r1
      exact fin k1 q.symm (.base .non)
    · have q := Option.some.inj q
      have r1 := show v1 = _ from r1
      subst r1
      exact fin k2 q.symm (.base (.bl _))
    · have q := Option.some.inj q
      have r1 := show v1 = _ from r1
      subst r1
      exact fin k3 q.symm (.base (.int _))
    · have q := Option.some.inj q
      have r1 := show v1 = _ from r1
      subst r1
      exact fin k4 q.symm (.base (.str _))
    · have q := Option.some.inj q
      rename_i k _ _
      obtain ⟨a, vs, h1, h2, h3⟩ := r1
      subst h1
      refine fin k5 q.symm ?_
      cases k with
      | t => exact .base (.tup h2.2)
      | s =>
        obtain ⟨o, its, n, g1, g2, _⟩ := h2
        exact .kTuple g1 g2
      | k =>
        obtain ⟨o, g1, g2, _⟩ := h2
        exact .fTuple g2
    · split at q
      · rename_i e2
        have q := Option.some.inj q
        exact fin k6 q.symm (lst e2)
      · cases q
  · exact t1.elim
end
/-! ### a call of a built-in by its name -/
section
variable {X : Cx} {K : PySem.W.Frag} {M0 : MH} {H0 : Hp}
def opL (o : OL) (t : TL3) : T3 := fun e M Q => t e M fun ds M1 => o ds M1 Q
theorem z_callB {id : String} {o : OL} {x : Str} {e : Expr} {es : List Expr} {t : TL3} {p pos : Pos} (hc : CallR X (.builtin id) (LOL K o)) (hg : Gl X x) (hm : X.mg x = none) (hv : bootBuiltins x = some (.builtin id)) (ha : PA X (e :: es) (LA K M0 H0 t))
    (hn : x ≠ "__name__") (hdb : (x == ("__debug__" : Str)) = false) (he : starEach (e :: es) X.env = (false, eval e X.env) :: starEach es X.env) (hpl : (backTo pos (starEach es X.env)).any (·.1) = false) : PE X (.Call (.Name x p) (e :: es) [] pos) (LE K M0 H0 (opL o t)) :=
  (pe_callB hc hg hm hv ha hn hdb he hpl).imp fun σ H Q ⟨en, M, P, rs, rm, ev, t', c⟩ => LA.then rs rm ev t' fun ds M1 vs H1 t1 r1 rs1 rm1 ev1 e1 => ⟨ds, M1, P, r1, rm1, t1, c.from e1⟩
theorem z_callTy {T : String} {o : OL} {x : Str} {e : Expr} {es : List Expr} {t : TL3} {p pos : Pos} (hc : CallR X (.type T) (LOL K o)) (hg : Gl X x) (hm : X.mg x = none) (hv : bootBuiltins x = some (.type T)) (ha : PA X (e :: es) (LA K M0 H0 t))
    (hn : x ≠ "__name__") (hdb : (x == ("__debug__" : Str)) = false) (he : starEach (e :: es) X.env = (false, eval e X.env) :: starEach es X.env) (hpl : (backTo pos (starEach es X.env)).any (·.1) = false) : PE X (.Call (.Name x p) (e :: es) [] pos) (LE K M0 H0 (opL o t)) :=
  (pe_callTy hc hg hm hv ha hn hdb he hpl).imp fun σ H Q ⟨en, M, P, rs, rm, ev, t', c⟩ => LA.then rs rm ev t' fun ds M1 vs H1 t1 r1 rs1 rm1 ev1 e1 => ⟨ds, M1, P, r1, rm1, t1, c.from e1⟩
end
end Z

namespace Z
open PySem PySem.Spec PyProof.Rows L2

structure Ends3 where
  nx : En → MH → Prop
  rt : Q3
  bk : En → MH → Prop
  ct : En → MH → Prop
abbrev TS3 := Ends3 → En → MH → Prop
section
variable (K : PySem.W.Frag) (M0 : MH) (H0 : Hp)
def CvE (M : MH) (H : Hp) (q : En → MH → Prop) (Q : L2.St → Hp → Prop) : Prop := ∀ e' M' σ' H', q e' M' → RS K M' H' e' σ' → RM K M' H' → Ev M H M' H' → Q σ' H'
structure CvS (M : MH) (H : Hp) (D3 : Ends3) (D : Ends) : Prop where
  nx : CvE K M H D3.nx D.nx
  rt : Cv K M H D3.rt D.rt
  bk : CvE K M H D3.bk D.bk
  ct : CvE K M H D3.ct D.ct
def LS (t : TS3) : TS := fun D σ H => ∃ e M D3, RS K M H e σ ∧ RM K M H ∧ Ev M0 H0 M H ∧ t D3 e M ∧ CvS K M H D3 D
variable {K M0 H0}
theorem CvE.from {M M1 : MH} {H H1 : Hp} {q : En → MH → Prop} {Q : L2.St → Hp → Prop} (c : CvE K M H q Q) (e : Ev M H M1 H1) : CvE K M1 H1 q Q := fun e' M' σ' H' h r m e2 => c e' M' σ' H' h r m (e.trans e2)
theorem CvS.from {M M1 : MH} {H H1 : Hp} {D3 : Ends3} {D : Ends} (c : CvS K M H D3 D) (e : Ev M H M1 H1) : CvS K M1 H1 D3 D := ⟨c.nx.from e, c.rt.from e, c.bk.from e, c.ct.from e⟩
section
variable {X : Cx} {st : Stmt} {rest : List Stmt} {t u : TS3} {e : Expr} {te : T3} {pos : Pos}
def next3 : TS3 := fun D e M => D.nx e M
def seq3 (t u : TS3) : TS3 := fun D e M => t { D with nx := u D } e M
theorem z_snil : PSs X [] (LS K M0 H0 next3) := pss_nil.imp fun D σ H ⟨e, M, D3, rs, rm, ev, t, c⟩ => c.nx e M σ H t rs rm (Ev.refl _ _)
theorem z_scons (h1 : PS X st (LS K M0 H0 t)) (h2 : PSs X rest (LS K M0 H0 u)) : PSs X (st :: rest) (LS K M0 H0 (seq3 t u)) :=
  (pss_cons h1 h2).imp fun D σ H ⟨e, M, D3, rs, rm, ev, t, c⟩ => ⟨e, M, { D3 with nx := u D3 }, rs, rm, ev, t,
    ⟨fun e' M' σ' H' h r m e2 => ⟨e', M', D3, r, m, ev.trans e2, h, c.from e2⟩, c.rt, c.bk, c.ct⟩⟩
/-- a step in the proof alone -/
theorem z_ghost {g : TS3} (h : PSs X rest (LS K M0 H0 t)) (f : ∀ D e M σ H, RS K M H e σ → RM K M H → g D e M → ∃ e' M', RS K M' H e' σ ∧ RM K M' H ∧ Ev M H M' H ∧ t D e' M') : PSs X rest (LS K M0 H0 g) :=
  h.imp fun D σ H ⟨e, M, D3, rs, rm, ev, q, c⟩ => by
    obtain ⟨e', M', rs', rm', ev', q'⟩ := f D3 e M σ H rs rm q
    exact ⟨e', M', D3, rs', rm', ev.trans ev', q', c.from ev'⟩
def brk3 : TS3 := fun D e M => D.bk e M
def cnt3 : TS3 := fun D e M => D.ct e M
theorem z_pass : PS X (.Pass pos) (LS K M0 H0 next3) := ps_pass.imp fun D σ H ⟨e, M, D3, rs, rm, ev, t, c⟩ => c.nx e M σ H t rs rm (Ev.refl _ _)
theorem z_break : PS X (.Break pos) (LS K M0 H0 brk3) := ps_break.imp fun D σ H ⟨e, M, D3, rs, rm, ev, t, c⟩ => c.bk e M σ H t rs rm (Ev.refl _ _)
theorem z_cont : PS X (.Continue pos) (LS K M0 H0 cnt3) := ps_continue.imp fun D σ H ⟨e, M, D3, rs, rm, ev, t, c⟩ => c.ct e M σ H t rs rm (Ev.refl _ _)
def drop3 (te : T3) : TS3 := fun D e M => te e M fun _ M1 => D.nx e M1
theorem z_expr (he : PE X e (LE K M0 H0 te)) (hs : swapsWith e none pos.line X.env = pure false) : PS X (.Expr e pos) (LS K M0 H0 (drop3 te)) :=
  (ps_expr he hs).imp fun D σ H ⟨en, M, D3, rs, rm, ev, t, c⟩ => LE.then rs rm ev t fun d M1 v1 H1 t1 r1 rs1 rm1 ev1 e1 => c.nx en M1 σ H1 t1 rs1 rm1 e1
def ret3 (te : T3) : TS3 := fun D e M => te e M D.rt
theorem z_ret (he : PE X e (LE K M0 H0 te)) : PS X (.Return (some e) pos) (LS K M0 H0 (ret3 te)) :=
  (ps_ret he).imp fun D σ H ⟨en, M, D3, rs, rm, ev, t, c⟩ => ⟨en, M, D3.rt, rs, rm, ev, t, c.rt⟩
def retN3 : TS3 := fun D _ M => D.rt .non M
theorem z_retN : PS X (.Return none pos) (LS K M0 H0 retN3) := ps_retN.imp fun D σ H ⟨en, M, D3, rs, rm, ev, t, c⟩ => c.rt.now rm t rfl
def if3 (c : TB3) (t u : TS3) : TS3 := fun D e M => c e M fun b M1 => match b with | true => t D e M1 | false => u D e M1
theorem z_if {c : Expr} {a b : List Stmt} {tc : TB3} (hc : PT X c (LT K M0 H0 tc)) (ha : PSs X a (LS K M0 H0 t)) (hb : PSs X b (LS K M0 H0 u)) : PS X (.If c a b pos) (LS K M0 H0 (if3 tc t u)) :=
  (ps_if hc ha hb).imp fun D σ H ⟨en, M, D3, rs, rm, ev, t, c⟩ => LT.then rs rm ev t fun d M1 H1 t1 rs1 rm1 ev1 e1 => by
    cases d with
    | true => rw [if_pos rfl]; exact ⟨en, M1, D3, rs1, rm1, ev1, t1, c.from e1⟩
    | false => rw [if_neg Bool.false_ne_true]; exact ⟨en, M1, D3, rs1, rm1, ev1, t1, c.from e1⟩
/-! ### targets of names -/
inductive Tg where
  | nm (i : Nat)
  | tp (is : List Nat)
def setAll : En → List Nat → List D → Option En
  | e, [], [] => some e
  | e, i :: is, d :: ds => setAll (setE e i d) is ds
  | _, _, _ => none
def bindT : Tg → D → En → Option En
  | .nm i, d, e => some (setE e i d)
  | .tp is, d, e => match asT d with
    | some ds => setAll e is ds
    | none => none
def gNames : List Nat → TGs
  | [] => gNil
  | i :: is => gCons (gName i) (gNames is)
def gOf (K : PySem.W.Frag) : Tg → TG
  | .nm i => gName i
  | .tp is => gTup K is.length (gNames is)
def Tg.slots : Tg → List Nat
  | .nm i => [i]
  | .tp is => is
/-- the slots that change -/
def setV : L2.St → List Nat → List V → L2.St
  | σ, i :: is, v :: vs => setV (σ.set i (some v)) is vs
  | σ, _, _ => σ
theorem gNames_ok {M : MH} {H : Hp} : ∀ {is : List Nat} {ds : List D} {vs : List V} {e e' : En} {σ : L2.St} {Q : L2.St → Hp → Prop}, setAll e is ds = some e' → RpL K M H ds vs → RS K M H e σ → (RS K M H e' (setV σ is vs) → Q (setV σ is vs) H) → gNames is vs σ H Q
  | [], [], vs, e, e', σ, Q, h, r, rs, q => by
    have r : vs = [] := r
    subst r
    obtain rfl := Option.some.inj h
    exact ⟨rfl, q rs⟩
  | [], _ :: _, _, _, _, _, _, h, _, _, _ => by simp [setAll] at h
  | _ :: _, [], _, _, _, _, _, h, _, _, _ => by simp [setAll] at h
  | i :: is, d :: ds, vs, e, e', σ, Q, h, r, rs, q => by
    obtain ⟨v, w, h1, h2, h3⟩ := r
    subst h1
    exact ⟨v, w, rfl, gNames_ok (e := setE e i d) (by simpa [setAll] using h) h3 (rs.set i h2) q⟩
theorem setAll_len : ∀ {is : List Nat} {ds : List D} {e e' : En}, setAll e is ds = some e' → is.length = ds.length
  | [], [], _, _, _ => rfl
  | [], _ :: _, _, _, h => by simp [setAll] at h
  | _ :: _, [], _, _, h => by simp [setAll] at h
  | i :: is, d :: ds, e, e', h => by
    have := setAll_len (is := is) (ds := ds) (e := setE e i d) (e' := e') (by simpa [setAll] using h)
    simp [this]
/-- binding: the slots of the target are set -/
theorem gOf_ok {M : MH} {H : Hp} {tg : Tg} {d : D} {v : V} {e e' : En} {σ : L2.St} {Q : L2.St → Hp → Prop} (h : bindT tg d e = some e') (r : Rp K M H d v) (rs : RS K M H e σ)
    (q : ∀ vs, RS K M H e' (setV σ tg.slots vs) → Q (setV σ tg.slots vs) H) : gOf K tg v σ H Q := by
  cases tg with
  | nm i =>
    obtain rfl := Option.some.inj h
    exact q [v] (rs.set i r)
  | tp is =>
    dsimp only [bindT] at h
    split at h
    · rename_i ds e1
      obtain ⟨a, vs, h1, h2, h3⟩ := asT_sq e1 r
      exact ⟨a, vs, h1, h2, by rw [h3.length, setAll_len h], gNames_ok h h3 rs (q vs)⟩
    · cases h
theorem wipe_get : ∀ (vs : List Nat) (σ : L2.St) (i : Nat), (wipe σ vs)[i]? = if i ∈ vs ∧ i < σ.length then some none else σ[i]?
  | [], σ, i => by simp [wipe]
  | v :: vs, σ, i => by
    unfold wipe
    by_cases e : v = i
    · subst e
      by_cases hl : v < σ.length
      · rw [List.getElem?_set_self (by rw [wipe_length]; exact hl)]
        simp [hl]
      · rw [List.getElem?_eq_none (by rw [List.length_set, wipe_length]; omega)]
        simp [hl]
    · rw [List.getElem?_set_ne e, wipe_get vs σ i]
      have : i ∈ v :: vs ↔ i ∈ vs := by simp [Ne.symm e]
      simp only [this]
theorem wipe_set {vs : List Nat} {σ : L2.St} {i : Nat} {o : Option V} (h : i ∈ vs) : wipe (σ.set i o) vs = wipe σ vs := by
  refine List.ext_getElem? fun j => ?_
  rw [wipe_get, wipe_get, List.length_set]
  by_cases e : j = i
  · subst e
    by_cases hl : j < σ.length
    · rw [if_pos ⟨h, hl⟩, if_pos ⟨h, hl⟩]
    · rw [if_neg (fun z => hl z.2), if_neg (fun z => hl z.2), List.getElem?_eq_none (by rw [List.length_set]; omega), List.getElem?_eq_none (by omega)]
  · rw [List.getElem?_set_ne (Ne.symm e)]
theorem wipe_setV {vs : List Nat} : ∀ (is : List Nat) (σ : L2.St) (ws : List V), (∀ i ∈ is, i ∈ vs) → wipe (setV σ is ws) vs = wipe σ vs
  | [], σ, ws, _ => by cases ws <;> rfl
  | i :: is, σ, [], _ => rfl
  | i :: is, σ, w :: ws, h => by
    show wipe (setV (σ.set i (some w)) is ws) vs = _
    rw [wipe_setV is _ ws fun j hj => h j (by simp [hj]), wipe_set (h i (by simp))]
theorem wipe_wipe {vs : List Nat} {σ : L2.St} : wipe (wipe σ vs) vs = wipe σ vs := by
  refine List.ext_getElem? fun j => ?_
  rw [wipe_get, wipe_length, wipe_get]
  by_cases h : j ∈ vs ∧ j < σ.length
  · simp only [if_pos h]
  · simp only [if_neg h]
/-! ### assignments -/
def asg3 (te : T3) (tg : Tg) : TS3 := fun D e M => te e M fun d M1 => match bindT tg d e with | some e' => D.nx e' M1 | none => False
theorem z_asg {target : Expr} {tg : Tg} (he : PE X e (LE K M0 H0 te)) (hg : PG X target (gOf K tg)) (hs : swapsWithSole [target] e pos.line X.env = pure false) (hw : swappedStores [target] e X.env = pure none)
    (h1 : (assignEach [target] X.env).map (·.2) = [assign target X.env]) : PS X (.Assign [target] e pos) (LS K M0 H0 (asg3 te tg)) :=
  (ps_asg he hg hs hw h1).imp fun D σ H ⟨en, M, D3, rs, rm, ev, t, c⟩ => LE.then rs rm ev t fun d M1 v1 H1 t1 r1 rs1 rm1 ev1 e1 => by
    split at t1
    · rename_i e' eb
      exact gOf_ok eb r1 rs1 fun vs r => c.nx _ M1 _ H1 t1 r rm1 e1
    · exact t1.elim
theorem z_set {i : Nat} {x : Str} {pos' : Pos} (hN : X.N.Nodup) (hi : X.N[i]? = some x) (hx : Loc X.env.scope x) (he : PE X e (LE K M0 H0 te)) (hs : swapsWith e (some (.Name x pos')) pos.line X.env = pure false) (hf : X.fn x = true ∨ X.env.scope.names.lookup x = some .local) :
    PS X (.Assign [.Name x pos'] e pos) (LS K M0 H0 (asg3 te (.nm i))) :=
  (ps_set hN hi hx he hs hf).imp fun D σ H ⟨en, M, D3, rs, rm, ev, t, c⟩ => LE.then rs rm ev t fun d M1 v1 H1 t1 r1 rs1 rm1 ev1 e1 => c.nx _ M1 _ H1 t1 (rs1.set i r1) rm1 e1
/-- a, b = x, y -/
def par3 (i j : Nat) (ta : TL3) : TS3 := fun D e M => ta e M fun ds M1 => match ds with
  | [d, d'] => D.nx (setE (setE e i d) j d') M1
  | _ => False
theorem z_par {i j : Nat} {x y : Str} {a b : Expr} {ta : TL3} {px py pt : Pos} {kt k2 pt2} (hc : X.calm = true) (hN : X.N.Nodup) (hi : X.N[i]? = some x) (hj : X.N[j]? = some y) (hij : i ≠ j)
    (hx : X.env.scope.names.lookup x = some .local) (hy : X.env.scope.names.lookup y = some .local) (ha : PA X [a, b] (LA K M0 H0 ta))
    (hw : swappedStores [.Tuple [.Name x px, .Name y py] kt pt] (.Tuple [a, b] k2 pt2) X.env = pure (some [x, y])) :
    PS X (.Assign [.Tuple [.Name x px, .Name y py] kt pt] (.Tuple [a, b] k2 pt2) pos) (LS K M0 H0 (par3 i j ta)) :=
  (ps_par hc hN hi hj hij hx hy ha hw rfl).imp fun D σ H ⟨en, M, D3, rs, rm, ev, t, c⟩ => LA.then rs rm ev t fun ds M1 vs H1 t1 r1 rs1 rm1 ev1 e1 => by
    split at t1
    · obtain ⟨v, w, h1, h2, h3⟩ := r1
      obtain ⟨v', w', g1, g2, g3⟩ := h3
      have g3 : w' = [] := g3
      subst g3 g1 h1
      exact ⟨v, v', rfl, c.nx _ M1 _ H1 t1 ((rs1.set i h2).set j g2) rm1 e1⟩
    · exact t1.elim
/-! ### o[i] = v -/
def put3 (M : MH) (o i v : D) : Option MH := match o with
  | .ref a => match M a with
    | some (.lst ds) => match i with
      | .int k => match ixN ds.length k with
        | some j => some (up M a (.lst (ds.set j v)))
        | none => none
      | _ => none
    | some (.dK kvs) => match keyK i with
      | some k => if kvs.length < sizeLine then some (up M a (.dK (putD kvs k v))) else none
      | none => none
    | some (.dT kvs) => match keyT i with
      | some k => if kvs.length < sizeLine then some (up M a (.dT (putD kvs k v))) else none
      | none => none
    | _ => none
  | _ => none
def LSet (K : PySem.W.Frag) : TSet := fun o i v H Q => ∃ d1 d2 d3 M M', Rp K M H d1 o ∧ Rp K M H d2 i ∧ Rp K M H d3 v ∧ RM K M H ∧ put3 M d1 d2 d3 = some M' ∧ ∀ H', RM K M' H' → Ev M H M' H' → Q H'
theorem seti (hu : X.A.units + 1 < cLine) : PSet X (LSet X.K) := by
  intro pins s σ H o i v ov iv u Q I ro ri rv ⟨d1, d2, d3, M, M', r1, r2, r3, rm, e, q⟩
  unfold put3 at e
  split at e
  · rename_i a
    have ea : o = .ref a := r1
    subst ea
    split at e
    · rename_i ds em
      split at e
      · rename_i k
        split at e
        · rename_i j ej
          obtain rfl := Option.some.inj e
          obtain ⟨vs, g1, g2⟩ := rm a _ em
          refine set_list pins s σ H _ _ _ ov iv u Q I ro ri rv ⟨a, vs, k, j, rfl, r2, g1, by rw [g2.length]; exact ej, q _ ?_ (Ev.wr em)⟩
          exact rm.wr em ⟨_, upd_same, (RpL.ev (Ev.wr em) _ _ g2).set (Rp.ev (Ev.wr em) _ _ r3) j⟩
        · cases e
      · cases e
    · rename_i kvs em
      split at e
      · rename_i k ek
        split at e
        · rename_i hz
          obtain rfl := Option.some.inj e
          obtain ⟨vs, g1, g2⟩ := rm a _ em
          have hk := keyK_v ek r2
          subst hk
          obtain ⟨ws, w1, w2⟩ := put_rp (k := k) r3 g2
          refine set_dict hu pins s σ H _ _ _ ov iv u Q I ro ri rv ⟨a, _, rfl, DPut.k g1 ?_, q _ ?_ (Ev.wr em)⟩
          · rw [List.length_zip, List.length_map]; omega
          · refine rm.wr em ⟨ws, ?_, RpL.ev (Ev.wr em) _ _ w2⟩
            rw [upd_same, w1]
        · cases e
      · cases e
    · rename_i kvs em
      split at e
      · rename_i k ek
        split at e
        · rename_i hz
          obtain rfl := Option.some.inj e
          obtain ⟨vs, g1, g2⟩ := rm a _ em
          cases d2 with
          | tp tk es =>
            cases tk with
            | s => simp [keyT] at ek
            | k => simp [keyT] at ek
            | t =>
            obtain ⟨b, bs, b1, ⟨b2, b3⟩, b4⟩ := r2
            have hk := keysK_v ek b4
            subst hk b1
            obtain ⟨ws, w1, w2⟩ := put_rp (k := k) r3 g2
            refine set_dict hu pins s σ H _ _ _ ov iv u Q I ro ri rv ⟨a, _, rfl, DPut.t g1 b3 ?_, q _ ?_ (Ev.wr em)⟩
            · rw [List.length_zip, List.length_map]; omega
            · refine rm.wr em ⟨ws, ?_, RpL.ev (Ev.wr em) _ _ w2⟩
              rw [upd_same, w1]
          | _ => simp [keyT] at ek
        · cases e
      · cases e
    · cases e
  · cases e
def sput3 (to ti te : T3) : TS3 := fun D e M => te e M fun v M1 => to e M1 fun o M2 => ti e M2 fun i M3 => match put3 M3 o i v with | some M4 => D.nx e M4 | none => False
theorem z_sput {o i : Expr} {to ti : T3} {pos' : Pos} (hset : PSet X (LSet K)) (ho : PE X o (LE K M0 H0 to)) (hi : PE X i (LE K M0 H0 ti)) (he : PE X e (LE K M0 H0 te))
    (ha : ∀ v, assign (.Subscript o i pos') X.env v = (do
      let ov ← holding [v] (eval o X.env)
      let iv ← holding [v, ov] (eval i X.env)
      standAt pos'
      holding [v, ov, iv] (setItem ov iv v)
      release [v, ov, iv] []))
    (hs : swapsWithSole [.Subscript o i pos'] e pos.line X.env = pure false) (hw : swappedStores [.Subscript o i pos'] e X.env = pure none)
    (h1 : (assignEach [.Subscript o i pos'] X.env).map (·.2) = [assign (.Subscript o i pos') X.env]) : PS X (.Assign [.Subscript o i pos'] e pos) (LS K M0 H0 (sput3 to ti te)) :=
  (ps_asg he (pg_sub ho hi hset ha) hs hw h1).imp fun D σ H ⟨en, M, D3, rs, rm, ev, t, c⟩ => LE.then rs rm ev t fun v M1 v1 H1 t1 r1 rs1 rm1 ev1 e1 =>
    LE.then rs1 rm1 ev1 t1 fun o M2 v2 H2 t2 r2 rs2 rm2 ev2 e2 => LE.then rs2 rm2 ev2 t2 fun i M3 v3 H3 t3 r3 rs3 rm3 ev3 e3 => by
      split at t3
      · rename_i M4 e4
        exact ⟨o, i, v, M3, M4, Rp.ev e3 _ _ r2, r3, Rp.ev (e2.trans e3) _ _ r1, rm3, e4, fun H' rm' ev' => c.nx en M4 σ H' t3 (rs3.ev ev') rm' (e1.trans (e2.trans (e3.trans ev')))⟩
      · exact t3.elim
end
end
end Z

namespace Z
open PySem PySem.Spec PyProof.Rows L2

section
variable (K : PySem.W.Frag) (M0 : MH) (H0 : Hp)
structure WK (J : It) (items : List D) (M : MH) (H : Hp) : Prop where
  size : items.length ≤ sizeLine
  turn : ∀ M2 H2, Ev M H M2 H2 → RM K M2 H2 → ∀ i d, items[i]? = some d → J.go i H2 ∧ ∀ x H3, J.yld i H2 x H3 → Rp K M2 H3 d x ∧ RM K M2 H3 ∧ Ev M2 H2 M2 H3
  stop : ∀ M2 H2, Ev M H M2 H2 → RM K M2 H2 → J.stop items.length H2
def LI (t : TL3) : TI := fun σ H R => ∃ e M Q3, RS K M H e σ ∧ RM K M H ∧ Ev M0 H0 M H ∧ t e M Q3 ∧ ∀ items M' H' J, Q3 items M' → WK K J items M' H' → RM K M' H' → Ev M H M' H' → R J H'
end
def charsD (x : Str) : List D := x.cps.toList.map fun c => D.str ⟨#[c]⟩
def itemsA (d : D) : Option (List D) := match d with
  | .tp _ ds => some ds
  | .lst ds => some ds
  | .flst ds => some ds
  | .str x => if x.length ≤ sizeLine then some (charsD x) else none
  | _ => none
def iter3 (te : T3) : TL3 := fun e M Q => te e M fun d M1 => match itemsA d with | some ds => Q ds M1 | none => False
def rngD : Int → Nat → List D
  | _, 0 => []
  | lo, n + 1 => .int lo :: rngD (lo + 1) n
theorem rngD_len : ∀ (lo : Int) (n : Nat), (rngD lo n).length = n
  | _, 0 => rfl
  | lo, n + 1 => by show (rngD (lo + 1) n).length + 1 = n + 1; rw [rngD_len]
theorem rngD_get : ∀ (lo : Int) (n i : Nat), i < n → (rngD lo n)[i]? = some (.int (lo + i))
  | _, 0, _, h => by omega
  | lo, n + 1, 0, _ => by simp [rngD]
  | lo, n + 1, i + 1, h => by
    show (rngD (lo + 1) n)[i]? = _
    rw [rngD_get (lo + 1) n i (by omega)]
    congr 2
    omega
def rng1A : TL3 → TL3 := fun ta e M Q => ta e M fun ds M1 => match ds with
  | [.int j] => (-16777216 ≤ j ∧ j ≤ 16777216) ∧ Q (rngD 0 j.toNat) M1
  | _ => False
def rng2A : TL3 → TL3 := fun ta e M Q => ta e M fun ds M1 => match ds with
  | [.int i, .int j] => (-16777216 ≤ i ∧ i ≤ 16777216 ∧ -16777216 ≤ j ∧ j ≤ 16777216 ∧ j - i ≤ 16777216) ∧ Q (rngD i (j - i).toNat) M1
  | _ => False
def enumD : Nat → List D → List D
  | _, [] => []
  | i, d :: r => .tup [.int i, d] :: enumD (i + 1) r
theorem enumD_len : ∀ (i : Nat) (ds : List D), (enumD i ds).length = ds.length
  | _, [] => rfl
  | i, d :: r => by simp [enumD, enumD_len (i + 1) r]
theorem enumD_get : ∀ (i : Nat) (ds : List D) (j : Nat) (z : D), (enumD i ds)[j]? = some z → ∃ d, ds[j]? = some d ∧ z = .tup [.int ((i + j : Nat) : Int), d]
  | i, [], j, z, h => by simp [enumD] at h
  | i, d :: r, 0, z, h => by
    have h : D.tup [.int (i : Nat), d] = z := by simpa [enumD] using h
    exact ⟨d, rfl, by rw [← h]; rfl⟩
  | i, d :: r, j + 1, z, h => by
    obtain ⟨e, h1, h2⟩ := enumD_get (i + 1) r j z (by simpa [enumD] using h)
    refine ⟨e, by simpa using h1, ?_⟩
    rw [h2]
    have : i + 1 + j = i + (j + 1) := by omega
    rw [this]
def enumA : TL3 → TL3 := fun ta e M Q => ta e M fun ds M1 => match ds with
  | [d] => match exL M1 d with
    | some ds => (match d with | .ref _ => False | _ => True) ∧ ds.length ≤ sizeLine ∧ Q (enumD 0 ds) M1
    | none => False
  | _ => False
section
variable {K : PySem.W.Frag} {M0 : MH} {H0 : Hp} {X : Cx} {tg l : Expr} {te : T3} {tl : TL3}
/-- an iterator over a list that is read -/
theorem pie_list {pins : List (Addr × Obj)} {σ : L2.St} {H : Hp} {s : Shared} {R : It → Hp → Prop} {E : Value → Shared → Prop} {a : Addr} {xs : List V} (I : Inv X pins σ H s) (h : SqL X.K H a xs) (q : xs.length ≤ sizeLine → R (Itl X.K a) H) :
    wpAny (model X.prog X.w) X.A (pyIter (.ref a)) (PIE X pins σ tg R) E s := by
  obtain ⟨its, rv, p, hz⟩ := I.list h
  refine wpAny_pyIter_list p.isList ⟨s.heap.objs.size, [s.heap.objs.size], _, _, H, rfl, I.kept (t' := s.toks) fun b o e => Heap.get?_push_of_some _ e, turn_list a _, ⟨_, Heap.get?_push_size _ rfl, rfl, rfl⟩, fun b hb => ?_, q hz⟩
  rw [List.mem_singleton] at hb
  rw [hb]
  exact I.fpOk (Nat.le_refl _) (I.hok.fresh (Nat.le_refl _))
theorem pie_tup {pins : List (Addr × Obj)} {σ : L2.St} {H : Hp} {s : Shared} {R : It → Hp → Prop} {E : Value → Shared → Prop} {a : Addr} {xs : List V} (I : Inv X pins σ H s) (h : SqT X.K H a xs) (q : xs.length ≤ sizeLine → R (Itt X.K a) H) :
    wpAny (model X.prog X.w) X.A (pyIter (.ref a)) (PIE X pins σ tg R) E s := by
  obtain ⟨its, rv, p, hz⟩ := I.tuple h
  refine wpAny_pyIter_tuple (show s.heap.IsTuple a its.toArray from p) ⟨s.heap.objs.size, [s.heap.objs.size], _, _, H, rfl, I.kept (t' := s.toks) fun b o e => Heap.get?_push_of_some _ e, turn_tuple a _, ⟨_, Heap.get?_push_size _ rfl, rfl, rfl⟩, fun b hb => ?_, q hz⟩
  rw [List.mem_singleton] at hb
  rw [hb]
  exact I.fpOk (Nat.le_refl _) (I.hok.fresh (Nat.le_refl _))
theorem pie_str {pins : List (Addr × Obj)} {σ : L2.St} {H : Hp} {s : Shared} {R : It → Hp → Prop} {E : Value → Shared → Prop} {x : Str} {t : Tok} (I : Inv X pins σ H s) (q : R (Its x) H) :
    wpAny (model X.prog X.w) X.A (pyIter (.str x t)) (PIE X pins σ tg R) E s := by
  cases ha : x.cps.all (· < 128)
  · exact wpAny_pyIter_wide ha (pi_one (tk := s.toks) I _ (turn_str _ x t "str_iterator" (.inr rfl)) ⟨_, Heap.get?_push_size _ rfl, rfl, rfl⟩ q)
  · exact wpAny_pyIter_ascii ha (pi_one (tk := s.toks) I _ (turn_str _ x t "str_ascii_iterator" (.inl rfl)) ⟨_, Heap.get?_push_size _ rfl, rfl, rfl⟩ q)
theorem wk_list {a : Addr} {vs : List V} {ds : List D} {M : MH} {H : Hp} (hz : ds.length ≤ sizeLine) (h : ∀ M2 H2, Ev M H M2 H2 → SqL K H2 a vs) (r : RpL K M H ds vs) : WK K (Itl K a) ds M H where
  size := hz
  turn := fun M2 H2 ev rm i d e => by
    obtain ⟨v, g1, g2⟩ := r.get e
    refine ⟨⟨vs, v, h M2 H2 ev, g1⟩, fun x H3 ⟨e1, e2⟩ => ?_⟩
    subst e1
    have := e2 vs (h M2 _ ev)
    rw [g1] at this
    cases this
    exact ⟨Rp.ev ev _ _ g2, rm, Ev.refl _ _⟩
  stop := fun M2 H2 ev rm => ⟨vs, h M2 H2 ev, by rw [r.length]; exact Nat.le_refl _⟩
theorem wk_tup {a : Addr} {vs : List V} {ds : List D} {M : MH} {H : Hp} (hz : ds.length ≤ sizeLine) (h : ∀ M2 H2, Ev M H M2 H2 → SqT K H2 a vs) (r : RpL K M H ds vs) : WK K (Itt K a) ds M H where
  size := hz
  turn := fun M2 H2 ev rm i d e => by
    obtain ⟨v, g1, g2⟩ := r.get e
    refine ⟨⟨vs, v, h M2 H2 ev, g1⟩, fun x H3 ⟨e1, e2⟩ => ?_⟩
    subst e1
    have := e2 vs (h M2 _ ev)
    rw [g1] at this
    cases this
    exact ⟨Rp.ev ev _ _ g2, rm, Ev.refl _ _⟩
  stop := fun M2 H2 ev rm => ⟨vs, h M2 H2 ev, by rw [r.length]; exact Nat.le_refl _⟩
theorem wk_str {x : Str} {M : MH} {H : Hp} (hz : x.length ≤ sizeLine) : WK K (Its x) (charsD x) M H where
  size := by
    unfold charsD
    rw [List.length_map]
    exact hz
  turn := fun M2 H2 ev rm i d e => by
    unfold charsD at e
    rw [List.getElem?_map] at e
    cases q : x.cps.toList[i]? with
    | none => rw [q] at e; cases e
    | some c =>
      rw [q] at e
      have e : D.str ⟨#[c]⟩ = d := by simpa using e
      subst e
      have hc : x.cps[i]? = some c := by simpa using q
      refine ⟨(Array.getElem?_eq_some_iff.mp hc).1, fun y H3 ⟨e1, c', e2, e3⟩ => ?_⟩
      subst e1
      rw [hc] at e2
      cases e2
      exact ⟨e3, rm, Ev.refl _ _⟩
  stop := fun M2 H2 ev rm => by
    show x.cps.size ≤ (charsD x).length
    unfold charsD
    rw [List.length_map]
    exact Nat.le_of_eq (by simp)
theorem wk_rng {lo : Int} {n : Nat} {M : MH} {H : Hp} (hz : n ≤ sizeLine) : WK K (Itr lo n) (rngD lo n) M H where
  size := by rw [rngD_len]; exact hz
  turn := fun M2 H2 ev rm i d e => by
    have hi : i < n := by
      have := (List.getElem?_eq_some_iff.mp e).1
      rw [rngD_len] at this
      exact this
    rw [rngD_get lo n i hi] at e
    cases e
    refine ⟨hi, fun y H3 ⟨e1, e2⟩ => ?_⟩
    subst e1
    exact ⟨e2, rm, Ev.refl _ _⟩
  stop := fun M2 H2 ev rm => by rw [rngD_len]; exact Nat.le_refl n
theorem wk_enum {a : Addr} {vs : List V} {ds : List D} {M : MH} {H : Hp} (hz : ds.length ≤ sizeLine) (h : ∀ M2 H2, Ev M H M2 H2 → SqL K H2 a vs) (r : RpL K M H ds vs) : WK K (Ite K a) (enumD 0 ds) M H where
  size := by rw [enumD_len]; exact hz
  turn := fun M2 H2 ev rm i z e => by
    obtain ⟨d, e1, e2⟩ := enumD_get 0 ds i z e
    obtain ⟨v, g1, g2⟩ := r.get e1
    refine ⟨⟨vs, v, h M2 H2 ev, g1⟩, fun x H3 ⟨T, y, e3, e4, e5, e6⟩ => ?_⟩
    subst e3 e5 e2
    have := e6 vs (h M2 _ ev)
    rw [g1] at this
    cases this
    refine ⟨?_, rm.new e4, Ev.new e4⟩
    have i0 : ((0 + i : Nat) : Int) = (i : Nat) := by omega
    rw [i0]
    exact Rp.tupNew rm e4 ⟨_, _, rfl, rfl, RpL.one (Rp.ev ev _ _ g2)⟩
  stop := fun M2 H2 ev rm => ⟨vs, h M2 H2 ev, by rw [enumD_len, r.length]; exact Nat.le_refl _⟩
theorem z_iter (hK : X.K = K) (hl : PE X l (LE K M0 H0 te)) : PI X tg l (LI K M0 H0 (iter3 te)) := by
  subst hK
  refine ⟨fun pins s σ H R I ⟨en, M, P, rs, rm, ev, t, c⟩ => ?_⟩
  refine thn (hl.run pins s σ H (fun x H1 => ∃ d M1, Rp X.K M1 H1 d x ∧ RM X.K M1 H1 ∧ Ev M H M1 H1 ∧ match itemsA d with | some ds => P ds M1 | none => False) I
    (LE.then rs rm ev t fun d M1 v1 H1 t1 r1 rs1 rm1 ev1 e1 => ⟨d, M1, r1, rm1, e1, t1⟩)) fun u s1 ⟨x, H1, I1, ru, d, M1, rd, rm1, e1, t1⟩ => ?_
  cases d with
  | tp k ds =>
    obtain ⟨a, vs, h1, h2, h3⟩ := rd
    subst h1
    cases ru
    exact pie_tup I1 h2.sq fun hz => c ds M1 H1 _ t1 (wk_tup (by rw [← h3.length]; exact hz) (fun M2 H2 e2 => (h2.ev e2).sq) h3) rm1 e1
  | lst ds =>
    obtain ⟨a, vs, h1, h2, h3, h4⟩ := rd
    subst h1
    cases ru
    exact pie_list I1 (.inl (.inl h3)) fun hz => c ds M1 H1 _ t1 (wk_list (by rw [← h4.length]; exact hz) (fun M2 H2 e2 => .inl (.inl (e2 _ _ h3 h2).1)) h4) rm1 e1
  | flst ds =>
    obtain ⟨a, vs, h1, h2, h3⟩ := rd
    subst h1
    cases ru
    exact pie_list I1 h2.sq fun hz => c ds M1 H1 _ t1 (wk_list (by rw [← h3.length]; exact hz) (fun M2 H2 e2 => (h2.ev e2).sq) h3) rm1 e1
  | str x =>
    obtain ⟨t', rfl⟩ := rp_str rd ▸ ru
    dsimp only [itemsA] at t1
    by_cases hz : x.length ≤ sizeLine
    · rw [if_pos hz] at t1
      exact pie_str I1 (c _ M1 H1 _ t1 (wk_str hz) rm1 e1)
    · rw [if_neg hz] at t1
      exact t1.elim
  | _ => exact t1.elim
theorem z_irng1 {a : Expr} {p pos : Pos} (hg : Gl X "range") (hm : X.mg "range" = none) (ha : PA X [a] (LA K M0 H0 tl)) (hs : starEach [a] X.env = [(false, eval a X.env)]) : PI X tg (.Call (.Name "range" p) [a] [] pos) (LI K M0 H0 (rng1A tl)) :=
  (pi_range1 hg hm ha hs).imp fun σ H R ⟨en, M, P, rs, rm, ev, t, c⟩ => LA.then rs rm ev t fun ds M1 vs H1 t1 r1 rs1 rm1 ev1 e1 => by
    split at t1
    · rename_i j
      obtain ⟨v, w, h1, h2, h3⟩ := r1
      have h3 : w = [] := h3
      subst h3 h1
      obtain ⟨⟨j0, j1⟩, j2⟩ := t1
      exact ⟨j, by rw [rp_int h2], by omega, by omega, c _ M1 H1 _ j2 (wk_rng (by rw [sizeLine_eq]; omega)) rm1 e1⟩
    · exact t1.elim
theorem z_irng2 {a b : Expr} {p pos : Pos} (hg : Gl X "range") (hm : X.mg "range" = none) (ha : PA X [a, b] (LA K M0 H0 tl)) (hs : starEach [a, b] X.env = [(false, eval a X.env), (false, eval b X.env)]) (hs2 : starEach [b] X.env = [(false, eval b X.env)]) :
    PI X tg (.Call (.Name "range" p) [a, b] [] pos) (LI K M0 H0 (rng2A tl)) :=
  (pi_range2 hg hm ha hs hs2).imp fun σ H R ⟨en, M, P, rs, rm, ev, t, c⟩ => LA.then rs rm ev t fun ds M1 vs H1 t1 r1 rs1 rm1 ev1 e1 => by
    split at t1
    · rename_i i j
      obtain ⟨v, w, h1, h2, h3⟩ := r1
      obtain ⟨v', w', g1, g2, g3⟩ := h3
      have g3 : w' = [] := g3
      subst g3 g1 h1
      obtain ⟨⟨j0, j1, j2, j3, j4⟩, t1⟩ := t1
      refine ⟨i, j, by rw [rp_int h2, rp_int g2], ⟨by omega, by omega, by omega, by omega⟩, c _ M1 H1 _ t1 (wk_rng (by rw [sizeLine_eq]; omega)) rm1 e1⟩
    · exact t1.elim
theorem z_ienum {e : Expr} {p pos tpos : Pos} {elts : List Expr} {kk : Nat} (hK : X.K = K) (hg : Gl X "enumerate") (hm : X.mg "enumerate" = none) (ha : PA X [e] (LA K M0 H0 tl)) (hs : starEach [e] X.env = [(false, eval e X.env)]) :
    PI X (.Tuple elts kk tpos) (.Call (.Name "enumerate" p) [e] [] pos) (LI K M0 H0 (enumA tl)) := by
  subst hK
  exact (pi_enum hg hm ha hs).imp fun σ H R ⟨en, M, P, rs, rm, ev, t, c⟩ => LA.then rs rm ev t fun ds M1 vs H1 t1 r1 rs1 rm1 ev1 e1 => by
    split at t1
    · rename_i d
      obtain ⟨v, w, h1, h2, h3⟩ := r1
      have h3 : w = [] := h3
      subst h3 h1
      split at t1
      · rename_i ds e2
        obtain ⟨t2, tz, t1⟩ := t1
        cases d with
        | lst es =>
          have e2 : es = ds := by simpa [exL] using e2
          subst e2
          obtain ⟨a, vs, h1, h2, h3, h4⟩ := h2
          subst h1
          exact ⟨a, vs, rfl, .inl (.inl h3), c _ M1 H1 _ t1 (wk_enum tz (fun M2 H2 e2 => .inl (.inl (e2 _ _ h3 h2).1)) h4) rm1 e1⟩
        | ref a => exact t2.elim
        | _ => simp [exL] at e2
      · exact t1.elim
    · exact t1.elim
/-! ### for -/
/-- the turns of a for, one after another -/
def turns3 (tg : Tg) (body : TS3) (Z : Ends3) : List D → En → MH → Prop
  | [], e, M => Z.nx e M
  | x :: r, e, M => match bindT tg x e with
    | some e1 => body { nx := turns3 tg body Z r, rt := Z.rt, bk := Z.nx, ct := turns3 tg body Z r } e1 M
    | none => False
def for3 (it : TL3) (tg : Tg) (body : TS3) : TS3 := fun D e M => it e M fun items M1 => turns3 tg body D items e M1
theorem z_for {iter : Expr} {tgE : Expr} {bodyE : List Stmt} {it : TL3} {tg : Tg} {body : TS3} {pos : Pos} (hp : PassesOwn (model X.prog X.w) X.A X.env X.xe) (hc : X.calm = true) (hi : PI X tgE iter (LI K M0 H0 it)) (hg : PG X tgE (gOf K tg)) (hb : PSs X bodyE (LS K M0 H0 body))
    (hs : ∀ x, foldedSetIterable iter X.env x = pure x) : PS X (.For tgE iter bodyE [] pos) (LS K M0 H0 (for3 it tg body)) :=
  (ps_for hp hc hi hg hb hs).imp fun D σ H ⟨en, M, D3, rs, rm, ev, t, c⟩ => by
    refine ⟨en, M, _, rs, rm, ev, t, fun items M1 H1 J t1 wk rm1 e1 => ?_⟩
    have rs1 := rs.ev e1
    refine ⟨fun i m σ H => m = items.length - i ∧ i ≤ items.length ∧ ∃ e M', RS K M' H e σ ∧ RM K M' H ∧ Ev M1 H1 M' H ∧ turns3 tg body D3 (items.drop i) e M', ⟨items.length, by simp, Nat.zero_le _, en, M1, rs1, rm1, Ev.refl _ _, by simpa using t1⟩, ?_⟩
    rintro i m σ2 H2 ⟨rfl, hi2, e2, M2, rs2, rm2, ev2, t2⟩
    by_cases hlt : i < items.length
    · have hd : items.drop i = items[i] :: items.drop (i + 1) := List.drop_eq_getElem_cons hlt
      obtain ⟨go, yl⟩ := wk.turn M2 H2 ev2 rm2 i items[i] (List.getElem?_eq_getElem hlt)
      refine .inr ⟨go, fun σ' H' => i + 1 ≤ items.length ∧ ∃ e M', RS K M' H' e σ' ∧ RM K M' H' ∧ Ev M1 H1 M' H' ∧ turns3 tg body D3 (items.drop (i + 1)) e M', fun σ' H' ⟨q1, q2⟩ => ⟨items.length - (i + 1), by omega, rfl, q1, q2⟩, fun x H3 y => ?_⟩
      obtain ⟨rx, rm3, ev3⟩ := yl x H3 y
      rw [hd] at t2
      dsimp only [turns3] at t2
      split at t2
      · rename_i e4 eb
        refine gOf_ok eb rx (rs2.ev ev3) fun vs rs4 => ?_
        refine ⟨e4, M2, _, rs4, rm3, ev.trans (e1.trans (ev2.trans ev3)), t2, ?_, ?_, ?_, ?_⟩
        · exact fun e' M' σ' H' q r m ev4 => ⟨hlt, e', M', r, m, ev2.trans (ev3.trans ev4), q⟩
        · exact c.rt.from (e1.trans (ev2.trans ev3))
        · exact c.nx.from (e1.trans (ev2.trans ev3))
        · exact fun e' M' σ' H' q r m ev4 => ⟨hlt, e', M', r, m, ev2.trans (ev3.trans ev4), q⟩
      · exact t2.elim
    · have e : i = items.length := by omega
      subst e
      refine .inl ⟨wk.stop M2 H2 ev2 rm2, ?_⟩
      rw [List.drop_length] at t2
      exact c.nx e2 M2 σ2 H2 t2 rs2 rm2 (e1.trans ev2)
/-! ### while -/
def whileN (c : TB3) (body : TS3) (D : Ends3) : Nat → En → MH → Prop
  | 0, _, _ => False
  | n + 1, e, M => c e M fun b M1 => match b with
    | true => body { nx := whileN c body D n, rt := D.rt, bk := D.nx, ct := whileN c body D n } e M1
    | false => D.nx e M1
def while3 (c : TB3) (body : TS3) : TS3 := fun D e M => ∃ n, whileN c body D n e M
theorem z_while {test : Expr} {bodyE : List Stmt} {c : TB3} {body : TS3} {pos : Pos} (hp : PassesOwn (model X.prog X.w) X.A X.env X.xe) (hc : PT X test (LT K M0 H0 c)) (hb : PSs X bodyE (LS K M0 H0 body)) : PS X (.While test bodyE [] pos) (LS K M0 H0 (while3 c body)) :=
  (ps_while hp hc hb).imp fun D σ H ⟨en, M, D3, rs, rm, ev, ⟨n, t⟩, cv⟩ => by
    refine ⟨fun m σ2 H2 => ∃ e2 M2, RS K M2 H2 e2 σ2 ∧ RM K M2 H2 ∧ Ev M H M2 H2 ∧ whileN c body D3 m e2 M2, ⟨n, en, M, rs, rm, Ev.refl _ _, t⟩, ?_⟩
    rintro m σ2 H2 ⟨e2, M2, rs2, rm2, ev2, t2⟩
    cases m with
    | zero => exact t2.elim
    | succ m =>
      refine LT.then rs2 rm2 (ev.trans ev2) t2 fun b M3 H3 t3 rs3 rm3 ev3 e3 => ?_
      cases b with
      | true =>
        rw [if_pos rfl]
        refine ⟨fun σ' H' => ∃ e' M', RS K M' H' e' σ' ∧ RM K M' H' ∧ Ev M H M' H' ∧ whileN c body D3 m e' M', fun σ' H' q => ⟨m, Nat.lt_succ_self m, q⟩, ?_⟩
        refine ⟨e2, M3, _, rs3, rm3, ev3, t3, ?_, ?_, ?_, ?_⟩
        · exact fun e' M' σ' H' q r m' ev4 => ⟨e', M', r, m', ev2.trans (e3.trans ev4), q⟩
        · exact cv.rt.from (ev2.trans e3)
        · exact cv.nx.from (ev2.trans e3)
        · exact fun e' M' σ' H' q r m' ev4 => ⟨e', M', r, m', ev2.trans (e3.trans ev4), q⟩
      | false =>
        rw [if_neg Bool.false_ne_true]
        exact cv.nx e2 M3 σ2 H3 t3 rs3 rm3 (ev2.trans e3)
/-! ### [elt for tg in it if tt] -/
def compW (tg : Tg) (tt : TB3) (te : T3) (e : En) (p : Addr) (Q : List D → MH → Prop) : List D → List D → MH → Prop
  | [], acc, M => M p = some (.lst acc) ∧ Q acc M
  | x :: r, acc, M => match bindT tg x e with
    | some e1 => tt e1 M fun b M2 => match b with
      | true => te e1 M2 fun y M3 => M3 p = some (.lst acc) ∧ compW tg tt te e p Q r (acc ++ [y]) (up M3 p (.lst (acc ++ [y])))
      | false => compW tg tt te e p Q r acc M2
    | none => False
def comp3 (m : Bool) (it : TL3) (tg : Tg) (tt : TB3) (te : T3) (own : List Nat) : T3 := fun e M Q => it e M fun items M1 => ∀ p, M1 p = none →
  compW tg tt te (wipeE e own) p (fun acc M2 => match m with | true => Q (.ref p) M2 | false => Q (.lst acc) (er M2 p)) items [] (up M1 p (.lst []))
def yes3 : TB3 := fun _ M Q => Q true M
theorem z_tnil : PTs X [] (LT K M0 H0 yes3) := ⟨fun pins s σ H Q I ⟨en, M, P, rs, rm, ev, t, c⟩ => pts_nil.run pins s σ H Q I (c true M H t rm (Ev.refl _ _))⟩
theorem z_tone {c : Expr} {t : TB3} (h : PT X c (LT K M0 H0 t)) : PTs X [c] (LT K M0 H0 t) := pts_one h
theorem Rp.lstEr {M : MH} {H : Hp} {p : Addr} {vs : List V} {ds : List D} (h : H p = some (.lst vs)) (r : RpL K M H ds vs) : Rp K (er M p) H (.lst ds) (.ref p) :=
  ⟨p, vs, rfl, er_none, h, RpL.ev (Ev.sub Sub.er) _ _ r⟩
theorem lcomp {m : Bool} {it : TL3} {tg : Tg} {tt : TB3} {te : T3} {own : List (Str × Nat)} {σ : L2.St} {H : Hp} {Q : VK} (hsub : ∀ i ∈ tg.slots, i ∈ own.map (·.2)) (h : LE K M0 H0 (comp3 m it tg tt te (own.map (·.2))) σ H Q) :
    tLc (LI K M0 H0 it) (gOf K tg) (LT K M0 H0 tt) (LE K M0 H0 te) (own.map (·.2)) σ H Q := by
  obtain ⟨en, M, P, rs, rm, ev, t, c⟩ := h
  refine ⟨en, M, _, rs, rm, ev, t, fun items M1 H1 J t1 wk rm1 e1 p hp => ?_⟩
  have mp : M1 p = none := rm1.free hp
  have rs1 := (rs.ev e1).wipe (own.map (·.2))
  have t2 := t1 p mp
  refine ⟨fun i n H => n = items.length - i ∧ i ≤ items.length ∧ ∃ M' acc, RM K M' H ∧ Ev M1 H1 M' H ∧ acc.length ≤ i ∧ compW tg tt te (wipeE en (own.map (·.2))) p (fun acc M2 => match m with | true => P (.ref p) M2 | false => P (.lst acc) (er M2 p)) (items.drop i) acc M',
    ⟨items.length, by simp, Nat.zero_le _, up M1 p (.lst []), [], rm1.newM hp ⟨[], upd_same, rfl⟩, Ev.newM hp, Nat.le_refl _, by simpa using t2⟩, ?_⟩
  rintro i n H2 ⟨rfl, hi2, M2, acc, rm2, ev2, hacc, t2⟩
  by_cases hlt : i < items.length
  · have hd : items.drop i = items[i] :: items.drop (i + 1) := List.drop_eq_getElem_cons hlt
    obtain ⟨go, yl⟩ := wk.turn M2 H2 ev2 rm2 i items[i] (List.getElem?_eq_getElem hlt)
    refine .inr ⟨go, fun H' => i + 1 ≤ items.length ∧ ∃ M' acc, RM K M' H' ∧ Ev M1 H1 M' H' ∧ acc.length ≤ i + 1 ∧ compW tg tt te (wipeE en (own.map (·.2))) p (fun acc M2 => match m with | true => P (.ref p) M2 | false => P (.lst acc) (er M2 p)) (items.drop (i + 1)) acc M',
      fun H' ⟨q1, q2⟩ => ⟨items.length - (i + 1), by omega, rfl, q1, q2⟩, fun x H3 y => ?_⟩
    obtain ⟨rx, rm3, ev3⟩ := yl x H3 y
    rw [hd] at t2
    dsimp only [compW] at t2
    split at t2
    · rename_i e4 eb
      refine gOf_ok eb rx ((rs1.ev ev2).ev ev3) fun vs rs4 => ?_
      refine ⟨?_, ?_⟩
      · rw [wipe_setV _ _ _ hsub, wipe_wipe]
      · refine LT.then rs4 rm3 (ev.trans (e1.trans (ev2.trans ev3))) t2 fun b M5 H5 t5 rs5 rm5 ev5 e5 => ?_
        cases b with
        | true =>
          rw [if_pos rfl]
          refine LE.then rs5 rm5 ev5 t5 fun y M6 v6 H6 ⟨q6, t6⟩ r6 rs6 rm6 ev6 e6 => ?_
          obtain ⟨ws, w1, w2⟩ := rm6 p _ q6
          have hl := w2.length
          have sz := wk.size
          refine ⟨ws, w1, by omega, hlt, _, acc ++ [y], rm6.wr (o := .lst (acc ++ [y])) q6 ⟨_, upd_same, RpL.ev (Ev.wr q6) _ _ (w2.append (RpL.one r6))⟩, ev2.trans (ev3.trans (e5.trans (e6.trans (Ev.wr q6)))), by rw [List.length_append]; simp; omega, t6⟩
        | false =>
          rw [if_neg Bool.false_ne_true]
          exact ⟨hlt, M5, acc, rm5, ev2.trans (ev3.trans e5), by omega, t5⟩
    · exact t2.elim
  · have e : i = items.length := by omega
    subst e
    refine .inl ⟨wk.stop M2 H2 ev2 rm2, ?_⟩
    rw [List.drop_length] at t2
    obtain ⟨q2, t2⟩ := t2
    obtain ⟨ws, w1, w2⟩ := rm2 p _ q2
    cases m with
    | true => exact c (.ref p) M2 _ H2 t2 rfl rm2 (e1.trans ev2)
    | false => exact c (.lst acc) _ _ H2 t2 (Rp.lstEr w1 w2) (rm2.sub Sub.er) (e1.trans (ev2.trans (Ev.sub Sub.er)))
end
end Z

namespace Z
open PySem PySem.Spec PyProof.Rows L2

/-! ### methods -/
inductive Mt where
  | append | extend | get | setdefault | index | indexT | join | split | startswith
  deriving DecidableEq
def Mt.name : Mt → String
  | .append => "append" | .extend => "extend" | .get => "get" | .setdefault => "setdefault" | .index => "index" | .indexT => "index" | .join => "join" | .split => "split" | .startswith => "startswith"
def strsOf : List D → Option (List Str)
  | [] => some []
  | .str x :: r => match strsOf r with | some l => some (x :: l) | none => none
  | _ => none
theorem strsOf_eq : ∀ {ds : List D} {ns : List Str}, strsOf ds = some ns → ds = ns.map D.str
  | [], ns, h => by
    have h : [] = ns := by simpa [strsOf] using h
    subst h; rfl
  | d :: ds, ns, h => by
    cases d with
    | str i =>
      dsimp only [strsOf] at h
      split at h
      · rename_i l e
        obtain rfl := Option.some.inj h
        rw [strsOf_eq e]; rfl
      · cases h
    | _ => simp [strsOf] at h
@[simp] theorem strsOf_map (ns : List Str) : strsOf (ns.map D.str) = some ns := by
  induction ns with
  | nil => rfl
  | cons a r ih => simp only [List.map_cons, strsOf, ih]
theorem strs_v {K : PySem.W.Frag} {M : MH} {H : Hp} : ∀ {ns : List Str} {vs : List V}, RpL K M H (ns.map D.str) vs → vs = ns.map V.str
  | [], vs, h => h
  | n :: ns, vs, h => by
    obtain ⟨v, r, h1, h2, h3⟩ := h
    subst h1
    rw [rp_str h2, strs_v h3]; rfl
theorem strs_rp {K : PySem.W.Frag} {M : MH} {H : Hp} : ∀ (ns : List Str), RpL K M H (ns.map D.str) (ns.map V.str)
  | [] => rfl
  | n :: ns => ⟨_, _, rfl, rfl, strs_rp ns⟩
/-- the place of the first text that is this one -/
def findS (x : Str) : List Str → Nat → Option Nat
  | [], _ => none
  | y :: r, n => if y = x then some n else findS x r (n + 1)
theorem findS_ok {x : Str} : ∀ {ys : List Str} {n j : Nat}, findS x ys n = some j → n ≤ j ∧ ys[j - n]? = some x ∧ ∀ m, m < j - n → ys[m]? ≠ some x
  | [], _, _, h => by simp [findS] at h
  | y :: r, n, j, h => by
    unfold findS at h
    by_cases e : y = x
    · rw [if_pos e] at h
      obtain rfl := Option.some.inj h
      exact ⟨Nat.le_refl _, by simp [e], fun m hm => by omega⟩
    · rw [if_neg e] at h
      obtain ⟨h1, h2, h3⟩ := findS_ok h
      obtain ⟨k, rfl⟩ : ∃ k, j = n + 1 + k := ⟨j - (n + 1), by omega⟩
      have e1 : n + 1 + k - n = k + 1 := by omega
      have e2 : n + 1 + k - (n + 1) = k := by omega
      rw [e2] at h2 h3
      rw [e1]
      refine ⟨by omega, by simpa using h2, fun m hm => ?_⟩
      cases m with
      | zero => simpa using e
      | succ m => simpa using h3 m (by omega)
/-- the place of the first item that is == -/
def findD (x : D) : List D → Nat → Option Nat
  | [], _ => none
  | y :: r, n => if eqv y x = true then some n else findD x r (n + 1)
theorem findD_ok {x : D} : ∀ {ys : List D} {n j : Nat}, findD x ys n = some j → n ≤ j ∧ (∃ y, ys[j - n]? = some y ∧ eqv y x = true) ∧ ∀ m y, m < j - n → ys[m]? = some y → eqv y x = false
  | [], _, _, h => by simp [findD] at h
  | y :: r, n, j, h => by
    unfold findD at h
    by_cases e : eqv y x = true
    · rw [if_pos e] at h
      obtain rfl := Option.some.inj h
      exact ⟨Nat.le_refl _, ⟨y, by simp, e⟩, fun m y hm => by omega⟩
    · rw [if_neg e] at h
      obtain ⟨h1, ⟨z, h2, h2'⟩, h3⟩ := findD_ok h
      obtain ⟨k, rfl⟩ : ∃ k, j = n + 1 + k := ⟨j - (n + 1), by omega⟩
      have e1 : n + 1 + k - n = k + 1 := by omega
      have e2 : n + 1 + k - (n + 1) = k := by omega
      rw [e2] at h2 h3
      rw [e1]
      refine ⟨by omega, ⟨z, by simpa using h2, h2'⟩, fun m y' hm hy => ?_⟩
      cases m with
      | zero =>
        have : y = y' := by simpa using hy
        subst this
        simpa using e
      | succ m => exact h3 m y' (by omega) (by simpa using hy)
/-- what a method gives, and the heap behind it -/
def mthA (m : Mt) (M : MH) (o : D) (as : List D) : Option (D × MH) := match m with
  | .append => match o, as with
    | .ref a, [x] => match M a with
      | some (.lst ds) => if ds.length < sizeLine then some (.non, up M a (.lst (ds ++ [x]))) else none
      | _ => none
    | _, _ => none
  | .extend => match o, as with
    | .ref a, [x] => match M a with
      | some (.lst ds) => match exL M x with
        | some es => if ds.length + es.length ≤ sizeLine then some (.non, up M a (.lst (ds ++ es))) else none
        | none => none
      | _ => none
    | _, _ => none
  | .get => match as with
    | [k, z] => match dfind M o k with
      | some r => some (r.getD z, M)
      | none => none
    | _ => none
  | .setdefault => match o, as with
    | .ref a, [k, z] => match M a, keyK k with
      | some (.dK kvs), some k => if kvs.length < sizeLine then (match valD kvs k with
        | some v => some (v, M)
        | none => some (z, up M a (.dK (putD kvs k z)))) else none
      | _, _ => none
    | _, _ => none
  | .index => match as with
    | [x] => match exL M o with
      | some ds => if lay 59 x && layL 59 ds then (match findD x ds 0 with | some j => some (.int j, M) | none => none) else none
      | none => none
    | _ => none
  | .indexT => match o, as with
    | .tp .k ds, [.str x] => match strsOf ds with
      | some ys => match findS x ys 0 with | some j => some (.int j, M) | none => none
      | none => none
    | _, _ => none
  | .join => match o, as with
    | .str z, [x] => match seqM M x with
      | some ds => match strsOf ds with
        | some ys => if (ys.map (·.length)).sum + ys.length * z.length ≤ 16777216 then some (.str (Txt.join z ys), M) else none
        | none => none
      | none => none
    | _, _ => none
  | .split => match o, as with
    | .str a, [.str b] => if (b.length == 0) = false ∧ a.length + 2 ≤ sizeLine then some (.lst ((Txt.split a b).map D.str), M) else none
    | _, _ => none
  | .startswith => match o, as with
    | .str a, [.str b] => some (.bl (Txt.startswith a b), M)
    | _, _ => none
def isStrD : D → Bool
  | .str _ => true
  | _ => false
def isTk : D → Bool
  | .tp .k _ => true
  | _ => false
/-- the receiver is of the method's type -/
def tyOk (m : Mt) (M : MH) (o : D) : Bool := match m with
  | .append | .extend | .index => (exL M o).isSome
  | .get | .setdefault => (asK M o).isSome || (asD M o).isSome
  | .indexT => isTk o
  | .join | .split | .startswith => isStrD o
def Mt.ty : Mt → String
  | .append | .extend | .index => "list"
  | .get | .setdefault => "dict"
  | .indexT => "tuple"
  | .join | .split | .startswith => "str"
def Mt.id : Mt → String
  | .append => "list.append" | .extend => "list.extend" | .index => "list.index" | .get => "dict.get" | .setdefault => "dict.setdefault" | .indexT => "tuple.index" | .join => "str.join" | .split => "str.split" | .startswith => "str.startswith"
def LMt (K : PySem.W.Frag) (m : Mt) : V → List V → Hp → VK → Prop := fun x xs H Q => ∃ o as M r M', Rp K M H o x ∧ RpL K M H as xs ∧ RM K M H ∧ mthA m M o as = some (r, M') ∧ ∀ v H', Rp K M' H' r v → RM K M' H' → Ev M H M' H' → Q v H'
section
variable {X : Cx}
theorem rpl1 {K : PySem.W.Frag} {M : MH} {H : Hp} {d : D} {xs : List V} (h : RpL K M H [d] xs) : ∃ x, xs = [x] ∧ Rp K M H d x := by
  obtain ⟨v, w, h1, h2, h3⟩ := h
  have h3 : w = [] := h3
  subst h3
  exact ⟨v, h1, h2⟩
theorem rpl2 {K : PySem.W.Frag} {M : MH} {H : Hp} {d e : D} {xs : List V} (h : RpL K M H [d, e] xs) : ∃ x y, xs = [x, y] ∧ Rp K M H d x ∧ Rp K M H e y := by
  obtain ⟨v, w, h1, h2, h3⟩ := h
  obtain ⟨y, hy, h4⟩ := rpl1 h3
  subst hy
  exact ⟨v, y, h1, h2, h4⟩
theorem zm_append : MtR X "list.append" (LMt X.K .append) := by
  intro pins s σ H x xs v us Q I rx rs ⟨o, as, M, r, M', r1, r2, rm, e, q⟩
  dsimp only [mthA] at e
  split at e
  · rename_i a y
    split at e
    · rename_i ds em
      split at e
      · rename_i hz
        obtain ⟨rfl, rfl⟩ := Prod.mk.inj (Option.some.inj e)
        obtain ⟨vs, g1, g2⟩ := rm a _ em
        obtain ⟨w, rfl, rw'⟩ := rpl1 r2
        exact mt_append pins s σ H x [w] v us Q I rx rs ⟨a, vs, w, r1, rfl, g1, by rw [g2.length]; exact hz,
          q _ _ rfl (rm.wr (o := .lst (ds ++ [y])) em ⟨_, upd_same, RpL.ev (Ev.wr em) _ _ (g2.append (RpL.one rw'))⟩) (Ev.wr em)⟩
      · cases e
    · cases e
  · cases e
theorem zm_extend : MtR X "list.extend" (LMt X.K .extend) := by
  intro pins s σ H x xs v us Q I rx rs ⟨o, as, M, r, M', r1, r2, rm, e, q⟩
  dsimp only [mthA] at e
  split at e
  · rename_i a y
    split at e
    · rename_i ds em
      split at e
      · rename_i es ee
        split at e
        · rename_i hz
          obtain ⟨rfl, rfl⟩ := Prod.mk.inj (Option.some.inj e)
          obtain ⟨vs, g1, g2⟩ := rm a _ em
          obtain ⟨w, rfl, rw'⟩ := rpl1 r2
          obtain ⟨b, ws, k1, k2, k3⟩ := exL_sq rm ee rw'
          exact mt_extend pins s σ H x [w] v us Q I rx rs ⟨a, b, vs, ws, r1, by rw [k1], g1, k2, by rw [g2.length, k3.length]; exact hz,
            q _ _ rfl (rm.wr (o := .lst (ds ++ es)) em ⟨_, upd_same, RpL.ev (Ev.wr em) _ _ (g2.append k3)⟩) (Ev.wr em)⟩
        · cases e
      · cases e
    · cases e
  · cases e
theorem zm_get (hu : X.A.units + 1 < cLine) : MtR X "dict.get" (LMt X.K .get) := by
  intro pins s σ H x xs v us Q I rx rs ⟨o, as, M, r, M', r1, r2, rm, e, q⟩
  dsimp only [mthA] at e
  split at e
  · rename_i k z
    split at e
    · rename_i ov ed
      obtain ⟨rfl, rfl⟩ := Prod.mk.inj (Option.some.inj e)
      obtain ⟨kv, zv, rfl, rk, rz⟩ := rpl2 r2
      obtain ⟨u1, u2, rfl, s1, s2⟩ := rs.two
      obtain ⟨a, rr, h1, h2, h3⟩ := dfind_h rm ed r1 rk
      subst h1
      cases rx
      refine d_get2 hu I h2 s1 s2 fun w' s' I' rw' => ⟨_, H, I', rw', q _ _ ?_ rm (Ev.refl _ _)⟩
      rcases h3 with ⟨g1, g2⟩ | ⟨d', v', g1, g2, g3⟩
      · rw [g1, g2]; exact rz
      · rw [g1, g2]; exact g3
    · cases e
  · cases e
theorem zm_setdefault : MtR X "dict.setdefault" (LMt X.K .setdefault) := by
  intro pins s σ H x xs v us Q I rx rs ⟨o, as, M, r, M', r1, r2, rm, e, q⟩
  dsimp only [mthA] at e
  split at e
  · rename_i a k z
    have r1 : x = .ref a := r1
    subst r1
    cases rx
    split at e
    · rename_i kvs k' em ek
      obtain ⟨kv, zv, rfl, rk, rz⟩ := rpl2 r2
      obtain ⟨u1, u2, rfl, s1, s2⟩ := rs.two
      have hk := keyK_v ek rk
      subst hk
      obtain ⟨vs, g1, g2⟩ := rm a _ em
      split at e
      · rename_i hz
        refine d_setd I g1 s1 s2 (by rw [List.length_zip, List.length_map]; omega) (fun v' hv w' s' I' rw' => ⟨_, H, I', rw', ?_⟩) (fun hn w' s' I' rw' => ⟨_, _, I', rw', ?_⟩)
        · rcases val_rp (k := k') g2 with ⟨n1, n2⟩ | ⟨d', v2, n1, n2, n3⟩
          · rw [n2] at hv; cases hv
          · rw [n2] at hv
            cases hv
            rw [n1] at e
            obtain ⟨rfl, rfl⟩ := Prod.mk.inj (Option.some.inj e)
            exact q _ _ n3 rm (Ev.refl _ _)
        · rcases val_rp (k := k') g2 with ⟨n1, n2⟩ | ⟨d', v2, n1, n2, n3⟩
          · rw [n1] at e
            obtain ⟨rfl, rfl⟩ := Prod.mk.inj (Option.some.inj e)
            obtain ⟨ws, w1, w2⟩ := put_rp (k := k') rz g2
            refine q _ _ (Rp.ev (Ev.wr em) _ _ rz) (rm.wr em ⟨ws, ?_, RpL.ev (Ev.wr em) _ _ w2⟩) (Ev.wr em)
            rw [upd_same, w1]
          · rw [n2] at hn; cases hn
      · cases e
    · cases e
  · cases e
theorem zm_join : MtR X "str.join" (LMt X.K .join) := by
  intro pins s σ H x xs v us Q I rx rs ⟨o, as, M, r, M', r1, r2, rm, e, q⟩
  dsimp only [mthA] at e
  split at e
  · rename_i z y
    split at e
    · rename_i ds e1
      split at e
      · rename_i ys e2
        split at e
        · rename_i hz
          obtain ⟨rfl, rfl⟩ := Prod.mk.inj (Option.some.inj e)
          obtain ⟨w, rfl, rw'⟩ := rpl1 r2
          obtain ⟨a, vs, h1, h2, h3⟩ := seqM_sq rm e1 rw'
          rw [strsOf_eq e2] at h3
          rw [strs_v h3] at h2
          exact mt_join pins s σ H x [w] v us Q I rx rs ⟨z, a, ys, r1, by rw [h1], h2, hz, q _ _ rfl rm (Ev.refl _ _)⟩
        · cases e
      · cases e
    · cases e
  · cases e
theorem zm_split : MtR X "str.split" (LMt X.K .split) := by
  intro pins s σ H x xs v us Q I rx rs ⟨o, as, M, r, M', r1, r2, rm, e, q⟩
  dsimp only [mthA] at e
  split at e
  · rename_i a b
    split at e
    · rename_i hz
      obtain ⟨rfl, rfl⟩ := Prod.mk.inj (Option.some.inj e)
      obtain ⟨w, rfl, rw'⟩ := rpl1 r2
      exact mt_split pins s σ H x [w] v us Q I rx rs ⟨a, b, r1, by rw [rp_str rw'], hz.1, hz.2, fun p hp => q _ _ (Rp.lstNew rm hp (strs_rp _)) (rm.new hp) (Ev.new hp)⟩
    · cases e
  · cases e
theorem zm_startswith : MtR X "str.startswith" (LMt X.K .startswith) := by
  intro pins s σ H x xs v us Q I rx rs ⟨o, as, M, r, M', r1, r2, rm, e, q⟩
  dsimp only [mthA] at e
  split at e
  · rename_i a b
    obtain ⟨rfl, rfl⟩ := Prod.mk.inj (Option.some.inj e)
    obtain ⟨w, rfl, rw'⟩ := rpl1 r2
    exact mt_startswith pins s σ H x [w] v us Q I rx rs ⟨a, b, r1, by rw [rp_str rw'], q _ _ rfl rm (Ev.refl _ _)⟩
  · cases e
theorem zm_indexT : MtR X "tuple.index" (LMt X.K .indexT) := by
  intro pins s σ H x xs v us Q I rx rs ⟨o, as, M, r, M', r1, r2, rm, e, q⟩
  dsimp only [mthA] at e
  split at e
  · rename_i ds z
    split at e
    · rename_i ys e1
      split at e
      · rename_i j e2
        obtain ⟨rfl, rfl⟩ := Prod.mk.inj (Option.some.inj e)
        obtain ⟨w, rfl, rw'⟩ := rpl1 r2
        obtain ⟨a, vs, h1, h2, h3⟩ := r1
        rw [strsOf_eq e1] at h3
        rw [strs_v h3] at h2
        obtain ⟨f1, f2, f3⟩ := findS_ok e2
        exact mt_tup_index pins s σ H x [w] v us Q I rx rs ⟨a, ys, z, j, h1, by rw [rp_str rw'], h2.sq, f2, f3, q _ _ rfl rm (Ev.refl _ _)⟩
      · cases e
    · cases e
  · cases e
theorem toPyL_at : ∀ {ds : List D} {j : Nat} {d : D}, ds[j]? = some d → (toPyL ds)[j]? = some (toPy d)
  | [], _, _, h => by simp at h
  | _ :: _, 0, _, h => by
    have h := Option.some.inj h
    subst h
    rfl
  | _ :: ds, j + 1, d, h => toPyL_at (ds := ds) (j := j) (by simpa using h)
theorem zm_index (hu : X.A.units + 65 < cLine) : MtR X "list.index" (LMt X.K .index) := by
  intro pins s σ H x xs v us Q I rx rs ⟨o, as, M, r, M', r1, r2, rm, e, q⟩
  dsimp only [mthA] at e
  split at e
  · rename_i z
    split at e
    · rename_i ds e1
      split at e
      · rename_i hl
        split at e
        · rename_i j e2
          obtain ⟨rfl, rfl⟩ := Prod.mk.inj (Option.some.inj e)
          rw [Bool.and_eq_true] at hl
          obtain ⟨w, rfl, rw'⟩ := rpl1 r2
          obtain ⟨a, vs, h1, h2, h3⟩ := exL_sq rm e1 r1
          obtain ⟨f1, ⟨y, f2, f2'⟩, f3⟩ := findD_ok e2
          have s1 : SeqAt.shaped (.list (toPyL ds)) = true := shaped_of_lay (d := .lst ds) (by simpa [lay] using hl.2)
          have s2 : SeqAt.shaped (toPy z) = true := by
            obtain ⟨p1, p2⟩ := lay_py 59 z hl.1
            unfold SeqAt.shaped
            rw [p1, decide_eq_true (by omega)]; rfl
          refine mt_indexD hu pins s σ H x [w] v us Q I rx rs ⟨a, w, toPy z, toPyL ds, j, toPy y, h1, rfl, .lst (.inl (.inl h2)) (RpL.dp 59 ds vs h3 (pdL_lay _ _ hl.2)), Rp.dp 59 z w rw' (pd_lay _ _ hl.1), s1, s2, toPyL_at f2, by rw [← eqv_py]; exact f2', fun m z' hm hz' => ?_, q _ _ rfl rm (Ev.refl _ _)⟩
          obtain ⟨d', k1, k2⟩ := toPyL_get hz'
          rw [← k2, ← eqv_py]
          exact f3 m d' hm k1
        · cases e
      · cases e
    · cases e
  · cases e
theorem zm_all (hu : X.A.units + 100 < cLine) (m : Mt) : MtR X m.id (LMt X.K m) := by
  cases m with
  | append => exact zm_append
  | extend => exact zm_extend
  | get => exact zm_get (by omega)
  | setdefault => exact zm_setdefault
  | index => exact zm_index (by omega)
  | indexT => exact zm_indexT
  | join => exact zm_join
  | split => exact zm_split
  | startswith => exact zm_startswith
/-- the receiver's type, as the call of a method asks for it -/
theorem tyOk_is {pins : List (Addr × Obj)} {σ : L2.St} {H : Hp} {s : Shared} {M : MH} {m : Mt} {o : D} {x : V} {v : Value} (I : Inv X pins σ H s) (rx : RelV x v) (rm : RM X.K M H) (r : Rp X.K M H o x) (h : tyOk m M o = true) :
    s.TypeIs v m.ty ∧ ∀ a, v = .ref a → ∃ ob, s.heap.get? a = some ob ∧ ob.dict = none := by
  have lst : (exL M o).isSome = true → s.TypeIs v "list" ∧ ∀ a, v = .ref a → ∃ ob, s.heap.get? a = some ob ∧ ob.dict = none := fun h => by
    cases e : exL M o with
    | none => rw [e] at h; cases h
    | some ds =>
      obtain ⟨a, vs, h1, h2, h3⟩ := exL_sq rm e r
      subst h1
      exact tyV_is I rx (T := "list") (.inl ⟨rfl, vs, .inl (.inl h2)⟩)
  have dct : ((asK M o).isSome || (asD M o).isSome) = true → s.TypeIs v "dict" ∧ ∀ a, v = .ref a → ∃ ob, s.heap.get? a = some ob ∧ ob.dict = none := fun h => by
    rw [Bool.or_eq_true] at h
    rcases h with h | h
    · cases e : asK M o with
      | none => rw [e] at h; cases h
      | some ds =>
        obtain ⟨a, vs, h1, h2, h3⟩ := asK_h rm e r
        subst h1
        cases rx
        exact let z := isD_at I (.inl ⟨_, h2⟩); ⟨z.1, z.2.1⟩
    · cases e : asD M o with
      | none => rw [e] at h; cases h
      | some ds =>
        obtain ⟨a, vs, h1, h2, h3⟩ := asD_h rm e r
        subst h1
        cases rx
        exact let z := isD_at I (.inr ⟨_, h2⟩); ⟨z.1, z.2.1⟩
  have str : isStrD o = true → s.TypeIs v "str" ∧ ∀ a, v = .ref a → ∃ ob, s.heap.get? a = some ob ∧ ob.dict = none := fun h => by
    cases o with
    | str z =>
      have r := rp_str r
      subst r
      exact tyV_is I rx (T := "str") rfl
    | _ => cases h
  cases m with
  | append => exact lst h
  | extend => exact lst h
  | index => exact lst h
  | get => exact dct h
  | setdefault => exact dct h
  | join => exact str h
  | split => exact str h
  | startswith => exact str h
  | indexT =>
    cases o with
    | tp k ds =>
      cases k with
      | k =>
        obtain ⟨a, vs, h1, ⟨ob, h2, h3, h4⟩, h5⟩ := r
        subst h1
        cases rx
        obtain ⟨e1, _, its, rv, ob', e2, e3, _⟩ := I.hok a _ h3
        rw [e1] at e2
        cases e2
        refine ⟨⟨ob, e1, e3⟩, fun b e => ?_⟩
        cases e
        exact ⟨ob, e1, h4⟩
      | _ => cases h
    | _ => cases h
def mth3 (m : Mt) (to : T3) (t : TL3) : T3 := fun e M Q => to e M fun o M1 => tyOk m M1 o = true ∧ t e M1 fun as M2 => match mthA m M2 o as with | some (r, M3) => Q r M3 | none => False
theorem z_mth {K : PySem.W.Frag} {M0 : MH} {H0 : Hp} {m : Mt} {o e : Expr} {es : List Expr} {to : T3} {t : TL3} {apos cpos : Pos} (hK : X.K = K) (pa : PlainAttrs m.ty) (slot : Slot m.ty (Str.ofString m.name) m.id) (hty : typeOf (.builtin m.id) = pure (.type "method_descriptor")) (hm : MtR X m.id (LMt X.K m))
    (ho : PE X o (LE K M0 H0 to)) (ha : PA X (e :: es) (LA K M0 H0 t))
    (hbase : attributeBase o (Str.ofString m.name) X.env (eval o X.env) = eval o X.env)
    (hfew : ((backTo cpos (starEach (e :: es) X.env)).all (fun x => !x.1) && (backToKw cpos (keywordEach [] X.env)).all (fun x => x.1.isSome)
      && decide ((e :: es).length + ([] : List Keyword).length + (if ([] : List Keyword).isEmpty then 0 else 1) < 30)) = true)
    (hline : (apos.endLine == cpos.line) = true) (hs : starEach (e :: es) X.env = (false, eval e X.env) :: starEach es X.env) (hplain : (backTo cpos (starEach es X.env)).any (·.1) = false) :
    PE X (.Call (.Attribute o (Str.ofString m.name) apos) (e :: es) [] cpos) (LE K M0 H0 (mth3 m to t)) := by
  subst hK
  refine ⟨fun pins s σ H Q I ⟨en, M, P, rs, rm, ev, tt, c⟩ => ?_⟩
  refine wpAny_Call_method_late hbase hfew hline rfl (thn (ho.run pins s σ H (fun x H1 => ∃ d M1, Rp X.K M1 H1 d x ∧ RS X.K M1 H1 en σ ∧ RM X.K M1 H1 ∧ Ev M0 H0 M1 H1 ∧ Ev M H M1 H1 ∧ tyOk m M1 d = true ∧ t en M1 fun as M2 => match mthA m M2 d as with | some (r, M3) => P r M3 | none => False) I
    (LE.then rs rm ev tt fun d M1 v1 H1 t1 r1 rs1 rm1 ev1 e1 => ⟨d, M1, r1, rs1, rm1, ev1, e1, t1.1, t1.2⟩)) fun v s1 ⟨x, H1, I1, rx, d, M1, rd, rs1, rm1, ev1, e1, ty, t1⟩ => ?_)
  obtain ⟨h1, h2⟩ := tyOk_is I1 rx rm1 rd ty
  refine ⟨m.ty, m.id, pa, slot, hty, h1, h2, ?_⟩
  have hA := ha.run cpos pins s1 σ H1 (fun vs H2 => ∃ as M2, RpL X.K M2 H2 as vs ∧ RM X.K M2 H2 ∧ Ev M1 H1 M2 H2 ∧ match mthA m M2 d as with | some (r, M3) => P r M3 | none => False) I1
    (LA.then rs1 rm1 ev1 t1 fun as M2 vs H2 t2 r2 rs2 rm2 ev2 e2 => ⟨as, M2, r2, rm2, e2, t2⟩)
  rw [hs] at hA ⊢
  refine Calls.callWith_builtin (by show (false || (backTo cpos (starEach es X.env)).any (·.1)) = false; rw [hplain]; rfl) (Calls.evalArgs_plain ?_)
  refine thn hA fun us s2 ⟨vs, H2, I2, rv, as, M2, r2, rm2, e2, t2⟩ => ?_
  split at t2
  · rename_i r M3 em
    exact hm pins s2 σ H2 x vs v us Q I2 rx rv ⟨d, as, M2, r, M3, Rp.ev e2 _ _ rd, r2, rm2, em, fun w H' rw' rm' ev' => c r M3 w H' t2 rw' rm' (e1.trans (e2.trans ev'))⟩
  · exact t2.elim
end
end Z

namespace Z
open PySem PySem.Spec PyProof.Rows L2

/-! ### slices -/
abbrev TO3 := En → MH → (Option Int → MH → Prop) → Prop
def noP3 : TO3 := fun _ M Q => Q none M
def part3 (t : T3) : TO3 := fun e M Q => t e M fun d M1 => match d with | .int i => Q (some i) M1 | _ => False
def cutD {α : Type} (xs : List α) (lo hi : Option Int) : List α := (xs.drop (HT.sIx xs.length 0 lo)).take (HT.sIx xs.length xs.length hi - HT.sIx xs.length 0 lo)
def slA (M : MH) (x : D) (lo hi : Option Int) : Option D := match x with
  | .str z => if z.length ≤ sizeLine then some (.str (cutS z lo hi)) else none
  | .tp .t ds => some (.tup (cutD ds lo hi))
  | x => match asL M x with
    | some ds => some (.lst (cutD ds lo hi))
    | none => none
def sl3 (te : T3) (tl th : TO3) : T3 := fun e M Q => te e M fun x M1 => tl e M1 fun lo M2 => th e M2 fun hi M3 => match slA M3 x lo hi with | some d => Q d M3 | none => False
section
variable {K : PySem.W.Frag} {M0 : MH} {H0 : Hp} {X : Cx}
def LO (K : PySem.W.Frag) (M0 : MH) (H0 : Hp) (t : TO3) : TO := fun σ H Q => ∃ e M Q3, RS K M H e σ ∧ RM K M H ∧ Ev M0 H0 M H ∧ t e M Q3 ∧ ∀ o M' H', Q3 o M' → RM K M' H' → Ev M H M' H' → Q o H'
theorem LO.then {t : TO3} {σ : L2.St} {e : En} {M : MH} {H : Hp} {P : Option Int → MH → Prop} {Q : Option Int → Hp → Prop} (rs : RS K M H e σ) (rm : RM K M H) (ev : Ev M0 H0 M H) (h : t e M P)
    (f : ∀ d M1 H1, P d M1 → RS K M1 H1 e σ → RM K M1 H1 → Ev M0 H0 M1 H1 → Ev M H M1 H1 → Q d H1) : LO K M0 H0 t σ H Q :=
  ⟨e, M, P, rs, rm, ev, h, fun d M1 H1 q m e1 => f d M1 H1 q (rs.ev e1) m (ev.trans e1) e1⟩
theorem _root_.L2.PO.imp {e : Option Expr} {t t' : TO} (h : PO X e t) (f : ∀ σ H Q, t' σ H Q → t σ H Q) : PO X e t' := ⟨fun pins s σ H Q I q => h.run pins s σ H Q I (f _ _ _ q)⟩
theorem z_pnone : PO X none (LO K M0 H0 noP3) := po_none.imp fun σ H Q ⟨en, M, P, rs, rm, ev, t, c⟩ => c none M H t rm (Ev.refl _ _)
theorem z_psome {e : Expr} {te : T3} (h : PE X e (LE K M0 H0 te)) : PO X (some e) (LO K M0 H0 (part3 te)) := (po_some h).imp fun σ H Q ⟨en, M, P, rs, rm, ev, t, c⟩ =>
  LE.then rs rm ev t fun d M1 v1 H1 t1 r1 rs1 rm1 ev1 e1 => by
    cases d with
    | int i => exact ⟨i, r1, c (some i) M1 H1 t1 rm1 e1⟩
    | _ => exact t1.elim
theorem RpL.cut {M : MH} {H : Hp} {ds : List D} {vs : List V} (h : RpL K M H ds vs) (lo hi : Option Int) : RpL K M H (cutD ds lo hi) (cutV vs lo hi) := by
  unfold cutD cutV
  rw [h.length]
  exact (h.drop _).take _
theorem sl_all : SlR X (fun x lo hi H Q => rSlS x lo hi H Q ∨ rSlA X.K x lo hi H Q ∨ rSlL X.K x lo hi H Q) := SlR.or sl_str (SlR.or sl_tupA sl_list)
theorem z_sl {e : Expr} {lo hi : Option Expr} {te : T3} {tl th : TO3} {p2 pos : Pos} (hK : X.K = K) (he : PE X e (LE K M0 H0 te)) (hl : PO X lo (LO K M0 H0 tl)) (hh : PO X hi (LO K M0 H0 th)) : PE X (.Subscript e (.Slice lo hi none p2) pos) (LE K M0 H0 (sl3 te tl th)) := by
  subst hK
  exact (pe_slice sl_all he hl hh).imp fun σ H Q ⟨en, M, P, rs, rm, ev, t, c⟩ => LE.then rs rm ev t fun x M1 v1 H1 t1 r1 rs1 rm1 ev1 e1 =>
    LO.then rs1 rm1 ev1 t1 fun l M2 H2 t2 rs2 rm2 ev2 e2 => LO.then rs2 rm2 ev2 t2 fun u M3 H3 t3 rs3 rm3 ev3 e3 => by
      have r3 := Rp.ev (e2.trans e3) _ _ r1
      have ce := c.from (e1.trans (e2.trans e3))
      split at t3
      · rename_i d ed
        unfold slA at ed
        split at ed
        · split at ed
          · rename_i z hz
            obtain rfl := Option.some.inj ed
            exact .inl ⟨z, r3, hz, ce.now rm3 t3 rfl⟩
          · cases ed
        · rename_i ds
          obtain rfl := Option.some.inj ed
          obtain ⟨a, vs, h1, ⟨h2, h3⟩, h4⟩ := r3
          refine .inr (.inl ⟨a, vs, h1, .inl (.inl h3), fun hw => ?_, fun _ p hp => ce _ M3 _ _ t3 (Rp.tupNew rm3 hp (h4.cut l u)) (rm3.new hp) (Ev.new hp)⟩)
          refine ce.now rm3 t3 ⟨a, vs, rfl, ⟨h2, h3⟩, ?_⟩
          have : cutV vs l u = vs := by
            unfold cutV
            rw [hw.1, hw.2, List.drop_zero, Nat.sub_zero, List.take_length]
          rw [← this]
          exact h4.cut l u
        · split at ed
          · rename_i ds e1
            obtain rfl := Option.some.inj ed
            obtain ⟨a, vs, h1, h2, h3⟩ := asL_sq rm3 e1 r3
            exact .inr (.inr ⟨a, vs, h1, h2, fun p hp => ce _ M3 _ _ t3 (Rp.lstNew rm3 hp (h3.cut l u)) (rm3.new hp) (Ev.new hp)⟩)
          · cases ed
      · exact t3.elim
/-- xs[::-1] -/
def rev3 : O1 := fun x M Q => match asL M x with | some ds => Q (.lst ds.reverse) M | none => False
theorem z_rev {e : Expr} {te : T3} {k : Nat} {p1 p2 p3 pos : Pos} (hK : X.K = K) (he : PE X e (LE K M0 H0 te)) : PE X (.Subscript e (.Slice none none (some (.UnaryOp .USub (.Constant (.int 1) k p1) p2)) p3) pos) (LE K M0 H0 (op1 rev3 te)) := by
  subst hK
  exact (pe_revL he).imp fun σ H Q ⟨en, M, P, rs, rm, ev, t, c⟩ => LE.then rs rm ev t fun x M1 v1 H1 t1 r1 rs1 rm1 ev1 e1 => by
    unfold rev3 at t1
    split at t1
    · rename_i ds e2
      obtain ⟨a, vs, h1, h2, h3⟩ := asL_sq rm1 e2 r1
      exact ⟨a, vs, h1, h2, fun p hp => (c.from e1) _ M1 _ _ t1 (Rp.lstNew rm1 hp h3.reverse) (rm1.new hp) (Ev.new hp)⟩
    · exact t1.elim
/-! ### truth -/
def truA (M : MH) (d : D) : Option Bool := match d with
  | .non => some false
  | .bl b => some b
  | .int i => some (i != 0)
  | .str y => if y.length ≤ sizeLine then some ((y.length : Int) != 0) else none
  | d => match seqM M d with
    | some ds => some (!ds.isEmpty)
    | none => match d with
      | .ref a => (match M a with | some (.dK kvs) => some (!kvs.isEmpty) | _ => none)
      | _ => none
def tru3 (te : T3) : TB3 := fun e M Q => te e M fun d M1 => match truA M1 d with | some b => Q b M1 | none => False
theorem z_truth {a : Expr} {ta : T3} (hK : X.K = K) (ha : PE X a (LE K M0 H0 ta)) (he : ∀ whole, isTrue a X.env whole = (do let v ← whole; standAt a.pos; holding [v] (truthy v))) : PT X a (LT K M0 H0 (tru3 ta)) := by
  subst hK
  exact (pt_truth ha he).imp fun σ H Q ⟨en, M, P, rs, rm, ev, t, c⟩ => LE.then rs rm ev t fun d M1 v1 H1 t1 r1 rs1 rm1 ev1 e1 => by
    split at t1
    · rename_i b eb
      refine ⟨b, ?_, c b M1 H1 t1 rm1 e1⟩
      unfold truA at eb
      split at eb
      · obtain rfl := Option.some.inj eb
        have r1 := show v1 = _ from r1
        subst r1; rfl
      · obtain rfl := Option.some.inj eb
        have r1 := show v1 = _ from r1
        subst r1; rfl
      · obtain rfl := Option.some.inj eb
        have r1 := show v1 = _ from r1
        subst r1; rfl
      · split at eb
        · rename_i hz
          obtain rfl := Option.some.inj eb
          have r1 := show v1 = _ from r1
          subst r1
          exact ⟨hz, rfl⟩
        · cases eb
      · split at eb
        · rename_i ds e2
          obtain rfl := Option.some.inj eb
          obtain ⟨a, vs, h1, h2, h3⟩ := seqM_sq rm1 e2 r1
          subst h1
          have hl := h3.length
          have hb : (!ds.isEmpty) = !vs.isEmpty := by
            cases ds <;> cases vs <;> first | rfl | (simp at hl)
          rcases h2 with h2 | h2
          · exact .inl ⟨vs, h2, hb⟩
          · exact .inr (.inl ⟨vs, h2, hb⟩)
        · split at eb
          · rename_i a _ _ _ _ _
            split at eb
            · rename_i kvs e2
              obtain rfl := Option.some.inj eb
              obtain ⟨vs, h2, h3⟩ := rm1 a _ e2
              have r1 : v1 = .ref a := r1
              subst r1
              have hl := h3.length
              refine .inr (.inr ⟨_, h2, ?_⟩)
              cases kvs with
              | nil => simp
              | cons p r =>
                cases vs with
                | nil => simp at hl
                | cons _ _ => rfl
            · cases eb
          · cases eb
    · exact t1.elim
/-! ### dict displays -/
def pairs3 : List (T3 × T3) → En → MH → (List (D × D) → MH → Prop) → Prop
  | [], _, M, Q => Q [] M
  | (tk, tv) :: r, e, M, Q => tk e M fun k M1 => tv e M1 fun v M2 => pairs3 r e M2 fun ps M3 => Q ((k, v) :: ps) M3
def keysD : List (D × D) → Option (List (Key × D))
  | [] => some []
  | (k, v) :: r => match keyK k, keysD r with
    | some k, some r => some ((k, v) :: r)
    | _, _ => none
def mergeD (kvs more : List (Key × D)) : List (Key × D) := more.foldl (fun acc kv => putD acc kv.1 kv.2) kvs
def resK (m : Bool) (p : Addr) (kvs : List (Key × D)) (M : MH) (Q : Q3) : Prop := match m with
  | true => Q (.ref p) (up M p (.dK kvs))
  | false => Q (.dK (kvs.map (·.1)) (kvs.map (·.2))) (er M p)
def disp3 (m : Bool) (ps : List (T3 × T3)) : T3 := fun e M Q => ∀ p, M p = none → pairs3 ps e (up M p (.dK [])) fun ds M2 => M2 p = some (.dK []) ∧ match keysD ds with
  | some kvs => kvs.length ≤ 15 ∧ resK m p (mergeD [] kvs) M2 Q
  | none => False
def newK3 (m : Bool) : T3 := fun _ M Q => match m with
  | true => ∀ p, M p = none → Q (.ref p) (up M p (.dK []))
  | false => Q (.dK [] []) M
def newT3 : T3 := fun _ M Q => ∀ p, M p = none → Q (.ref p) (up M p (.dT []))
def LPs (K : PySem.W.Frag) (M0 : MH) (H0 : Hp) (ps : List (T3 × T3)) : List (TE × TE) := ps.map fun p => (LE K M0 H0 p.1, LE K M0 H0 p.2)
/-- pairs of data and of values -/
def RpP (K : PySem.W.Frag) (M : MH) (H : Hp) : List (D × D) → List (V × V) → Prop
  | [], vs => vs = []
  | (k, d) :: r, vs => ∃ x y w, vs = (x, y) :: w ∧ Rp K M H k x ∧ Rp K M H d y ∧ RpP K M H r w
theorem RpP.ev {M M' : MH} {H H' : Hp} (e : Ev M H M' H') : ∀ {ds : List (D × D)} {vs : List (V × V)}, RpP K M H ds vs → RpP K M' H' ds vs
  | [], _, h => h
  | (k, d) :: r, vs, ⟨x, y, w, h1, h2, h3, h4⟩ => ⟨x, y, w, h1, Rp.ev e _ _ h2, Rp.ev e _ _ h3, h4.ev e⟩
theorem pairs_ok : ∀ {ps : List (T3 × T3)} {σ : L2.St} {e : En} {M : MH} {H : Hp} {P : List (D × D) → MH → Prop} {Q : List (V × V) → Hp → Prop}, RS K M H e σ → RM K M H → Ev M0 H0 M H → pairs3 ps e M P →
    (∀ ds M1 vs H1, P ds M1 → RpP K M1 H1 ds vs → RM K M1 H1 → Ev M H M1 H1 → Q vs H1) → tPairs (LPs K M0 H0 ps) σ H Q
  | [], σ, e, M, H, P, Q, rs, rm, ev, t, c => c [] M [] H t rfl rm (Ev.refl _ _)
  | (tk, tv) :: r, σ, e, M, H, P, Q, rs, rm, ev, t, c => LE.then rs rm ev t fun k M1 v1 H1 t1 r1 rs1 rm1 ev1 e1 => LE.then rs1 rm1 ev1 t1 fun v M2 v2 H2 t2 r2 rs2 rm2 ev2 e2 =>
    pairs_ok rs2 rm2 ev2 t2 fun ds M3 vs H3 q r3 rm3 e3 => c _ M3 _ H3 q ⟨v1, v2, vs, rfl, Rp.ev (e2.trans e3) _ _ r1, Rp.ev e3 _ _ r2, r3⟩ rm3 (e1.trans (e2.trans e3))
theorem keysD_ok {M : MH} {H : Hp} : ∀ {ds : List (D × D)} {vs : List (V × V)} {kvs : List (Key × D)}, keysD ds = some kvs → RpP K M H ds vs → ∃ ws, vs = ((kvs.map (·.1)).zip ws).map (fun kv => (kV kv.1, kv.2)) ∧ RpL K M H (kvs.map (·.2)) ws
  | [], vs, kvs, h, r => by
    have r : vs = [] := r
    obtain rfl := Option.some.inj h
    subst r
    exact ⟨[], rfl, rfl⟩
  | (k, d) :: ds, vs, kvs, h, ⟨x, y, w, h1, h2, h3, h4⟩ => by
    dsimp only [keysD] at h
    split at h
    · rename_i k' r' e1 e2
      obtain rfl := Option.some.inj h
      obtain ⟨ws, g1, g2⟩ := keysD_ok e2 h4
      refine ⟨y :: ws, ?_, ⟨y, ws, rfl, h3, g2⟩⟩
      rw [h1, g1, keyK_v e1 h2]; rfl
    · cases h
theorem merge_ok {M : MH} {H : Hp} : ∀ {more kvs : List (Key × D)} {ws vs : List V}, RpL K M H (more.map (·.2)) ws → RpL K M H (kvs.map (·.2)) vs →
    ∃ us, mergeK ((kvs.map (·.1)).zip vs) ((more.map (·.1)).zip ws) = ((mergeD kvs more).map (·.1)).zip us ∧ RpL K M H ((mergeD kvs more).map (·.2)) us
  | [], kvs, ws, vs, r, q => ⟨vs, rfl, q⟩
  | p :: more, kvs, ws, vs, r, q => by
    obtain ⟨w, w', h1, h2, h3⟩ := r
    subst h1
    obtain ⟨us, g1, g2⟩ := put_rp (k := p.1) h2 q
    obtain ⟨us2, k1, k2⟩ := merge_ok (more := more) (kvs := putD kvs p.1 p.2) h3 g2
    refine ⟨us2, ?_, k2⟩
    show mergeK (putK ((kvs.map (·.1)).zip vs) p.1 w) ((more.map (·.1)).zip w') = _
    rw [g1]
    exact k1
theorem z_disp {keys : List (Option Expr)} {values : List Expr} {ps : List (T3 × T3)} {m : Bool} {pos : Pos} (h : PPs X pos keys values (LPs K M0 H0 ps)) (hall : keys.all (·.isSome) = true) (hl : keys.length = values.length) (h0 : keys ≠ []) (h15 : keys.length ≤ 15) :
    PE X (.Dict keys values pos) (LE K M0 H0 (disp3 m ps)) :=
  (pe_disp h hall hl h0 h15).imp fun σ H Q ⟨en, M, P, rs, rm, ev, t, c⟩ p hp => by
    have rm1 : RM K (up M p (.dK [])) (upd H p (.dK [])) := rm.newM hp ⟨[], upd_same, rfl⟩
    have e1 : Ev M H (up M p (.dK [])) (upd H p (.dK [])) := Ev.newM hp
    refine pairs_ok (rs.ev e1) rm1 (ev.trans e1) (t p (rm.free hp)) fun ds M2 vs H2 ⟨q1, q2⟩ r2 rm2 e2 => ?_
    obtain ⟨zs, z1, z2⟩ := rm2 p _ q1
    have z2 : zs = [] := z2
    subst z2
    refine ⟨z1, ?_⟩
    split at q2
    · rename_i kvs ek
      obtain ⟨q2, q3⟩ := q2
      obtain ⟨ws, w1, w2⟩ := keysD_ok ek r2
      obtain ⟨us, u1, u2⟩ := merge_ok (K := K) (M := M2) (H := H2) (kvs := []) (vs := []) w2 rfl
      refine ⟨(kvs.map (·.1)).zip ws, w1, ?_, ?_⟩
      · rw [List.length_zip, List.length_map]; omega
      · have u1 : mergeK [] ((kvs.map (·.1)).zip ws) = _ := u1
        rw [u1]
        have rmw : RM K (up M2 p (.dK (mergeD [] kvs))) (upd H2 p (.dK (((mergeD [] kvs).map (·.1)).zip us))) := rm2.wr q1 ⟨us, upd_same, RpL.ev (Ev.wr q1) _ _ u2⟩
        cases m with
        | true => exact c _ _ _ _ q3 rfl rmw (e1.trans (e2.trans (Ev.wr q1)))
        | false =>
          -- forget it first, then it is written: as one step
          have sb : Sub (er M2 p) (up M2 p (.dK (mergeD [] kvs))) := fun a o q => by
            unfold er at q
            by_cases z : a = p
            · rw [if_pos z] at q; cases q
            · rw [if_neg z] at q
              rw [up_ne z]; exact q
          refine c _ _ _ _ q3 ⟨p, us, rfl, er_none, .inl upd_same, by simp, RpL.ev ((Ev.wr q1).trans (Ev.sub sb)) _ _ u2⟩ (rmw.sub sb) (e1.trans (e2.trans ((Ev.wr q1).trans (Ev.sub sb))))
    · exact q2.elim
theorem z_newK {m : Bool} {pos : Pos} : PE X (.Dict [] [] pos) (LE K M0 H0 (newK3 m)) := pe_dnewK.imp fun σ H Q ⟨en, M, P, rs, rm, ev, t, c⟩ p hp => by
  cases m with
  | true => exact c _ _ _ _ (t p (rm.free hp)) rfl (rm.newM hp ⟨[], upd_same, rfl⟩) (Ev.newM hp)
  | false => exact c _ M _ _ t ⟨p, [], rfl, rm.free hp, .inl upd_same, rfl, rfl⟩ (rm.new hp) (Ev.new hp)
theorem z_newT {pos : Pos} : PE X (.Dict [] [] pos) (LE K M0 H0 newT3) := pe_dnewT.imp fun σ H Q ⟨en, M, P, rs, rm, ev, t, c⟩ p hp =>
  c _ _ _ _ (t p (rm.free hp)) rfl (rm.newM hp ⟨[], upd_same, rfl⟩) (Ev.newM hp)
/-! ### comprehensions as expressions -/
theorem z_lc {m : Bool} {elt tgE iter : Expr} {ifs : List Expr} {scope : Scope} {own : List (Str × Nat)} {it : TL3} {tg : Tg} {tt : TB3} {te : T3} {pos : Pos} (hc : X.calm = true) (hN : X.N.Nodup) (hi : PI X tgE iter (LI K M0 H0 it)) (ok : BlkOk X.N X.env.scope scope own) (hsub : ∀ i ∈ tg.slots, i ∈ own.map (·.2))
    (hg : ∀ (s : Shared) (H : Hp) (C : Addr) (cl : List (Str × Addr)) (fp : List Addr), PG (X.blk s H scope (compEnvC scope cl C X.env) fp) tgE (gOf K tg)) (ht : ∀ (s : Shared) (H : Hp) (C : Addr) (cl : List (Str × Addr)) (fp : List Addr), PTs (X.blk s H scope (compEnvC scope cl C X.env) fp) ifs (LT K M0 H0 tt))
    (he : ∀ (s : Shared) (H : Hp) (C : Addr) (cl : List (Str × Addr)) (fp : List Addr), PE (X.blk s H scope (compEnvC scope cl C X.env) fp) elt (LE K M0 H0 te)) (hs : ∀ x, foldedSetIterable iter X.env x = pure x) :
    PE X (.ListComp elt [⟨tgE, iter, ifs, 0⟩] scope pos) (LE K M0 H0 (comp3 m it tg tt te (own.map (·.2)))) :=
  (pe_lc hc hN hi ok hg ht he hs).imp fun _ _ _ h => lcomp hsub h
theorem z_setlc {m : Bool} {i : Nat} {y : Str} {py : Pos} {elt tgE iter : Expr} {ifs : List Expr} {scope : Scope} {own : List (Str × Nat)} {it : TL3} {tg : Tg} {tt : TB3} {te : T3} {pos spos : Pos} (hc : X.calm = true) (hN : X.N.Nodup) (hy : X.N[i]? = some y) (hyl : X.env.scope.names.lookup y = some .local)
    (hsw : swapsWith (.ListComp elt [⟨tgE, iter, ifs, 0⟩] scope pos) (some (.Name y py)) spos.line X.env = pure true) (hi : PI X tgE iter (LI K M0 H0 it)) (ok : BlkOk X.N X.env.scope scope own) (hsub : ∀ i ∈ tg.slots, i ∈ own.map (·.2))
    (hg : ∀ (s : Shared) (H : Hp) (C : Addr) (cl : List (Str × Addr)) (fp : List Addr), PG (X.blk s H scope (compEnvC scope cl C X.env) fp) tgE (gOf K tg)) (ht : ∀ (s : Shared) (H : Hp) (C : Addr) (cl : List (Str × Addr)) (fp : List Addr), PTs (X.blk s H scope (compEnvC scope cl C X.env) fp) ifs (LT K M0 H0 tt))
    (he : ∀ (s : Shared) (H : Hp) (C : Addr) (cl : List (Str × Addr)) (fp : List Addr), PE (X.blk s H scope (compEnvC scope cl C X.env) fp) elt (LE K M0 H0 te)) (hs : ∀ x, foldedSetIterable iter X.env x = pure x) :
    PS X (.Assign [.Name y py] (.ListComp elt [⟨tgE, iter, ifs, 0⟩] scope pos) spos) (LS K M0 H0 (asg3 (comp3 m it tg tt te (own.map (·.2))) (.nm i))) :=
  (ps_setLc hc hN hy hyl hsw hi ok hg ht he hs).imp fun D σ H ⟨en, M, D3, rs, rm, ev, t, c⟩ =>
    lcomp (m := m) (K := K) (M0 := M0) (H0 := H0) hsub ⟨en, M, _, rs, rm, ev, t, fun d M1 v1 H1 t1 r1 rm1 e1 => c.nx _ M1 _ H1 t1 ((rs.ev e1).set i r1) rm1 e1⟩
/-! ### x op= e -/
def aug3 (i : Nat) (te : T3) (o : O2) : TS3 := fun D e M => match getE e i with
  | some d => te e M fun d2 M1 => o d d2 M1 fun r M2 => D.nx (setE e i r) M2
  | none => False
def iadd3 : O2 := fun x y M Q => match x, y with
  | .int i, .int j => Q (.int (i + j)) M
  | .str a, .str b => a.length + b.length ≤ sizeLine ∧ Q (.str (a ++ b)) M
  | _, _ => False
def isub3 : O2 := fun x y M Q => match x, y with
  | .int i, .int j => Q (.int (i - j)) M
  | _, _ => False
theorem zi_add : OpR X (inplaceOp .Add) (LO2 X.K iadd3) := oimp (or2 iop_add iop_add_str) fun x y H Q ⟨d1, d2, M, Q3, r1, r2, rm, o, c⟩ => by
  unfold iadd3 at o
  split at o
  · exact .inl ⟨_, _, r1, r2, c.now rm o rfl⟩
  · exact .inr ⟨_, _, r1, r2, o.1, c.now rm o.2 rfl⟩
  · exact o.elim
theorem zi_sub : OpR X (inplaceOp .Sub) (LO2 X.K isub3) := oimp iop_sub fun x y H Q ⟨d1, d2, M, Q3, r1, r2, rm, o, c⟩ => by
  unfold isub3 at o
  split at o
  · exact ⟨_, _, r1, r2, c.now rm o rfl⟩
  · exact o.elim
theorem z_aug {i : Nat} {x : Str} {e : Expr} {te : T3} {op : Operator} {o : O2} {pos pos' : Pos} (hN : X.N.Nodup) (hi : X.N[i]? = some x) (hx : Loc X.env.scope x) (he : PE X e (LE K M0 H0 te)) (ho : OpR X (inplaceOp op) (LO2 K o)) (hf : X.fn x = true ∨ X.env.scope.names.lookup x = some .local) :
    PS X (.AugAssign (.Name x pos') op e pos) (LS K M0 H0 (aug3 i te o)) :=
  (ps_aug hN hi hx he (show PIp X op (LO2 K o) from ho) hf).imp fun D σ H ⟨en, M, D3, rs, rm, ev, t, c⟩ => by
    unfold aug3 at t
    split at t
    · rename_i d ed
      obtain ⟨v, h1, h2⟩ := rs.get i d ed
      refine ⟨v, h1, LE.then rs rm ev t fun d2 M1 v1 H1 t1 r1 rs1 rm1 ev1 e1 => ⟨d, d2, M1, _, Rp.ev e1 _ _ h2, r1, rm1, t1, fun r M2 w H2 t2 r2 rm2 e2 => ?_⟩⟩
      exact c.nx _ M2 _ H2 t2 ((rs1.ev e2).set i r2) rm2 (e1.trans e2)
    · exact t.elim
end
end Z

namespace Z
open PySem PySem.Spec PyProof.Rows L2

/-- an exception of an own class: its name, the argument that it keeps -/
structure Exc where
  cls : Str
  arg : Option D
abbrev X3 := Exc → MH → Prop
abbrev Sp3 := List D → MH → Q3 → X3 → Prop
/-- how an exception lies -/
abbrev XRel := Exc → Value → Option Addr → MH → Hp → Prop
def noX : X3 := fun _ _ => False
def CvX (K : PySem.W.Frag) (XR : XRel) (M : MH) (H : Hp) (E3 : X3) (E : XK) : Prop := ∀ x M' H' cls d, E3 x M' → XR x cls d M' H' → RM K M' H' → Ev M H M' H' → E cls d H'
theorem CvX.from {K : PySem.W.Frag} {XR : XRel} {M M1 : MH} {H H1 : Hp} {E3 : X3} {E : XK} (c : CvX K XR M H E3 E) (e : Ev M H M1 H1) : CvX K XR M1 H1 E3 E := fun x M' H' cls d h r m e2 => c x M' H' cls d h r m (e.trans e2)
def liftSp (K : PySem.W.Frag) (XR : XRel) (n : Nat) (sp : Sp3) : Sp := fun vs H Q E => ∃ ds M Q3 E3, ds.length = n ∧ RpL K M H ds vs ∧ RM K M H ∧ sp ds M Q3 E3 ∧ Cv K M H Q3 Q ∧ CvX K XR M H E3 E
theorem liftSp.len {K : PySem.W.Frag} {XR : XRel} {n : Nat} {sp : Sp3} {vs : List V} {H : Hp} {Q : VK} {E : XK} (h : liftSp K XR n sp vs H Q E) : vs.length = n := by
  obtain ⟨ds, M, Q3, E3, h1, h2, _⟩ := h
  rw [h2.length, h1]
/-- a def of the module that may be called -/
structure Cal (P : Program) (w : World) (K : PySem.W.Frag) (mg : Str → Option Value) (base : Heap) (XR : XRel) (k : Nat) (x : Str) (n : Nat) (sp : Sp3) : Prop where
  ex : ∃ (f : Addr) (fd : FuncData) (ps : List Str), FnOk P w K mg base (L2.CX P w) k f fd ps (liftSp K XR n sp) ∧ mg x = some (.ref f) ∧ PySem.W.keepIn K (.ref f) = true ∧ Binds K fd ps [] ∧ ps.length = n
theorem Cal.mono {P : Program} {w : World} {K : PySem.W.Frag} {mg : Str → Option Value} {base : Heap} {XR : XRel} {j k : Nat} {x : Str} {n : Nat} {sp : Sp3} (c : Cal P w K mg base XR j x n sp) (h : j ≤ k) : Cal P w K mg base XR k x n sp := by
  obtain ⟨f, fd, ps, F, r⟩ := c.ex
  exact ⟨f, fd, ps, F.mono h, r⟩
/-- what is wanted of exceptions where X runs -/
structure Out (X : Cx) (XR : XRel) (M0 : MH) (H0 : Hp) (E3 : X3) : Prop where
  ex : ∃ E : XK, Takes X (fun cls d _ H => E cls d H) ∧ CvX X.K XR M0 H0 E3 E
theorem Out.no {X : Cx} {XR : XRel} {M0 : MH} {H0 : Hp} : Out X XR M0 H0 noX := ⟨fun _ _ _ => False, takes0, fun _ _ _ _ _ h => h.elim⟩
def call3 (n : Nat) (sp : Sp3) (E3 : X3) (t : TL3) : T3 := fun e M Q => t e M fun ds M1 => ds.length = n ∧ sp ds M1 Q E3
section
variable {X : Cx} {XR : XRel} {M0 : MH} {H0 : Hp}
theorem z_call {k n : Nat} {sp : Sp3} {E3 : X3} {x : Str} {p pos : Pos} {e : Expr} {es : List Expr} {t : TL3} (C : Cal X.prog X.w X.K X.mg X.base XR k x n sp) (hr : Room k X.A) (ou : Out X XR M0 H0 E3) (hg : Gl X x)
    (ha : PA X (e :: es) (LA X.K M0 H0 t)) (hdb : (x == ("__debug__" : Str)) = false) (he : starEach (e :: es) X.env = (false, eval e X.env) :: starEach es X.env) (hpl : (backTo pos (starEach es X.env)).any (·.1) = false) :
    PE X (.Call (.Name x p) (e :: es) [] pos) (LE X.K M0 H0 (call3 n sp E3 t)) := by
  obtain ⟨f, fd, ps, F, hm, hk, hb, hl⟩ := C.ex
  obtain ⟨E, tk, hX⟩ := ou.ex
  have hE : Passes (L2.CX X.prog X.w) X E := passes_call (W := fun cls d _ H => E cls d H) tk fun _ _ _ _ h => h
  refine (pe_call F hr hg hm hk hb .nil hE ha hdb he hpl).imp fun σ H Q ⟨en, M, P, rs, rm, ev, t', c⟩ => ?_
  refine LA.then rs rm ev t' fun ds M1 vs H1 ⟨l1, t1⟩ r1 rs1 rm1 ev1 e1 => ?_
  rw [List.append_nil]
  exact ⟨ds, M1, P, E3, l1, r1, rm1, t1, c.from e1, hX.from ev1⟩
end
/-! ### a def -/
def startE (n : Nat) (ds : List D) : En := ds.map some ++ List.replicate (n - ds.length) none
/-- what is given back: what was marked here may be forgotten -/
def RT (Q : Q3) : Q3 := fun d M => ∃ M', Sub M' M ∧ Q d M'
def bodyEnds (Q : Q3) : Ends3 := ⟨fun _ M => RT Q .non M, RT Q, fun _ _ => False, fun _ _ => False⟩
section
variable {P : Program} {w : World} {K : PySem.W.Frag} {mg : Str → Option Value} {base : Heap} {XR : XRel}
theorem startE_get : ∀ (ds : List D) (n i : Nat) (d : D), getE (startE n ds) i = some d → ds[i]? = some d := fun ds n i d h => by
  rw [getE_eq] at h
  unfold startE at h
  by_cases hi : i < ds.length
  · rw [List.getElem?_append_left (by rw [List.length_map]; exact hi), List.getElem?_map] at h
    rw [List.getElem?_eq_getElem hi] at h ⊢
    simpa using h
  · rw [List.getElem?_append_right (by rw [List.length_map]; omega)] at h
    rw [List.getElem?_replicate] at h
    split at h <;> cases h
theorem start_rs {M : MH} {H : Hp} {N : List Str} {ds : List D} {vs : List V} (r : RpL K M H ds vs) : RS K M H (startE N.length ds) (L2.start N vs) := by
  refine ⟨?_, fun i d h => ?_⟩
  · unfold startE L2.start
    simp only [List.length_append, List.length_map, List.length_replicate, r.length]
  · have e := startE_get ds _ i d h
    obtain ⟨v, g1, g2⟩ := r.get e
    refine ⟨v, ?_, g2⟩
    unfold L2.start
    have hi : i < vs.length := (List.getElem?_eq_some_iff.mp g1).1
    rw [List.getElem?_append_left (by rw [List.length_map]; exact hi), List.getElem?_map, g1]
    rfl
theorem RT.ok {M0 : MH} {H0 : Hp} {Q3 : Q3} {Q : VK} (c : Cv K M0 H0 Q3 Q) : Cv K M0 H0 (RT Q3) Q := fun d M' v H' ⟨M'', sb, q⟩ r m e =>
  c d M'' v H' q (Rp.ev (Ev.sub sb) _ _ r) (m.sub sb) (e.trans (Ev.sub sb))
/-- THE RULE for a def: its body's reading of data keeps the promise -/
theorem def_ok {x qual : Str} {st : Stmt} {f : Addr} {fd : FuncData} {N ps : List Str} {k n : Nat} {sp : Sp3} (F : Fun K x qual st f fd) (S : FnScope N ps (defScope st)) (hn : ps.length = n)
    (body : ∀ (cdv : Value) (A : Around) (outer : List Env) (s : Shared) (H : Hp) (E : XK) (M : MH) (E3 : X3), Room k (A.deeper (envOfC qual (defScope st) s.heap.objs.size f cdv)) →
      CvX K XR M H E3 E → ∃ t, PSs (cxOf (L2.CX P w) P w K mg base N qual (defScope st) f cdv A outer s H E) (defBody st) (LS K M H t) ∧ ∀ ds Q3, ds.length = n → sp ds M Q3 E3 → t (bodyEnds Q3) (startE N.length ds) M) :
    FnOk P w K mg base (L2.CX P w) (k + 1) f fd ps (liftSp K XR n sp) := by
  refine F.okX S (fun vs H Q E h => by rw [hn]; exact h.len) fun cdv A outer s H vs Q E hr ⟨ds, M, Q3, E3, hl, r, rm, hs, c, cx⟩ => ?_
  obtain ⟨t, ht, q⟩ := body cdv A outer s H E M E3 hr cx
  refine ⟨_, ht, startE N.length ds, M, bodyEnds Q3, start_rs r, rm, Ev.refl _ _, q ds Q3 hl hs, ?_⟩
  refine ⟨?_, RT.ok c, fun _ _ _ _ h => h.elim, fun _ _ _ _ h => h.elim⟩
  intro e' M' σ' H' q r m e
  exact RT.ok c .non M' .non H' q rfl m e
/-- what a body wants of exceptions -/
theorem out_body {N : List Str} {qual : Str} {scope : Scope} {f : Addr} {cd : Value} {A : Around} {outer : List Env} {s : Shared} {H : Hp} {E : XK} {M : MH} {E3 : X3} (c : CvX K XR M H E3 E) : Out (cxOf (L2.CX P w) P w K mg base N qual scope f cd A outer s H E) XR M H E3 :=
  ⟨E, takes_of (E := E) rfl rfl rfl rfl, c⟩
end
end Z

/-! X1: the error with a number: made, raised, read (turned from the worked proof of an own error). -/
namespace PySem
namespace ErrX
open PySem.W PySem.Calls PyProof.Rows PySem.HandSPX
/-! ### the text of __init__ -/
def iA (p1 p2 : Pos) : Arguments := { posonlyargs := [], args := [{ arg := "self", annotation := none, pos := p1 }, { arg := "number", annotation := none, pos := p2 }], vararg := none, kwonlyargs := [], kw_defaults := [], kwarg := none, defaults := [] }
def iB (q1 q2 q3 q4 : Pos) : List Stmt := [.Assign [.Attribute (.Name "self" q1) "number" q2] (.Name "number" q3) q4]
def iS : Scope := { kind := .function, names := [(PySem.Str.ofString "self", .local), (PySem.Str.ofString "number", .local)], isGenerator := false, isCoroutine := false, more := [] }
/-- what the written part says of the error class, at C, and of its __init__, at fI -/
structure ErrTxt (K : Frag) (mg : Str → Option Value) (C fI : Addr) : Prop where
  gC : mg "InvalidLine" = some (.ref C)
  cls : ∃ nm q N bs bm sn sub ab col dd k0 k1 k2 k3 k5, K.lookup C = some (excClassObj nm q C N bs bm true sn sub ab col dd k0 k1 k2 k3 k5 "ValueError.__new__") ∧ refsVE bm = true
  sa : findIn K (.ref C) "__setattr__" = some (some (.builtin "object.__setattr__"))
  ga : findIn K (.ref C) "__getattribute__" = some (some (.builtin "BaseException.__getattribute__"))
  gg : findIn K (.ref C) "__getattr__" = some none
  noN : findIn K (.ref C) "number" = some none
  iC : findIn K (.ref C) "__init__" = some (some (.ref fI))
  tC : typeIn K (.ref fI) = some (.type "function")
  kC : keepIn K (.ref C) = true
  exC : subIn K (.ref C) (.type "BaseException") = some true
  tyC : typeIn K (.ref C) = some (.type "type")
  hdC : hasDictIn K C = true
  te : exmOne K (.ref C) (.ref C) = some true
  fn : ∃ (oc : Value) (od : Option Addr) (doc pm : Value) (an : Option Addr) (cdv ct : Value) (osl : Array (Option Value)) (p1 p2 q1 q2 q3 q4 : Pos),
    K.lookup fI = some ⟨oc, od, .func (fnOf "__init__" "InvalidLine.__init__" (iA p1 p2) (iB q1 q2 q3 q4) iS .none .none doc pm an cdv ct), osl⟩ ∧ codeIn K cdv "InvalidLine.__init__" = true
theorem one_size (v : Value) : [v].length ≤ sizeLine := by
  rw [sizeLine_eq]
  exact (by decide : 1 ≤ 16777216)
theorem kept_but {K : Frag} {h h' : Heap} {x : Addr} (X : K.In h) (hx : K.lookup x = none) (k : ∀ b o, b ≠ x → h.get? b = some o → h'.get? b = some o) : K.In h' := fun a o e =>
  k a o (fun z => by rw [z, hx] at e; cases e) (X a o e)
theorem ldC {M : Model} {s : Shared} {name : Str} {scope : Scope} {L a : Addr} {cd : Value} {m : Str → Option Value} {x : Str} {pos : Pos} {v : Value} {Q : Value → Shared → Prop} {A : Around} {E : Value → Shared → Prop} (hn : s.heap.Ns L m) (hv : m x = some v) (h : Q v s)
    (hk : scope.kind = .function := by rfl) (hl : (envOfC name scope L a cd).kindOf x = some .local := by rfl) (hd : (x == ("__debug__" : Str)) = false := by decide) :
    wpAny M A (eval (.Name x pos) (envOfC name scope L a cd)) Q E s := wpAny_Name (wpAny_loadName_local hk hl hn hv h) hd
/-- what __init__ leaves of a fresh exception at x -/
structure InitEnd (h h' : Heap) (x C dx t1 : Addr) (v : Value) : Prop where
  keep : ∀ b o, b ≠ x → h.get? b = some o → h'.get? b = some o
  obj : h'.get? x = some { cls := .ref C, dict := some dx, data := .fields #[.ref t1, .none, .none, .none, .bool false, .none] }
  dbig : h.objs.size ≤ dx
  dne : dx ≠ x
  ns : h'.Ns1 dx (fun y => if y = "number" then some v else none)
/-- a made error -/
structure OwnMade (h h' : Heap) (e C d : Addr) (v : Value) : Prop where
  keep : ∀ b o, h.get? b = some o → h'.get? b = some o
  new : h.objs.size ≤ e
  obj : ∃ oe vs, h'.get? e = some oe ∧ oe.cls = .ref C ∧ oe.dict = some d ∧ oe.data = .fields vs ∧ vs[1]? = some .none
  dbig : h.objs.size ≤ d
  dne : d ≠ e
  ns : h'.Ns1 d (fun y => if y = "number" then some v else none)
section
variable {prog : Program} {w : World} {A : Around} {E : Value → Shared → Prop} {R : Result → Shared → Prop} {s : Shared} {K : Frag} {mg : Str → Option Value} {C fI : Addr}
theorem err_init (T : ErrTxt K mg C fI) {x t0 : Addr} {v : Value} (X : K.In s.heap) (hlim : s.heap.NoLimit) (hx : s.heap.get? x = some (excO C t0)) (hnx : K.lookup x = none) (hroom : A.depth < recursionLimit)
    (hq : ∀ h' tk dx, InitEnd s.heap h' x C dx t0 v → R (.ok (.ret .none)) { s with heap := h', toks := tk }) :
    codeAny (model prog w) A (.call (.ref fI) ⟨[.ref x, v], []⟩) R s := by
  obtain ⟨oc, od, doc, pm, an, cdv, ct, osl, p1, p2, q1, q2, q3, q4, ho, hcd⟩ := T.fn
  obtain ⟨nm, q, N, bs, bm, sn, sub, ab, col, dd, k0, k1, k2, k3, k5, hC, hbm⟩ := T.cls
  have hcl : clsIn K C = some { name := nm, bases := bs, mro := .ref C :: bm, ns := N, qualname := q, hasDict := true, slotNames := sn, subclasses := sub, abstract := ab, collection := col, hasDel := false } := by unfold clsIn; rw [hC] <;> rfl
  refine Att.call_fn (binds := [("self", .ref x), ("number", v)]) X hlim ho hcd hroom (BindsTo.of_eq (by first | rfl | with_unfolding_all rfl)) (by first | rfl | decide | with_unfolding_all rfl) (fun s₁ IC => ?_) rfl rfl rfl
  obtain ⟨h₁, tk₁, rfl⟩ := IC.toInCall.same
  have k : ∀ b o, s.heap.get? b = some o → h₁.get? b = some o := IC.toInCall.keep
  have hn := IC.toInCall.ns
  have hxL : s.heap.objs.size ≠ x := Nat.ne_of_gt (Heap.lt_size hx)
  have X₁ : K.In h₁ := X.keeps k
  have hx₁ := k _ _ hx
  -- self.by = by
  show wpAny _ _ (execs _ _) _ _ _
  refine wpAny_execs_cons (plainObj_wpAny_Assign_Attribute ?_)
  refine ldC (v := v) hn (by first | rfl | with_unfolding_all rfl | kernel_rfl) (ldC (v := .ref x) hn (by first | rfl | with_unfolding_all rfl | kernel_rfl) ?_)
  refine set_plain X₁ (ox := excO C t0) (od := none) ⟨hx₁, rfl, rfl, trivial⟩ T.sa ?_
  refine exc_osa X₁ hx₁ hcl (show refsVE (.ref C :: bm) = true from hbm) rfl T.noN (fun h₃ tk₃ dx k₃ dn dne hx₃ hn₃ => ?_)
  show wpAny _ _ (execs _ _) _ _ _
  have z : s.heap.objs.size < h₁.objs.size := hn.lt
  exact wpAny_execs_nil (hq h₃ tk₃ dx ⟨fun b o hb e => k₃ b o hb (k b o e), hx₃, Nat.le_of_lt (Nat.lt_of_lt_of_le z dn), dne, hn₃⟩)
theorem err_made (T : ErrTxt K mg C fI) {v : Value} (X : K.In s.heap) (hlim : s.heap.NoLimit) (hroom : A.depth + 1 < recursionLimit)
    (hq : ∀ h' tk e d, OwnMade s.heap h' e C d v → R (.ok (.ret (.ref e))) { s with heap := h', toks := tk }) :
    codeAny (model prog w) A (.call (.ref C) ⟨[v], []⟩) R s := by
  obtain ⟨nm, q, N, bs, bm, sn, sub, ab, col, dd, k0, k1, k2, k3, k5, hC, hbm⟩ := T.cls
  obtain ⟨hp, g, dr, tk, os⟩ := s
  have k : ∀ b o, hp.get? b = some o → ((hp.push (kdv_tup [v])).push (excO C hp.objs.size)).get? b = some o := fun b o e => Heap.get?_push_of_some _ (Heap.get?_push_of_some _ e)
  have hget : ((hp.push (kdv_tup [v])).push (excO C hp.objs.size)).get? (hp.objs.size + 1) = some (excO C hp.objs.size) := by heap_get
  have hnx : K.lookup (hp.objs.size + 1) = none := by
    cases e : K.lookup (hp.objs.size + 1) with
    | none => rfl
    | some o =>
      have z : hp.get? (hp.objs.size + 1) = some o := X _ _ e
      exact absurd (Nat.lt_of_succ_lt (Heap.lt_size z)) (Nat.lt_irrefl _)
  refine call_own F.excBase_ValueError (fun X => refsVE_contains X bm hbm) (X _ _ hC) (looks_findIn X T.iC) (fun self => bind_fn X self T.tC) (one_size v) ?_
  refine err_init (s := ⟨(hp.push (kdv_tup [v])).push (excO C hp.objs.size), g, dr, tk, os⟩) T (X.keeps k) (hlim.keeps k) hget hnx ?_ fun h' tk' dx ⟨k', hx, dn, dne, hns⟩ => ?_
  · show A.depth + 1 < recursionLimit
    exact hroom
  · have old : ∀ b o, hp.get? b = some o → h'.get? b = some o := fun b o e => k' b o (Nat.ne_of_lt (Nat.lt_succ_of_lt (Heap.lt_size e))) (k b o e)
    have z : hp.objs.size + 1 + 1 ≤ dx := by
      first
        | (simpa only [Heap.size_push] using dn)
        | exact dn
        | (have q := dn; rw [Heap.size_push, Heap.size_push] at q; exact q)
    exact ⟨rfl, hq h' tk' (hp.objs.size + 1) dx ⟨old, Nat.le_succ _, ⟨_, _, hx, rfl, rfl, rfl, rfl⟩, Nat.le_trans (Nat.le_trans (Nat.le_succ _) (Nat.le_succ _)) z, dne, hns⟩⟩
end
end ErrX
end PySem
namespace L2
open PySem PySem.Spec PyProof.Rows
theorem relO_err {v : V} {v' : Value} (r : RelV v v') (f : Str) : RelO (List.lookup f [(("number" : Str), v)]) (if f = "number" then some v' else none) := by
  by_cases hw : f = "number"
  · subst hw
    rw [if_pos rfl]
    have q : List.lookup ("number" : Str) [(("number" : Str), v)] = some v := by simp [List.lookup]
    rw [q]
    exact r
  · rw [if_neg hw]
    have qw : (f == ("number" : Str)) = false := by simpa using hw
    have q2 : List.lookup f [(("number" : Str), v)] = none := by simp [List.lookup, qw]
    rw [q2]
    trivial
section
variable {X : Cx} {C fI : Addr}
/-- InvalidLine(e) -/
def tMkErr (C : Addr) (ta : TA) : St → Hp → XK → Prop := fun σ H Q => ta σ H fun vs H1 => ∃ v, vs = [v] ∧ ∀ d, H1 d = none → Q (.ref C) (some d) (upd H1 d (.xd [(("number" : Str), v)]))
theorem pmk_err {a : Expr} {ta : TA} {p pos : Pos} {k : Nat} (T : PySem.ErrX.ErrTxt X.K X.mg C fI) (hr : Room k X.A) (ha : PA X [a] ta) (hg : Gl X "InvalidLine" := by rfl)
    (he : starEach (a :: []) X.env = (false, eval a X.env) :: starEach [] X.env := by rfl) (hpl : (backTo pos (starEach [] X.env)).any (·.1) = false := by rfl) :
    PMk X (.Call (.Name "InvalidLine" p) [a] [] pos) (tMkErr C ta) := by
  intro pins s σ H Q I h
  refine wpAny_Call_Name_kw (ld_glob I hg T.gC ?_)
  refine PySem.W.callWith_K (h₀ := X.base) I.ok.mod.kin T.kC (thn (ha.run pos pins s σ H _ I h) fun us s1 hh => ?_) he hpl
  obtain ⟨vs, H1, I1, r1, v, ev, q1⟩ := hh
  subst ev
  refine ⟨I1.kIn, ?_⟩
  cases r1 with
  | cons rv rn =>
    rename_i v' us'
    cases rn
    show wpAny _ _ (call (.ref C) [v']) _ _ _
    have hlim := I1.nolimit
    obtain ⟨hp, g, dr, tk, os⟩ := s1
    refine wpAny_call (PySem.ErrX.err_made T I1.kIn hlim (by have := hr.dp; omega) fun h' tk' e d M => ?_)
    show MkP X pins σ Q (.ref e) ⟨h', g, dr, tk', os⟩
    obtain ⟨oe, fv, hoe, hc, hd, hdat, h1⟩ := M.obj
    have hns := M.ns
    obtain ⟨G', g1, g2⟩ := restrict h' fun b => decide (b ≠ e)
    have gk : ∀ b, b ≠ e → G'.get? b = h'.get? b := fun b hb => g1 b (decide_eq_true hb)
    have ge : G'.get? e = none := g2 e (by simp)
    have old : ∀ b o, hp.get? b = some o → G'.get? b = some o := fun b o q => (gk b (Nat.ne_of_lt (Nat.lt_of_lt_of_le (Heap.lt_size q) M.new))).trans (M.keep b o q)
    have ob : ObjOk X.prog X.w (upd H1 d (.xd [(("number" : Str), v)])) G' d (.xd [(("number" : Str), v)]) :=
      ⟨_, hns.at (fun o q => (gk d M.dne).trans q), fun f => relO_err rv f⟩
    have J : Inv X pins σ (upd H1 d (.xd [(("number" : Str), v)])) ⟨G', g, dr, tk', os⟩ := I1.laid (t' := tk') old M.dbig ob
    refine ⟨e, oe, fv, ⟨G', g, dr, tk', os⟩, _, .ref C, some d, rfl, J, fun b o q => ?_, ge, hoe, ⟨hc, hd⟩, hdat, h1, ?_, rfl, I1.bare, raises_own T.exC T.tyC, q1 d (I1.hok.fresh M.dbig)⟩
    · by_cases hb : b = e
      · have q' : G'.get? b = some o := q
        rw [hb, ge] at q'; cases q'
      · exact (gk b hb).symm.trans q
    · rw [upd_ne (Ne.symm M.dne)]
      exact I1.hok.fresh M.new
/-- raise InvalidLine(e) -/
def tRaiseErr (C : Addr) (W : WX) (ta : TA) : TS := fun _ σ H => tMkErr C ta σ H fun cls d H' => W cls d σ H'
theorem ps_raiseErr {a : Expr} {ta : TA} {W : WX} {p pos pos2 : Pos} {k : Nat} (hc : X.calm = true) (T : PySem.ErrX.ErrTxt X.K X.mg C fI) (hr : Room k X.A) (tk : Takes X W) (ha : PA X [a] ta) (hg : Gl X "InvalidLine" := by rfl)
    (he : starEach (a :: []) X.env = (false, eval a X.env) :: starEach [] X.env := by rfl) (hpl : (backTo pos (starEach [] X.env)).any (·.1) = false := by rfl) :
    PS X (.Raise (some (.Call (.Name "InvalidLine" p) [a] [] pos)) none pos2) (tRaiseErr C W ta) := ps_raise hc tk (pmk_err T hr ha hg he hpl)
/-- e.number, e the exception that the suite holds (at a; its class cls, its dict d) -/
def tNum (C : Addr) (a : Addr) (cls : Value) (d : Option Addr) (te : TE) : TE := fun σ H Q => te σ H fun x H1 => x = .ref a ∧ cls = .ref C ∧ ∃ (dd : Addr) (v : V), d = some dd ∧ H1 dd = some (.xd [(("number" : Str), v)]) ∧ Q v H1
theorem pe_num {a : Addr} {oe : Obj} {cls : Value} {d : Option Addr} {pn : List (Addr × Obj)} {e : Expr} {te : TE} {pos : Pos} (T : PySem.ErrX.ErrTxt X.K X.mg C fI) (hz : Zc cls d oe) (hf : ∃ vs, oe.data = .fields vs) (he : PE (X.suite a ((a, oe) :: pn)) e te)
    (hb : attributeBase e "number" X.env (eval e X.env) = eval e X.env := by rfl) :
    PE (X.suite a ((a, oe) :: pn)) (.Attribute e "number" pos) (tNum C a cls d te) := by
  refine ⟨fun pins s σ H Q I h => ?_⟩
  refine attr_of hb (thn (he.run pins s σ H _ I h) fun u s1 hh => ?_)
  obtain ⟨x, H1, I1, rx, ex, ec, dd, v, ed, ea, q⟩ := hh
  subst ex
  obtain rfl : u = Value.ref a := rx
  subst ec
  subst ed
  obtain ⟨ha, _⟩ := I1.pin (a, oe) (List.mem_append_left _ List.mem_cons_self)
  obtain ⟨vs, hd⟩ := hf
  have hx : ObjOk X.prog X.w H1 s1.heap dd (.xd [(("number" : Str), v)]) := I1.hok dd _ ea
  obtain ⟨mA, hns, hr⟩ := hx
  obtain ⟨od, ho, hl⟩ := lookIn_ns hns
  have l : List.lookup ("number" : Str) [(("number" : Str), v)] = some v := by simp [List.lookup]
  obtain ⟨u, hu, ru⟩ := RelO.some_of (v := v) (o := mA "number") (by rw [← l]; exact hr "number")
  have J : PySem.W.InstAt s1.heap a oe C (some od) := ⟨ha, hz.1, by unfold PySem.W.notCls; rw [hd] <;> rfl, by rw [hz.2]; exact ho⟩
  exact HandSPX.exc_get I1.kIn J T.ga T.gg T.exC (PySem.W.findObj_own T.hdC T.noN rfl (by rw [hl, hu])) (handed_of ru) ⟨v, H1, I1.tok _, ru, q⟩
end
end L2


namespace Z
open PySem PySem.Spec PyProof.Rows L2
/-- an error in flight: its class is the module's, its dict tells the number -/
def XRof (K : PySem.W.Frag) : XRel := fun x cls d M H => ∃ (C dd : Addr) (v : V) (a : D), PySem.W.nsIn K mainGlobals "InvalidLine" = some (some (.ref C)) ∧ cls = .ref C ∧ d = some dd ∧ x.cls = "InvalidLine" ∧ x.arg = some a ∧ M dd = none ∧ H dd = some (.xd [(("number" : Str), v)]) ∧ Rp K M H a v
/-- the written part has the error's class -/
def HasErr (X : Cx) : Prop := ∃ C fI, PySem.ErrX.ErrTxt X.K X.mg C fI ∧ PySem.W.nsIn X.K mainGlobals "InvalidLine" = some (some (.ref C))
def raise3 (te : T3) (E : X3) : TS3 := fun _ e M => te e M fun d M1 => E ⟨"InvalidLine", some d⟩ M1
section
variable {X : Cx} {K : PySem.W.Frag} {XR : XRel} {M0 : MH} {H0 : Hp} {E3 : X3}
theorem z_rse {a : Expr} {te : T3} {p pos pos2 : Pos} {k : Nat} (hc : X.calm = true) (T : HasErr X) (hx : XR = XRof X.K) (hr : Room k X.A) (ou : Out X XR M0 H0 E3) (hg : Gl X "InvalidLine") (ha : PE X a (LE X.K M0 H0 te))
    (he : starEach (a :: []) X.env = (false, eval a X.env) :: starEach [] X.env) : PS X (.Raise (some (.Call (.Name "InvalidLine" p) [a] [] pos)) none pos2) (LS X.K M0 H0 (raise3 te E3)) := by
  obtain ⟨C, fI, T, hn⟩ := T
  obtain ⟨E, tk, cx⟩ := ou.ex
  refine (ps_raiseErr hc T hr tk (pa_cons ha pa_nil he) hg he rfl).imp fun D σ H ⟨en, M, D3, rs, rm, ev, t, c⟩ => ?_
  refine LE.then rs rm ev t fun d M1 v1 H1 t1 r1 rs1 rm1 ev1 e1 => ?_
  refine ⟨v1, rfl, fun dd hd => ?_⟩
  refine cx _ M1 (upd H1 dd (.xd [(("number" : Str), v1)])) (.ref C) (some dd) t1 ?_ (rm1.new hd) (ev1.trans (Ev.new hd))
  rw [hx]
  exact ⟨C, dd, v1, d, hn, rfl, rfl, rfl, rfl, rm1.free hd, upd_same, Rp.ev (Ev.new hd) _ _ r1⟩
/-- what the clause asks: the pair of a word and the number goes back -/
def excR (D : Ends3) (k : Str) : X3 := fun x M' => x.cls = "InvalidLine" ∧ ∃ a, x.arg = some a ∧ D.rt (.tup [.str k, a]) M'
def tRetNum (C : Addr) (k : Str) (i : Nat) : Addr → Value → Option Addr → TS := fun a cls d => tSeq (tRet (tTup (tCons (tC (.str k)) (tCons (tNum C a cls d (tVar i)) tNil)))) tNext
theorem z_tryR {n : Str} {k : Str} {i : Nat} {body : List Stmt} {np p1 p2 p3 p4 p5 pos pos' : Pos} {j1 : Nat} {kt : Nat} {t : X3 → TS3} (hs : X.stack = X.env :: X.outer) (hf : X.env.frame = some X.env.locals) (hN : X.N.Nodup) (hi : X.N[i]? = some n) (hln : X.env.kindOf n = some .local)
    (T : HasErr X) (hx : XR = XRof X.K) (hg : Gl X "InvalidLine") (hdn : (n == ("__debug__" : Str)) = false ∧ (n == ("__classdict__" : Str)) = false)
    (hb : ∀ (pn : List (Addr × Obj)) (xe : Value → Shared → Prop) (M0 : MH) (H0 : Hp) (E3 : X3), PassesOwn (model X.prog X.w) X.A X.env xe → Out (X.tr pn xe) XR M0 H0 E3 → PSs (X.tr pn xe) body (LS X.K M0 H0 (t E3))) :
    PS X (.Try body [.ExceptHandler (some (.Name "InvalidLine" np)) (some n) [.Return (some (.Tuple [.Constant (.str k) j1 p1, .Attribute (.Name n p2) "number" p3] kt p4)) p5] pos'] [] [] pos) (LS X.K M0 H0 (fun D e M => t (excR D k) D e M)) := by
  obtain ⟨C, fI, T, hn⟩ := T
  refine ⟨fun pins s σ H D I ⟨en, M, D3, rs, rm, ev, tt, c⟩ => ?_⟩
  have hi' : i < X.N.length := (List.getElem?_eq_some_iff.mp hi).1
  have P := ps_try_as (X := X) (x := "InvalidLine") (n := n) (c := .ref C) (i := i) (body := body) (b₀ := .Return (some (.Tuple [.Constant (.str k) j1 p1, .Attribute (.Name n p2) "number" p3] kt p4)) p5) (suite := []) (np := np) (pos := pos) (pos' := pos')
    (tb := fun W D' σ' H' => ∃ M0' H0' E3', CvX X.K XR M0' H0' E3' (fun cls d H => ∀ σ, σ.length = X.N.length → W cls d σ H) ∧ LS X.K M0' H0' (t E3') D' σ' H') (ts := tRetNum C k i) (Wout := fun _ _ _ _ => False)
    hs hf hN hi hln ⟨hg, rfl, .inl T.gC⟩ takes0
    (fun W pn xe tk po => ⟨fun pins s σ H D I ⟨M0', H0', E3', cx, h⟩ => (hb pn xe M0' H0' E3' po ⟨_, fun u s' ⟨a, B, sI, pins, σ, H, cls, d, e, I, nb, up, sky, na, os, ag, w⟩ => tk u s' ⟨a, B, sI, pins, σ, H, cls, d, e, I, nb, up, sky, na, os, ag, w σ I.len⟩, cx⟩).run pins s σ H D I h⟩)
    (fun a oe cls d pn hz hf => pss_cons (ps_ret (pe_tup (pa_cons pe_str (pa_cons (pe_num T hz hf (pe_var hi (.inl hln) hdn.1 hdn.2)) pa_nil rfl) rfl))) pss_nil)
  refine P.run pins s σ H D I ⟨M, H, excR D3 k, ?_, en, M, D3, rs, rm, Ev.refl _ _, tt, c⟩
  intro x M' H' cls d hx' hXR rm' ev' σ' hl
  rw [hx] at hXR
  obtain ⟨C', dd, v, a, hn', rfl, rfl, e1, e2, m0, h0, r⟩ := hXR
  have eC : C' = C := by
    rw [hn] at hn'
    simpa using hn'.symm
  subst eC
  obtain ⟨_, a', ea, q⟩ := hx'
  rw [e2] at ea
  cases ea
  refine ⟨true, T.te, fun _ a0 ha0 => ?_, fun z => by cases z⟩
  refine ⟨.ref a0, ?_, rfl, rfl, dd, v, rfl, h0, ?_⟩
  · rw [List.getElem?_set_self (by rw [hl]; exact hi')]
  · refine ⟨by show 2 ≤ sizeLine; decide, fun p hp => ?_⟩
    exact c.rt (.tup [.str k, a]) M' (.ref p) _ q (Rp.tupNew rm' hp ⟨.str k, [v], rfl, rfl, v, [], rfl, r, rfl⟩) (rm'.new hp) (ev'.trans (Ev.new hp))
end
end Z

namespace Z
open PySem PySem.Spec PyProof.Rows L2

inductive BOp where
  | add | sub | mul | fdv | mod | pow
inductive COp where
  | eq | ne | lt | le | gt | ge | isin | notin | is | isnot
inductive Bt where
  | len | int | abs | min2 | max2 | minL | maxL | sum | all | any | tupT | tupK | lstF | lstM | srt | strI
inductive IK where
  | seq | rng1 | rng2 | enm
inductive Ex where
  | loc (i : Nat)
  | non
  | bl (b : Bool)
  | int (i : Int)
  | str (x : Str)
  | glo (j : Nat)
  | bin (o : BOp) (a b : Ex)
  | neg (a : Ex)
  | cmp (o : COp) (a b : Ex)
  | chn (o o' : COp) (a b c : Ex)
  | bol (isAnd : Bool) (es : List Ex)
  | nt (a : Ex)
  | ite (c a b : Ex)
  | tup (es : List Ex)
  | lst (m : Bool) (es : List Ex)
  | idx (a b : Ex)
  | sli (a : Ex) (lo hi : List Ex)
  | rev (a : Ex)
  | call (j : Nat) (e : Ex) (es : List Ex)
  | blt (b : Bt) (e : Ex) (es : List Ex)
  | isi (T : Ty) (e : Ex)
  | mth (m : Mt) (o e : Ex) (es : List Ex)
  | comp (m : Bool) (elt : Ex) (tg : Tg) (ik : IK) (its : List Ex) (ifs : List Ex) (own : List (Str × Nat))
  | newK (m : Bool)
  | newT
  | addM (a b : Ex)
  | dis (m : Bool) (kvs : List Ex)
  | fmt (e : Ex)
  | js (e e2 : Ex) (es : List Ex)
inductive Sx where
  | asg (tg : Tg) (e : Ex)
  | par (i j : Nat) (a b : Ex)
  | sput (o i e : Ex)
  | aug (i : Nat) (isAdd : Bool) (e : Ex)
  | expr (e : Ex)
  | ret (e : Ex)
  | retN
  | ifs (c : Ex) (a b : List Sx)
  | fors (tg : Tg) (ik : IK) (its : List Ex) (body : List Sx)
  | whl (c : Ex) (body : List Sx)
  | brk
  | cnt
  | pss
  | fz (i : Nat)
  | rse (e : Ex)
  | rseN
  | tryR (body : List Sx) (k : Str) (i : Nat)

/-- what the module's names stand for -/
structure GT where
  fns : List (Str × Nat × Sp3)
  cst : List (Str × D)
  bn : List Str
  er : Bool
def nth {α : Type u} : List α → Nat → Option α
  | [], _ => none
  | x :: _, 0 => some x
  | _ :: r, n + 1 => nth r n
theorem nth_mem {α : Type u} : ∀ {l : List α} {n : Nat} {x : α}, nth l n = some x → x ∈ l
  | [], _, _, h => by cases h
  | y :: _, 0, x, h => by
    cases h; simp
  | _ :: r, n + 1, x, h => List.mem_cons_of_mem _ (nth_mem (show nth r n = some x from h))
/-- a def's promise, called -/
def callG (G : GT) (j : Nat) (E : X3) (t : TL3) : T3 := match nth G.fns j with
  | some (_, n, sp) => call3 n sp E t
  | none => fun _ _ _ => False
def cstG (G : GT) (j : Nat) : T3 := match nth G.cst j with
  | some (_, d) => con3 d
  | none => fun _ _ _ => False

def BOp.o2 : BOp → O2
  | .add => add3 | .sub => sub3 | .mul => mul3 | .fdv => fdv3 | .mod => mod3 | .pow => pow3
def BOp.op : BOp → Operator
  | .add => .Add | .sub => .Sub | .mul => .Mult | .fdv => .FloorDiv | .mod => .Mod | .pow => .Pow
def COp.o2 : COp → O2
  | .eq => eq3 | .ne => ne3 | .lt => lt3 | .le => le3 | .gt => gt3 | .ge => ge3 | .isin => in3 | .notin => nin3 | .is => isN3 | .isnot => notN3
def COp.op : COp → CmpOp
  | .eq => .Eq | .ne => .NotEq | .lt => .Lt | .le => .LtE | .gt => .Gt | .ge => .GtE | .isin => .In | .notin => .NotIn | .is => .Is | .isnot => .IsNot
def Bt.name : Bt → String
  | .len => "len" | .int => "int" | .abs => "abs" | .min2 => "min" | .max2 => "max" | .minL => "min" | .maxL => "max" | .sum => "sum" | .all => "all" | .any => "any" | .tupT => "tuple" | .tupK => "tuple" | .lstF => "list" | .lstM => "list" | .srt => "sorted" | .strI => "str"
def Bt.ol : Bt → OL
  | .len => c1 (ofO lenA) | .int => c1 (ofO intA) | .abs => c1 (ofO absA) | .min2 => c2 (ofO2 minA) | .max2 => c2 (ofO2 maxA) | .minL => c1 (ofO Z.minL) | .maxL => c1 (ofO Z.maxL) | .sum => c1 (ofO sumA) | .all => c1 (ofO allA) | .any => c1 (ofO anyA)
  | .tupT => c1 (tupA .t) | .tupK => c1 (tupA .k) | .lstF => c1 (lstA false) | .lstM => c1 (lstA true) | .srt => c1 srtA | .strI => c1 (ofO strA)
def Bt.isTy : Bt → Bool
  | .int | .tupT | .tupK | .lstF | .lstM | .strI => true
  | _ => false
/-- what is walked -/
def iterL (t : TL3) : TL3 := fun e M Q => t e M fun ds M1 => match ds with
  | [d] => match itemsA d with | some ds => Q ds M1 | none => False
  | _ => False
def wi : IK → TL3 → TL3
  | .seq, t => iterL t
  | .rng1, t => rng1A t
  | .rng2, t => rng2A t
  | .enm, t => enumA t
/-- {x} in an f-string -/
def fmt3 : O1 := fun d M Q => match d with
  | .str y => y.length ≤ sizeLine ∧ Q (.str y) M
  | .int i => i.natAbs.log2 < 1920 ∧ Q (.str (toString i)) M
  | _ => False
/-- texts one behind the other -/
def jsW : List T3 → Str → En → MH → (Str → MH → Prop) → Prop
  | [], acc, _, M, Q => Q acc M
  | t :: ts, acc, e, M, Q => t e M fun d M1 => match d with
    | .str y => (acc ++ y).length ≤ sizeLine ∧ jsW ts (acc ++ y) e M1 Q
    | _ => False
def js3 (ts : List T3) : T3 := fun e M Q => jsW ts Str.empty e M fun out M1 => Q (.str out) M1
mutual
/-- an expression's reading of data -/
def wpe (G : GT) : Ex → X3 → T3
  | .loc i, _ => loc3 i
  | .non, _ => con3 .non
  | .bl b, _ => con3 (.bl b)
  | .int i, _ => con3 (.int i)
  | .str x, _ => con3 (.str x)
  | .glo j, _ => cstG G j
  | .bin o a b, E => op2 o.o2 (wpe G a E) (wpe G b E)
  | .addM a b, E => op2 addM3 (wpe G a E) (wpe G b E)
  | .neg a, E => op1 neg3 (wpe G a E)
  | .cmp o a b, E => op2 o.o2 (wpe G a E) (wpe G b E)
  | .chn o o' a b c, E => chain3 o.o2 o'.o2 (wpe G a E) (wpe G b E) (wpe G c E)
  | .bol k es, E => wpv G k es E
  | .nt a, E => notV3 (wpe G a E)
  | .ite c a b, E => ite3 (wpt G c E) (wpe G a E) (wpe G b E)
  | .tup es, E => tup3 (wpl G es E)
  | .lst m es, E => match m with | true => lstM3 (wpl G es E) | false => lst3 (wpl G es E)
  | .idx a b, E => op2 ix3 (wpe G a E) (wpe G b E)
  | .sli a lo hi, E => sl3 (wpe G a E) (wpo G lo E) (wpo G hi E)
  | .rev a, E => op1 rev3 (wpe G a E)
  | .call j e es, E => callG G j E (cons3 (wpe G e E) (wpl G es E))
  | .blt b e es, E => opL b.ol (cons3 (wpe G e E) (wpl G es E))
  | .isi T e, E => op1 (isi3 T) (wpe G e E)
  | .mth m o e es, E => mth3 m (wpe G o E) (cons3 (wpe G e E) (wpl G es E))
  | .comp m elt tg ik its ifs own, E => comp3 m (wi ik (wpl G its E)) tg (wpc G ifs noX) (wpe G elt noX) (own.map (·.2))
  | .newK m, _ => newK3 m
  | .newT, _ => newT3
  | .dis m kvs, E => disp3 m (wpp G kvs E)
  | .fmt e, E => op1 fmt3 (wpe G e E)
  | .js e e2 es, E => js3 (wpe G e E :: wpe G e2 E :: wpj G es E)
/-- a test's -/
def wpt (G : GT) : Ex → X3 → TB3
  | .cmp o a b, E => tst (op2 o.o2 (wpe G a E) (wpe G b E))
  | .chn o o' a b c, E => tst (chain3 o.o2 o'.o2 (wpe G a E) (wpe G b E) (wpe G c E))
  | .bol k es, E => wpb G k es E
  | .nt a, E => not3 (wpt G a E)
  | .loc i, E => tru3 (loc3 i)
  | .non, _ => tru3 (con3 .non)
  | .bl b, _ => tru3 (con3 (.bl b))
  | .int i, _ => tru3 (con3 (.int i))
  | .str x, _ => tru3 (con3 (.str x))
  | .idx a b, E => tru3 (op2 ix3 (wpe G a E) (wpe G b E))
  | .call j e es, E => tru3 (callG G j E (cons3 (wpe G e E) (wpl G es E)))
  | .blt b e es, E => tru3 (opL b.ol (cons3 (wpe G e E) (wpl G es E)))
  | .isi T e, E => tru3 (op1 (isi3 T) (wpe G e E))
  | .mth m o e es, E => tru3 (mth3 m (wpe G o E) (cons3 (wpe G e E) (wpl G es E)))
  | _, _ => fun _ _ _ => False
/-- a list's -/
def wpl (G : GT) : List Ex → X3 → TL3
  | [], _ => nil3
  | e :: es, E => cons3 (wpe G e E) (wpl G es E)
/-- a chain of and, or: as a value, as a test -/
def wpv (G : GT) : Bool → List Ex → X3 → T3
  | _, [], _ => fun _ _ _ => False
  | _, [e], E => wpe G e E
  | true, e :: es, E => andV3 (wpe G e E) (wpv G true es E)
  | false, e :: es, E => orV3 (wpe G e E) (wpv G false es E)
def wpb (G : GT) : Bool → List Ex → X3 → TB3
  | _, [], _ => fun _ _ _ => False
  | _, [e], E => wpt G e E
  | true, e :: es, E => and3 (wpt G e E) (wpb G true es E)
  | false, e :: es, E => or3 (wpt G e E) (wpb G false es E)
/-- a slice's bound -/
def wpo (G : GT) : List Ex → X3 → TO3
  | [], _ => noP3
  | e :: _, E => part3 (wpe G e E)
/-- a comprehension's test -/
def wpc (G : GT) : List Ex → X3 → TB3
  | [], _ => yes3
  | e :: _, E => wpt G e E
/-- an f-string's parts -/
def wpj (G : GT) : List Ex → X3 → List T3
  | [], _ => []
  | e :: es, E => wpe G e E :: wpj G es E
/-- a display's pairs, key and value in turn -/
def wpp (G : GT) : List Ex → X3 → List (T3 × T3)
  | k :: v :: r, E => (wpe G k E, wpe G v E) :: wpp G r E
  | _, _ => []
end
/-- freezing a list that a name holds -/
def fz3 (i : Nat) (t : TS3) : TS3 := fun D e M => match getE e i with
  | some (.ref a) => match M a with
    | some (.lst ds) => t D (setE e i (.lst ds)) (er M a)
    | some (.dK kvs) => t D (setE e i (.dK (kvs.map (·.1)) (kvs.map (·.2)))) (er M a)
    | some (.dT kvs) => t D (setE e i (.dT (kvs.map (·.1)) (kvs.map (·.2)))) (er M a)
    | _ => False
  | _ => False
mutual
/-- a statement's reading of data -/
def wps (G : GT) (E : X3) : Sx → TS3
  | .asg tg e => asg3 (wpe G e E) tg
  | .par i j a b => par3 i j (cons3 (wpe G a E) (cons3 (wpe G b E) nil3))
  | .sput o i e => sput3 (wpe G o E) (wpe G i E) (wpe G e E)
  | .aug i k e => aug3 i (wpe G e E) (match k with | true => iadd3 | false => isub3)
  | .expr e => drop3 (wpe G e E)
  | .ret e => ret3 (wpe G e E)
  | .retN => retN3
  | .ifs c a b => if3 (wpt G c E) (wpss G E a) (wpss G E b)
  | .fors tg ik its body => for3 (wi ik (wpl G its E)) tg (wpss G E body)
  | .whl c body => while3 (wpt G c E) (wpss G E body)
  | .brk => brk3
  | .cnt => cnt3
  | .pss => next3
  | .fz _ => fun _ _ _ => False
  | .rse e => raise3 (wpe G e E) E
  | .rseN => fun _ _ _ => False
  | .tryR body k _ => fun D e M => wpss G (excR D k) body D e M
def wpss (G : GT) (E : X3) : List Sx → TS3
  | [] => next3
  | s :: r => match s with
    | .fz i => fz3 i (wpss G E r)
    | s => seq3 (wps G E s) (wpss G E r)
end
end Z

namespace Z
open PySem PySem.Spec PyProof.Rows L2

def isVis (sc : Scope) (x : Str) : Bool := match sc.names.lookup x with
  | some .local => true | some .cell => true | some .free => true | _ => false
def isLoc (sc : Scope) (x : Str) : Bool := match sc.names.lookup x with
  | some .local => true | some .cell => true | _ => false
def isGl (sc : Scope) (x : Str) : Bool := match sc.names.lookup x with
  | some .globalImplicit => true | _ => false
def beqOp : BOp → Operator → Bool
  | .add, .Add => true | .sub, .Sub => true | .mul, .Mult => true | .fdv, .FloorDiv => true | .mod, .Mod => true | .pow, .Pow => true | _, _ => false
def beqCm : COp → CmpOp → Bool
  | .eq, .Eq => true | .ne, .NotEq => true | .lt, .Lt => true | .le, .LtE => true | .gt, .Gt => true | .ge, .GtE => true | .isin, .In => true | .notin, .NotIn => true | .is, .Is => true | .isnot, .IsNot => true | _, _ => false
theorem beqOp_ok {o : BOp} {p : Operator} (h : beqOp o p = true) : p = o.op := by
  cases o <;> cases p <;> first | rfl | (exact absurd h Bool.false_ne_true)
theorem beqCm_ok {o : COp} {p : CmpOp} (h : beqCm o p = true) : p = o.op := by
  cases o <;> cases p <;> first | rfl | (exact absurd h Bool.false_ne_true)
def Bt.args : Bt → Nat
  | .min2 | .max2 => 2
  | _ => 1
/-- a target of names -/
def chkNs (N : List Str) (sc : Scope) : List Nat → List Expr → Bool
  | [], [] => true
  | i :: is, e :: es => (match e with | .Name x _ => decide (N[i]? = some x) && isLoc sc x | _ => false) && chkNs N sc is es
  | _, _ => false
def chkTg (N : List Str) (sc : Scope) (tg : Tg) (e : Expr) : Bool := match tg with
  | .nm i => match e with | .Name x _ => decide (N[i]? = some x) && isLoc sc x | _ => false
  | .tp is => match e with | .Tuple es _ _ => chkNs N sc is es | _ => false
/-- not one of the few heads that are looked at apart -/
def plain : Expr → Bool
  | .Starred .. => false
  | .Set .. => false
  | .Slice .. => false
  | .ListComp .. => true
  | .SetComp .. => false
  | .DictComp .. => false
  | _ => true
def strD (x y : Str) : Bool := decide (x = y)
/-- what is walked, and the target (enumerate wants a written pair) -/
def chkI (G : GT) (ik : IK) (sc : Scope) (e t : Expr) (cl : List Expr → Bool) : Bool := match ik with
  | .seq => cl [e]
  | .rng1 => match e with | .Call (.Name y _) [a] [] _ => decide (y = ("range" : Str)) && isGl sc y && decide (y ∈ G.bn) && cl [a] | _ => false
  | .rng2 => match e with | .Call (.Name y _) [a, b] [] _ => decide (y = ("range" : Str)) && isGl sc y && decide (y ∈ G.bn) && cl [a, b] | _ => false
  | .enm => match e, t with | .Call (.Name y _) [a] [] _, .Tuple .. => decide (y = ("enumerate" : Str)) && isGl sc y && decide (y ∈ G.bn) && cl [a] | _, _ => false
def nmF (G : GT) (j : Nat) (y : Str) : Bool := match nth G.fns j with | some (x, _) => decide (x = y) | none => false
def nmC (G : GT) (j : Nat) (y : Str) : Bool := match nth G.cst j with | some (x, _) => decide (x = y) | none => false
mutual
def chkE (G : GT) (N : List Str) : Ex → Scope → Expr → Bool
  | .loc i, sc, e => match e with | .Name x _ => decide (N[i]? = some x) && isVis sc x | _ => false
  | .non, _, e => match e with | .Constant .none _ _ => true | _ => false
  | .bl b, _, e => match e with | .Constant (.bool c) _ _ => b == c | _ => false
  | .int i, _, e => match e with | .Constant (.int j) _ _ => decide (i = j) | _ => false
  | .str x, _, e => match e with | .Constant (.str y) _ _ => decide (x = y) | _ => false
  | .glo j, sc, e => match e with | .Name y _ => nmC G j y && isGl sc y && !(y == ("__debug__" : Str)) | _ => false
  | .bin o a b, sc, e => match e with | .BinOp l p r _ => beqOp o p && chkE G N a sc l && chkE G N b sc r | _ => false
  | .addM a b, sc, e => match e with | .BinOp l p r _ => beqOp .add p && chkE G N a sc l && chkE G N b sc r | _ => false
  | .neg a, sc, e => match e with | .UnaryOp .USub x _ => chkE G N a sc x | _ => false
  | .cmp o a b, sc, e => match e with | .Compare l [p] [r] _ => beqCm o p && chkE G N a sc l && chkE G N b sc r | _ => false
  | .chn o o' a b c, sc, e => match e with | .Compare l [p, p'] [r, r'] _ => beqCm o p && beqCm o' p' && chkE G N a sc l && chkE G N b sc r && chkE G N c sc r' | _ => false
  | .bol k es, sc, e => match e with | .BoolOp op vs _ => (match op with | .And => k | .Or => !k) && chkL G N es sc vs | _ => false
  | .nt a, sc, e => match e with | .UnaryOp .Not x _ => chkE G N a sc x | _ => false
  | .ite c a b, sc, e => match e with | .IfExp t x y _ => chkT G N c sc t && chkE G N a sc x && chkE G N b sc y | _ => false
  | .tup es, sc, e => match e with | .Tuple xs _ _ => chkL G N es sc xs | _ => false
  | .lst _ es, sc, e => match e with | .List xs _ => chkL G N es sc xs | _ => false
  | .idx a b, sc, e => match e with | .Subscript x y _ => chkE G N a sc x && chkE G N b sc y | _ => false
  | .sli a lo hi, sc, e => match e with | .Subscript x (.Slice l h none _) _ => chkE G N a sc x && chkO G N lo sc l && chkO G N hi sc h | _ => false
  | .rev a, sc, e => match e with | .Subscript x (.Slice none none (some (.UnaryOp .USub (.Constant (.int 1) _ _) _)) _) _ => chkE G N a sc x | _ => false
  | .call j x xs, sc, e => match e with | .Call (.Name y _) (z :: zs) [] _ => nmF G j y && isGl sc y && !(y == ("__debug__" : Str)) && chkE G N x sc z && chkL G N xs sc zs | _ => false
  | .blt b x xs, sc, e => match e with | .Call (.Name y _) (z :: zs) [] _ => decide (y = Str.ofString b.name) && isGl sc y && decide (y ∈ G.bn) && chkE G N x sc z && chkL G N xs sc zs | _ => false
  | .isi T x, sc, e => match e with | .Call (.Name y _) [z, .Name t _] [] _ => decide (y = ("isinstance" : Str)) && isGl sc y && decide (y ∈ G.bn) && decide (t = Str.ofString T.name) && isGl sc t && decide (t ∈ G.bn) && chkE G N x sc z | _ => false
  | .mth m o x xs, sc, e => match e with | .Call (.Attribute v nm ap) (z :: zs) [] cp => decide (nm = Str.ofString m.name) && (ap.endLine == cp.line) && decide (zs.length < 9) && chkE G N o sc v && chkE G N x sc z && chkL G N xs sc zs | _ => false
  | .comp _ elt tg ik its ifs own, sc, e => match e with
    | .ListComp el [⟨t, it, fs, ia⟩] scope _ => decide (ia = 0) && blkC N sc scope own && (tg.slots.all fun i => decide (i ∈ own.map (·.2))) && chkI G ik sc it t (chkL G N its sc) && chkTg N scope tg t && chkC G N ifs (relS scope sc) fs && chkE G N elt (relS scope sc) el
    | _ => false
  | .newK _, _, e => match e with | .Dict [] [] _ => true | _ => false
  | .newT, _, e => match e with | .Dict [] [] _ => true | _ => false
  | .dis _ kvs, sc, e => match e with | .Dict ks vs _ => chkP G N kvs sc ks vs && decide (ks ≠ []) && decide (ks.length ≤ 15) | _ => false
  | .fmt x, sc, e => match e with | .FormattedValue z c none _ => decide (c = -1) && chkE G N x sc z | _ => false
  | .js x y xs, sc, e => match e with | .JoinedStr (z :: z2 :: zs) _ => chkE G N x sc z && chkE G N y sc z2 && chkL G N xs sc zs | _ => false
def chkT (G : GT) (N : List Str) : Ex → Scope → Expr → Bool
  | .cmp o a b, sc, e => match e with | .Compare l [p] [r] _ => beqCm o p && chkE G N a sc l && chkE G N b sc r | _ => false
  | .chn o o' a b c, sc, e => match e with | .Compare l [p, p'] [r, r'] _ => beqCm o p && beqCm o' p' && chkE G N a sc l && chkE G N b sc r && chkE G N c sc r' | _ => false
  | .bol k es, sc, e => match e with | .BoolOp op vs _ => (match op with | .And => k | .Or => !k) && chkTL G N es sc vs | _ => false
  | .nt a, sc, e => match e with | .UnaryOp .Not x _ => chkT G N a sc x | _ => false
  | .loc i, sc, e => match e with | .Name x _ => decide (N[i]? = some x) && isVis sc x | _ => false
  | .idx a b, sc, e => match e with | .Subscript x y _ => chkE G N a sc x && chkE G N b sc y | _ => false
  | .call j x xs, sc, e => match e with | .Call (.Name y _) (z :: zs) [] _ => nmF G j y && isGl sc y && !(y == ("__debug__" : Str)) && chkE G N x sc z && chkL G N xs sc zs | _ => false
  | .blt b x xs, sc, e => match e with | .Call (.Name y _) (z :: zs) [] _ => decide (y = Str.ofString b.name) && isGl sc y && decide (y ∈ G.bn) && chkE G N x sc z && chkL G N xs sc zs | _ => false
  | .isi T x, sc, e => match e with | .Call (.Name y _) [z, .Name t _] [] _ => decide (y = ("isinstance" : Str)) && isGl sc y && decide (y ∈ G.bn) && decide (t = Str.ofString T.name) && isGl sc t && decide (t ∈ G.bn) && chkE G N x sc z | _ => false
  | .mth m o x xs, sc, e => match e with | .Call (.Attribute v nm ap) (z :: zs) [] cp => decide (nm = Str.ofString m.name) && (ap.endLine == cp.line) && decide (zs.length < 9) && chkE G N o sc v && chkE G N x sc z && chkL G N xs sc zs | _ => false
  | _, _, _ => false
def chkL (G : GT) (N : List Str) : List Ex → Scope → List Expr → Bool
  | [], _, es => match es with | [] => true | _ => false
  | x :: xs, sc, es => match es with | e :: es => chkE G N x sc e && chkL G N xs sc es | [] => false
def chkTL (G : GT) (N : List Str) : List Ex → Scope → List Expr → Bool
  | [], _, es => match es with | [] => true | _ => false
  | x :: xs, sc, es => match es with | e :: es => chkT G N x sc e && chkTL G N xs sc es | [] => false
def chkO (G : GT) (N : List Str) : List Ex → Scope → Option Expr → Bool
  | [], _, e => match e with | none => true | some _ => false
  | x :: xs, sc, e => match e with | some e => chkE G N x sc e && xs.isEmpty | none => false
def chkC (G : GT) (N : List Str) : List Ex → Scope → List Expr → Bool
  | [], _, es => match es with | [] => true | _ => false
  | x :: xs, sc, es => match es with | [e] => chkT G N x sc e && xs.isEmpty | _ => false
def chkP (G : GT) (N : List Str) : List Ex → Scope → List (Option Expr) → List Expr → Bool
  | [], _, ks, vs => match ks, vs with | [], [] => true | _, _ => false
  | [_], _, _, _ => false
  | k :: v :: r, sc, ks, vs => match ks, vs with | some a :: ks, b :: vs => chkE G N k sc a && chkE G N v sc b && chkP G N r sc ks vs | _, _ => false
end
end Z

namespace Z
open PySem PySem.Spec PyProof.Rows L2

structure Good (G : GT) (N : List Str) (so sc : Scope) (X : Cx) (XR : XRel) (M0 : MH) (H0 : Hp) (E3 : X3) (k : Nat) : Prop where
  hN : X.N = N
  hsc : X.env.scope = sc
  calm : X.calm = true
  nd : N.Nodup
  nm : ∀ x ∈ N, (x == ("__debug__" : Str)) = false ∧ (x == ("__classdict__" : Str)) = false
  room : Room k X.A
  cel : ∀ x, so.names.lookup x = some .cell → X.fn x = true
  own : ∀ x kk, kk ≠ NameKind.free → so.names.lookup x = some kk → sc.names.lookup x = some kk
  fns : ∀ x n sp, (x, n, sp) ∈ G.fns → Cal X.prog X.w X.K X.mg X.base XR k x n sp
  cst : ∀ x d, (x, d) ∈ G.cst → ∃ v u, X.mg x = some u ∧ RelV v u ∧ ∀ M H, Rp X.K M H d v
  blt : ∀ x ∈ G.bn, X.mg x = none
  out : Out X XR M0 H0 E3
  err : G.er = true → HasErr X
  xr : G.er = true → XR = XRof X.K
section
variable {G : GT} {N : List Str} {so sc : Scope} {X : Cx} {XR : XRel} {M0 : MH} {H0 : Hp} {E3 : X3} {k : Nat}
theorem Good.hu (g : Good G N so sc X XR M0 H0 E3 k) : X.A.units + 100 < cLine := by have := g.room.un; omega
theorem Good.blk (g : Good G N so sc X XR M0 H0 E3 k) {s : Shared} {H : Hp} {scope : Scope} {C : Addr} {cl : List (Str × Addr)} {fp : List Addr} : Good G N scope (relS scope sc) (X.blk s H scope (compEnvC scope cl C X.env) fp) XR M0 H0 noX k :=
  ⟨g.hN, by rw [← g.hsc]; rfl, g.calm, g.nd, g.nm, g.room, fun x h => by show (scope.names.lookup x == some .cell) = true; rw [h]; rfl, fun x kk hk h => lookup_relS_keep hk h, g.fns, g.cst, g.blt, Out.no, g.err, g.xr⟩
theorem vis_of {x : Str} (g : Good G N so sc X XR M0 H0 E3 k) (h : isVis sc x = true) : Vis X.env.scope x := by
  rw [g.hsc]
  unfold isVis at h
  split at h
  · rename_i e; exact .inl e
  · rename_i e; exact .inr (.inl e)
  · rename_i e; exact .inr (.inr e)
  · cases h
theorem loc_of {x : Str} (g : Good G N so sc X XR M0 H0 E3 k) (h : isLoc so x = true) : Loc X.env.scope x ∧ (X.fn x = true ∨ X.env.scope.names.lookup x = some .local) := by
  rw [g.hsc]
  unfold isLoc at h
  split at h
  · rename_i e
    have e' := g.own x .local (by decide) e
    exact ⟨.inl e', .inr e'⟩
  · rename_i e
    exact ⟨.inr (g.own x .cell (by decide) e), .inl (g.cel x e)⟩
  · cases h
theorem gl_of {x : Str} (g : Good G N so sc X XR M0 H0 E3 k) (h : isGl sc x = true) : Gl X x := by
  show X.env.scope.names.lookup x = some .globalImplicit
  rw [g.hsc]
  unfold isGl at h
  split at h
  · rename_i e; exact e
  · cases h
/-! ### heads -/
theorem star_of {e : Expr} (h : plain e = true) (es : List Expr) (env : Env) : starEach (e :: es) env = (false, eval e env) :: starEach es env := by
  cases e <;> first | rfl | (exact absurd h Bool.false_ne_true)
theorem plainIx_of {e : Expr} (h : plain e = true) : PlainIx e := by
  intro o i
  cases e <;> first | rfl | (exact absurd h Bool.false_ne_true)
theorem mark_of {op : CmpOp} {e : Expr} (h : plain e = true) : behindInMarks op e = false := by
  cases e <;> first | rfl | (exact absurd h Bool.false_ne_true)
theorem fold_of {e : Expr} (h : plain e = true) (env : Env) (x : Value) : foldedSetIterable e env x = pure x := by
  cases e <;> first | rfl | (exact absurd h Bool.false_ne_true)
theorem any_of : ∀ {es : List Expr} {pos : Pos} {env : Env}, (∀ e ∈ es, plain e = true) → (backTo pos (starEach es env)).any (·.1) = false
  | [], _, _, _ => rfl
  | e :: es, pos, env, h => by
    rw [star_of (h e (by simp))]
    show (false || (backTo pos (starEach es env)).any (·.1)) = false
    rw [Bool.false_or]
    exact any_of fun e' he => h e' (by simp [he])
theorem all_of : ∀ {es : List Expr} {pos : Pos} {env : Env}, (∀ e ∈ es, plain e = true) → (backTo pos (starEach es env)).all (fun x => !x.1) = true
  | [], _, _, _ => rfl
  | e :: es, pos, env, h => by
    rw [star_of (h e (by simp))]
    show (true && (backTo pos (starEach es env)).all (fun x => !x.1)) = true
    rw [Bool.true_and]
    exact all_of fun e' he => h e' (by simp [he])
/-- an expression that is looked at is plain -/
theorem plain_of : ∀ {ex : Ex} {sc : Scope} {e : Expr}, chkE G N ex sc e = true → plain e = true := fun {ex sc e} h => by
  cases ex <;> cases e <;> first | rfl | (exact absurd h Bool.false_ne_true)
theorem plainL_of : ∀ {xs : List Ex} {sc : Scope} {es : List Expr}, chkL G N xs sc es = true → ∀ e ∈ es, plain e = true
  | [], sc, [], _ => fun e he => by simp at he
  | [], sc, _ :: _, h => absurd h Bool.false_ne_true
  | x :: xs, sc, [], h => absurd h Bool.false_ne_true
  | x :: xs, sc, e :: es, h => by
    have h : (chkE G N x sc e && chkL G N xs sc es) = true := h
    rw [Bool.and_eq_true] at h
    intro e' he
    rcases List.mem_cons.mp he with rfl | he
    · exact plain_of h.1
    · exact plainL_of h.2 e' he
theorem base_of {ex : Ex} {o : Expr} {nm : Str} {env : Env} (h : chkE G N ex sc o = true) : attributeBase o nm env (eval o env) = eval o env := by
  cases o with
  | Call f as ks pos =>
    cases as with
    | nil =>
      cases ex <;> first | (exact absurd h Bool.false_ne_true) | skip
      all_goals (cases f <;> first | rfl | (exact absurd h Bool.false_ne_true))
    | cons a as =>
      cases f <;> rfl
  | _ => rfl
/-! ### built-ins -/
theorem bt_b (hc : X.calm = true) (hu : X.A.units + 100 < cLine) : ∀ b : Bt, b.isTy = false → CallR X (.builtin b.name) (LOL X.K b.ol)
  | .len, _ => zc_len
  | .abs, _ => zc_abs
  | .min2, _ => zc_min2 hc
  | .max2, _ => zc_max2 hc
  | .minL, _ => zc_minL hc
  | .maxL, _ => zc_maxL hc
  | .sum, _ => zc_sum hc
  | .all, _ => zc_all hc
  | .any, _ => zc_any hc
  | .srt, _ => zc_srt hu
theorem bt_t (hc : X.calm = true) : ∀ b : Bt, b.isTy = true → CallR X (.type b.name) (LOL X.K b.ol)
  | .int, _ => zc_int
  | .tupT, _ => zc_tup .t
  | .tupK, _ => zc_tup .k
  | .lstF, _ => zc_lst hc false
  | .lstM, _ => zc_lst hc true
  | .strI, _ => zc_strI
theorem boot_b : ∀ b : Bt, b.isTy = false → bootBuiltins (Str.ofString b.name) = some (.builtin b.name) := by
  intro b h
  cases b <;> first | (exact absurd h (by decide)) | decide +kernel
theorem boot_t : ∀ b : Bt, b.isTy = true → bootBuiltins (Str.ofString b.name) = some (.type b.name) := by
  intro b h
  cases b <;> first | (exact absurd h (by decide)) | decide +kernel
theorem nm_b : ∀ b : Bt, Str.ofString b.name ≠ "__name__" ∧ (Str.ofString b.name == ("__debug__" : Str)) = false := by
  intro b
  cases b <;> decide +kernel
theorem boot_ty : ∀ T : Ty, bootBuiltins (Str.ofString T.name) = some (.type T.name) ∧ Str.ofString T.name ≠ "__name__" ∧ (Str.ofString T.name == ("__debug__" : Str)) = false := by
  intro T
  cases T <;> decide +kernel
/-! ### methods -/
theorem mt_pa : ∀ m : Mt, PlainAttrs m.ty
  | .append | .extend | .index => PySem.F.plainAttrs_list
  | .get | .setdefault => PySem.F.plainAttrs_dict
  | .indexT => PySem.F.plainAttrs_tuple
  | .join | .split | .startswith => PySem.F.plainAttrs_str
theorem mt_slot : ∀ m : Mt, Slot m.ty (Str.ofString m.name) m.id
  | .append => PySem.F.slot_list_append
  | .extend => PySem.F.slot_list_extend
  | .index => PySem.F.slot_list_index
  | .get => PySem.F.slot_dict_get
  | .setdefault => PySem.F.slot_dict_setdefault
  | .indexT => PySem.F.slot_tuple_index
  | .join => PySem.F.slot_str_join
  | .split => PySem.F.slot_str_split
  | .startswith => PySem.F.slot_str_startswith
theorem mt_ty : ∀ m : Mt, typeOf (.builtin m.id) = pure (.type "method_descriptor")
  | .append => PySem.F.type_list_append
  | .extend => PySem.F.type_list_extend
  | .index => PySem.F.type_list_index
  | .get => PySem.F.type_dict_get
  | .setdefault => PySem.F.type_dict_setdefault
  | .indexT => PySem.F.type_tuple_index
  | .join => PySem.F.type_str_join
  | .split => PySem.F.type_str_split
  | .startswith => PySem.F.type_str_startswith
theorem co_ok (hu : X.A.units + 100 < cLine) : ∀ o : COp, OpR X (compareOp o.op) (LO2 X.K o.o2)
  | .eq => zo_eq (by omega)
  | .ne => zo_ne (by omega)
  | .lt => zo_lt (by omega)
  | .le => zo_le (by omega)
  | .gt => zo_gt (by omega)
  | .ge => zo_ge (by omega)
  | .isin => zo_in (by omega)
  | .notin => zo_nin (by omega)
  | .is => zo_isN
  | .isnot => zo_notN
theorem bo_ok : ∀ o : BOp, OpR X (binaryOp o.op) (LO2 X.K o.o2)
  | .add => zo_add
  | .sub => zo_sub
  | .mul => zo_mul
  | .fdv => zo_fdv
  | .mod => zo_mod
  | .pow => zo_pow
/-! ### targets -/
theorem names_ok (g : Good G N so sc X XR M0 H0 E3 k) : ∀ {is : List Nat} {es : List Expr}, chkNs N so is es = true → PGs X es (gNames is) ∧ (assignEach es X.env).length = is.length ∧ (assignEach es X.env).findIdx? (·.1) = none
  | [], [], _ => ⟨pgs_nil, rfl, rfl⟩
  | [], _ :: _, h => absurd h Bool.false_ne_true
  | _ :: _, [], h => absurd h Bool.false_ne_true
  | i :: is, e :: es, h => by
    simp only [chkNs, Bool.and_eq_true] at h
    obtain ⟨h1, h2⟩ := h
    obtain ⟨g1, g2, g3⟩ := names_ok g h2
    cases e with
    | Name x pos =>
      simp only [Bool.and_eq_true, decide_eq_true_eq] at h1
      obtain ⟨l1, l2⟩ := loc_of g h1.2
      refine ⟨pgs_cons (pg_name (by rw [g.hN]; exact g.nd) (by rw [g.hN]; exact h1.1) l1 l2) g1 rfl, ?_, ?_⟩
      · show (assignEach es X.env).length + 1 = is.length + 1
        rw [g2]
      · show List.findIdx? (·.1) ((false, assign (.Name x pos) X.env) :: assignEach es X.env) = none
        rw [List.findIdx?_cons, g3]; rfl
    | _ => exact absurd h1 Bool.false_ne_true
theorem tg_ok (g : Good G N so sc X XR M0 H0 E3 k) {tg : Tg} {e : Expr} (h : chkTg N so tg e = true) : PG X e (gOf X.K tg) := by
  cases tg with
  | nm i =>
    cases e with
    | Name x pos =>
      have h : (decide (N[i]? = some x) && isLoc so x) = true := h
      rw [Bool.and_eq_true, decide_eq_true_eq] at h
      obtain ⟨l1, l2⟩ := loc_of g h.2
      exact pg_name (by rw [g.hN]; exact g.nd) (by rw [g.hN]; exact h.1) l1 l2
    | _ => exact absurd h Bool.false_ne_true
  | tp is =>
    cases e with
    | Tuple es kk pos =>
      obtain ⟨g1, g2, g3⟩ := names_ok g (show chkNs N so is es = true from h)
      exact pg_tup g.calm g1 g2 g3
    | _ => exact absurd h Bool.false_ne_true
theorem z_lc' (g : Good G N so sc X XR M0 H0 E3 k) {m : Bool} {elt tgE iter : Expr} {ifs : List Expr} {scope : Scope} {own : List (Str × Nat)} {it : TL3} {tg : Tg} {tt : TB3} {te : T3} {pos : Pos} (hi : PI X tgE iter (LI X.K M0 H0 it)) (hb : blkC N sc scope own = true) (hsub : (tg.slots.all fun i => decide (i ∈ own.map (·.2))) = true) (htg : chkTg N scope tg tgE = true)
    (ht : ∀ {X' : Cx}, X'.K = X.K → Good G N scope (relS scope sc) X' XR M0 H0 noX k → PTs X' ifs (LT X.K M0 H0 tt)) (he : ∀ {X' : Cx}, X'.K = X.K → Good G N scope (relS scope sc) X' XR M0 H0 noX k → PE X' elt (LE X.K M0 H0 te)) (hp : plain iter = true) :
    PE X (.ListComp elt [⟨tgE, iter, ifs, 0⟩] scope pos) (LE X.K M0 H0 (comp3 m it tg tt te (own.map (·.2)))) :=
  z_lc g.calm (by rw [g.hN]; exact g.nd) hi (blkOk_by (by rw [g.hN, g.hsc]; exact hb)) (fun i hi => by
    rw [List.all_eq_true] at hsub
    exact of_decide_eq_true (hsub i hi)) (fun s H C cl fp => tg_ok g.blk htg) (fun s H C cl fp => ht rfl g.blk) (fun s H C cl fp => he rfl g.blk) (fold_of hp _)
end
end Z

namespace Z
open PySem PySem.Spec PyProof.Rows L2

theorem b2 {a b : Bool} (h : (a && b) = true) : a = true ∧ b = true := by rwa [Bool.and_eq_true] at h
theorem b3 {a b c : Bool} (h : (a && b && c) = true) : a = true ∧ b = true ∧ c = true := by
  obtain ⟨h, h3⟩ := b2 h
  obtain ⟨h1, h2⟩ := b2 h
  exact ⟨h1, h2, h3⟩
theorem b5 {a b c d e : Bool} (h : (a && b && c && d && e) = true) : a = true ∧ b = true ∧ c = true ∧ d = true ∧ e = true := by
  obtain ⟨h, h5⟩ := b2 h
  obtain ⟨h, h4⟩ := b2 h
  obtain ⟨h1, h2, h3⟩ := b3 h
  exact ⟨h1, h2, h3, h4, h5⟩
theorem b6 {a b c d e f : Bool} (h : (a && b && c && d && e && f) = true) : a = true ∧ b = true ∧ c = true ∧ d = true ∧ e = true ∧ f = true := by
  obtain ⟨h, h6⟩ := b2 h
  obtain ⟨h1, h2, h3, h4, h5⟩ := b5 h
  exact ⟨h1, h2, h3, h4, h5, h6⟩
theorem b7 {a b c d e f g : Bool} (h : (a && b && c && d && e && f && g) = true) : a = true ∧ b = true ∧ c = true ∧ d = true ∧ e = true ∧ f = true ∧ g = true := by
  obtain ⟨h, h7⟩ := b2 h
  obtain ⟨h1, h2, h3, h4, h5, h6⟩ := b6 h
  exact ⟨h1, h2, h3, h4, h5, h6, h7⟩
section
variable {G : GT} {N : List Str} {XR : XRel} {M0 : MH} {H0 : Hp} {k : Nat}
theorem z_loc' {so sc : Scope} {X : Cx} {E3 : X3} (g : Good G N so sc X XR M0 H0 E3 k) {i : Nat} {x : Str} {pos : Pos} (h : (decide (N[i]? = some x) && isVis sc x) = true) : PE X (.Name x pos) (LE X.K M0 H0 (loc3 i)) := by
  obtain ⟨h1, h2⟩ := b2 h
  have h1 := of_decide_eq_true h1
  obtain ⟨n1, n2⟩ := g.nm x (List.mem_of_getElem? h1)
  exact z_loc (pe_var (by rw [g.hN]; exact h1) (vis_of g h2) n1 n2)
theorem z_call' {so sc : Scope} {X : Cx} {E3 : X3} (g : Good G N so sc X XR M0 H0 E3 k) {j : Nat} {f : Str} {e : Expr} {es : List Expr} {te : T3} {tl : TL3} {p pos : Pos} (hj : nmF G j f = true) (hg : isGl sc f = true) (hd : (!(f == ("__debug__" : Str))) = true) (he : PE X e (LE X.K M0 H0 te)) (hes : PA X es (LA X.K M0 H0 tl)) (pe : plain e = true) (ps : ∀ e ∈ es, plain e = true) :
    PE X (.Call (.Name f p) (e :: es) [] pos) (LE X.K M0 H0 (callG G j E3 (cons3 te tl))) := by
  unfold nmF at hj
  unfold callG
  split at hj
  · rename_i x r q
    obtain ⟨n, sp⟩ := r
    have hj := of_decide_eq_true hj
    subst hj
    rw [q]
    exact z_call (g.fns x n sp (nth_mem q)) g.room g.out (gl_of g hg) (z_cons he hes (star_of pe _ _)) (by simpa using hd) (star_of pe _ _) (any_of ps)
  · cases hj
theorem z_blt' {so sc : Scope} {X : Cx} {E3 : X3} (g : Good G N so sc X XR M0 H0 E3 k) {b : Bt} {e : Expr} {es : List Expr} {te : T3} {tl : TL3} {p pos : Pos} (hg : isGl sc (Str.ofString b.name) = true) (hm : decide (Str.ofString b.name ∈ G.bn) = true) (he : PE X e (LE X.K M0 H0 te)) (hes : PA X es (LA X.K M0 H0 tl)) (pe : plain e = true) (ps : ∀ e ∈ es, plain e = true) :
    PE X (.Call (.Name (Str.ofString b.name) p) (e :: es) [] pos) (LE X.K M0 H0 (opL b.ol (cons3 te tl))) := by
  have hm := g.blt _ (of_decide_eq_true hm)
  obtain ⟨n1, n2⟩ := nm_b b
  cases t : b.isTy with
  | true => exact z_callTy (bt_t g.calm b t) (gl_of g hg) hm (boot_t b t) (z_cons he hes (star_of pe _ _)) n1 n2 (star_of pe _ _) (any_of ps)
  | false => exact z_callB (bt_b g.calm g.hu b t) (gl_of g hg) hm (boot_b b t) (z_cons he hes (star_of pe _ _)) n1 n2 (star_of pe _ _) (any_of ps)
theorem z_isi' {so sc : Scope} {X : Cx} {E3 : X3} (g : Good G N so sc X XR M0 H0 E3 k) {T : Ty} {e : Expr} {te : T3} {p p2 pos : Pos} (h1 : isGl sc ("isinstance" : Str) = true) (h2 : decide (("isinstance" : Str) ∈ G.bn) = true) (h3 : isGl sc (Str.ofString T.name) = true) (h4 : decide (Str.ofString T.name ∈ G.bn) = true) (he : PE X e (LE X.K M0 H0 te)) (pe : plain e = true) :
    PE X (.Call (.Name "isinstance" p) [e, .Name (Str.ofString T.name) p2] [] pos) (LE X.K M0 H0 (op1 (isi3 T) te)) := by
  obtain ⟨b1, b2, b3⟩ := boot_ty T
  exact z_isi rfl (gl_of g h1) (g.blt _ (of_decide_eq_true h2)) (gl_of g h3) (g.blt _ (of_decide_eq_true h4)) b1 b2 b3 he (by rw [star_of pe]; rfl) rfl
theorem z_mth' {so sc : Scope} {X : Cx} {E3 : X3} (g : Good G N so sc X XR M0 H0 E3 k) {m : Mt} {o e : Expr} {es : List Expr} {to te : T3} {tl : TL3} {apos cpos : Pos} (hb : ∀ nm env, attributeBase o nm env (eval o env) = eval o env) (hl : (apos.endLine == cpos.line) = true) (h9 : decide (es.length < 9) = true)
    (ho : PE X o (LE X.K M0 H0 to)) (he : PE X e (LE X.K M0 H0 te)) (hes : PA X es (LA X.K M0 H0 tl)) (pe : plain e = true) (ps : ∀ e ∈ es, plain e = true) : PE X (.Call (.Attribute o (Str.ofString m.name) apos) (e :: es) [] cpos) (LE X.K M0 H0 (mth3 m to (cons3 te tl))) := by
  refine z_mth rfl (mt_pa m) (mt_slot m) (mt_ty m) (zm_all g.hu m) ho (z_cons he hes (star_of pe _ _)) (hb _ _) ?_ hl (star_of pe _ _) (any_of ps)
  have h9 := of_decide_eq_true h9
  have a := all_of (pos := cpos) (env := X.env) (es := e :: es) (fun e' h => by rcases List.mem_cons.mp h with rfl | h; exact pe; exact ps _ h)
  rw [a]
  show (true && true && decide ((e :: es).length + 0 + 0 < 30)) = true
  rw [decide_eq_true (by rw [List.length_cons]; omega)]; rfl
/-- a walked thing -/
theorem z_it {so sc : Scope} {X : Cx} {E3 : X3} (g : Good G N so sc X XR M0 H0 E3 k) {ik : IK} {e t : Expr} {tl : TL3} {cl : List Expr → Bool} (h : chkI G ik sc e t cl = true) (hl : ∀ es, cl es = true → PA X es (LA X.K M0 H0 tl) ∧ ∀ e ∈ es, plain e = true) (h1 : ∀ e, cl [e] = true → ∃ te, tl = cons3 te nil3 ∧ PE X e (LE X.K M0 H0 te)) :
    PI X t e (LI X.K M0 H0 (wi ik tl)) ∧ plain e = true := by
  cases ik with
  | seq =>
    obtain ⟨te, rfl, he⟩ := h1 e h
    refine ⟨?_, (hl [e] h).2 e (by simp)⟩
    exact z_iter (tg := t) rfl he
  | rng1 =>
    dsimp only [chkI] at h
    split at h
    · rename_i y py a pos
      obtain ⟨h, h4⟩ := b2 h
      obtain ⟨h1, h2, h3⟩ := b3 h
      obtain ⟨hp, hq⟩ := hl _ h4
      have h1 := of_decide_eq_true h1
      subst h1
      exact ⟨z_irng1 (gl_of g h2) (g.blt _ (of_decide_eq_true h3)) hp (by rw [star_of (hq a (by simp))]; rfl), rfl⟩
    · cases h
  | rng2 =>
    dsimp only [chkI] at h
    split at h
    · rename_i y py a b pos
      obtain ⟨h, h4⟩ := b2 h
      obtain ⟨h1, h2, h3⟩ := b3 h
      obtain ⟨hp, hq⟩ := hl _ h4
      have h1 := of_decide_eq_true h1
      subst h1
      exact ⟨z_irng2 (gl_of g h2) (g.blt _ (of_decide_eq_true h3)) hp (by rw [star_of (hq a (by simp)), star_of (hq b (by simp))]; rfl) (by rw [star_of (hq b (by simp))]; rfl), rfl⟩
    · cases h
  | enm =>
    dsimp only [chkI] at h
    split at h
    · rename_i y py a pos el kk tp
      obtain ⟨h, h4⟩ := b2 h
      obtain ⟨h1, h2, h3⟩ := b3 h
      obtain ⟨hp, hq⟩ := hl _ h4
      have h1 := of_decide_eq_true h1
      subst h1
      exact ⟨z_ienum rfl (gl_of g h2) (g.blt _ (of_decide_eq_true h3)) hp (by rw [star_of (hq a (by simp))]; rfl), rfl⟩
    · cases h
theorem wpl_one {x : Ex} {E3 : X3} : wpl G [x] E3 = cons3 (wpe G x E3) nil3 := rfl
theorem chkL_one {xs : List Ex} {sc : Scope} {e : Expr} (h : chkL G N xs sc [e] = true) : ∃ x, xs = [x] ∧ chkE G N x sc e = true := by
  cases xs with
  | nil => exact absurd h Bool.false_ne_true
  | cons x r =>
    obtain ⟨h1, h2⟩ := b2 (show (chkE G N x sc e && chkL G N r sc []) = true from h)
    cases r with
    | nil => exact ⟨x, rfl, h1⟩
    | cons y r => exact absurd h2 Bool.false_ne_true
theorem z_fmt {K : PySem.W.Frag} {X : Cx} {M0 : MH} {H0 : Hp} {e : Expr} {te : T3} {pos : Pos} (he : PE X e (LE K M0 H0 te)) : PE X (.FormattedValue e (-1) none pos) (LE K M0 H0 (op1 fmt3 te)) := (pe_fmt he).imp fun σ H Q ⟨en, M, P, rs, rm, ev, t, c⟩ =>
  LE.then rs rm ev t fun d M1 v1 H1 t1 r1 rs1 rm1 ev1 e1 => by
    cases d with
    | str y =>
      have r1 := rp_str r1
      subst r1
      exact .inl ⟨y, rfl, t1.1, c (.str y) M1 _ H1 t1.2 rfl rm1 e1⟩
    | int i =>
      have r1 := rp_int r1
      subst r1
      exact .inr ⟨i, rfl, t1.1, c (.str (toString i)) M1 _ H1 t1.2 rfl rm1 e1⟩
    | _ => exact t1.elim
theorem ljs {K : PySem.W.Frag} {M0 : MH} {H0 : Hp} : ∀ (ts : List T3) (acc : Str) (σ : L2.St) (H : Hp) (Q : Str → Hp → Prop), (∃ e M P, RS K M H e σ ∧ RM K M H ∧ Ev M0 H0 M H ∧ jsW ts acc e M P ∧ ∀ out M' H', P out M' → RM K M' H' → Ev M H M' H' → Q out H') → tJs (ts.map (LE K M0 H0)) acc σ H Q
  | [], acc, σ, H, Q, ⟨e, M, P, rs, rm, ev, t, c⟩ => c acc M H t rm (Ev.refl _ _)
  | t :: ts, acc, σ, H, Q, ⟨e, M, P, rs, rm, ev, tt, c⟩ => LE.then rs rm ev tt fun d M1 v1 H1 t1 r1 rs1 rm1 ev1 e1 => by
    cases d with
    | str y =>
      have r1 := rp_str r1
      subst r1
      exact ⟨y, rfl, t1.1, ljs ts (acc ++ y) σ H1 Q ⟨e, M1, P, rs1, rm1, ev1, t1.2, fun out M' H' p m ev' => c out M' H' p m (e1.trans ev')⟩⟩
    | _ => exact t1.elim
theorem z_js {K : PySem.W.Frag} {X : Cx} {M0 : MH} {H0 : Hp} {e1 e2 : Expr} {es : List Expr} {ts : List T3} {pos : Pos} (h : PJ X (e1 :: e2 :: es) (ts.map (LE K M0 H0))) : PE X (.JoinedStr (e1 :: e2 :: es) pos) (LE K M0 H0 (js3 ts)) := (pe_joined h).imp fun σ H Q ⟨en, M, P, rs, rm, ev, t, c⟩ =>
  ljs ts Str.empty σ H _ ⟨en, M, _, rs, rm, ev, t, fun out M' H' p m ev' => c (.str out) M' (.str out) H' p rfl m ev'⟩
mutual
theorem sE : ∀ (ex : Ex) {so sc : Scope} {X : Cx} {E3 : X3} {e : Expr}, Good G N so sc X XR M0 H0 E3 k → chkE G N ex sc e = true → PE X e (LE X.K M0 H0 (wpe G ex E3))
  | .loc i, so, sc, X, E3, e, g, h => by
    dsimp only [chkE] at h
    split at h
    · exact z_loc' g h
    · cases h
  | .non, so, sc, X, E3, e, g, h => by
    dsimp only [chkE] at h
    split at h
    · exact z_con pe_non fun _ _ => rfl
    · cases h
  | .bl b, so, sc, X, E3, e, g, h => by
    dsimp only [chkE] at h
    split at h
    · have h := eq_of_beq h
      subst h
      exact z_con pe_bl fun _ _ => rfl
    · cases h
  | .int i, so, sc, X, E3, e, g, h => by
    dsimp only [chkE] at h
    split at h
    · have h := of_decide_eq_true h
      subst h
      exact z_con pe_int fun _ _ => rfl
    · cases h
  | .str x, so, sc, X, E3, e, g, h => by
    dsimp only [chkE] at h
    split at h
    · have h := of_decide_eq_true h
      subst h
      exact z_con pe_str fun _ _ => rfl
    · cases h
  | .glo j, so, sc, X, E3, e, g, h => by
    dsimp only [chkE] at h
    split at h
    · rename_i y pos
      obtain ⟨h1, h2, h3⟩ := b3 h
      unfold nmC at h1
      split at h1
      · rename_i x d q
        have h1 := of_decide_eq_true h1
        subst h1
        obtain ⟨v, u, g1, g2, g3⟩ := g.cst x d (nth_mem q)
        have : wpe G (.glo j) E3 = con3 d := by
          show cstG G j = _
          unfold cstG
          rw [q]
        rw [this]
        exact z_con (pe_glob (gl_of g h2) g1 g2 (by simpa using h3)) g3
      · cases h1
    · cases h
  | .bin o a b, so, sc, X, E3, e, g, h => by
    dsimp only [chkE] at h
    split at h
    · obtain ⟨h1, h2, h3⟩ := b3 h
      rw [beqOp_ok h1]
      exact z_op (bo_ok o) (sE a g h2) (sE b g h3)
    · cases h
  | .addM a b, so, sc, X, E3, e, g, h => by
    dsimp only [chkE] at h
    split at h
    · obtain ⟨h1, h2, h3⟩ := b3 h
      rw [beqOp_ok h1]
      exact z_op zo_addM (sE a g h2) (sE b g h3)
    · cases h
  | .neg a, so, sc, X, E3, e, g, h => by
    dsimp only [chkE] at h
    split at h
    · exact z_un zo_neg (sE a g h)
    · cases h
  | .cmp o a b, so, sc, X, E3, e, g, h => by
    dsimp only [chkE] at h
    split at h
    · obtain ⟨h1, h2, h3⟩ := b3 h
      rw [beqCm_ok h1]
      exact z_cmp (co_ok g.hu o) (sE a g h2) (sE b g h3) (mark_of (plain_of h3))
    · cases h
  | .chn o o' a b c, so, sc, X, E3, e, g, h => by
    dsimp only [chkE] at h
    split at h
    · obtain ⟨h1, h2, h3, h4, h5⟩ := b5 h
      rw [beqCm_ok h1, beqCm_ok h2]
      exact z_chain (co_ok g.hu o) (co_ok g.hu o') (sE a g h3) (sE b g h4) (sE c g h5) (by
        show behindInMarks o'.op _ = false
        exact mark_of (plain_of h5))
    · cases h
  | .bol kk es, so, sc, X, E3, e, g, h => by
    dsimp only [chkE] at h
    split at h
    · rename_i op vs pos
      obtain ⟨h1, h2⟩ := b2 h
      cases op with
      | And =>
        have h1 : kk = true := h1
        subst h1
        exact sVa es g h2
      | Or =>
        have h1 : kk = false := by simpa using h1
        subst h1
        exact sVo es g h2
    · cases h
  | .nt a, so, sc, X, E3, e, g, h => by
    dsimp only [chkE] at h
    split at h
    · exact z_vnot (sE a g h)
    · cases h
  | .ite c a b, so, sc, X, E3, e, g, h => by
    dsimp only [chkE] at h
    split at h
    · obtain ⟨h1, h2, h3⟩ := b3 h
      exact z_ite (sT c g h1) (sE a g h2) (sE b g h3)
    · cases h
  | .tup es, so, sc, X, E3, e, g, h => by
    dsimp only [chkE] at h
    split at h
    · exact z_tup (sL es g h)
    · cases h
  | .lst m es, so, sc, X, E3, e, g, h => by
    dsimp only [chkE] at h
    split at h
    · cases m with
      | true => exact z_lstM (sL es g h)
      | false => exact z_lst (sL es g h)
    · cases h
  | .idx a b, so, sc, X, E3, e, g, h => by
    dsimp only [chkE] at h
    split at h
    · obtain ⟨h1, h2⟩ := b2 h
      exact z_ix (zi_ix (by have := g.hu; omega)) (sE a g h1) (sE b g h2) (plainIx_of (plain_of h2))
    · cases h
  | .sli a lo hi, so, sc, X, E3, e, g, h => by
    dsimp only [chkE] at h
    split at h
    · obtain ⟨h1, h2, h3⟩ := b3 h
      exact z_sl rfl (sE a g h1) (sO lo g h2) (sO hi g h3)
    · cases h
  | .rev a, so, sc, X, E3, e, g, h => by
    dsimp only [chkE] at h
    split at h
    · exact z_rev rfl (sE a g h)
    · cases h
  | .call j x xs, so, sc, X, E3, e, g, h => by
    dsimp only [chkE] at h
    split at h
    · obtain ⟨h1, h2, h3, h4, h5⟩ := b5 h
      exact z_call' g h1 h2 h3 (sE x g h4) (sL xs g h5) (plain_of h4) (plainL_of h5)
    · cases h
  | .blt b x xs, so, sc, X, E3, e, g, h => by
    dsimp only [chkE] at h
    split at h
    · obtain ⟨h1, h2, h3, h4, h5⟩ := b5 h
      have h1 := of_decide_eq_true h1
      subst h1
      exact z_blt' g h2 h3 (sE x g h4) (sL xs g h5) (plain_of h4) (plainL_of h5)
    · cases h
  | .isi T x, so, sc, X, E3, e, g, h => by
    dsimp only [chkE] at h
    split at h
    · obtain ⟨h1, h2, h3, h4, h5, h6, h7⟩ := b7 h
      have h1 := of_decide_eq_true h1
      have h4 := of_decide_eq_true h4
      subst h1 h4
      exact z_isi' g h2 h3 h5 h6 (sE x g h7) (plain_of h7)
    · cases h
  | .mth m o x xs, so, sc, X, E3, e, g, h => by
    dsimp only [chkE] at h
    split at h
    · obtain ⟨h1, h2, h3, h4, h5, h6⟩ := b6 h
      have h1 := of_decide_eq_true h1
      subst h1
      exact z_mth' g (fun _ _ => base_of h4) h2 h3 (sE o g h4) (sE x g h5) (sL xs g h6) (plain_of h5) (plainL_of h6)
    · cases h
  | .comp m elt tg ik its ifs own, so, sc, X, E3, e, g, h => by
    dsimp only [chkE] at h
    split at h
    · obtain ⟨h1, h2, h3, h4, h5, h6, h7⟩ := b7 h
      have h1 := of_decide_eq_true h1
      subst h1
      obtain ⟨p1, p2⟩ := z_it (tl := wpl G its E3) g h4 (fun es he => ⟨sL its g he, plainL_of he⟩) (fun e he => sL1 its g he)
      exact z_lc' g p1 h2 h3 h5 (fun hk g' => by rw [← hk]; exact sC ifs g' h6) (fun hk g' => by rw [← hk]; exact sE elt g' h7) p2
    · cases h
  | .newK m, so, sc, X, E3, e, g, h => by
    dsimp only [chkE] at h
    split at h
    · exact z_newK
    · cases h
  | .newT, so, sc, X, E3, e, g, h => by
    dsimp only [chkE] at h
    split at h
    · exact z_newT
    · cases h
  | .dis m kvs, so, sc, X, E3, e, g, h => by
    dsimp only [chkE] at h
    split at h
    · obtain ⟨h1, h2, h3⟩ := b3 h
      obtain ⟨p1, p2, p3⟩ := sP kvs g h1
      exact z_disp (p1 _) p2 p3 (of_decide_eq_true h2) (of_decide_eq_true h3)
    · cases h
  | .fmt x, so, sc, X, E3, e, g, h => by
    dsimp only [chkE] at h
    split at h
    · obtain ⟨h1, h2⟩ := b2 h
      have h1 := of_decide_eq_true h1
      subst h1
      exact z_fmt (sE x g h2)
    · cases h
  | .js x y xs, so, sc, X, E3, e, g, h => by
    dsimp only [chkE] at h
    split at h
    · obtain ⟨h1, h2, h3⟩ := b3 h
      exact z_js (ts := wpe G x E3 :: wpe G y E3 :: wpj G xs E3) (PJ.cons (sE x g h1) (PJ.cons (sE y g h2) (sJ xs g h3)))
    · cases h
theorem sT : ∀ (ex : Ex) {so sc : Scope} {X : Cx} {E3 : X3} {e : Expr}, Good G N so sc X XR M0 H0 E3 k → chkT G N ex sc e = true → PT X e (LT X.K M0 H0 (wpt G ex E3))
  | .cmp o a b, so, sc, X, E3, e, g, h => by
    dsimp only [chkT] at h
    split at h
    · obtain ⟨h1, h2, h3⟩ := b3 h
      rw [beqCm_ok h1]
      exact z_tcmp (co_ok g.hu o) (sE a g h2) (sE b g h3) (mark_of (plain_of h3))
    · cases h
  | .chn o o' a b c, so, sc, X, E3, e, g, h => by
    dsimp only [chkT] at h
    split at h
    · obtain ⟨h1, h2, h3, h4, h5⟩ := b5 h
      rw [beqCm_ok h1, beqCm_ok h2]
      exact z_tchain (co_ok g.hu o) (co_ok g.hu o') (sE a g h3) (sE b g h4) (sE c g h5) (by
        show behindInMarks o'.op _ = false
        exact mark_of (plain_of h5))
    · cases h
  | .bol kk es, so, sc, X, E3, e, g, h => by
    dsimp only [chkT] at h
    split at h
    · rename_i op vs pos
      obtain ⟨h1, h2⟩ := b2 h
      cases op with
      | And =>
        have h1 : kk = true := h1
        subst h1
        exact (sBa es g h2).pt
      | Or =>
        have h1 : kk = false := by simpa using h1
        subst h1
        exact (sBo es g h2).pt
    · cases h
  | .nt a, so, sc, X, E3, e, g, h => by
    dsimp only [chkT] at h
    split at h
    · exact z_not (sT a g h)
    · cases h
  | .loc i, so, sc, X, E3, e, g, h => by
    dsimp only [chkT] at h
    split at h
    · exact z_truth rfl (z_loc' g h) fun _ => rfl
    · cases h
  | .idx a b, so, sc, X, E3, e, g, h => by
    dsimp only [chkT] at h
    split at h
    · obtain ⟨h1, h2⟩ := b2 h
      exact z_truth rfl (z_ix (zi_ix (by have := g.hu; omega)) (sE a g h1) (sE b g h2) (plainIx_of (plain_of h2))) fun _ => rfl
    · cases h
  | .call j x xs, so, sc, X, E3, e, g, h => by
    dsimp only [chkT] at h
    split at h
    · obtain ⟨h1, h2, h3, h4, h5⟩ := b5 h
      exact z_truth rfl (z_call' g h1 h2 h3 (sE x g h4) (sL xs g h5) (plain_of h4) (plainL_of h5)) fun _ => rfl
    · cases h
  | .blt b x xs, so, sc, X, E3, e, g, h => by
    dsimp only [chkT] at h
    split at h
    · obtain ⟨h1, h2, h3, h4, h5⟩ := b5 h
      have h1 := of_decide_eq_true h1
      subst h1
      exact z_truth rfl (z_blt' g h2 h3 (sE x g h4) (sL xs g h5) (plain_of h4) (plainL_of h5)) fun _ => rfl
    · cases h
  | .isi T x, so, sc, X, E3, e, g, h => by
    dsimp only [chkT] at h
    split at h
    · obtain ⟨h1, h2, h3, h4, h5, h6, h7⟩ := b7 h
      have h1 := of_decide_eq_true h1
      have h4 := of_decide_eq_true h4
      subst h1 h4
      exact z_truth rfl (z_isi' g h2 h3 h5 h6 (sE x g h7) (plain_of h7)) fun _ => rfl
    · cases h
  | .mth m o x xs, so, sc, X, E3, e, g, h => by
    dsimp only [chkT] at h
    split at h
    · obtain ⟨h1, h2, h3, h4, h5, h6⟩ := b6 h
      have h1 := of_decide_eq_true h1
      subst h1
      exact z_truth rfl (z_mth' g (fun _ _ => base_of h4) h2 h3 (sE o g h4) (sE x g h5) (sL xs g h6) (plain_of h5) (plainL_of h6)) fun _ => rfl
    · cases h
  | .non, _, _, _, _, _, _, h => absurd h Bool.false_ne_true
  | .bl _, _, _, _, _, _, _, h => absurd h Bool.false_ne_true
  | .int _, _, _, _, _, _, _, h => absurd h Bool.false_ne_true
  | .str _, _, _, _, _, _, _, h => absurd h Bool.false_ne_true
  | .glo _, _, _, _, _, _, _, h => absurd h Bool.false_ne_true
  | .bin _ _ _, _, _, _, _, _, _, h => absurd h Bool.false_ne_true
  | .addM _ _, _, _, _, _, _, _, h => absurd h Bool.false_ne_true
  | .neg _, _, _, _, _, _, _, h => absurd h Bool.false_ne_true
  | .ite _ _ _, _, _, _, _, _, _, h => absurd h Bool.false_ne_true
  | .tup _, _, _, _, _, _, _, h => absurd h Bool.false_ne_true
  | .lst _ _, _, _, _, _, _, _, h => absurd h Bool.false_ne_true
  | .sli _ _ _, _, _, _, _, _, _, h => absurd h Bool.false_ne_true
  | .rev _, _, _, _, _, _, _, h => absurd h Bool.false_ne_true
  | .comp _ _ _ _ _ _ _, _, _, _, _, _, _, h => absurd h Bool.false_ne_true
  | .newK _, _, _, _, _, _, _, h => absurd h Bool.false_ne_true
  | .newT, _, _, _, _, _, _, h => absurd h Bool.false_ne_true
  | .dis _ _, _, _, _, _, _, _, h => absurd h Bool.false_ne_true
  | .fmt _, _, _, _, _, _, _, h => absurd h Bool.false_ne_true
  | .js _ _ _, _, _, _, _, _, _, h => absurd h Bool.false_ne_true
theorem sL : ∀ (xs : List Ex) {so sc : Scope} {X : Cx} {E3 : X3} {es : List Expr}, Good G N so sc X XR M0 H0 E3 k → chkL G N xs sc es = true → PA X es (LA X.K M0 H0 (wpl G xs E3))
  | [], so, sc, X, E3, [], g, h => z_nil
  | [], so, sc, X, E3, _ :: _, g, h => absurd h Bool.false_ne_true
  | x :: xs, so, sc, X, E3, [], g, h => absurd h Bool.false_ne_true
  | x :: xs, so, sc, X, E3, e :: es, g, h => by
    obtain ⟨h1, h2⟩ := b2 (show (chkE G N x sc e && chkL G N xs sc es) = true from h)
    exact z_cons (sE x g h1) (sL xs g h2) (star_of (plain_of h1) _ _)
theorem sJ : ∀ (xs : List Ex) {so sc : Scope} {X : Cx} {E3 : X3} {es : List Expr}, Good G N so sc X XR M0 H0 E3 k → chkL G N xs sc es = true → PJ X es ((wpj G xs E3).map (LE X.K M0 H0))
  | [], so, sc, X, E3, es, g, h => by
    cases es with
    | nil => exact .nil
    | cons _ _ => exact absurd h Bool.false_ne_true
  | x :: xs, so, sc, X, E3, es, g, h => by
    cases es with
    | nil => exact absurd h Bool.false_ne_true
    | cons e es =>
      obtain ⟨h1, h2⟩ := b2 (show (chkE G N x sc e && chkL G N xs sc es) = true from h)
      exact .cons (sE x g h1) (sJ xs g h2)
theorem sL1 : ∀ (xs : List Ex) {so sc : Scope} {X : Cx} {E3 : X3} {e : Expr}, Good G N so sc X XR M0 H0 E3 k → chkL G N xs sc [e] = true → ∃ te, wpl G xs E3 = cons3 te nil3 ∧ PE X e (LE X.K M0 H0 te)
  | [], so, sc, X, E3, e, g, h => absurd h Bool.false_ne_true
  | x :: xs, so, sc, X, E3, e, g, h => by
    obtain ⟨h1, h2⟩ := b2 (show (chkE G N x sc e && chkL G N xs sc []) = true from h)
    cases xs with
    | nil => exact ⟨_, rfl, sE x g h1⟩
    | cons y r => exact absurd h2 Bool.false_ne_true
theorem sVa : ∀ (xs : List Ex) {so sc : Scope} {X : Cx} {E3 : X3} {es : List Expr} {pos : Pos}, Good G N so sc X XR M0 H0 E3 k → chkL G N xs sc es = true → PE X (.BoolOp .And es pos) (LE X.K M0 H0 (wpv G true xs E3))
  | [], so, sc, X, E3, es, pos, g, h => ⟨fun _ _ _ _ _ _ ⟨_, _, _, _, _, _, t, _⟩ => t.elim⟩
  | [x], so, sc, X, E3, es, pos, g, h => by
    cases es with
    | nil => exact absurd h Bool.false_ne_true
    | cons e es =>
      obtain ⟨h1, h2⟩ := b2 (show (chkE G N x sc e && chkL G N [] sc es) = true from h)
      cases es with
      | nil => exact pe_one (sE x g h1)
      | cons _ _ => exact absurd h2 Bool.false_ne_true
  | x :: y :: r, so, sc, X, E3, es, pos, g, h => by
    cases es with
    | nil => exact absurd h Bool.false_ne_true
    | cons e es =>
      obtain ⟨h1, h2⟩ := b2 (show (chkE G N x sc e && chkL G N (y :: r) sc es) = true from h)
      cases es with
      | nil => exact absurd h2 Bool.false_ne_true
      | cons e' es => exact z_vand (sE x g h1) (sVa (y :: r) g h2)
theorem sVo : ∀ (xs : List Ex) {so sc : Scope} {X : Cx} {E3 : X3} {es : List Expr} {pos : Pos}, Good G N so sc X XR M0 H0 E3 k → chkL G N xs sc es = true → PE X (.BoolOp .Or es pos) (LE X.K M0 H0 (wpv G false xs E3))
  | [], so, sc, X, E3, es, pos, g, h => ⟨fun _ _ _ _ _ _ ⟨_, _, _, _, _, _, t, _⟩ => t.elim⟩
  | [x], so, sc, X, E3, es, pos, g, h => by
    cases es with
    | nil => exact absurd h Bool.false_ne_true
    | cons e es =>
      obtain ⟨h1, h2⟩ := b2 (show (chkE G N x sc e && chkL G N [] sc es) = true from h)
      cases es with
      | nil => exact pe_one (sE x g h1)
      | cons _ _ => exact absurd h2 Bool.false_ne_true
  | x :: y :: r, so, sc, X, E3, es, pos, g, h => by
    cases es with
    | nil => exact absurd h Bool.false_ne_true
    | cons e es =>
      obtain ⟨h1, h2⟩ := b2 (show (chkE G N x sc e && chkL G N (y :: r) sc es) = true from h)
      cases es with
      | nil => exact absurd h2 Bool.false_ne_true
      | cons e' es => exact z_vor (sE x g h1) (sVo (y :: r) g h2)
theorem sBa : ∀ (xs : List Ex) {so sc : Scope} {X : Cx} {E3 : X3} {es : List Expr} {pos : Pos}, Good G N so sc X XR M0 H0 E3 k → chkTL G N xs sc es = true → PW X (.BoolOp .And es pos) (LT X.K M0 H0 (wpb G true xs E3))
  | [], so, sc, X, E3, es, pos, g, h => ⟨fun _ _ _ _ _ _ _ ⟨_, _, _, _, _, _, t, _⟩ => t.elim⟩
  | [x], so, sc, X, E3, es, pos, g, h => by
    cases es with
    | nil => exact absurd h Bool.false_ne_true
    | cons e es =>
      obtain ⟨h1, h2⟩ := b2 (show (chkT G N x sc e && chkTL G N [] sc es) = true from h)
      cases es with
      | nil => exact z_wand1 (sT x g h1)
      | cons _ _ => exact absurd h2 Bool.false_ne_true
  | x :: y :: r, so, sc, X, E3, es, pos, g, h => by
    cases es with
    | nil => exact absurd h Bool.false_ne_true
    | cons e es =>
      obtain ⟨h1, h2⟩ := b2 (show (chkT G N x sc e && chkTL G N (y :: r) sc es) = true from h)
      cases es with
      | nil => exact absurd h2 Bool.false_ne_true
      | cons e' es => exact z_wand (sT x g h1) (sBa (y :: r) g h2)
theorem sBo : ∀ (xs : List Ex) {so sc : Scope} {X : Cx} {E3 : X3} {es : List Expr} {pos : Pos}, Good G N so sc X XR M0 H0 E3 k → chkTL G N xs sc es = true → PW X (.BoolOp .Or es pos) (LT X.K M0 H0 (wpb G false xs E3))
  | [], so, sc, X, E3, es, pos, g, h => ⟨fun _ _ _ _ _ _ _ ⟨_, _, _, _, _, _, t, _⟩ => t.elim⟩
  | [x], so, sc, X, E3, es, pos, g, h => by
    cases es with
    | nil => exact absurd h Bool.false_ne_true
    | cons e es =>
      obtain ⟨h1, h2⟩ := b2 (show (chkT G N x sc e && chkTL G N [] sc es) = true from h)
      cases es with
      | nil => exact z_wor1 (sT x g h1)
      | cons _ _ => exact absurd h2 Bool.false_ne_true
  | x :: y :: r, so, sc, X, E3, es, pos, g, h => by
    cases es with
    | nil => exact absurd h Bool.false_ne_true
    | cons e es =>
      obtain ⟨h1, h2⟩ := b2 (show (chkT G N x sc e && chkTL G N (y :: r) sc es) = true from h)
      cases es with
      | nil => exact absurd h2 Bool.false_ne_true
      | cons e' es => exact z_wor (sT x g h1) (sBo (y :: r) g h2)
theorem sO : ∀ (xs : List Ex) {so sc : Scope} {X : Cx} {E3 : X3} {e : Option Expr}, Good G N so sc X XR M0 H0 E3 k → chkO G N xs sc e = true → PO X e (LO X.K M0 H0 (wpo G xs E3))
  | [], so, sc, X, E3, none, g, h => z_pnone
  | [], so, sc, X, E3, some _, g, h => absurd h Bool.false_ne_true
  | x :: xs, so, sc, X, E3, none, g, h => absurd h Bool.false_ne_true
  | x :: xs, so, sc, X, E3, some e, g, h => by
    obtain ⟨h1, h2⟩ := b2 (show (chkE G N x sc e && xs.isEmpty) = true from h)
    exact z_psome (sE x g h1)
theorem sC : ∀ (xs : List Ex) {so sc : Scope} {X : Cx} {E3 : X3} {es : List Expr}, Good G N so sc X XR M0 H0 E3 k → chkC G N xs sc es = true → PTs X es (LT X.K M0 H0 (wpc G xs E3))
  | [], so, sc, X, E3, [], g, h => z_tnil
  | [], so, sc, X, E3, _ :: _, g, h => absurd h Bool.false_ne_true
  | x :: xs, so, sc, X, E3, es, g, h => by
    dsimp only [chkC] at h
    split at h
    · obtain ⟨h1, h2⟩ := b2 h
      exact z_tone (sT x g h1)
    · cases h
theorem sP : ∀ (xs : List Ex) {so sc : Scope} {X : Cx} {E3 : X3} {ks : List (Option Expr)} {vs : List Expr}, Good G N so sc X XR M0 H0 E3 k → chkP G N xs sc ks vs = true → (∀ pos, PPs X pos ks vs (LPs X.K M0 H0 (wpp G xs E3))) ∧ ks.all (·.isSome) = true ∧ ks.length = vs.length
  | [], so, sc, X, E3, ks, vs, g, h => by
    dsimp only [chkP] at h
    split at h
    · exact ⟨fun _ => pps_nil, rfl, rfl⟩
    · cases h
  | [_], so, sc, X, E3, ks, vs, g, h => absurd h Bool.false_ne_true
  | a :: b :: r, so, sc, X, E3, ks, vs, g, h => by
    dsimp only [chkP] at h
    split at h
    · rename_i ka kks vb vvs
      obtain ⟨h1, h2, h3⟩ := b3 h
      obtain ⟨p1, p2, p3⟩ := sP r g h3
      refine ⟨fun pos => pps_cons (sE a g h1) (sE b g h2) (p1 pos), ?_, ?_⟩
      · show (true && kks.all (·.isSome)) = true
        rw [p2]; rfl
      · rw [List.length_cons, List.length_cons, p3]
    · cases h
end
end
end Z

namespace Z
open PySem PySem.Spec PyProof.Rows L2

def isLC : Expr → Bool | .ListComp .. => true | _ => false
def isTu : Expr → Bool | .Tuple .. => true | _ => false
def lcScope : Expr → Scope → Scope | .ListComp _ _ s _, _ => s | _, s => s
/-- an assignment of a comprehension to a name is done in its block -/
def lcSwap (sc : Scope) (x : Str) (px : Pos) (p : Pos) (scope : Scope) : Bool :=
  (sc.names.lookup x == some .local) && (px.line == p.line) && !(scope.names.any fun z => z.1 == x && (z.2 == .local || z.2 == .cell))
/-- a pair is not stored by swapping: one of its names is no plain local one -/
def noSwap (sc : Scope) (t v : Expr) : Bool := !isTu v || (match t with
  | .Tuple ts _ _ => ts.any fun | .Name x _ => !(sc.names.lookup x == some .local) | _ => true
  | _ => false)
mutual
def chkS (G : GT) (N : List Str) (sc : Scope) : Sx → Stmt → Bool
  | .asg tg e, st => match st with
    | .Assign [t] v _ => chkE G N e sc v && (match tg with | .nm i => (match t with | .Name x _ => decide (N[i]? = some x) && isLoc sc x | _ => false) | .tp is => isTu t && chkTg N sc (.tp is) t && noSwap sc t v)
    | _ => false
  | .par i j a b, st => match st with
    | .Assign [.Tuple [.Name x px, .Name y py] _ _] (.Tuple [v, w] _ _) _ => decide (N[i]? = some x) && decide (N[j]? = some y) && decide (i ≠ j) && (sc.names.lookup x == some .local) && (sc.names.lookup y == some .local) && (py.line == px.line) && (!foldedForSure 8 v || !foldedForSure 8 w) && (!constantsAlone 8 v || !constantsAlone 8 w) && chkE G N a sc v && chkE G N b sc w
    | _ => false
  | .sput o i e, st => match st with
    | .Assign [.Subscript x y _] v _ => chkE G N o sc x && chkE G N i sc y && chkE G N e sc v
    | _ => false
  | .aug i k e, st => match st with
    | .AugAssign (.Name x _) op v _ => decide (N[i]? = some x) && isLoc sc x && (match op with | .Add => k | .Sub => !k | _ => false) && chkE G N e sc v
    | _ => false
  | .expr e, st => match st with
    | .Expr v _ => chkE G N e sc v && !isLC v
    | _ => false
  | .ret e, st => match st with
    | .Return (some v) _ => chkE G N e sc v
    | _ => false
  | .retN, st => match st with
    | .Return none _ => true
    | _ => false
  | .ifs c a b, st => match st with
    | .If t x y _ => chkT G N c sc t && chkSs G N sc a x && chkSs G N sc b y
    | _ => false
  | .fors tg ik its body, st => match st with
    | .For t it x [] _ => chkI G ik sc it t (chkL G N its sc) && chkTg N sc tg t && chkSs G N sc body x
    | _ => false
  | .whl c body, st => match st with
    | .While t x [] _ => chkT G N c sc t && chkSs G N sc body x
    | _ => false
  | .brk, st => match st with | .Break _ => true | _ => false
  | .cnt, st => match st with | .Continue _ => true | _ => false
  | .pss, st => match st with | .Pass _ => true | _ => false
  | .fz _, _ => false
  | .rse e, st => match st with
    | .Raise (some (.Call (.Name y _) [a] [] _)) none _ => decide (y = ("InvalidLine" : Str)) && isGl sc y && G.er && chkE G N e sc a
    | _ => false
  | .rseN, st => match st with
    | .Raise _ _ _ => true
    | _ => false
  | .tryR body k i, st => match st with
    | .Try bd [.ExceptHandler (some (.Name y _)) (some n) [.Return (some (.Tuple [.Constant (.str c) _ _, .Attribute (.Name n' _) f _] _ _)) _] _] [] [] _ =>
      decide (y = ("InvalidLine" : Str)) && isGl sc y && G.er && decide (N[i]? = some n) && (sc.names.lookup n == some .local) && decide (n' = n) && decide (f = ("number" : Str)) && decide (c = k) && chkSs G N sc body bd
    | _ => false
def chkSs (G : GT) (N : List Str) (sc : Scope) : List Sx → List Stmt → Bool
  | [], sts => match sts with | [] => true | _ => false
  | s :: r, sts => match s with
    | .fz _ => chkSs G N sc r sts
    | s => match sts with | st :: sts => chkS G N sc s st && chkSs G N sc r sts | [] => false
end
theorem swaps_plain {e : Expr} {t : Option Expr} {n : Nat} {env : Env} (hp : plain e = true) (h : isLC e = false) : swapsWith e t n env = pure false := by
  cases e <;> first | rfl | (exact absurd hp Bool.false_ne_true) | (exact absurd h.symm Bool.false_ne_true)
theorem swaps_tu {e t : Expr} {n : Nat} {env : Env} (hp : plain e = true) (h : isTu t = true) : swapsWith e (some t) n env = pure false := by
  cases t <;> first | (exact absurd h Bool.false_ne_true) | skip
  cases e <;> first | rfl | (exact absurd hp Bool.false_ne_true)
theorem swaps_sub {e o i : Expr} {p : Pos} {n : Nat} {env : Env} (hp : plain e = true) : swapsWith e (some (.Subscript o i p)) n env = pure false := by
  cases e <;> first | rfl | (exact absurd hp Bool.false_ne_true)
theorem stores_tu {e t : Expr} {env : Env} (h : isTu e = false) : swappedStores [t] e env = pure none := by
  cases e <;> first | (exact absurd h.symm Bool.false_ne_true) | skip
  all_goals (cases t <;> rfl)
theorem stores_sub {e o i : Expr} {p : Pos} {env : Env} : swappedStores [.Subscript o i p] e env = pure none := by
  cases e <;> rfl
theorem stores_no {sc : Scope} {e t : Expr} {env : Env} (hs : env.scope = sc) (h : noSwap sc t e = true) : swappedStores [t] e env = pure none := by
  unfold noSwap at h
  by_cases hu : isTu e = true
  · cases e with
    | Tuple vs k2 p2 =>
      cases t with
      | Tuple ts k p =>
        have h : (ts.any fun | .Name x _ => !(sc.names.lookup x == some .local) | _ => true) = true := h
        obtain ⟨z, hz, hz2⟩ := List.any_eq_true.mp h
        unfold swappedStores
        dsimp only
        by_cases h1 : (!(ts.length == 2 || ts.length == 3) || vs.length != ts.length || env.blockKind != .function) = true
        · exact if_pos h1
        refine (if_neg h1).trans ?_
        by_cases h2 : (vs.any fun | .Starred .. => true | _ => false) = true
        · exact if_pos h2
        refine (if_neg h2).trans ?_
        refine if_pos ?_
        rw [Bool.or_eq_true]
        left
        simp only [bne_iff_ne, ne_eq]
        intro q
        rw [List.filterMap_length_eq_length] at q
        have := q z hz
        cases z with
        | Name x pos =>
          dsimp only at this hz2
          have kx : env.kindOf x = sc.names.lookup x := by rw [← hs]; rfl
          rw [kx] at this
          have e0 : (sc.names.lookup x == some NameKind.local) = false := by simpa using hz2
          rw [e0] at this
          exact Bool.false_ne_true this
        | _ => exact Bool.false_ne_true this
      | _ => exact absurd h Bool.false_ne_true
    | _ => exact absurd hu Bool.false_ne_true
  · exact stores_tu (by simpa using hu)
theorem RS.swap {K : PySem.W.Frag} {M M' : MH} {H : Hp} {e : En} {σ : L2.St} (r : RS K M H e σ) (ev : Ev M H M' H) {i : Nat} {d d' : D} (hd : getE e i = some d) (f : ∀ v, Rp K M H d v → Rp K M' H d' v) : RS K M' H (setE e i d') σ := by
  obtain ⟨v, h1, h2⟩ := r.get i d hd
  have := (r.ev ev).set i (f v h2)
  rwa [List.set_getElem?_self' h1] at this
where
  List.set_getElem?_self' {α : Type} {l : List α} {i : Nat} {a : α} (h : l[i]? = some a) : l.set i a = l := by
    obtain ⟨h1, h2⟩ := List.getElem?_eq_some_iff.mp h
    rw [← h2]; exact List.set_getElem_self h1

section
variable {G : GT} {N : List Str} {XR : XRel} {M0 : MH} {H0 : Hp} {k : Nat}
theorem swaps_lc {sc : Scope} {X : Cx} {el : Expr} {gs : List Comprehension} {scope : Scope} {p px : Pos} {x : Str} {n : Nat} (hs : X.env.scope = sc) (bk : X.env.blockKind = .function) : swapsWith (.ListComp el gs scope p) (some (.Name x px)) n X.env = pure (lcSwap sc x px p scope) := by
  have h1 : swapsWith (.ListComp el gs scope p) (some (.Name x px)) n X.env = pure (X.env.blockKind == .function && X.env.kindOf x == some .local && px.line == p.line && !(scope.names.any fun z => z.1 == x && (z.2 == .local || z.2 == .cell))) := rfl
  rw [h1, bk]
  have h2 : X.env.kindOf x = sc.names.lookup x := by rw [← hs]; rfl
  rw [h2]
  rfl
theorem stores_two {sc : Scope} {X : Cx} {x y : Str} {px py pt pt2 : Pos} {kt k2 : Nat} {v w : Expr} (hs : X.env.scope = sc) (bk : X.env.blockKind = .function) (hx : (sc.names.lookup x == some .local) = true) (hy : (sc.names.lookup y == some .local) = true) (hxy : x ≠ y) (hl : (py.line == px.line) = true)
    (hf : (!foldedForSure 8 v || !foldedForSure 8 w) = true) (hc : (!constantsAlone 8 v || !constantsAlone 8 w) = true) (pv : plain v = true) (pw : plain w = true) :
    swappedStores [.Tuple [.Name x px, .Name y py] kt pt] (.Tuple [v, w] k2 pt2) X.env = pure (some [x, y]) := by
  have kx : X.env.kindOf x = sc.names.lookup x := by rw [← hs]; rfl
  have ky : X.env.kindOf y = sc.names.lookup y := by rw [← hs]; rfl
  have sv : ([v, w].any fun | .Starred .. => true | _ => false) = false := by
    cases v <;> first | (exact absurd pv Bool.false_ne_true) | skip
    all_goals (cases w <;> first | (exact absurd pw Bool.false_ne_true) | rfl)
  have ff : [v, w].all (foldedForSure 8) = false := by
    show (foldedForSure 8 v && (foldedForSure 8 w && true)) = false
    cases q : foldedForSure 8 v <;> cases q2 : foldedForSure 8 w <;> simp_all
  have cc : [v, w].all (constantsAlone 8) = false := by
    show (constantsAlone 8 v && (constantsAlone 8 w && true)) = false
    cases q : constantsAlone 8 v <;> cases q2 : constantsAlone 8 w <;> simp_all
  have hn : ([Expr.Name x px, Expr.Name y py].filterMap fun
    | .Name id pos => if X.env.kindOf id == some .local && pos.line == px.line then some id else none
    | _ => none) = [x, y] := by
    simp only [List.filterMap_cons, List.filterMap_nil, kx, ky, hx, hy, hl, beq_self_eq_true, Bool.and_self, if_true]
  have he : ([x, y].eraseDups.length != 2) = false := by
    have : (y == x) = false := by simpa using fun h : y = x => hxy h.symm
    simp [List.eraseDups, List.eraseDupsBy, List.eraseDupsBy.loop, this]
  unfold swappedStores
  dsimp only
  have e1 : (X.env.blockKind != ScopeKind.function) = false := by rw [bk]; rfl
  have hh : ([Expr.Name x px, Expr.Name y py].head?.map (·.pos.line)).getD 0 = px.line := rfl
  simp only [e1]
  refine (if_neg (by show ¬ false = true; exact Bool.false_ne_true)).trans ?_
  refine (if_neg (by
    intro z
    exact Bool.false_ne_true (sv.symm.trans z))).trans ?_
  have hn2 := hn
  refine (if_neg (fun z => ?_)).trans ?_
  · have z2 : (([x, y] : List Str).length != 2 || ([x, y] : List Str).eraseDups.length != ([x, y] : List Str).length) = true := by
      rw [← hn]; exact z
    rw [show (([x, y] : List Str).length != 2) = false from rfl, Bool.false_or] at z2
    exact Bool.false_ne_true (he.symm.trans z2)
  · refine (if_neg (by rw [ff]; exact Bool.false_ne_true)).trans ?_
    refine (if_neg (by rw [cc]; exact Bool.false_ne_true)).trans ?_
    exact congrArg (fun l => (pure (some l) : Sem (Option (List Str)))) hn
end
end Z

namespace Z
open PySem PySem.Spec PyProof.Rows L2
section
variable {G : GT} {N : List Str} {XR : XRel} {M0 : MH} {H0 : Hp} {k : Nat} {sc : Scope} {X : Cx} {E3 : X3}
theorem sole {t v : Expr} {n : Nat} {env : Env} : swapsWithSole [t] v n env = swapsWith v (some t) n env := rfl
theorem name_of (g : Good G N sc sc X XR M0 H0 E3 k) {i : Nat} {x : Str} (h1 : decide (N[i]? = some x) = true) (h2 : isLoc sc x = true) : X.N.Nodup ∧ X.N[i]? = some x ∧ Loc X.env.scope x ∧ (X.fn x = true ∨ X.env.scope.names.lookup x = some .local) := by
  obtain ⟨l1, l2⟩ := loc_of g h2
  exact ⟨by rw [g.hN]; exact g.nd, by rw [g.hN]; exact of_decide_eq_true h1, l1, l2⟩
theorem z_setlc' (g : Good G N sc sc X XR M0 H0 E3 k) {m : Bool} {i : Nat} {x : Str} {px p spos : Pos} {elt : Ex} {tg : Tg} {ik : IK} {its ifs : List Ex} {own : List (Str × Nat)} {el : Expr} {gs : List Comprehension} {scope : Scope} (bk : X.env.blockKind = .function)
    (hi : decide (N[i]? = some x) = true) (hsw : lcSwap sc x px p scope = true) (h : chkE G N (.comp m elt tg ik its ifs own) sc (.ListComp el gs scope p) = true) :
    PS X (.Assign [.Name x px] (.ListComp el gs scope p) spos) (LS X.K M0 H0 (asg3 (wpe G (.comp m elt tg ik its ifs own) E3) (.nm i))) := by
  have hx : X.env.scope.names.lookup x = some .local := by
    rw [g.hsc]
    unfold lcSwap at hsw
    exact eq_of_beq (b3 hsw).1
  have hw := swaps_lc (el := el) (gs := gs) (n := spos.line) g.hsc bk (scope := scope) (p := p) (px := px) (x := x)
  rw [hsw] at hw
  dsimp only [chkE] at h
  split at h
  · rename_i el' t it fs ia scope' pos' heq
    cases heq
    obtain ⟨h1, h2, h3, h4, h5, h6, h7⟩ := b7 h
    have h1 := of_decide_eq_true h1
    subst h1
    obtain ⟨p1, p2⟩ := z_it (tl := wpl G its E3) g h4 (fun es he => ⟨sL its g he, plainL_of he⟩) (fun e he => sL1 its g he)
    exact z_setlc g.calm (by rw [g.hN]; exact g.nd) (by rw [g.hN]; exact of_decide_eq_true hi) hx hw p1 (blkOk_by (by rw [g.hN, g.hsc]; exact h2)) (fun i hi => by
      rw [List.all_eq_true] at h3
      exact of_decide_eq_true (h3 i hi)) (fun s H C cl fp => tg_ok g.blk h5) (fun s H C cl fp => sC ifs g.blk h6) (fun s H C cl fp => sE elt g.blk h7) (fold_of p2 _)
  · cases h
theorem b10 {a b c d e f g h i j : Bool} (z : (a && b && c && d && e && f && g && h && i && j) = true) : a = true ∧ b = true ∧ c = true ∧ d = true ∧ e = true ∧ f = true ∧ g = true ∧ h = true ∧ i = true ∧ j = true := by
  obtain ⟨z, z10⟩ := b2 z
  obtain ⟨z, z9⟩ := b2 z
  obtain ⟨z, z8⟩ := b2 z
  obtain ⟨z1, z2, z3, z4, z5, z6, z7⟩ := b7 z
  exact ⟨z1, z2, z3, z4, z5, z6, z7, z8, z9, z10⟩
theorem asg_ok (g : Good G N sc sc X XR M0 H0 E3 k) (bk : X.env.blockKind = .function) {tg : Tg} {e : Ex} {t v : Expr} {pos : Pos} (h1 : chkE G N e sc v = true)
    (h2 : (match tg with | .nm i => (match t with | .Name x _ => decide (N[i]? = some x) && isLoc sc x | _ => false) | .tp is => isTu t && chkTg N sc (.tp is) t && noSwap sc t v) = true) :
    PS X (.Assign [t] v pos) (LS X.K M0 H0 (asg3 (wpe G e E3) tg)) := by
  have pl := plain_of h1
  cases tg with
  | nm i =>
    dsimp only at h2
    split at h2
    · rename_i x px
      obtain ⟨h2, h3⟩ := b2 h2
      obtain ⟨n1, n2, n3, n4⟩ := name_of g h2 h3
      by_cases hl : isLC v = true
      · cases v with
        | ListComp el gs scope p =>
          cases hsw : lcSwap sc x px p scope with
          | true =>
            cases e <;> first | (exact absurd h1 Bool.false_ne_true) | exact z_setlc' g bk h2 hsw h1
          | false =>
            refine z_set n1 n2 n3 (sE e g h1) ?_ n4
            rw [swaps_lc g.hsc bk, hsw]
        | _ => exact absurd hl Bool.false_ne_true
      · exact z_set n1 n2 n3 (sE e g h1) (swaps_plain pl (by simpa using hl)) n4
    · cases h2
  | tp is =>
    obtain ⟨h2, h3, h4⟩ := b3 h2
    cases t <;> first | (exact absurd h2 Bool.false_ne_true) | skip
    exact z_asg (sE e g h1) (tg_ok g h3) (sole.trans (swaps_tu pl h2)) (stores_no g.hsc h4) rfl
/-- the frame stands on top -/
def Fr (X : Cx) : Prop := X.stack = X.env :: X.outer ∧ X.env.frame = some X.env.locals
theorem b9 {a b c d e f g h i : Bool} (z : (a && b && c && d && e && f && g && h && i) = true) : a = true ∧ b = true ∧ c = true ∧ d = true ∧ e = true ∧ f = true ∧ g = true ∧ h = true ∧ i = true := by
  obtain ⟨z, z9⟩ := b2 z
  obtain ⟨z, z8⟩ := b2 z
  obtain ⟨z1, z2, z3, z4, z5, z6, z7⟩ := b7 z
  exact ⟨z1, z2, z3, z4, z5, z6, z7, z8, z9⟩
theorem ps_false {X : Cx} {st : Stmt} {K : PySem.W.Frag} {M0 : MH} {H0 : Hp} : PS X st (LS K M0 H0 fun _ _ _ => False) := ⟨fun pins s σ H D I h => by
  obtain ⟨_, _, _, _, _, _, z, _⟩ := h
  exact z.elim⟩
theorem Good.tr (g : Good G N sc sc X XR M0 H0 E3 k) {pn : List (Addr × Obj)} {xe : Value → Shared → Prop} {M1 : MH} {H1 : Hp} {E1 : X3} (o : Out (X.tr pn xe) XR M1 H1 E1) : Good G N sc sc (X.tr pn xe) XR M1 H1 E1 k :=
  ⟨g.hN, g.hsc, g.calm, g.nd, g.nm, g.room, g.cel, g.own, g.fns, g.cst, g.blt, o, g.err, g.xr⟩
mutual
theorem sSt : ∀ (s : Sx) {X : Cx} {M0 : MH} {H0 : Hp} {E3 : X3} {st : Stmt}, Good G N sc sc X XR M0 H0 E3 k → X.env.blockKind = .function → PassesOwn (model X.prog X.w) X.A X.env X.xe ∧ Fr X → chkS G N sc s st = true → PS X st (LS X.K M0 H0 (wps G E3 s))
  | .asg tg e, X, M0, H0, E3, st, g, bk, hp, h => by
    dsimp only [chkS] at h
    split at h
    · obtain ⟨h1, h2⟩ := b2 h
      exact asg_ok g bk h1 h2
    · cases h
  | .par i j a b, X, M0, H0, E3, st, g, bk, hp, h => by
    dsimp only [chkS] at h
    split at h
    · rename_i x px y py kt pt v w k2 pt2 pos
      obtain ⟨h1, h2, h3, h4, h5, h6, h7, h8, h9, h10⟩ := b10 h
      have hi := of_decide_eq_true h1
      have hj := of_decide_eq_true h2
      have hij := of_decide_eq_true h3
      have nd := g.nd
      have hxy : x ≠ y := by
        intro z
        subst z
        obtain ⟨l1, e1⟩ := List.getElem?_eq_some_iff.mp hi
        obtain ⟨l2, e2⟩ := List.getElem?_eq_some_iff.mp hj
        exact hij ((List.getElem_inj nd).mp (e1.trans e2.symm))
      exact z_par g.calm (by rw [g.hN]; exact nd) (by rw [g.hN]; exact hi) (by rw [g.hN]; exact hj) hij (by rw [g.hsc]; exact eq_of_beq h4) (by rw [g.hsc]; exact eq_of_beq h5) (z_cons (sE a g h9) (z_cons (sE b g h10) z_nil (star_of (plain_of h10) _ _)) (star_of (plain_of h9) _ _)) (stores_two g.hsc bk h4 h5 hxy h6 h7 h8 (plain_of h9) (plain_of h10))
    · cases h
  | .sput o i e, X, M0, H0, E3, st, g, bk, hp, h => by
    dsimp only [chkS] at h
    split at h
    · obtain ⟨h1, h2, h3⟩ := b3 h
      have pi := plain_of h2
      exact z_sput (seti (by have := g.hu; omega)) (sE o g h1) (sE i g h2) (sE e g h3) (fun v => by
        rename_i y _ _ _
        cases y <;> first | rfl | (exact absurd pi Bool.false_ne_true)) (sole.trans (swaps_sub (plain_of h3))) stores_sub rfl
    · cases h
  | .aug i kk e, X, M0, H0, E3, st, g, bk, hp, h => by
    dsimp only [chkS] at h
    split at h
    · rename_i x px op v pos
      obtain ⟨h, h4⟩ := b2 h
      obtain ⟨h1, h2, h3⟩ := b3 h
      obtain ⟨n1, n2, n3, n4⟩ := name_of g h1 h2
      cases op with
      | Add =>
        have h3 : kk = true := h3
        subst h3
        exact z_aug n1 n2 n3 (sE e g h4) zi_add n4
      | Sub =>
        have h3 : kk = false := by simpa using h3
        subst h3
        exact z_aug n1 n2 n3 (sE e g h4) zi_sub n4
      | _ => exact absurd h3 Bool.false_ne_true
    · cases h
  | .expr e, X, M0, H0, E3, st, g, bk, hp, h => by
    dsimp only [chkS] at h
    split at h
    · obtain ⟨h1, h2⟩ := b2 h
      exact z_expr (sE e g h1) (swaps_plain (plain_of h1) (by simpa using h2))
    · cases h
  | .ret e, X, M0, H0, E3, st, g, bk, hp, h => by
    dsimp only [chkS] at h
    split at h
    · exact z_ret (sE e g h)
    · cases h
  | .retN, X, M0, H0, E3, st, g, bk, hp, h => by
    dsimp only [chkS] at h
    split at h
    · exact z_retN
    · cases h
  | .ifs c a b, X, M0, H0, E3, st, g, bk, hp, h => by
    dsimp only [chkS] at h
    split at h
    · obtain ⟨h1, h2, h3⟩ := b3 h
      exact z_if (sT c g h1) (sSs a g bk hp h2) (sSs b g bk hp h3)
    · cases h
  | .fors tg ik its body, X, M0, H0, E3, st, g, bk, hp, h => by
    dsimp only [chkS] at h
    split at h
    · obtain ⟨h1, h2, h3⟩ := b3 h
      obtain ⟨p1, p2⟩ := z_it (tl := wpl G its E3) g h1 (fun es he => ⟨sL its g he, plainL_of he⟩) (fun e he => sL1 its g he)
      exact z_for hp.1 g.calm p1 (tg_ok g h2) (sSs body g bk hp h3) (fold_of p2 _)
    · cases h
  | .whl c body, X, M0, H0, E3, st, g, bk, hp, h => by
    dsimp only [chkS] at h
    split at h
    · obtain ⟨h1, h2⟩ := b2 h
      exact z_while hp.1 (sT c g h1) (sSs body g bk hp h2)
    · cases h
  | .brk, X, M0, H0, E3, st, g, bk, hp, h => by
    dsimp only [chkS] at h
    split at h
    · exact z_break
    · cases h
  | .cnt, X, M0, H0, E3, st, g, bk, hp, h => by
    dsimp only [chkS] at h
    split at h
    · exact z_cont
    · cases h
  | .pss, X, M0, H0, E3, st, g, bk, hp, h => by
    dsimp only [chkS] at h
    split at h
    · exact z_pass
    · cases h
  | .fz _, X, M0, H0, E3, st, g, bk, hp, h => absurd h Bool.false_ne_true
  | .rse e, X, M0, H0, E3, st, g, bk, hp, h => by
    dsimp only [chkS] at h
    split at h
    · obtain ⟨h, h4⟩ := b2 h
      obtain ⟨h1, h2, h3⟩ := b3 h
      have h1 := of_decide_eq_true h1
      subst h1
      exact z_rse g.calm (g.err h3) (g.xr h3) g.room g.out (gl_of g h2) (sE e g h4) (star_of (plain_of h4) _ _)
    · cases h
  | .rseN, X, M0, H0, E3, st, g, bk, hp, h => ps_false
  | .tryR body kk i, X, M0, H0, E3, st, g, bk, hp, h => by
    dsimp only [chkS] at h
    split at h
    · obtain ⟨h1, h2, h3, h4, h5, h6, h7, h8, h9⟩ := b9 h
      have h1 := of_decide_eq_true h1
      have h4 := of_decide_eq_true h4
      have h6 := of_decide_eq_true h6
      have h7 := of_decide_eq_true h7
      have h8 := of_decide_eq_true h8
      subst h1 h6 h7 h8
      have hn := List.mem_of_getElem? h4
      exact z_tryR (t := fun E => wpss G E body) hp.2.1 hp.2.2 (by rw [g.hN]; exact g.nd) (by rw [g.hN]; exact h4) (by show X.env.scope.names.lookup _ = _; rw [g.hsc]; exact eq_of_beq h5) (g.err h3) (g.xr h3) (gl_of g h2) (g.nm _ hn)
        (fun pn xe M1 H1 E1 po o => sSs body (g.tr o) bk ⟨po, hp.2⟩ h9)
    · cases h
theorem sSs : ∀ (ss : List Sx) {X : Cx} {M0 : MH} {H0 : Hp} {E3 : X3} {sts : List Stmt}, Good G N sc sc X XR M0 H0 E3 k → X.env.blockKind = .function → PassesOwn (model X.prog X.w) X.A X.env X.xe ∧ Fr X → chkSs G N sc ss sts = true → PSs X sts (LS X.K M0 H0 (wpss G E3 ss))
  | [], X, M0, H0, E3, sts, g, bk, hp, h => by
    cases sts with
    | nil => exact z_snil
    | cons _ _ => exact absurd h Bool.false_ne_true
  | s :: r, X, M0, H0, E3, sts, g, bk, hp, h => by
    have main : ∀ {st : Stmt} {sts' : List Stmt}, sts = st :: sts' → (chkS G N sc s st && chkSs G N sc r sts') = true → PSs X sts (LS X.K M0 H0 (seq3 (wps G E3 s) (wpss G E3 r))) := by
      intro st sts' e h'
      obtain ⟨h1, h2⟩ := b2 h'
      rw [e]
      exact z_scons (sSt s g bk hp h1) (sSs r g bk hp h2)
    cases s with
    | fz i =>
      refine z_ghost (sSs r g bk hp (show chkSs G N sc r sts = true from h)) fun D e M σ H rs rm q => ?_
      have q : fz3 i (wpss G E3 r) D e M := q
      unfold fz3 at q
      split at q
      · rename_i a ea
        have sb : Sub (er M a) M := Sub.er
        split at q
        · rename_i ds em
          obtain ⟨vs, g1, g2⟩ := rm a _ em
          refine ⟨_, _, rs.swap (Ev.sub sb) ea fun v hv => ?_, rm.sub sb, Ev.sub sb, q⟩
          exact ⟨a, vs, hv, er_none, g1, RpL.ev (Ev.sub sb) _ _ g2⟩
        · rename_i kvs em
          obtain ⟨vs, g1, g2⟩ := rm a _ em
          refine ⟨_, _, rs.swap (Ev.sub sb) ea fun v hv => ?_, rm.sub sb, Ev.sub sb, q⟩
          exact ⟨a, vs, hv, er_none, .inl g1, by simp, RpL.ev (Ev.sub sb) _ _ g2⟩
        · rename_i kvs em
          obtain ⟨vs, g1, g2⟩ := rm a _ em
          refine ⟨_, _, rs.swap (Ev.sub sb) ea fun v hv => ?_, rm.sub sb, Ev.sub sb, q⟩
          exact ⟨a, vs, hv, er_none, .inl g1, by simp, RpL.ev (Ev.sub sb) _ _ g2⟩
        · exact q.elim
      · exact q.elim
    | _ =>
      cases sts with
      | nil => exact absurd h Bool.false_ne_true
      | cons st sts' => exact main rfl h
end
end
end Z

namespace Z
open PySem PySem.Spec PyProof.Rows L2

/-- the written part has the def -/
def DF (K : PySem.W.Frag) (x : Str) (st : Stmt) : Prop := ∃ f fd, PySem.W.nsIn K mainGlobals x = some (some (.ref f)) ∧ Fun K x x st f fd
/-- .. the constant -/
def DC (K : PySem.W.Frag) (x : Str) (d : D) : Prop := ∃ v u, PySem.W.nsIn K mainGlobals x = some (some u) ∧ RelV v u ∧ ∀ M H, Rp K M H d v
/-- .. no such name -/
def DB (K : PySem.W.Frag) (x : Str) : Prop := PySem.W.nsIn K mainGlobals x = some none
theorem DF.mk {K : PySem.W.Frag} {x : Str} {st : Stmt} {f : Addr} {oc : Value} {od an : Option Addr} {osl : Array (Option Value)} {kV doc pm cdv ct : Value} (a : PySem.W.nsIn K mainGlobals x = some (some (.ref f))) (l : K.lookup f = some ⟨oc, od, .func (PySem.W.fnOf x x (defArgs st) (defBody st) (defScope st) .none kV doc pm an cdv ct), osl⟩)
    (c : PySem.W.codeIn K cdv x = true) (k : PySem.W.keepIn K (.ref f) = true) : DF K x st := ⟨f, _, a, fun_mk l c k⟩
theorem DC.int {K : PySem.W.Frag} {x : Str} {u : Value} {i : Int} (h : PySem.W.nsIn K mainGlobals x = some (some u)) (r : RelV (.int i) u) : DC K x (.int i) := ⟨.int i, u, h, r, fun _ _ => rfl⟩
theorem DC.str {K : PySem.W.Frag} {x : Str} {u : Value} {i : Str} (h : PySem.W.nsIn K mainGlobals x = some (some u)) (r : RelV (.str i) u) : DC K x (.str i) := ⟨.str i, u, h, r, fun _ _ => rfl⟩
/-- .. the error's class -/
def DE (K : PySem.W.Frag) : Prop := ∃ C fI, PySem.W.nsIn K mainGlobals "InvalidLine" = some (some (.ref C)) ∧ ∀ mg : Str → Option Value, mg "InvalidLine" = some (.ref C) → PySem.ErrX.ErrTxt K mg C fI
theorem DE.get {K : PySem.W.Frag} {h : Heap} {mg : Str → Option Value} (d : DE K) (X : K.In h) (g : h.Ns mainGlobals mg) : ∃ C fI, PySem.ErrX.ErrTxt K mg C fI ∧ PySem.W.nsIn K mainGlobals "InvalidLine" = some (some (.ref C)) := by
  obtain ⟨C, fI, a, f⟩ := d
  exact ⟨C, fI, f mg (PySem.W.mg_of X g a), a⟩
theorem exm_self {K : PySem.W.Frag} {C : Addr} (h1 : PySem.W.subIn K (.ref C) (.type "BaseException") = some true) (h2 : PySem.W.isClsIn K C = true) (h3 : PySem.W.typeIn K (.ref C) = some (.type "type")) (h4 : PySem.W.subIn K (.ref C) (.ref C) = some true) : PySem.W.exmOne K (.ref C) (.ref C) = some true := by
  have e1 : (PySem.W.subIn K (.ref C) (.type "BaseException") == some true) = true := by rw [h1] <;> rfl
  have e2 : ((PySem.W.clsIn K C).isSome && PySem.W.typeIn K (.ref C) == some (.type "type")) = true := by
    have h2' : (PySem.W.clsIn K C).isSome = true := h2
    rw [h2', h3] <;> rfl
  show (if (PySem.W.subIn K (.ref C) (.type "BaseException") == some true) = true then (if ((PySem.W.clsIn K C).isSome && PySem.W.typeIn K (.ref C) == some (.type "type")) = true then PySem.W.subIn K (.ref C) (.ref C) else none) else none) = some true
  rw [if_pos e1, if_pos e2]
  exact h4
theorem DE.mk {K : PySem.W.Frag} {C f1 B : Addr} {nm q : Str} {N : Addr} {bs : List Value} {sn : List Str} {sub : List Value} {ab : Bool} {col : Option Bool} {dd : Option Addr} {m0 m1 m2 m3 m5 : Option Value}
    {od1 an1 : Option Addr} {sl1 : Array (Option Value)} {oc1 dc1 pm1 cd1 ct1 : Value} {p1 p2 q1 q2 q3 q4 : Pos}
    (aC : PySem.W.nsIn K mainGlobals "InvalidLine" = some (some (.ref C)))
    (xL : K.lookup C = some (excClassObj nm q C N bs [.ref B, .type "ValueError", .type "Exception", .type "BaseException", .type "object"] true sn sub ab col dd m0 m1 m2 m3 m5 "ValueError.__new__"))
    (sa : PySem.W.findIn K (.ref C) "__setattr__" = some (some (.builtin "object.__setattr__"))) (ga : PySem.W.findIn K (.ref C) "__getattribute__" = some (some (.builtin "BaseException.__getattribute__"))) (gg : PySem.W.findIn K (.ref C) "__getattr__" = some none) (nb : PySem.W.findIn K (.ref C) "number" = some none)
    (a1 : PySem.W.findIn K (.ref C) "__init__" = some (some (.ref f1))) (t1 : PySem.W.typeIn K (.ref f1) = some (.type "function"))
    (l1 : K.lookup f1 = some ⟨oc1, od1, .func (PySem.W.fnOf "__init__" "InvalidLine.__init__" (PySem.ErrX.iA p1 p2) (PySem.ErrX.iB q1 q2 q3 q4) PySem.ErrX.iS .none .none dc1 pm1 an1 cd1 ct1), sl1⟩) (c1 : PySem.W.codeIn K cd1 "InvalidLine.__init__" = true)
    (kC : PySem.W.keepIn K (.ref C) = true) (eC : PySem.W.subIn K (.ref C) (.type "BaseException") = some true) (tC : PySem.W.typeIn K (.ref C) = some (.type "type")) (hC : PySem.W.hasDictIn K C = true) (iC : PySem.W.isClsIn K C = true) (sC : PySem.W.subIn K (.ref C) (.ref C) = some true) : DE K :=
  ⟨C, f1, aC, fun mg gC => { gC := gC, cls := ⟨nm, q, N, bs, _, sn, sub, ab, col, dd, m0, m1, m2, m3, m5, xL, rfl⟩, sa := sa, ga := ga, gg := gg, noN := nb, iC := a1, tC := t1, kC := kC, exC := eC, tyC := tC, hdC := hC, te := exm_self eC iC tC sC, fn := ⟨_, _, _, _, _, _, _, _, _, _, _, _, _, _, l1, c1⟩ }⟩
/-- one of a list, each -/
def Each {α : Type u} (p : α → Prop) : List α → Prop
  | [] => True
  | x :: r => p x ∧ Each p r
theorem Each.get {α : Type u} {p : α → Prop} : ∀ {l : List α}, Each p l → ∀ x ∈ l, p x
  | [], _, x, h => by simp at h
  | y :: r, h, x, hx => by
    rcases List.mem_cons.mp hx with rfl | hx
    · exact h.1
    · exact Each.get h.2 x hx
/-- the names of a def's slots -/
def namesOk (N : List Str) : Bool := decide N.Nodup && N.all fun x => !(x == ("__debug__" : Str)) && !(x == ("__classdict__" : Str))
/-- its scope -/
def scopeOk (N ps : List Str) (sc : Scope) : Bool := decide (sc.kind = .function) && !sc.isCoroutine && !sc.isGenerator && namesOk N && decide (N.take ps.length = ps) &&
  (ps.all fun x => decide (sc.names.lookup x = some .local) || decide (sc.names.lookup x = some .cell)) && sc.names.all fun y => decide (y.2 ≠ .free)
theorem scope_of {N ps : List Str} {sc : Scope} (h : scopeOk N ps sc = true) : FnScope N ps sc ∧ N.Nodup ∧ (∀ x ∈ N, (x == ("__debug__" : Str)) = false ∧ (x == ("__classdict__" : Str)) = false) := by
  unfold scopeOk at h
  obtain ⟨h, h7⟩ := b2 h
  obtain ⟨h, h6⟩ := b2 h
  obtain ⟨h1, h2, h3, h4, h5⟩ := b5 h
  obtain ⟨h4, h8⟩ := b2 (show (decide N.Nodup && N.all fun x => !(x == ("__debug__" : Str)) && !(x == ("__classdict__" : Str))) = true from h4)
  have h4 := of_decide_eq_true h4
  refine ⟨⟨of_decide_eq_true h1, by simpa using h2, by simpa using h3, h4, of_decide_eq_true h5, fun x hx => ?_, fun y hy => ?_⟩, h4, fun x hx => ?_⟩
  · have := List.all_eq_true.mp h6 x hx
    simpa using this
  · have := List.all_eq_true.mp h7 y hy
    exact of_decide_eq_true this
  · have := List.all_eq_true.mp h8 x hx
    simpa using this
section
variable {P : Program} {w : World} {K : PySem.W.Frag} {mg : Str → Option Value} {base : Heap} {XR : XRel}
theorem fn_ok {x : Str} {st : Stmt} {f : Addr} {fd : FuncData} {N ps : List Str} {k n : Nat} {sp : Sp3} {G : GT} {body : List Sx} (F : Fun K x x st f fd) (hs : scopeOk N ps (defScope st) = true) (hn : ps.length = n)
    (fns : Each (fun e => Cal P w K mg base XR k e.1 e.2.1 e.2.2) G.fns) (cst : Each (fun e => ∃ v u, mg e.1 = some u ∧ RelV v u ∧ ∀ M H, Rp K M H e.2 v) G.cst) (bn : Each (fun x => mg x = none) G.bn)
    (er : G.er = true → ∃ C fI, PySem.ErrX.ErrTxt K mg C fI ∧ PySem.W.nsIn K mainGlobals "InvalidLine" = some (some (.ref C))) (xr : G.er = true → XR = XRof K)
    (chk : chkSs G N (defScope st) body (defBody st) = true) (pure : ∀ ds M Q E, ds.length = n → sp ds M Q E → wpss G E body (bodyEnds Q) (startE N.length ds) M) :
    FnOk P w K mg base (L2.CX P w) (k + 1) f fd ps (liftSp K XR n sp) := by
  obtain ⟨S, nd, nm⟩ := scope_of hs
  refine def_ok F S hn fun cdv A outer s H E M E3 hr cx => ⟨wpss G E3 body, ?_, fun ds Q3 hl h => pure ds M Q3 E3 hl h⟩
  refine sSs (sc := defScope st) (k := k) (XR := XR) body ?_ ?_ ⟨passes_of rfl, rfl, rfl⟩ chk
  · exact ⟨rfl, rfl, rfl, nd, nm, hr, fun _ _ => rfl, fun _ _ _ h => h, fun x n sp h => fns.get _ h, fun x d h => cst.get _ h, bn.get, out_body cx, er, xr⟩
  · show (if (defScope st).kind.isAnnotationScope then ScopeKind.function else (defScope st).kind) = .function
    rw [S.kind]; rfl
/-- a def of the module, by its text and its reading -/
theorem cal_mk {h : Heap} (X : K.In h) (g : h.Ns mainGlobals mg) {x : Str} {st : Stmt} {N ps : List Str} {k n : Nat} {sp : Sp3} {G : GT} {body : List Sx} (d : DF K x st) (hs : scopeOk N ps (defScope st) = true) (hn : ps.length = n)
    (hb : ∀ (kV doc pm : Value) (an : Option Addr) (cdv ct : Value) (us : List Value), us.length = ps.length → bindArgs (PySem.W.fnOf x x (defArgs st) (defBody st) (defScope st) .none kV doc pm an cdv ct) ⟨us, []⟩ = pure (ps.zip us))
    (fns : Each (fun e => Cal P w K mg base XR k e.1 e.2.1 e.2.2) G.fns) (cst : Each (fun e => DC K e.1 e.2) G.cst) (bn : Each (fun x => DB K x) G.bn) (er : G.er = true → DE K ∧ XR = XRof K)
    (chk : chkSs G N (defScope st) body (defBody st) = true) (pure : ∀ ds M Q E, ds.length = n → sp ds M Q E → wpss G E body (bodyEnds Q) (startE N.length ds) M) : Cal P w K mg base XR (k + 1) x n sp := by
  obtain ⟨f, fd, a, F⟩ := d
  refine ⟨f, fd, ps, fn_ok F hs hn fns ?_ ?_ (fun z => (er z).1.get X g) (fun z => (er z).2) chk pure, PySem.W.mg_of X g a, F.kp, F.binds hb, hn⟩
  · exact each_imp cst fun e ⟨v, u, h1, h2, h3⟩ => ⟨v, u, PySem.W.mg_of X g h1, h2, h3⟩
  · exact each_imp bn fun e h => PySem.W.mg_none_of X g h
where
  each_imp {α : Type} {p q : α → Prop} : ∀ {l : List α}, Each p l → (∀ x, p x → q x) → Each q l
    | [], _, _ => trivial
    | x :: r, h, f => ⟨f x h.1, each_imp h.2 f⟩
/-- the same, of the law's def -/
theorem law_mk {h : Heap} (X : K.In h) (g : h.Ns mainGlobals mg) {x : Str} {st : Stmt} {f : Addr} {fd : FuncData} {N ps : List Str} {k n : Nat} {sp : Sp3} {G : GT} {body : List Sx} (F : Fun K x x st f fd) (hs : scopeOk N ps (defScope st) = true) (hn : ps.length = n)
    (fns : Each (fun e => Cal P w K mg base XR k e.1 e.2.1 e.2.2) G.fns) (cst : Each (fun e => DC K e.1 e.2) G.cst) (bn : Each (fun x => DB K x) G.bn) (er : G.er = true → DE K ∧ XR = XRof K)
    (chk : chkSs G N (defScope st) body (defBody st) = true) (pure : ∀ ds M Q E, ds.length = n → sp ds M Q E → wpss G E body (bodyEnds Q) (startE N.length ds) M) : FnOk P w K mg base (L2.CX P w) (k + 1) f fd ps (liftSp K XR n sp) := by
  refine fn_ok F hs hn fns ?_ ?_ (fun z => (er z).1.get X g) (fun z => (er z).2) chk pure
  · exact cal_mk.each_imp cst fun e ⟨v, u, h1, h2, h3⟩ => ⟨v, u, PySem.W.mg_of X g h1, h2, h3⟩
  · exact cal_mk.each_imp bn fun e h => PySem.W.mg_none_of X g h
theorem Each.cal {k j : Nat} : ∀ {l : List (Str × Nat × Sp3)}, Each (fun e => Cal P w K mg base XR j e.1 e.2.1 e.2.2) l → j ≤ k → Each (fun e => Cal P w K mg base XR k e.1 e.2.1 e.2.2) l
  | [], _, _ => trivial
  | x :: r, h, f => ⟨h.1.mono f, Each.cal h.2 f⟩
end
/-- nothing is marked -/
def M00 : MH := fun _ => none
/-- THE END: the law's def, at a script -/
theorem law_end {l : PySem.W.OpenLaw} {n k : Nat} {q : Program} {loose : List Str} {XP : (Str → Option Value) → Heap → Prop} {YP : World → Heap → Prop} {d : DefRec} {K : Params → PySem.W.Frag} {XR : World → XRel} {sp : Sp3} {st : Stmt}
    (hd : d.name = "law") (hn : l.most = some n) (hn2 : n ≤ sizeLine) (hdf : d.params.defaults = []) (hr : Room k callerA) (hY : ∀ (w : World) (h : Heap), YP w h → (K w.params).In h)
    (hb : ∀ (s : Shared) (u kV doc pm : Value) (an : Option Addr) (cdv ct : Value), BindsTo s (PySem.W.fnOf "law" "law" (defArgs st) (defBody st) (defScope st) .none kV doc pm an cdv ct) ⟨[u], []⟩ [("script", u)])
    (dd : ∀ w : World, DF (K w.params) "law" st)
    (C : ∀ (w : World) (mg : Str → Option Value) (base h : Heap), (K w.params).In h → h.Ns mainGlobals mg → ∀ f fd, Fun (K w.params) "law" "law" st f fd → FnOk l.prog w (K w.params) mg base (L2.CX l.prog w) k f fd ["script"] (liftSp (K w.params) (XR w) 1 sp))
    (hsp : ∀ ns : List Int, ns.length ≤ n → sp [.flst (ns.map D.int)] M00 (fun v _ => v = .bl true) noX) : PySem.W.WalkO q loose XP YP l.row.toRowW d [] (fun f vs => PySem.call f vs) := by
  refine L2.walk_of (l := l) (n := n) (k := k) (x := "script") (K := K) (CX := fun w => L2.CX l.prog w) (sp := fun w => liftSp (K w.params) (XR w) 1 sp) hn hn2 hdf hr hY ?_ ?_ ?_
  · intro w mg fa h KX G hmg
    rw [hd] at hmg
    obtain ⟨f1, fd, a, F⟩ := dd w
    have e := hmg.symm.trans (PySem.W.mg_of KX G a)
    cases e
    refine ⟨fd, ?_, fun base _ _ => C w mg base h KX G _ fd F⟩
    obtain ⟨oc, od, kV, doc, pm, an, cdv, ct, osl, rfl, lk, hcd⟩ := F.ex
    exact fun s u => hb s u kV doc pm an cdv ct
  · intro w H a ns hl hO hS
    refine ⟨[.flst (ns.map D.int)], M00, fun v _ => v = .bl true, noX, rfl, ?_, ?_, hsp ns hl, ?_, ?_⟩
    · refine RpL.one ⟨a, ns.map V.int, rfl, ?_, ?_⟩
      · rcases hS with (hS | ⟨o, hS⟩) | hS
        · rcases hO a with h0 | ⟨o, xs, h0⟩
          · rw [h0] at hS; cases hS
          · rw [h0] at hS; cases hS
        · exact .inl ⟨o, rfl, hS⟩
        · exact .inr hS
      · clear hl hS
        induction ns with
        | nil => rfl
        | cons x r ih => exact ⟨.int x, r.map V.int, rfl, rfl, ih⟩
    · intro a o h; cases h
    · intro d M' v H' e r _ _
      have e : d = .bl true := e
      subst e
      exact r
    · intro x M' H' cls d h; exact h.elim
  · intro w H s e s' h
    obtain ⟨_, _, _, _, _, _, _, _, _, _, _, _, z⟩ := h
    exact z.elim
end Z

namespace Z
open PySem PySem.Spec PyProof.Rows L2

theorem rt_same {Q : Q3} {d : D} {M : MH} (h : Q d M) : RT Q d M := ⟨M, Sub.refl M, h⟩
theorem rt_sub {Q : Q3} {d : D} {M M' : MH} (s : Sub M' M) (h : Q d M') : RT Q d M := ⟨M', s, h⟩
def noXR : XRel := fun _ _ _ _ _ => False
/-! ### loops -/
theorem turns_inv {tg : Tg} {body : TS3} {Z : Ends3} (I : List D → En → MH → Prop)
    (step : ∀ x r e M (nx : En → MH → Prop), I (x :: r) e M → (∀ e' M', I r e' M' → nx e' M') → ∃ e1, bindT tg x e = some e1 ∧ body { nx := nx, rt := Z.rt, bk := Z.nx, ct := nx } e1 M)
    (done : ∀ e M, I [] e M → Z.nx e M) : ∀ (items : List D) (e : En) (M : MH), I items e M → turns3 tg body Z items e M
  | [], e, M, h => done e M h
  | x :: r, e, M, h => by
    obtain ⟨e1, h1, h2⟩ := step x r e M (turns3 tg body Z r) h fun e' M' h' => turns_inv I step done r e' M' h'
    show match bindT tg x e with
      | some e1 => body { nx := turns3 tg body Z r, rt := Z.rt, bk := Z.nx, ct := turns3 tg body Z r } e1 M
      | none => False
    rw [h1]
    exact h2
theorem while_inv {c : TB3} {body : TS3} {D0 : Ends3} (I : Nat → En → MH → Prop)
    (step : ∀ n e M (nx : En → MH → Prop), I n e M → (∀ m e' M', m < n → I m e' M' → nx e' M') → c e M fun b M1 => match b with | true => body { nx := nx, rt := D0.rt, bk := D0.nx, ct := nx } e M1 | false => D0.nx e M1) {n : Nat} {e : En} {M : MH} (h : I n e M) : while3 c body D0 e M := by
  refine ⟨n + 1, ?_⟩
  have key : ∀ k n e M, n < k → I n e M → whileN c body D0 k e M := by
    intro k
    induction k with
    | zero => intro n e M h; omega
    | succ k ih => exact fun n e M hn h => step n e M (whileN c body D0 k) h fun m e' M' hm h' => ih m e' M' (by omega) h'
  exact key (n + 1) n e M (by omega) h
theorem compW_inv {tg : Tg} {tt : TB3} {te : T3} {e : En} {p : Addr} {K : List D → MH → Prop} (I : List D → List D → MH → Prop)
    (step : ∀ x r acc M (k : List D → MH → Prop), I (x :: r) acc M → (∀ acc' M', I r acc' M' → k acc' M') → ∃ e1, bindT tg x e = some e1 ∧ tt e1 M fun b M2 => match b with
      | true => te e1 M2 fun y M3 => M3 p = some (.lst acc) ∧ k (acc ++ [y]) (up M3 p (.lst (acc ++ [y])))
      | false => k acc M2)
    (done : ∀ acc M, I [] acc M → M p = some (.lst acc) ∧ K acc M) : ∀ (items acc : List D) (M : MH), I items acc M → compW tg tt te e p K items acc M
  | [], acc, M, h => done acc M h
  | x :: r, acc, M, h => by
    obtain ⟨e1, h1, h2⟩ := step x r acc M (compW tg tt te e p K r) h fun acc' M' h' => compW_inv I step done r acc' M' h'
    show match bindT tg x e with
      | some e1 => tt e1 M fun b M2 => match b with
        | true => te e1 M2 fun y M3 => M3 p = some (.lst acc) ∧ compW tg tt te e p K r (acc ++ [y]) (up M3 p (.lst (acc ++ [y])))
        | false => compW tg tt te e p K r acc M2
      | none => False
    rw [h1]
    exact h2
/-- a loop that gathers -/
theorem turns_acc {tg : Tg} {body : TS3} {Z : Ends3} {R : List D → En → MH → Prop} (f : D → List D) (c B : Nat) : ∀ (items : List D) (acc : List D) (e : En) (M : MH)
    (_ : ∀ x ∈ items, (f x).length ≤ c) (_ : acc.length + items.length * c ≤ B)
    (_ : ∀ x ∈ items, ∀ acc e M (nx : En → MH → Prop), acc.length + c ≤ B → R acc e M → (∀ e' M', R (acc ++ f x) e' M' → nx e' M') → ∃ e1, bindT tg x e = some e1 ∧ body { nx := nx, rt := Z.rt, bk := Z.nx, ct := nx } e1 M)
    (_ : R acc e M) (_ : ∀ e' M', R (acc ++ items.flatMap f) e' M' → Z.nx e' M'), turns3 tg body Z items e M
  | [], acc, e, M, _, _, _, h, done => done e M (by simpa using h)
  | x :: r, acc, e, M, hc, hB, step, h, done => by
    rw [List.length_cons, Nat.add_mul, Nat.one_mul] at hB
    have hx := hc x (by simp)
    obtain ⟨e1, h1, h2⟩ := step x (by simp) acc e M (turns3 tg body Z r) (by omega) h fun e' M' h' => turns_acc f c B r (acc ++ f x) e' M' (fun y hy => hc y (List.mem_cons_of_mem _ hy)) (by rw [List.length_append]; omega)
      (fun y hy => step y (List.mem_cons_of_mem _ hy)) h' fun e2 M2 h2 => done e2 M2 (by simpa [List.append_assoc] using h2)
    show match bindT tg x e with
      | some e1 => body { nx := turns3 tg body Z r, rt := Z.rt, bk := Z.nx, ct := turns3 tg body Z r } e1 M
      | none => False
    rw [h1]
    exact h2
/-- each item by a test and a value, nothing else touched -/
theorem compW_fm {tg : Tg} {tt : TB3} {te : T3} {e : En} {p : Addr} {K : List D → MH → Prop} {M : MH} (b : D → Bool) (f : D → D) : ∀ (items acc : List D)
    (_ : ∀ x ∈ items, ∃ e1, bindT tg x e = some e1 ∧ (∀ l (k : Bool → MH → Prop), k (b x) (up M p (.lst l)) → tt e1 (up M p (.lst l)) k) ∧ (b x = true → ∀ l (k : Q3), k (f x) (up M p (.lst l)) → te e1 (up M p (.lst l)) k))
    (_ : K (acc ++ (items.filter b).map f) (up M p (.lst (acc ++ (items.filter b).map f)))), compW tg tt te e p K items acc (up M p (.lst acc))
  | [], acc, h, q => ⟨up_same, by simpa using q⟩
  | x :: r, acc, h, q => by
    obtain ⟨e1, h1, h2, h3⟩ := h x (by simp)
    show match bindT tg x e with
      | some e1 => tt e1 (up M p (.lst acc)) fun b M2 => match b with
        | true => te e1 M2 fun y M3 => M3 p = some (.lst acc) ∧ compW tg tt te e p K r (acc ++ [y]) (up M3 p (.lst (acc ++ [y])))
        | false => compW tg tt te e p K r acc M2
      | none => False
    rw [h1]
    refine h2 _ _ ?_
    have ih := fun acc' => compW_fm (K := K) b f r acc' fun y hy => h y (List.mem_cons_of_mem _ hy)
    cases hb : b x with
    | true =>
      refine h3 hb _ _ ⟨up_same, ?_⟩
      rw [up_up]
      refine ih _ ?_
      simpa [List.filter_cons, hb] using q
    | false =>
      refine ih _ ?_
      simpa [List.filter_cons, hb] using q
theorem comp3_fm {it : TL3} {tg : Tg} {tt : TB3} {te : T3} {own : List Nat} {e : En} {M : MH} {Q : Q3} {items : List D} (b : D → Bool) (f : D → D) (hit : ∀ k : List D → MH → Prop, k items M → it e M k)
    (h : ∀ x ∈ items, ∃ e1, bindT tg x (wipeE e own) = some e1 ∧ ∀ p l, M p = none → (∀ (k : Bool → MH → Prop), k (b x) (up M p (.lst l)) → tt e1 (up M p (.lst l)) k) ∧ (b x = true → ∀ (k : Q3), k (f x) (up M p (.lst l)) → te e1 (up M p (.lst l)) k))
    (q : Q (.lst ((items.filter b).map f)) M) : comp3 false it tg tt te own e M Q := by
  refine hit _ fun p hp => ?_
  refine compW_fm b f items [] (fun x hx => ?_) ?_
  · obtain ⟨e1, h1, h2⟩ := h x hx
    exact ⟨e1, h1, fun l => (h2 p l hp).1, fun hb l => (h2 p l hp).2 hb⟩
  · rw [List.nil_append]
    show Q _ (er (up M p _) p)
    rw [er_up hp]
    exact q
theorem comp3_map {it : TL3} {tg : Tg} {te : T3} {own : List Nat} {e : En} {M : MH} {Q : Q3} {items : List D} (f : D → D) (hit : ∀ k : List D → MH → Prop, k items M → it e M k)
    (h : ∀ x ∈ items, ∃ e1, bindT tg x (wipeE e own) = some e1 ∧ ∀ p l, M p = none → ∀ (k : Q3), k (f x) (up M p (.lst l)) → te e1 (up M p (.lst l)) k)
    (q : Q (.lst (items.map f)) M) : comp3 false it tg yes3 te own e M Q := by
  refine comp3_fm (fun _ => true) f hit (fun x hx => ?_) (by rw [List.filter_eq_self.mpr fun _ _ => rfl]; exact q)
  obtain ⟨e1, h1, h2⟩ := h x hx
  exact ⟨e1, h1, fun p l hp => ⟨fun k hk => hk, fun _ => h2 p l hp⟩⟩
/-! ### types -/
def isInt : D → Bool | .int _ => true | _ => false
/-- plain at sight -/
def pln : D → Bool | .non | .bl _ | .int _ | .str _ | .tp _ _ | .lst _ => true | _ => false
/-- plain through and through -/
def dpl : D → Bool
  | .non => true
  | .bl _ => true
  | .int _ => true
  | .str x => PyData.strOk x && decide (x.length ≤ sizeLine)
  | .tp .t ds => dplL ds
  | .lst ds => dplL ds
  | _ => false
where dplL : List D → Bool
  | [] => true
  | d :: r => dpl d && dplL r
theorem dplL_all : ∀ ds : List D, dpl.dplL ds = ds.all dpl
  | [] => by simp [dpl.dplL]
  | d :: r => by simp [dpl.dplL, dplL_all r]
theorem dpl_pln {d : D} (h : dpl d = true) : pln d = true := by
  cases d <;> first | rfl | (simp [dpl] at h)
theorem pln_rd {d : D} {M : MH} (h : pln d = true) : rdL M d = d := by
  cases d <;> first | rfl | (simp [pln] at h)
theorem isTy_int {d : D} {M : MH} (h : pln d = true) : isTy M d .tint = some (match d with | .int _ => true | .bl _ => true | _ => false) := by
  cases d <;> first | rfl | (simp [pln] at h)
theorem isTy_bool {d : D} {M : MH} (h : pln d = true) : isTy M d .tbool = some (match d with | .bl _ => true | _ => false) := by
  cases d <;> first | rfl | (simp [pln] at h)
theorem isTy_str {d : D} {M : MH} (h : pln d = true) : isTy M d .tstr = some (match d with | .str _ => true | _ => false) := by
  cases d <;> first | rfl | (simp [pln] at h)
theorem isTy_tup {d : D} {M : MH} (h : pln d = true) : isTy M d .ttup = some (match d with | .tp _ _ => true | _ => false) := by
  cases d <;> first | rfl | (simp [pln] at h)
theorem blsOf_mapF {α : Type} (b : α → Bool) : ∀ xs : List α, blsOf (xs.map fun x => D.bl (b x)) = some (xs.map b)
  | [] => rfl
  | x :: r => by
    show (match blsOf (r.map fun x => D.bl (b x)) with | some bs => some (b x :: bs) | none => none) = _
    rw [blsOf_mapF b r]; rfl
theorem allA_map {α : Type} {M : MH} (b : α → Bool) (xs : List α) : allA M (.lst (xs.map fun x => D.bl (b x))) = some (.bl (xs.all b)) := by
  unfold allA
  show (match blsOf (xs.map fun x => D.bl (b x)) with | some bs => some (D.bl (bs.all id)) | none => none) = _
  rw [blsOf_mapF]
  simp [List.all_map, Function.comp_def]
theorem anyA_map {α : Type} {M : MH} (b : α → Bool) (xs : List α) : anyA M (.lst (xs.map fun x => D.bl (b x))) = some (.bl (xs.any b)) := by
  unfold anyA
  show (match blsOf (xs.map fun x => D.bl (b x)) with | some bs => some (D.bl (bs.any id)) | none => none) = _
  rw [blsOf_mapF]
  simp [List.any_map, Function.comp_def]
/-! ### orders -/
/-- may stand in an order, by itself -/
def ordD (d : D) : Bool := notNon d && pd 60 d
theorem pd_pln {d : D} {n : Nat} (h : pd n d = true) : pln d = true := by
  cases d <;> first | rfl | (cases n <;> simp [pd] at h)
theorem lt3_ok {x y : D} {M : MH} {Q : Q3} (hx : ordD x = true) (hy : ordD y = true) (hl : likeD x y = true) (q : Q (.bl (ltD x y)) M) : lt3 x y M Q := by
  obtain ⟨x1, x2⟩ := b2 hx
  obtain ⟨y1, y2⟩ := b2 hy
  unfold lt3
  split
  · simpa [ltD] using q
  · rw [pln_rd (pd_pln x2), pln_rd (pd_pln y2)]
    refine ⟨?_, q⟩
    unfold ltOk
    rw [pln_rd (pd_pln x2), pln_rd (pd_pln y2), hl, x1, x2, y2]; rfl
theorem le3_ok {x y : D} {M : MH} {Q : Q3} (hx : ordD x = true) (hy : ordD y = true) (hl : likeD x y = true) (q : Q (.bl (!ltD y x)) M) : le3 x y M Q := by
  obtain ⟨x1, x2⟩ := b2 hx
  obtain ⟨y1, y2⟩ := b2 hy
  unfold le3
  split
  · rename_i i j
    have : decide (i ≤ j) = !decide (j < i) := by
      by_cases h : i ≤ j
      · rw [decide_eq_true h, decide_eq_false (by omega)]; rfl
      · rw [decide_eq_false h, decide_eq_true (by omega)]; rfl
    rw [this]
    simpa [ltD] using q
  · rw [pln_rd (pd_pln x2), pln_rd (pd_pln y2)]
    refine ⟨?_, q⟩
    unfold ltOk
    rw [pln_rd (pd_pln x2), pln_rd (pd_pln y2), hl, x1, x2, y2]; rfl
def ascB : List D → Bool
  | x :: y :: r => ltD x y && ascB (y :: r)
  | _ => true
theorem rngD_mem {lo : Int} {x : D} : ∀ {n : Nat}, x ∈ rngD lo n → ∃ i : Nat, i < n ∧ x = .int (lo + i) := by
  intro n h
  obtain ⟨i, hi, e⟩ := List.mem_iff_getElem.mp h
  rw [rngD_len] at hi
  have := rngD_get lo n i hi
  rw [List.getElem?_eq_getElem (by rw [rngD_len]; exact hi)] at this
  exact ⟨i, hi, by rw [← e]; exact Option.some.inj this⟩
theorem rngD_eq : ∀ (n lo : Nat), rngD (lo : Int) n = (List.range' lo n).map fun i => D.int (i : Nat)
  | 0, lo => rfl
  | n + 1, lo => by
    show D.int (lo : Nat) :: rngD ((lo : Int) + 1) n = _
    rw [List.range'_succ, List.map_cons]
    have : ((lo : Int) + 1) = ((lo + 1 : Nat) : Int) := by omega
    rw [this, rngD_eq n (lo + 1)]
theorem rngD0 (n : Nat) : rngD 0 n = (List.range n).map fun i => D.int (i : Nat) := by
  rw [show (0 : Int) = ((0 : Nat) : Int) from rfl, rngD_eq, List.range_eq_range']
theorem ascB_range : ∀ ds : List D, ((List.range (ds.length - 1)).all fun i => match ds[i]?, ds[i + 1]? with | some x, some y => ltD x y | _, _ => false) = ascB ds
  | [] => rfl
  | [_] => rfl
  | x :: y :: r => by
    have ih := ascB_range (y :: r)
    show ((List.range (r.length + 1)).all _) = _
    rw [List.range_succ_eq_map, List.all_cons, List.all_map]
    show (ltD x y && _) = (ltD x y && ascB (y :: r))
    rw [← ih]
    rfl
theorem atI_get {α : Type} {xs : List α} {i : Nat} (h : i < xs.length) : atI xs (i : Nat) = xs[i]? := by
  rw [List.getElem?_eq_getElem h]
  exact atI_nat (List.getElem?_eq_getElem h)
theorem truA_bl {M : MH} {b : Bool} : truA M (.bl b) = some b := rfl
theorem lenA_tp {M : MH} {k : TK} {ds : List D} : lenA M (.tp k ds) = some (.int ds.length) := rfl
theorem lenA_lst {M : MH} {ds : List D} : lenA M (.lst ds) = some (.int ds.length) := rfl
theorem lenA_ref {M : MH} {a : Addr} {ds : List D} (h : M a = some (.lst ds)) : lenA M (.ref a) = some (.int ds.length) := by
  show (match seqM M (.ref a) with | some ds => some (D.int ds.length) | none => none) = _
  have : seqM M (.ref a) = some ds := by
    show (match M a with | some (.lst ds) => some ds | _ => none) = some ds
    rw [h]
  rw [this]
theorem app_ok {te : TL3} {e : En} {M : MH} {Q : Q3} {i : Nat} {a : Addr} {ds : List D} {x : D} (he : getE e i = some (.ref a)) (ht : ∀ k : List D → MH → Prop, k [x] M → te e M k) (hm : M a = some (.lst ds)) (hl : ds.length < sizeLine) (q : Q .non (up M a (.lst (ds ++ [x])))) : mth3 .append (loc3 i) te e M Q := by
  unfold mth3 loc3
  rw [he]
  dsimp only
  refine ⟨?_, ht _ ?_⟩
  · show (match M a with | some (.lst ds) => some ds | _ => none).isSome = true
    rw [hm]; rfl
  · have : mthA .append M (.ref a) [x] = some (.non, up M a (.lst (ds ++ [x]))) := by
      show (match M a with
        | some (.lst ds) => if ds.length < sizeLine then some (D.non, up M a (.lst (ds ++ [x]))) else none
        | _ => none) = _
      rw [hm]
      exact if_pos hl
    rw [this]
    exact q
/-! ### draws: one marked thing moves on -/
def All2 {α β : Type} (ok : α → β → Prop) : List α → List β → Prop
  | [], [] => True
  | x :: xs, y :: ys => ok x y ∧ All2 ok xs ys
  | _, _ => False
theorem All2.len {α β : Type} {ok : α → β → Prop} : ∀ {xs : List α} {ys : List β}, All2 ok xs ys → ys.length = xs.length
  | [], [], _ => rfl
  | x :: xs, y :: ys, h => by rw [List.length_cons, List.length_cons, All2.len h.2]
  | [], _ :: _, h => h.elim
  | _ :: _, [], h => h.elim
theorem All2.snoc {α β : Type} {ok : α → β → Prop} {x : α} {y : β} (hxy : ok x y) : ∀ {xs : List α} {ys : List β}, All2 ok xs ys → All2 ok (xs ++ [x]) (ys ++ [y])
  | [], [], _ => ⟨hxy, trivial⟩
  | x :: xs, y :: ys, h => ⟨h.1, All2.snoc hxy h.2⟩
  | [], _ :: _, h => h.elim
  | _ :: _, [], h => h.elim
theorem All2.mem {α β : Type} {ok : α → β → Prop} : ∀ {xs : List α} {ys : List β}, All2 ok xs ys → ∀ y ∈ ys, ∃ x ∈ xs, ok x y
  | [], [], _, y, h => by simp at h
  | x :: xs, z :: ys, h, y, hy => by
    rcases List.mem_cons.mp hy with rfl | hy
    · exact ⟨x, by simp, h.1⟩
    · obtain ⟨w, h1, h2⟩ := All2.mem h.2 y hy
      exact ⟨w, List.mem_cons_of_mem _ h1, h2⟩
  | [], _ :: _, h, _, _ => h.elim
  | _ :: _, [], h, _, _ => h.elim
theorem up_self {M : MH} {a : Addr} {o : MO} (h : M a = some o) : up M a o = M := by
  funext b
  unfold up
  by_cases e : b = a
  · rw [if_pos e, e, h]
  · rw [if_neg e]
theorem up_swap {M : MH} {a b : Addr} {o u : MO} (h : a ≠ b) : up (up M a o) b u = up (up M b u) a o := by
  funext c
  unfold up
  by_cases e1 : c = b
  · by_cases e2 : c = a
    · exact absurd (e2.symm.trans e1) h
    · rw [if_pos e1, if_neg e2, if_pos e1]
  · by_cases e2 : c = a
    · rw [if_neg e1, if_pos e2, if_pos e2]
    · rw [if_neg e1, if_neg e2, if_neg e2, if_neg e1]
/-- a thing at a, of a kind -/
def At (M : MH) (a : Addr) (S : MO → Prop) : Prop := ∃ o, M a = some o ∧ S o
theorem At.up {M : MH} {a : Addr} {S : MO → Prop} {o : MO} (h : S o) : At (Z.up M a o) a S := ⟨o, up_same, h⟩
/-- what else is marked stays -/
def Rest (M M' : MH) (a : Addr) : Prop := ∀ b, b ≠ a → M b ≠ none → M' b = M b
theorem compW_draw {tg : Tg} {te : T3} {e : En} {p a : Addr} {K : List D → MH → Prop} {M : MH} {S : MO → Prop} (ok : D → D → Prop) {items : List D} (hp : M p = none) (ha : At M a S)
    (h : ∀ x ∈ items, ∃ e1, bindT tg x e = some e1 ∧ ∀ M', At M' a S → Rest M M' a → ∀ k : Q3, (∀ y o, ok x y → S o → k y (up M' a o)) → te e1 M' k)
    (q : ∀ ys o, All2 ok items ys → S o → K ys (up (up M a o) p (.lst ys))) : compW tg yes3 te e p K items [] (up M p (.lst [])) := by
  obtain ⟨o0, h0, s0⟩ := ha
  have hpa : p ≠ a := fun z => by rw [z, h0] at hp; cases hp
  refine compW_inv (fun r acc M' => ∃ done o, items = done ++ r ∧ All2 ok done acc ∧ S o ∧ M' = up (up M a o) p (.lst acc)) ?_ ?_ items [] _ ⟨[], o0, rfl, trivial, s0, by rw [up_self h0]⟩
  · rintro x r acc _ k ⟨done, o, hi, ha2, so, rfl⟩ hk
    obtain ⟨e1, h1, h2⟩ := h x (by rw [hi]; simp)
    refine ⟨e1, h1, h2 _ ⟨o, by rw [up_ne hpa.symm, up_same], so⟩ (fun b hb hn => ?_) _ fun y o' hy so' => ⟨?_, ?_⟩⟩
    · have hbp : b ≠ p := fun z => by rw [z] at hn; exact hn hp
      rw [up_ne hbp, up_ne hb]
    · rw [up_ne hpa, up_same]
    · refine hk _ _ ⟨done ++ [x], o', by rw [hi]; simp, ha2.snoc hy, so', ?_⟩
      rw [up_swap hpa, up_up, up_up]
  · rintro acc _ ⟨done, o, hi, ha2, so, rfl⟩
    rw [List.append_nil] at hi
    subst hi
    exact ⟨up_same, q acc o ha2 so⟩
theorem comp3_draw {it : TL3} {tg : Tg} {te : T3} {own : List Nat} {e : En} {M : MH} {Q : Q3} {items : List D} {a : Addr} {S : MO → Prop} (ok : D → D → Prop) (ha : At M a S) (hit : ∀ k : List D → MH → Prop, k items M → it e M k)
    (h : ∀ x ∈ items, ∃ e1, bindT tg x (wipeE e own) = some e1 ∧ ∀ M', At M' a S → Rest M M' a → ∀ k : Q3, (∀ y o, ok x y → S o → k y (up M' a o)) → te e1 M' k)
    (q : ∀ ys o, All2 ok items ys → S o → Q (.lst ys) (up M a o)) : comp3 false it tg yes3 te own e M Q := by
  refine hit _ fun p hp => compW_draw ok hp ha h fun ys o h1 h2 => ?_
  show Q (.lst ys) (er (up (up M a o) p _) p)
  obtain ⟨o0, h0, s0⟩ := ha
  have hpa : p ≠ a := fun z => by rw [z, h0] at hp; cases hp
  rw [er_up (by rw [up_ne hpa]; exact hp)]
  exact q ys o h1 h2
/-! ### sorted -/
theorem leS_trans (a b c : D) (h1 : leS a b = true) (h2 : leS b c = true) : leS a c = true := by
  unfold leS at *
  rw [Bool.not_eq_true'] at *
  cases q : PySem.W.dataLt (toPy c) (toPy a) with
  | false => rfl
  | true =>
    rcases PyProof.Rows.lex_negTrans (O := PyProof.Rows.itemOrd) _ (PySem.W.keyToks (toPy b)) _ q with z | z
    · exact absurd (h2.symm.trans z) Bool.false_ne_true
    · exact absurd (h1.symm.trans z) Bool.false_ne_true
theorem leS_total (a b : D) : (leS a b || leS b a) = true := by
  unfold leS
  cases q : PySem.W.dataLt (toPy b) (toPy a) with
  | false => rfl
  | true =>
    cases q2 : PySem.W.dataLt (toPy a) (toPy b) with
    | false => rfl
    | true =>
      have := PyProof.Rows.lex_trans _ _ _ q q2
      rw [PyProof.Rows.lex_irrefl] at this
      cases this
theorem sortD_mem {ds : List D} {d : D} : d ∈ sortD ds ↔ d ∈ ds := (List.mergeSort_perm ds leS).mem_iff
theorem sortD_len {ds : List D} : (sortD ds).length = ds.length := (List.mergeSort_perm ds leS).length_eq
theorem asc_of {ds : List D} (h : ds.Pairwise fun x y => ltD x y = true) : ascB ds = true := by
  induction ds with
  | nil => rfl
  | cons x r ih =>
    cases r with
    | nil => rfl
    | cons y r =>
      rw [List.pairwise_cons] at h
      show (ltD x y && ascB (y :: r)) = true
      rw [h.1 y (by simp), ih h.2]; rfl
theorem sort_asc {ds : List D} (hl : ∀ d ∈ ds, ∀ e ∈ ds, likeD d e = true) (tri : ∀ d ∈ ds, ∀ e ∈ ds, ltD e d = false → ltD d e = false → d = e) (nd : ds.Nodup) : (sortD ds).Pairwise fun x y => ltD x y = true := by
  have h1 : (sortD ds).Pairwise fun x y => leS x y = true := List.pairwise_mergeSort leS_trans leS_total ds
  have h2 : (sortD ds).Nodup := (List.mergeSort_perm ds leS).nodup_iff.mpr nd
  have h3 : (sortD ds).Pairwise fun x y => leS x y = true ∧ x ≠ y := h1.and h2
  refine List.Pairwise.imp_of_mem ?_ h3
  intro x y hx hy ⟨h4, h5⟩
  have mx := sortD_mem.mp hx
  have my := sortD_mem.mp hy
  unfold leS at h4
  rw [lt_py _ _ (hl _ my _ mx), Bool.not_eq_true'] at h4
  cases q : ltD x y with
  | true => rfl
  | false => exact absurd (tri x mx y my h4 q) h5
theorem tri_str {x y : Str} (h1 : ltD (.str y) (.str x) = false) (h2 : ltD (.str x) (.str y) = false) : x = y := by
  have h1 : decide (y.cps.toList < x.cps.toList) = false := h1
  have h2 : decide (x.cps.toList < y.cps.toList) = false := h2
  have h1 := of_decide_eq_false h1
  have h2 := of_decide_eq_false h2
  have := List.le_antisymm (List.not_lt.mp h1) (List.not_lt.mp h2)
  cases x; cases y
  simp only [Str.mk.injEq]
  exact Array.ext' this
theorem Each.nil {α : Type u} {p : α → Prop} : Each p [] := trivial
theorem Each.cons {α : Type u} {p : α → Prop} {x : α} {r : List α} (h : p x) (t : Each p r) : Each p (x :: r) := ⟨h, t⟩
end Z

/-! V1: a reading by functions: values, the store, results; operators. -/
namespace Z
open PySem PySem.Spec PyProof.Rows L2

/-- plain data, or a mutable thing by its number -/
inductive W where
  | v (d : D)
  | r (i : Nat)
  deriving Inhabited
abbrev WEn := List (Option W)
inductive VO where
  | lst (ds : List D)
  | dK (kvs : List (Key × W))
  | dT (kvs : List (List Key × W))
  | ins (C : Addr) (fs : List (Str × W))
  deriving Inhabited
abbrev Sto := List (Option VO)
def getS (S : Sto) (i : Nat) : Option VO := (S[i]?).join
inductive Rs (α : Type) where
  | ok (a : α) (S : Sto)
  | ex (x : Exc) (S : Sto)
  | no
def Rs.bind {α β : Type} (r : Rs α) (f : α → Sto → Rs β) : Rs β := match r with
  | .ok a S => f a S
  | .ex x S => .ex x S
  | .no => .no
@[simp] theorem Rs.bind_ok {α β : Type} {a : α} {S : Sto} {f : α → Sto → Rs β} : (Rs.ok a S).bind f = f a S := rfl
@[simp] theorem Rs.bind_ex {α β : Type} {x : Exc} {S : Sto} {f : α → Sto → Rs β} : (Rs.ex x S : Rs α).bind f = .ex x S := rfl
@[simp] theorem Rs.bind_no {α β : Type} {f : α → Sto → Rs β} : (Rs.no : Rs α).bind f = .no := rfl
/-- an answer, the store unchanged -/
def lft {α : Type} (S : Sto) : Option α → Rs α
  | some a => .ok a S
  | none => .no
@[simp] theorem lft_some {α : Type} {S : Sto} {a : α} : lft S (some a) = .ok a S := rfl
@[simp] theorem lft_none {α : Type} {S : Sto} : lft S (none : Option α) = .no := rfl
def lfv (S : Sto) : Option D → Rs W
  | some a => .ok (.v a) S
  | none => .no
@[simp] theorem lfv_some {S : Sto} {a : D} : lfv S (some a) = .ok (.v a) S := rfl
@[simp] theorem lfv_none {S : Sto} : lfv S none = .no := rfl
/-- no exception gets out -/
def calm {α : Type} : Rs α → Rs α
  | .ex _ _ => .no
  | r => r
@[simp] theorem calm_ok {α : Type} {a : α} {S : Sto} : calm (.ok a S) = .ok a S := rfl
@[simp] theorem calm_no {α : Type} : calm (.no : Rs α) = .no := rfl

/-- plain, or a list by its content -/
def rdW (S : Sto) : W → Option D
  | .v d => match d with | .ref _ => none | d => some d
  | .r i => match getS S i with | some (.lst ds) => some (.lst ds) | _ => none
/-- plain -/
def plW : W → Option D
  | .v d => match d with | .ref _ => none | d => some d
  | .r _ => none
def rd1 (S : Sto) (w : W) (f : D → Option D) : Option D := match rdW S w with | some d => f d | none => none
def rd2 (S : Sto) (x y : W) (f : D → D → Option D) : Option D := match rdW S x, rdW S y with | some d, some e => f d e | _, _ => none

def vadd : D → D → Option D
  | .int i, .int j => some (.int (i + j))
  | .str a, .str b => if a.length + b.length ≤ sizeLine then some (.str (a ++ b)) else none
  | .tp .t a, .tp .t b => if a.length + b.length ≤ sizeLine then some (.tup (a ++ b)) else none
  | .lst a, .lst b => if a.length + b.length ≤ sizeLine then some (.lst (a ++ b)) else none
  | _, _ => none
def vsub : D → D → Option D
  | .int i, .int j => some (.int (i - j))
  | _, _ => none
def mulOk (i j : Int) : Bool := !(decide (Builtin.Int.intBits i > shortFactorBits) && decide (Builtin.Int.intBits j > shortFactorBits) && Builtin.Int.intTooBig (Builtin.Int.intBits i + Builtin.Int.intBits j))
def vmul : D → D → Option D
  | .int i, .int j => if mulOk i j = true then some (.int (i * j)) else none
  | .tp .t a, .int k => if a ≠ [] ∧ 2 ≤ k ∧ k ≤ 1000 ∧ a.length ≤ 1000 then some (.tup (List.replicate k.toNat a).flatten) else none
  | .str a, .int k => if 0 ≤ k ∧ k ≤ 1000 ∧ a.length ≤ 1000 then some (.str (Txt.mul a k)) else none
  | .lst a, .int k => if -(2 ^ 63) ≤ k ∧ k < 2 ^ 63 ∧ a.length * k.toNat ≤ sizeLine then some (.lst (List.replicate k.toNat a).flatten) else none
  | _, _ => none
def vfdv : D → D → Option D
  | .int i, .int j => if j ≠ 0 ∧ j.natAbs < 1073741824 then some (.int (i.fdiv j)) else none
  | _, _ => none
def vmod : D → D → Option D
  | .int i, .int j => if j ≠ 0 then some (.int (i.fmod j)) else none
  | _, _ => none
def vpow : D → D → Option D
  | .int i, .int j => if 0 ≤ j ∧ j ≤ 1000000 ∧ i.natAbs < 2 ^ 64 then some (.int (i ^ j.toNat)) else none
  | _, _ => none
def BOp.vo : BOp → D → D → Option D
  | .add => vadd | .sub => vsub | .mul => vmul | .fdv => vfdv | .mod => vmod | .pow => vpow
def veqOk (x y : D) : Bool := sc2 x y || (lay 60 x && lay 60 y)
def veq (x y : D) : Option D := if veqOk x y = true then some (.bl (eqv x y)) else none
def vne (x y : D) : Option D := if veqOk x y = true then some (.bl (!eqv x y)) else none
def vltOk (x y : D) : Bool := likeD x y && notNon x && pd 60 x && pd 60 y
def vlt (x y : D) : Option D := match x, y with
  | .int i, .int j => some (.bl (decide (i < j)))
  | x, y => if vltOk x y = true then some (.bl (ltD x y)) else none
def vle (x y : D) : Option D := match x, y with
  | .int i, .int j => some (.bl (decide (i ≤ j)))
  | x, y => if vltOk x y = true then some (.bl (!ltD y x)) else none
def vgt (x y : D) : Option D := match x, y with
  | .int i, .int j => some (.bl (decide (j < i)))
  | x, y => if vltOk x y = true then some (.bl (ltD y x)) else none
def vge (x y : D) : Option D := match x, y with
  | .int i, .int j => some (.bl (decide (j ≤ i)))
  | x, y => if vltOk x y = true then some (.bl (!ltD x y)) else none
section
variable {κ : Type} {α : Type} [DecidableEq κ]
def valG (kvs : List (κ × α)) (k : κ) : Option α := (kvs.find? fun kv => decide (kv.1 = k)).map (·.2)
def putG (kvs : List (κ × α)) (k : κ) (v : α) : List (κ × α) :=
  if (kvs.any fun kv => decide (kv.1 = k)) = true then kvs.map (fun kv => if kv.1 = k then (kv.1, v) else kv) else kvs ++ [(k, v)]
end
/-- a look-up: the dict, the key -/
def dfW (S : Sto) (x : W) (y : D) : Option (Option W) := match x with
  | .v (.dK ks ds) => match keyK y with | some k => some ((valG (ks.zip ds) k).map W.v) | none => none
  | .v (.dT ks ds) => match keyT y with | some k => some ((valG (ks.zip ds) k).map W.v) | none => none
  | .v _ => none
  | .r i => match getS S i with
    | some (.dK kvs) => match keyK y with | some k => some (valG kvs k) | none => none
    | some (.dT kvs) => match keyT y with | some k => some (valG kvs k) | none => none
    | _ => none
/-- a tuple or a list by its content -/
def sqW (S : Sto) (w : W) : Option (List D) := match rdW S w with
  | some (.tp _ ds) => some ds
  | some (.lst ds) => some ds
  | some (.flst ds) => some ds
  | _ => none
def inW (S : Sto) (x y : W) : Option Bool := match plW x with
  | none => none
  | some x => match y with
    | .v (.str z) => match x with | .str i => some (!(Builtin.Str.occurrences z i 0 z.length 1).isEmpty) | _ => none
    | y => match sqW S y with
      | some ds => if inOk x ds = true then some (ds.any fun z => eqv z x) else none
      | none => match dfW S y x with
        | some o => some o.isSome
        | none => none
def ixW (S : Sto) (x y : W) : Option W := match plW y with
  | none => none
  | some (.int i) => match x with
    | .v (.str z) => if z.length ≤ sizeLine then (match atI z.cps.toList i with | some c => some (.v (.str ⟨#[c]⟩)) | none => none) else none
    | x => match sqW S x with
      | some ds => (atI ds i).map W.v
      | none => (dfW S x (.int i)).join
  | some y => (dfW S x y).join
def nonW : W → Bool
  | .v .non => true
  | _ => false
def blO (o : Option Bool) : Option D := match o with | some b => some (.bl b) | none => none
def COp.vo (S : Sto) : COp → W → W → Option D
  | .eq, x, y => rd2 S x y veq
  | .ne, x, y => rd2 S x y vne
  | .lt, x, y => rd2 S x y vlt
  | .le, x, y => rd2 S x y vle
  | .gt, x, y => rd2 S x y vgt
  | .ge, x, y => rd2 S x y vge
  | .isin, x, y => blO (inW S x y)
  | .notin, x, y => blO ((inW S x y).map not)
  | .is, x, y => if nonW y = true then some (.bl (nonW x)) else none
  | .isnot, x, y => if nonW y = true then some (.bl (!nonW x)) else none
def vneg : D → Option D
  | .int i => some (.int (-i))
  | _ => none
def truW (S : Sto) (w : W) : Option Bool := match w with
  | .v .non => some false
  | .v (.bl b) => some b
  | .v (.int i) => some (i != 0)
  | .v (.str y) => if y.length ≤ sizeLine then some ((y.length : Int) != 0) else none
  | w => match sqW S w with
    | some ds => some (!ds.isEmpty)
    | none => match w with
      | .r i => match getS S i with | some (.dK kvs) => some (!kvs.isEmpty) | _ => none
      | _ => none
def blW : W → Option Bool
  | .v (.bl b) => some b
  | _ => none
/-- plain lists of arguments -/
def likeB (ds : List D) : Bool := ds.all fun d => ds.all fun e => likeD d e
def tup1 : D → Bool | .tp _ (_ :: _) => true | _ => false
def notTp : D → Bool | .non => false | .tp _ _ => false | _ => true
def sortB (ds : List D) : Bool := likeB ds && ds.all (pd 60) && (ds.all tup1 || ds.all notTp)
def vsrt : D → Option D
  | .lst ds => if sortB ds = true then some (.lst (sortD ds)) else none
  | .flst ds => if sortB ds = true then some (.lst (sortD ds)) else none
  | _ => none
def lstW (S : Sto) (w : W) : Option (List D) := match sqW S w with
  | some ds => some ds
  | none => match w with
    | .v (.dK ks ds) => some ((ks.zip ds).map fun kv => kD kv.1)
    | .v (.dT ks ds) => some ((ks.zip ds).map fun kv => D.tup (kv.1.map kD))
    | .r i => match getS S i with
      | some (.dK kvs) => some (kvs.map fun kv => kD kv.1)
      | some (.dT kvs) => some (kvs.map fun kv => D.tup (kv.1.map kD))
      | _ => none
    | _ => none
/-- a new thing -/
def newW (S : Sto) (o : VO) : Rs W := .ok (.r S.length) (S ++ [some o])
def vtupT : D → Option D
  | .tp k ds => some (.tp k ds)
  | .lst ds => some (.tup ds)
  | .flst ds => some (.tup ds)
  | _ => none
def vtupK : D → Option D
  | .lst ds => some (.tp .k ds)
  | .flst ds => some (.tp .k ds)
  | _ => none
def Bt.wo (b : Bt) (S : Sto) (ws : List W) : Rs W := match b, ws with
  | .len, [w] => lfv S (rd1 S w (lenA M00))
  | .int, [w] => lfv S (rd1 S w (intA M00))
  | .abs, [w] => lfv S (rd1 S w (absA M00))
  | .strI, [w] => lfv S (rd1 S w (strA M00))
  | .min2, [x, y] => lfv S (rd2 S x y (minA M00))
  | .max2, [x, y] => lfv S (rd2 S x y (maxA M00))
  | .minL, [w] => lfv S (rd1 S w (Z.minL M00))
  | .maxL, [w] => lfv S (rd1 S w (Z.maxL M00))
  | .sum, [w] => lfv S (rd1 S w (sumA M00))
  | .all, [w] => lfv S (rd1 S w (allA M00))
  | .any, [w] => lfv S (rd1 S w (anyA M00))
  | .srt, [w] => lfv S (rd1 S w vsrt)
  | .tupT, [w] => lfv S (rd1 S w vtupT)
  | .tupK, [w] => lfv S (rd1 S w vtupK)
  | .lstF, [w] => match lstW S w with | some ds => .ok (.v (.lst ds)) S | none => .no
  | .lstM, [w] => match lstW S w with | some ds => newW S (.lst ds) | none => .no
  | _, _ => .no
def setS (S : Sto) (i : Nat) (o : Option VO) : Sto := S.set i o
def Mt.wo (m : Mt) (S : Sto) (o : W) (ws : List W) : Rs W := match m, o, ws with
  | .append, .r a, [.v x] => match getS S a with
    | some (.lst ds) => if ds.length < sizeLine then .ok (.v .non) (setS S a (some (.lst (ds ++ [x])))) else .no
    | _ => .no
  | .extend, .r a, [x] => match getS S a, rdW S x with
    | some (.lst ds), some (.lst es) => if ds.length + es.length ≤ sizeLine then .ok (.v .non) (setS S a (some (.lst (ds ++ es)))) else .no
    | _, _ => .no
  | .get, o, [.v k, z] => match dfW S o k with
    | some r => .ok (r.getD z) S
    | none => .no
  | .setdefault, .r a, [.v k, z] => match getS S a, keyK k with
    | some (.dK kvs), some k => if kvs.length < sizeLine then (match valG kvs k with
      | some v => .ok v S
      | none => .ok z (setS S a (some (.dK (putG kvs k z))))) else .no
    | _, _ => .no
  | .index, o, [.v x] => match rdW S o with
    | some (.lst ds) => if lay 59 x && layL 59 ds then (match findD x ds 0 with | some j => .ok (.v (.int j)) S | none => .no) else .no
    | _ => .no
  | .indexT, .v (.tp .k ds), [.v (.str x)] => match strsOf ds with
    | some ys => match findS x ys 0 with | some j => .ok (.v (.int j)) S | none => .no
    | none => .no
  | .join, .v (.str z), [x] => match sqW S x with
    | some ds => match strsOf ds with
      | some ys => if (ys.map (·.length)).sum + ys.length * z.length ≤ 16777216 then .ok (.v (.str (Txt.join z ys))) S else .no
      | none => .no
    | none => .no
  | .split, .v (.str a), [.v (.str b)] => if (b.length == 0) = false ∧ a.length + 2 ≤ sizeLine then .ok (.v (.lst ((Txt.split a b).map D.str))) S else .no
  | .startswith, .v (.str a), [.v (.str b)] => .ok (.v (.bl (Txt.startswith a b))) S
  | _, _, _ => .no
def tyW (m : Mt) (S : Sto) (o : W) : Bool := match m with
  | .append | .extend | .index => (match rdW S o with | some (.lst _) => true | _ => false)
  | .get | .setdefault => (match o with
    | .v (.dK _ _) => true
    | .v (.dT _ _) => true
    | .r i => (match getS S i with | some (.dK _) => true | some (.dT _) => true | _ => false)
    | _ => false)
  | .indexT => (match o with | .v (.tp .k _) => true | _ => false)
  | .join | .split | .startswith => (match o with | .v (.str _) => true | _ => false)
def vsl (x : D) (lo hi : Option Int) : Option D := match x with
  | .str z => if z.length ≤ sizeLine then some (.str (cutS z lo hi)) else none
  | .tp .t ds => some (.tup (cutD ds lo hi))
  | .lst ds => some (.lst (cutD ds lo hi))
  | .flst ds => some (.lst (cutD ds lo hi))
  | _ => none
def vrev : D → Option D
  | .lst ds => some (.lst ds.reverse)
  | .flst ds => some (.lst ds.reverse)
  | _ => none
/-! ### slots, targets -/
def getV : WEn → Nat → Option W
  | [], _ => none
  | x :: _, 0 => x
  | _ :: r, n + 1 => getV r n
def setV2 : WEn → Nat → W → WEn
  | [], _, _ => []
  | _ :: r, 0, d => some d :: r
  | x :: r, n + 1, d => x :: setV2 r n d
def wipeV1 : WEn → Nat → WEn
  | [], _ => []
  | _ :: r, 0 => none :: r
  | x :: r, n + 1 => x :: wipeV1 r n
def wipeV : WEn → List Nat → WEn
  | e, [] => e
  | e, v :: vs => wipeV1 (wipeV e vs) v
def setAllV : WEn → List Nat → List D → Option WEn
  | e, [], [] => some e
  | e, i :: is, d :: ds => setAllV (setV2 e i (.v d)) is ds
  | _, _, _ => none
def bindV : Tg → W → WEn → Option WEn
  | .nm i, w, e => some (setV2 e i w)
  | .tp is, w, e => match w with
    | .v (.tp _ ds) => setAllV e is ds
    | _ => none
inductive Oc where
  | nx (e : WEn)
  | rt (w : W)
  | bk (e : WEn)
  | ct (e : WEn)
  deriving Inhabited
/-! ### walks -/
def itmW (w : W) : Option (List D) := match w with
  | .v d => itemsA d
  | .r _ => none
def itW (ik : IK) (ws : List W) : Option (List D) := match ik, ws with
  | .seq, [w] => itmW w
  | .rng1, [.v (.int j)] => if -16777216 ≤ j ∧ j ≤ 16777216 then some (rngD 0 j.toNat) else none
  | .rng2, [.v (.int i), .v (.int j)] => if -16777216 ≤ i ∧ i ≤ 16777216 ∧ -16777216 ≤ j ∧ j ≤ 16777216 ∧ j - i ≤ 16777216 then some (rngD i (j - i).toNat) else none
  | .enm, [.v (.lst ds)] => if ds.length ≤ sizeLine then some (enumD 0 ds) else none
  | _, _ => none
abbrev WF (α : Type) := WEn → Sto → Rs α
def compV (tg : Tg) (tt : WF Bool) (te : WF W) (en : WEn) : List D → Sto → Rs (List D)
  | [], S => .ok [] S
  | x :: r, S => match bindV tg (.v x) en with
    | none => .no
    | some e1 => (tt e1 S).bind fun b S1 => match b with
      | true => (te e1 S1).bind fun w S2 => match w with
        | .v y => (compV tg tt te en r S2).bind fun ys S3 => .ok (y :: ys) S3
        | .r _ => .no
      | false => compV tg tt te en r S1
def compR (m : Bool) (r : Rs (List D)) : Rs W := r.bind fun ys S => match m with
  | true => newW S (.lst ys)
  | false => .ok (.v (.lst ys)) S
def turnsV (tg : Tg) (body : WF Oc) : List D → WF Oc
  | [], en, S => .ok (.nx en) S
  | x :: r, en, S => match bindV tg (.v x) en with
    | none => .no
    | some e1 => (body e1 S).bind fun o S1 => match o with
      | .nx e => turnsV tg body r e S1
      | .ct e => turnsV tg body r e S1
      | .bk e => .ok (.nx e) S1
      | .rt w => .ok (.rt w) S1
def whN (c : WF Bool) (body : WF Oc) : Nat → WF Oc
  | 0, _, _ => .no
  | n + 1, en, S => (c en S).bind fun b S1 => match b with
    | true => (body en S1).bind fun o S2 => match o with
      | .nx e => whN c body n e S2
      | .ct e => whN c body n e S2
      | .bk e => .ok (.nx e) S2
      | .rt w => .ok (.rt w) S2
    | false => .ok (.nx en) S1
open Classical in
noncomputable def whV (c : WF Bool) (body : WF Oc) : WF Oc := fun en S => if h : ∃ n, whN c body n en S ≠ .no then whN c body h.choose en S else .no
/-! ### dict displays -/
def keysW : List (W × W) → Option (List (Key × W))
  | [] => some []
  | (k, v) :: r => match k with
    | .v k => match keyK k, keysW r with
      | some k, some r => some ((k, v) :: r)
      | _, _ => none
    | _ => none
def mergeG {α : Type} (kvs more : List (Key × α)) : List (Key × α) := more.foldl (fun acc kv => putG acc kv.1 kv.2) kvs
def plnW : List W → Option (List D)
  | [] => some []
  | .v d :: r => match plnW r with | some ds => some (d :: ds) | none => none
  | .r _ :: _ => none
def disW (m : Bool) (S : Sto) (ps : List (W × W)) : Rs W := match keysW ps with
  | some kvs => if kvs.length ≤ 15 then (match m with
    | true => newW S (.dK (mergeG [] kvs))
    | false => match plnW ((mergeG [] kvs).map (·.2)) with
      | some ds => .ok (.v (.dK ((mergeG [] kvs).map (·.1)) ds)) S
      | none => .no) else .no
  | none => .no
/-- o[i] = v -/
def putW (S : Sto) (o i v : W) : Option Sto := match o, i with
  | .r a, .v i => match getS S a with
    | some (.lst ds) => match i, v with
      | .int k, .v d => match ixN ds.length k with
        | some j => some (setS S a (some (.lst (ds.set j d))))
        | none => none
      | _, _ => none
    | some (.dK kvs) => match keyK i with
      | some k => if kvs.length < sizeLine then some (setS S a (some (.dK (putG kvs k v)))) else none
      | none => none
    | some (.dT kvs) => match keyT i with
      | some k => if kvs.length < sizeLine then some (setS S a (some (.dT (putG kvs k v)))) else none
      | none => none
    | _ => none
  | _, _ => none
def fzV (i : Nat) (en : WEn) (S : Sto) : Option (WEn × Sto) := match getV en i with
  | some (.r a) => match getS S a with
    | some (.lst ds) => some (setV2 en i (.v (.lst ds)), setS S a none)
    | some (.dK kvs) => match plnW (kvs.map (·.2)) with | some ds => some (setV2 en i (.v (.dK (kvs.map (·.1)) ds)), setS S a none) | none => none
    | some (.dT kvs) => match plnW (kvs.map (·.2)) with | some ds => some (setV2 en i (.v (.dT (kvs.map (·.1)) ds)), setS S a none) | none => none
    | _ => none
  | _ => none
def viadd : D → D → Option D
  | .int i, .int j => some (.int (i + j))
  | .str a, .str b => if a.length + b.length ≤ sizeLine then some (.str (a ++ b)) else none
  | _, _ => none
def visub : D → D → Option D
  | .int i, .int j => some (.int (i - j))
  | _, _ => none
def vfmt : D → Option D
  | .str y => if y.length ≤ sizeLine then some (.str y) else none
  | .int i => if i.natAbs.log2 < 1920 then some (.str (toString i)) else none
  | _ => none
/-- a text more -/
def jsV (acc : Str) (x : W) (k : Str → Rs W) : Rs W := match x with
  | .v (.str y) => if (acc ++ y).length ≤ sizeLine then k (acc ++ y) else .no
  | _ => .no
/-- an error caught: the word and the number -/
def catchV (k : Str) (r : Rs Oc) : Rs Oc := match r with
  | .ex x S => match x.arg with
    | some a => if x.cls = ("InvalidLine" : Str) then .ok (.rt (.v (.tup [.str k, a]))) S else .no
    | none => .no
  | r => r
@[simp] theorem catchV_ok {k : Str} {o : Oc} {S : Sto} : catchV k (.ok o S) = .ok o S := rfl
def addMV (S : Sto) (x y : W) : Rs W := match rdW S x, rdW S y with
  | some (.lst a), some (.lst b) => if a.length + b.length ≤ sizeLine then newW S (.lst (a ++ b)) else .no
  | _, _ => .no
/-! ### the reading -/
structure GV where
  fns : List (Str × Nat × (List W → Sto → Rs W))
  cst : List (Str × D)
  bn : List Str
  er : Bool
def callV (G : GV) (j : Nat) (r : Rs (List W)) : Rs W := match nth G.fns j with
  | some (_, n, f) => r.bind fun ws S => if ws.length = n then f ws S else .no
  | none => .no
def cstV (G : GV) (j : Nat) (S : Sto) : Rs W := match nth G.cst j with
  | some (_, d) => .ok (.v d) S
  | none => .no
/-- a bool -/
def tstV (r : Rs W) : Rs Bool := r.bind fun w S => lft S (blW w)
def truV (r : Rs W) : Rs Bool := r.bind fun w S => lft S (truW S w)
mutual
def evE (G : GV) : Ex → WEn → Sto → Rs W
  | .loc i, en, S => lft S (getV en i)
  | .non, _, S => .ok (.v .non) S
  | .bl b, _, S => .ok (.v (.bl b)) S
  | .int i, _, S => .ok (.v (.int i)) S
  | .str x, _, S => .ok (.v (.str x)) S
  | .glo j, _, S => cstV G j S
  | .bin o a b, en, S => (evE G a en S).bind fun x S1 => (evE G b en S1).bind fun y S2 => lfv S2 (rd2 S2 x y o.vo)
  | .addM a b, en, S => (evE G a en S).bind fun x S1 => (evE G b en S1).bind fun y S2 => addMV S2 x y
  | .neg a, en, S => (evE G a en S).bind fun x S1 => lfv S1 (rd1 S1 x vneg)
  | .cmp o a b, en, S => (evE G a en S).bind fun x S1 => (evE G b en S1).bind fun y S2 => lfv S2 (o.vo S2 x y)
  | .chn o o' a b c, en, S => (evE G a en S).bind fun x S1 => (evE G b en S1).bind fun y S2 => match o.vo S2 x y with
    | some (.bl true) => (evE G c en S2).bind fun z S3 => lfv S3 (o'.vo S3 y z)
    | some (.bl false) => .ok (.v (.bl false)) S2
    | _ => .no
  | .bol k es, en, S => evV G k es en S
  | .nt a, en, S => (evE G a en S).bind fun x S1 => lfv S1 (blO ((blW x).map not))
  | .ite c a b, en, S => (evT G c en S).bind fun k S1 => match k with | true => evE G a en S1 | false => evE G b en S1
  | .tup es, en, S => (evL G es en S).bind fun ws S1 => match plnW ws with
    | some ds => if ds.length ≤ sizeLine then .ok (.v (.tup ds)) S1 else .no
    | none => .no
  | .lst m es, en, S => (evL G es en S).bind fun ws S1 => match plnW ws with
    | some ds => if ds.length ≤ sizeLine then (match m with | true => newW S1 (.lst ds) | false => .ok (.v (.lst ds)) S1) else .no
    | none => .no
  | .idx a b, en, S => (evE G a en S).bind fun x S1 => (evE G b en S1).bind fun y S2 => lft S2 (ixW S2 x y)
  | .sli a lo hi, en, S => (evE G a en S).bind fun x S1 => (evO G lo en S1).bind fun l S2 => (evO G hi en S2).bind fun h S3 => lfv S3 (rd1 S3 x fun d => vsl d l h)
  | .rev a, en, S => (evE G a en S).bind fun x S1 => lfv S1 (rd1 S1 x vrev)
  | .call j e es, en, S => callV G j ((evE G e en S).bind fun x S1 => (evL G es en S1).bind fun xs S2 => .ok (x :: xs) S2)
  | .blt b e es, en, S => (evE G e en S).bind fun x S1 => (evL G es en S1).bind fun xs S2 => b.wo S2 (x :: xs)
  | .isi T e, en, S => (evE G e en S).bind fun x S1 => lfv S1 (rd1 S1 x fun d => blO (isTy M00 d T))
  | .mth m o e es, en, S => (evE G o en S).bind fun x S1 => match tyW m S1 x with
    | true => (evE G e en S1).bind fun y S2 => (evL G es en S2).bind fun ys S3 => m.wo S3 x (y :: ys)
    | false => .no
  | .comp m elt tg ik its ifs own, en, S => (evL G its en S).bind fun ws S1 => match itW ik ws with
    | some items => compR m (calm (compV tg (evC G ifs) (evE G elt) (wipeV en (own.map (·.2))) items S1))
    | none => .no
  | .newK m, _, S => match m with | true => newW S (.dK []) | false => .ok (.v (.dK [] [])) S
  | .newT, _, S => newW S (.dT [])
  | .dis m kvs, en, S => (calm (evP G kvs en S)).bind fun ps S1 => disW m S1 ps
  | .fmt e, en, S => (evE G e en S).bind fun x S1 => lfv S1 (rd1 S1 x vfmt)
  | .js e e2 es, en, S => (evE G e en S).bind fun x S1 => jsV Str.empty x fun a1 => (evE G e2 en S1).bind fun y S2 => jsV a1 y fun a2 => evJ G es a2 en S2
def evT (G : GV) : Ex → WEn → Sto → Rs Bool
  | .cmp o a b, en, S => (evE G a en S).bind fun x S1 => (evE G b en S1).bind fun y S2 => lft S2 (match o.vo S2 x y with | some (.bl b) => some b | _ => none)
  | .chn o o' a b c, en, S => (evE G a en S).bind fun x S1 => (evE G b en S1).bind fun y S2 => match o.vo S2 x y with
    | some (.bl true) => (evE G c en S2).bind fun z S3 => lft S3 (match o'.vo S3 y z with | some (.bl b) => some b | _ => none)
    | some (.bl false) => .ok false S2
    | _ => .no
  | .bol k es, en, S => evB G k es en S
  | .nt a, en, S => (evT G a en S).bind fun b S1 => .ok (!b) S1
  | .loc i, en, S => truV (lft S (getV en i))
  | .non, _, S => .ok false S
  | .bl b, _, S => .ok b S
  | .int i, _, S => .ok (i != 0) S
  | .str x, _, S => truV (.ok (.v (.str x)) S)
  | .idx a b, en, S => truV ((evE G a en S).bind fun x S1 => (evE G b en S1).bind fun y S2 => lft S2 (ixW S2 x y))
  | .call j e es, en, S => truV (callV G j ((evE G e en S).bind fun x S1 => (evL G es en S1).bind fun xs S2 => .ok (x :: xs) S2))
  | .blt b e es, en, S => truV ((evE G e en S).bind fun x S1 => (evL G es en S1).bind fun xs S2 => b.wo S2 (x :: xs))
  | .isi T e, en, S => truV ((evE G e en S).bind fun x S1 => lfv S1 (rd1 S1 x fun d => blO (isTy M00 d T)))
  | .mth m o e es, en, S => truV ((evE G o en S).bind fun x S1 => match tyW m S1 x with
    | true => (evE G e en S1).bind fun y S2 => (evL G es en S2).bind fun ys S3 => m.wo S3 x (y :: ys)
    | false => .no)
  | _, _, _ => .no
def evL (G : GV) : List Ex → WEn → Sto → Rs (List W)
  | [], _, S => .ok [] S
  | e :: es, en, S => (evE G e en S).bind fun x S1 => (evL G es en S1).bind fun xs S2 => .ok (x :: xs) S2
def evV (G : GV) : Bool → List Ex → WEn → Sto → Rs W
  | _, [], _, _ => .no
  | _, [e], en, S => evE G e en S
  | true, e :: es, en, S => (evE G e en S).bind fun x S1 => match blW x with | some true => evV G true es en S1 | some false => .ok (.v (.bl false)) S1 | none => .no
  | false, e :: es, en, S => (evE G e en S).bind fun x S1 => match blW x with | some true => .ok (.v (.bl true)) S1 | some false => evV G false es en S1 | none => .no
def evB (G : GV) : Bool → List Ex → WEn → Sto → Rs Bool
  | _, [], _, _ => .no
  | _, [e], en, S => evT G e en S
  | true, e :: es, en, S => (evT G e en S).bind fun b S1 => match b with | true => evB G true es en S1 | false => .ok false S1
  | false, e :: es, en, S => (evT G e en S).bind fun b S1 => match b with | true => .ok true S1 | false => evB G false es en S1
def evO (G : GV) : List Ex → WEn → Sto → Rs (Option Int)
  | [], _, S => .ok none S
  | e :: _, en, S => (evE G e en S).bind fun x S1 => match x with | .v (.int i) => .ok (some i) S1 | _ => .no
def evC (G : GV) : List Ex → WEn → Sto → Rs Bool
  | [], _, S => .ok true S
  | e :: _, en, S => evT G e en S
def evJ (G : GV) : List Ex → Str → WEn → Sto → Rs W
  | [], acc, _, S => .ok (.v (.str acc)) S
  | e :: es, acc, en, S => (evE G e en S).bind fun x S1 => jsV acc x fun a => evJ G es a en S1
def evP (G : GV) : List Ex → WEn → Sto → Rs (List (W × W))
  | k :: v :: r, en, S => (evE G k en S).bind fun x S1 => (evE G v en S1).bind fun y S2 => (evP G r en S2).bind fun ps S3 => .ok ((x, y) :: ps) S3
  | _, _, S => .ok [] S
end
mutual
noncomputable def evS (G : GV) : Sx → WEn → Sto → Rs Oc
  | .asg tg e, en, S => (evE G e en S).bind fun w S1 => match bindV tg w en with | some e' => .ok (.nx e') S1 | none => .no
  | .par i j a b, en, S => (evE G a en S).bind fun x S1 => (evE G b en S1).bind fun y S2 => .ok (.nx (setV2 (setV2 en i x) j y)) S2
  | .sput o i e, en, S => (evE G e en S).bind fun v S1 => (evE G o en S1).bind fun x S2 => (evE G i en S2).bind fun k S3 => match putW S3 x k v with | some S4 => .ok (.nx en) S4 | none => .no
  | .aug i k e, en, S => match getV en i with
    | some d => (evE G e en S).bind fun d2 S1 => match rd2 S1 d d2 (match k with | true => viadd | false => visub) with | some r => .ok (.nx (setV2 en i (.v r))) S1 | none => .no
    | none => .no
  | .expr e, en, S => (evE G e en S).bind fun _ S1 => .ok (.nx en) S1
  | .ret e, en, S => (evE G e en S).bind fun w S1 => .ok (.rt w) S1
  | .retN, _, S => .ok (.rt (.v .non)) S
  | .ifs c a b, en, S => (evT G c en S).bind fun k S1 => match k with | true => evSs G a en S1 | false => evSs G b en S1
  | .fors tg ik its body, en, S => (evL G its en S).bind fun ws S1 => match itW ik ws with
    | some items => turnsV tg (evSs G body) items en S1
    | none => .no
  | .whl c body, en, S => whV (evT G c) (evSs G body) en S
  | .brk, en, S => .ok (.bk en) S
  | .cnt, en, S => .ok (.ct en) S
  | .pss, en, S => .ok (.nx en) S
  | .fz i, en, S => match fzV i en S with | some (e, S1) => .ok (.nx e) S1 | none => .no
  | .rse e, en, S => (evE G e en S).bind fun w S1 => match w with | .v d => .ex ⟨"InvalidLine", some d⟩ S1 | .r _ => .no
  | .rseN, _, _ => .no
  | .tryR body k _, en, S => catchV k (evSs G body en S)
noncomputable def evSs (G : GV) : List Sx → WEn → Sto → Rs Oc
  | [], en, S => .ok (.nx en) S
  | s :: r, en, S => (evS G s en S).bind fun o S1 => match o with
    | .nx e => evSs G r e S1
    | o => .ok o S1
end
/-- a body's end -/
def Rs.out (r : Rs Oc) : Rs W := r.bind fun o S => match o with
  | .nx _ => .ok (.v .non) S
  | .rt w => .ok w S
  | _ => .no
def startV (n : Nat) (ws : List W) : WEn := ws.map some ++ List.replicate (n - ws.length) none
/-- a def as a function -/
noncomputable def runV (G : GV) (n : Nat) (B : List Sx) : List W → Sto → Rs W := fun ws S => (evSs G B (startV n ws) S).out
end Z

/-! V2: numbers for addresses; what stays; operators are sound. -/
namespace Z
open PySem PySem.Spec PyProof.Rows L2

abbrev Nm := Nat → Addr
def rnW (ι : Nm) : W → D
  | .v d => d
  | .r i => .ref (ι i)
def rnO (ι : Nm) : VO → MO
  | .lst ds => .lst ds
  | .dK kvs => .dK (kvs.map fun kv => (kv.1, rnW ι kv.2))
  | .dT kvs => .dT (kvs.map fun kv => (kv.1, rnW ι kv.2))
  | .ins C fs => .ins C (fs.map fun kv => (kv.1, rnW ι kv.2))
def rnE (ι : Nm) (en : WEn) : En := en.map (Option.map (rnW ι))
def wfW (n : Nat) : W → Prop
  | .v _ => True
  | .r i => i < n
def wfO (n : Nat) : VO → Prop
  | .lst _ => True
  | .dK kvs => ∀ kv ∈ kvs, wfW n kv.2
  | .dT kvs => ∀ kv ∈ kvs, wfW n kv.2
  | .ins _ fs => ∀ kv ∈ fs, wfW n kv.2
def wfE (n : Nat) (en : WEn) : Prop := ∀ w, some w ∈ en → wfW n w
def wfL (n : Nat) (ws : List W) : Prop := ∀ w ∈ ws, wfW n w
theorem wfW.le {n m : Nat} {w : W} (h : wfW n w) (l : n ≤ m) : wfW m w := by
  cases w with
  | v d => trivial
  | r i => exact Nat.lt_of_lt_of_le h l
theorem wfO.le {n m : Nat} {o : VO} (h : wfO n o) (l : n ≤ m) : wfO m o := by
  cases o with
  | lst ds => trivial
  | dK kvs => exact fun kv hk => (h kv hk).le l
  | dT kvs => exact fun kv hk => (h kv hk).le l
  | ins C kvs => exact fun kv hk => (h kv hk).le l
theorem wfE.le {n m : Nat} {e : WEn} (h : wfE n e) (l : n ≤ m) : wfE m e := fun w hw => (h w hw).le l
theorem wfL.le {n m : Nat} {e : List W} (h : wfL n e) (l : n ≤ m) : wfL m e := fun w hw => (h w hw).le l
structure Emb (ι : Nm) (S : Sto) (M : MH) : Prop where
  at' : ∀ i o, getS S i = some o → M (ι i) = some (rnO ι o)
  inj : ∀ i j o u, getS S i = some o → getS S j = some u → ι i = ι j → i = j
  wf : ∀ i o, getS S i = some o → wfO S.length o
structure Ext (ι : Nm) (S : Sto) (M : MH) (ι' : Nm) (S' : Sto) (M' : MH) : Prop where
  emb : Emb ι' S' M'
  agr : ∀ i, i < S.length → ι' i = ι i
  len : S.length ≤ S'.length
  own : ∀ i o, getS S' i = some o → M (ι' i) = none ∨ ∃ j u, getS S j = some u ∧ ι j = ι' i
  frm : ∀ a, M a ≠ none → (∀ i o, getS S i = some o → ι i ≠ a) → M' a = M a
theorem Ext.refl {ι : Nm} {S : Sto} {M : MH} (e : Emb ι S M) : Ext ι S M ι S M := ⟨e, fun _ _ => rfl, Nat.le_refl _, fun i o h => .inr ⟨i, o, h, rfl⟩, fun _ _ _ => rfl⟩
theorem Ext.trans {ι ι1 ι2 : Nm} {S S1 S2 : Sto} {M M1 M2 : MH} (a : Ext ι S M ι1 S1 M1) (b : Ext ι1 S1 M1 ι2 S2 M2) : Ext ι S M ι2 S2 M2 where
  emb := b.emb
  agr := fun i h => (b.agr i (Nat.lt_of_lt_of_le h a.len)).trans (a.agr i h)
  len := Nat.le_trans a.len b.len
  own := fun i o h => by
    rcases b.own i o h with z | ⟨j, u, z1, z2⟩
    · by_cases q : M (ι2 i) = none
      · exact .inl q
      · refine .inr ?_
        apply Classical.byContradiction
        intro hn
        have := a.frm (ι2 i) q fun j u hj e => hn ⟨j, u, hj, e⟩
        rw [z] at this
        exact q this.symm
    · rcases a.own j u z1 with z | ⟨k, u2, y1, y2⟩
      · rw [← z2]; exact .inl z
      · exact .inr ⟨k, u2, y1, y2.trans z2⟩
  frm := fun c h1 h2 => by
    have e1 := a.frm c h1 h2
    rw [← e1]
    refine b.frm c (by rw [e1]; exact h1) fun i o h e => ?_
    rcases a.own i o h with z | ⟨k, u2, y1, y2⟩
    · rw [e] at z; exact h1 z
    · exact h2 k u2 y1 (y2.trans e)
theorem rnW_agr {ι ι' : Nm} {n : Nat} (h : ∀ i, i < n → ι' i = ι i) {w : W} (hw : wfW n w) : rnW ι' w = rnW ι w := by
  cases w with
  | v d => rfl
  | r i => show D.ref (ι' i) = D.ref (ι i); rw [h i hw]
theorem rnE_agr {ι ι' : Nm} {n : Nat} (h : ∀ i, i < n → ι' i = ι i) {e : WEn} (hw : wfE n e) : rnE ι' e = rnE ι e := by
  refine List.map_congr_left fun x hx => ?_
  cases x with
  | none => rfl
  | some w => show some (rnW ι' w) = some (rnW ι w); rw [rnW_agr h (hw w hx)]
theorem rnL_agr {ι ι' : Nm} {n : Nat} (h : ∀ i, i < n → ι' i = ι i) {ws : List W} (hw : wfL n ws) : ws.map (rnW ι') = ws.map (rnW ι) := List.map_congr_left fun x hx => rnW_agr h (hw x hx)
theorem rnO_agr {ι ι' : Nm} {n : Nat} (h : ∀ i, i < n → ι' i = ι i) {o : VO} (hw : wfO n o) : rnO ι' o = rnO ι o := by
  cases o with
  | lst ds => rfl
  | dK kvs => show MO.dK _ = MO.dK _; congr 1; exact List.map_congr_left fun kv hk => by rw [rnW_agr h (hw kv hk)]
  | dT kvs => show MO.dT _ = MO.dT _; congr 1; exact List.map_congr_left fun kv hk => by rw [rnW_agr h (hw kv hk)]
  | ins C kvs => show MO.ins _ _ = MO.ins _ _; congr 1; exact List.map_congr_left fun kv hk => by rw [rnW_agr h (hw kv hk)]
theorem getS_lt {S : Sto} {i : Nat} {o : VO} (h : getS S i = some o) : i < S.length := by
  unfold getS at h
  by_cases q : i < S.length
  · exact q
  · rw [List.getElem?_eq_none (by omega)] at h; cases h
theorem getS_new {S : Sto} {o : VO} : getS (S ++ [some o]) S.length = some o := by
  unfold getS; simp
theorem getS_old {S : Sto} {o : VO} {i : Nat} (h : i ≠ S.length) : getS (S ++ [some o]) i = getS S i := by
  unfold getS
  by_cases q : i < S.length
  · rw [List.getElem?_append_left q]
  · rw [List.getElem?_eq_none (l := S) (by omega), List.getElem?_eq_none (l := S ++ [some o]) (by rw [List.length_append, List.length_singleton]; omega)]
theorem getS_set {S : Sto} {i : Nat} {o : Option VO} (h : i < S.length) : getS (setS S i o) i = o := by
  unfold getS setS; rw [List.getElem?_set_self h]; rfl
theorem getS_ne {S : Sto} {i j : Nat} {o : Option VO} (h : j ≠ i) : getS (setS S i o) j = getS S j := by
  unfold getS setS; rw [List.getElem?_set_ne (Ne.symm h)]
/-- a new thing -/
def pin (ι : Nm) (n : Nat) (p : Addr) : Nm := fun i => if i = n then p else ι i
theorem pin_at {ι : Nm} {n : Nat} {p : Addr} : pin ι n p n = p := if_pos rfl
theorem pin_ne {ι : Nm} {n i : Nat} {p : Addr} (h : i ≠ n) : pin ι n p i = ι i := if_neg h
theorem Ext.new {ι : Nm} {S : Sto} {M : MH} (e : Emb ι S M) {p : Addr} (hp : M p = none) {o : VO} (w : wfO S.length o) : Ext ι S M (pin ι S.length p) (S ++ [some o]) (up M p (rnO ι o)) := by
  have agr : ∀ i, i < S.length → pin ι S.length p i = ι i := fun i h => pin_ne (Nat.ne_of_lt h)
  have ne : ∀ i u, getS S i = some u → ι i ≠ p := fun i u h q => by
    have := e.at' i u h
    rw [q, hp] at this; cases this
  have hl : S.length ≤ (S ++ [some o]).length := by rw [List.length_append]; omega
  refine ⟨⟨fun i u h => ?_, fun i j u v h1 h2 q => ?_, fun i u h => ?_⟩, agr, hl, fun i u h => ?_, fun a h1 h2 => ?_⟩
  · by_cases q : i = S.length
    · subst q
      rw [getS_new] at h
      cases h
      rw [pin_at, up_same, rnO_agr agr w]
    · rw [getS_old q] at h
      rw [pin_ne q, up_ne (ne i u h), e.at' i u h, rnO_agr agr (e.wf i u h)]
  · by_cases q1 : i = S.length
    · by_cases q2 : j = S.length
      · rw [q1, q2]
      · rw [getS_old q2] at h2
        rw [q1, pin_at, pin_ne q2] at q
        exact absurd q.symm (ne j v h2)
    · rw [getS_old q1] at h1
      by_cases q2 : j = S.length
      · rw [q2, pin_at, pin_ne q1] at q
        exact absurd q (ne i u h1)
      · rw [getS_old q2] at h2
        rw [pin_ne q1, pin_ne q2] at q
        exact e.inj i j u v h1 h2 q
  · by_cases q : i = S.length
    · subst q
      rw [getS_new] at h
      cases h
      exact w.le hl
    · rw [getS_old q] at h
      exact (e.wf i u h).le hl
  · by_cases q : i = S.length
    · rw [q, pin_at]; exact .inl hp
    · rw [getS_old q] at h
      exact .inr ⟨i, u, h, (pin_ne q).symm⟩
  · exact up_ne fun z => by subst z; exact h1 hp
/-- a thing is written -/
theorem Ext.put {ι : Nm} {S : Sto} {M : MH} (e : Emb ι S M) {i : Nat} {o u : VO} (h : getS S i = some u) (w : wfO S.length o) : Ext ι S M ι (setS S i (some o)) (up M (ι i) (rnO ι o)) := by
  have hi := getS_lt h
  have hl : (setS S i (some o)).length = S.length := List.length_set
  have old : ∀ j v, getS (setS S i (some o)) j = some v → (j = i ∧ v = o) ∨ (j ≠ i ∧ getS S j = some v) := fun j v hj => by
    by_cases q : j = i
    · subst q
      rw [getS_set hi] at hj
      exact .inl ⟨rfl, (Option.some.inj hj).symm⟩
    · rw [getS_ne q] at hj
      exact .inr ⟨q, hj⟩
  have liv : ∀ j v, getS (setS S i (some o)) j = some v → ∃ v', getS S j = some v' := fun j v hj => by
    rcases old j v hj with ⟨rfl, _⟩ | ⟨_, q⟩
    · exact ⟨_, h⟩
    · exact ⟨_, q⟩
  refine ⟨⟨fun j v hj => ?_, fun j k v v' h1 h2 q => ?_, fun j v hj => ?_⟩, fun _ _ => rfl, Nat.le_of_eq hl.symm, fun j v hj => ?_, fun a h1 h2 => ?_⟩
  · rcases old j v hj with ⟨rfl, rfl⟩ | ⟨q, hj⟩
    · exact up_same
    · rw [up_ne fun z => q (e.inj j i v u hj h z)]
      exact e.at' j v hj
  · obtain ⟨_, z1⟩ := liv j v h1
    obtain ⟨_, z2⟩ := liv k v' h2
    exact e.inj j k _ _ z1 z2 q
  · rw [hl]
    rcases old j v hj with ⟨rfl, rfl⟩ | ⟨q, hj⟩
    · exact w
    · exact e.wf j v hj
  · obtain ⟨v', z⟩ := liv j v hj
    exact .inr ⟨j, v', z, rfl⟩
  · exact up_ne fun z => h2 i u h z.symm
/-- a thing is frozen -/
theorem Ext.del {ι : Nm} {S : Sto} {M : MH} (e : Emb ι S M) {i : Nat} {u : VO} (h : getS S i = some u) : Ext ι S M ι (setS S i none) (er M (ι i)) := by
  have hi := getS_lt h
  have hl : (setS S i none).length = S.length := List.length_set
  have old : ∀ j v, getS (setS S i none) j = some v → (j ≠ i ∧ getS S j = some v) := fun j v hj => by
    by_cases q : j = i
    · subst q
      rw [getS_set hi] at hj; cases hj
    · rw [getS_ne q] at hj
      exact ⟨q, hj⟩
  have erne : ∀ a, a ≠ ι i → er M (ι i) a = M a := fun a q => by unfold er; rw [if_neg q]
  refine ⟨⟨fun j v hj => ?_, fun j k v v' h1 h2 q => ?_, fun j v hj => ?_⟩, fun _ _ => rfl, Nat.le_of_eq hl.symm, fun j v hj => ?_, fun a h1 h2 => ?_⟩
  · obtain ⟨q, hj⟩ := old j v hj
    rw [erne _ fun z => q (e.inj j i v u hj h z)]
    exact e.at' j v hj
  · exact e.inj j k _ _ (old j v h1).2 (old k v' h2).2 q
  · rw [hl]
    exact e.wf j v (old j v hj).2
  · exact .inr ⟨j, v, (old j v hj).2, rfl⟩
  · exact erne _ fun z => h2 i u h z.symm
/-- a mark that is not ours is put aside -/
theorem Ext.aside {ι ι' : Nm} {S S' : Sto} {M M' : MH} {p : Addr} (x : Ext ι S M ι' S' M') (hp : M p ≠ none) (hn : ∀ i o, getS S i = some o → ι i ≠ p) : Ext ι S (er M p) ι' S' (er M' p) ∧ M' p = M p ∧ ∀ i o, getS S' i = some o → ι' i ≠ p := by
  have ne : ∀ i o, getS S' i = some o → ι' i ≠ p := fun i o h q => by
    rcases x.own i o h with z | ⟨j, u, z1, z2⟩
    · rw [q] at z; exact hp z
    · exact hn j u z1 (z2.trans q)
  have erne : ∀ (M : MH) a, a ≠ p → er M p a = M a := fun M a q => by unfold er; rw [if_neg q]
  refine ⟨⟨⟨fun i o h => ?_, x.emb.inj, x.emb.wf⟩, x.agr, x.len, fun i o h => ?_, fun a h1 h2 => ?_⟩, x.frm p hp hn, ne⟩
  · rw [erne _ _ (ne i o h)]; exact x.emb.at' i o h
  · rw [erne _ _ (ne i o h)]; exact x.own i o h
  · by_cases q : a = p
    · subst q; exact absurd er_none h1
    · rw [erne _ _ q] at h1 ⊢
      rw [erne _ _ q]
      exact x.frm a h1 h2
/-- .. and marked again -/
theorem Emb.mark {ι : Nm} {S : Sto} {M : MH} {p : Addr} {o : MO} (e : Emb ι S M) (hn : ∀ i o, getS S i = some o → ι i ≠ p) : Emb ι S (up M p o) :=
  ⟨fun i u h => by rw [up_ne (hn i u h)]; exact e.at' i u h, e.inj, e.wf⟩
theorem Emb.fresh {ι : Nm} {S : Sto} {M : MH} {p : Addr} (e : Emb ι S M) (hp : M p = none) : ∀ i o, getS S i = some o → ι i ≠ p := fun i u h q => by
  have := e.at' i u h
  rw [q, hp] at this; cases this
theorem er_up' {M : MH} {p : Addr} {o : MO} : er (up M p o) p = er M p := by
  funext a; unfold er up
  by_cases q : a = p
  · rw [if_pos q, if_pos q]
  · rw [if_neg q, if_neg q, if_neg q]
theorem er_self {M : MH} {p : Addr} (h : M p = none) : er M p = M := by
  funext a; unfold er
  by_cases q : a = p
  · rw [if_pos q, q, h]
  · rw [if_neg q]
theorem up_er {M : MH} {p : Addr} {o : MO} (h : M p = some o) : up (er M p) p o = M := by
  funext a; unfold er up
  by_cases q : a = p
  · simp [q, h]
  · simp [q]

/-! ### slots -/
theorem getV_eq : ∀ (e : WEn) (i : Nat), getV e i = (e[i]?).join
  | [], i => by simp [getV]
  | x :: r, 0 => by cases x <;> simp [getV]
  | x :: r, n + 1 => by show getV r n = _; rw [getV_eq r n]; simp
theorem getE_rn {ι : Nm} : ∀ (e : WEn) (i : Nat), getE (rnE ι e) i = (getV e i).map (rnW ι)
  | [], _ => rfl
  | x :: _, 0 => rfl
  | _ :: r, n + 1 => getE_rn r n
theorem setE_rn {ι : Nm} : ∀ (e : WEn) (i : Nat) (w : W), setE (rnE ι e) i (rnW ι w) = rnE ι (setV2 e i w)
  | [], _, _ => rfl
  | x :: _, 0, _ => rfl
  | x :: r, n + 1, w => by
    show (x.map (rnW ι)) :: setE (rnE ι r) n (rnW ι w) = _
    rw [setE_rn r n w]; rfl
theorem wipeE1_rn {ι : Nm} : ∀ (e : WEn) (i : Nat), wipeE1 (rnE ι e) i = rnE ι (wipeV1 e i)
  | [], _ => rfl
  | x :: _, 0 => rfl
  | x :: r, n + 1 => by
    show (x.map (rnW ι)) :: wipeE1 (rnE ι r) n = _
    rw [wipeE1_rn r n]; rfl
theorem wipeE_rn {ι : Nm} (e : WEn) : ∀ (vs : List Nat), wipeE (rnE ι e) vs = rnE ι (wipeV e vs)
  | [] => rfl
  | v :: vs => by
    show wipeE1 (wipeE (rnE ι e) vs) v = rnE ι (wipeV1 (wipeV e vs) v)
    rw [wipeE_rn e vs, wipeE1_rn]
theorem wfE_get {n : Nat} : ∀ {e : WEn} {i : Nat} {w : W}, wfE n e → getV e i = some w → wfW n w
  | [], _, _, _, h => by cases h
  | x :: r, 0, w, h, q => h w (by have q : x = some w := q; rw [q]; simp)
  | x :: r, i + 1, w, h, q => wfE_get (e := r) (fun u hu => h u (List.mem_cons_of_mem _ hu)) q
theorem wfE_set {n : Nat} {w : W} (hw : wfW n w) : ∀ {e : WEn} {i : Nat}, wfE n e → wfE n (setV2 e i w)
  | [], _, h => h
  | x :: r, 0, h => fun u hu => by
    rcases List.mem_cons.mp (show some u ∈ some w :: r from hu) with q | q
    · cases q; exact hw
    · exact h u (List.mem_cons_of_mem _ q)
  | x :: r, i + 1, h => fun u hu => by
    rcases List.mem_cons.mp (show some u ∈ x :: setV2 r i w from hu) with q | q
    · exact h u (by rw [q]; simp)
    · exact wfE_set hw (e := r) (fun u hu => h u (List.mem_cons_of_mem _ hu)) u q
theorem wfE_wipe1 {n : Nat} : ∀ {e : WEn} {i : Nat}, wfE n e → wfE n (wipeV1 e i)
  | [], _, h => h
  | x :: r, 0, h => fun u hu => by
    rcases List.mem_cons.mp (show some u ∈ none :: r from hu) with q | q
    · cases q
    · exact h u (List.mem_cons_of_mem _ q)
  | x :: r, i + 1, h => fun u hu => by
    rcases List.mem_cons.mp (show some u ∈ x :: wipeV1 r i from hu) with q | q
    · exact h u (by rw [q]; simp)
    · exact wfE_wipe1 (e := r) (fun u hu => h u (List.mem_cons_of_mem _ hu)) u q
theorem wfE_wipe {n : Nat} {e : WEn} (h : wfE n e) : ∀ (vs : List Nat), wfE n (wipeV e vs)
  | [] => h
  | v :: vs => wfE_wipe1 (wfE_wipe h vs)
theorem setAll_rn {ι : Nm} : ∀ (is : List Nat) (ds : List D) (e e' : WEn), setAllV e is ds = some e' → setAll (rnE ι e) is ds = some (rnE ι e')
  | [], [], e, e', h => by cases h; rfl
  | [], _ :: _, _, _, h => by cases h
  | _ :: _, [], _, _, h => by cases h
  | i :: is, d :: ds, e, e', h => by
    show setAll (setE (rnE ι e) i d) is ds = _
    have := setE_rn (ι := ι) e i (.v d)
    rw [show setE (rnE ι e) i d = rnE ι (setV2 e i (.v d)) from this]
    exact setAll_rn is ds _ _ h
theorem setAll_wf {n : Nat} : ∀ (is : List Nat) (ds : List D) (e e' : WEn), wfE n e → setAllV e is ds = some e' → wfE n e'
  | [], [], e, e', w, h => by cases h; exact w
  | [], _ :: _, _, _, _, h => by cases h
  | _ :: _, [], _, _, _, h => by cases h
  | i :: is, d :: ds, e, e', w, h => setAll_wf is ds _ _ (wfE_set (w := .v d) trivial w) h
theorem bind_rn {ι : Nm} {n : Nat} {tg : Tg} {w : W} {e e' : WEn} (he : wfE n e) (hw : wfW n w) (h : bindV tg w e = some e') : bindT tg (rnW ι w) (rnE ι e) = some (rnE ι e') ∧ wfE n e' := by
  cases tg with
  | nm i =>
    cases h
    exact ⟨congrArg some (setE_rn e i w), wfE_set hw he⟩
  | tp is =>
    cases w with
    | r i => cases h
    | v d =>
      cases d with
      | tp k ds =>
        have h : setAllV e is ds = some e' := h
        exact ⟨setAll_rn is ds e e' h, setAll_wf is ds e e' he h⟩
      | _ => cases h

/-! ### reading -/
section
variable {ι : Nm} {S : Sto} {M : MH} {w x y : W} {d : D}
theorem rdW_cases (h : rdW S w = some d) : (w = .v d ∧ ∀ a, d ≠ .ref a) ∨ ∃ i ds, w = .r i ∧ getS S i = some (.lst ds) ∧ d = .lst ds := by
  cases w with
  | v d' =>
    left
    cases d' with
    | ref a => cases h
    | _ => cases h; exact ⟨rfl, fun a q => by cases q⟩
  | r i =>
    right
    have h : (match getS S i with | some (.lst ds) => some (D.lst ds) | _ => none) = some d := h
    split at h
    · rename_i ds q
      cases h
      exact ⟨i, ds, rfl, q, rfl⟩
    · cases h
theorem rdW_at (e : Emb ι S M) {i : Nat} {ds : List D} (h : getS S i = some (.lst ds)) : M (ι i) = some (.lst ds) := e.at' i _ h
theorem rd_rdL (e : Emb ι S M) (h : rdW S w = some d) : rdL M (rnW ι w) = d := by
  rcases rdW_cases h with ⟨rfl, q⟩ | ⟨i, ds, rfl, g, rfl⟩
  · cases d <;> first | rfl | exact absurd rfl (q _)
  · show (match M (ι i) with | some (.lst ds) => D.lst ds | _ => .ref (ι i)) = _
    rw [rdW_at e g]
theorem rd_asL (e : Emb ι S M) (h : rdW S w = some d) : asL M (rnW ι w) = asL M00 d := by
  rcases rdW_cases h with ⟨rfl, q⟩ | ⟨i, ds, rfl, g, rfl⟩
  · cases d <;> first | rfl | exact absurd rfl (q _)
  · show (match M (ι i) with | some (.lst ds) => some ds | _ => none) = some ds
    rw [rdW_at e g]
theorem rd_exL (e : Emb ι S M) (h : rdW S w = some d) : exL M (rnW ι w) = exL M00 d := by
  rcases rdW_cases h with ⟨rfl, q⟩ | ⟨i, ds, rfl, g, rfl⟩
  · cases d <;> first | rfl | exact absurd rfl (q _)
  · show (match M (ι i) with | some (.lst ds) => some ds | _ => none) = some ds
    rw [rdW_at e g]
theorem rd_asT (h : rdW S w = some d) : asT (rnW ι w) = asT d := by
  rcases rdW_cases h with ⟨rfl, q⟩ | ⟨i, ds, rfl, g, rfl⟩
  · rfl
  · rfl
theorem rd_seqM (e : Emb ι S M) (h : rdW S w = some d) : seqM M (rnW ι w) = seqM M00 d := by
  unfold seqM
  rw [rd_asT h, rd_asL e h]
theorem rdL_pl {M : MH} (h : ∀ a, d ≠ .ref a) : rdL M d = d := by
  cases d <;> first | rfl | exact absurd rfl (h _)
theorem sq_seqM (e : Emb ι S M) {ds : List D} (h : sqW S w = some ds) : seqM M (rnW ι w) = some ds := by
  unfold sqW at h
  cases q : rdW S w with
  | none => rw [q] at h; cases h
  | some d =>
    rw [q] at h
    rw [rd_seqM e q]
    cases d <;> first | exact h | cases h
theorem plW_eq (h : plW w = some d) : w = .v d ∧ ∀ a, d ≠ .ref a := by
  cases w with
  | r i => cases h
  | v d' =>
    cases d' with
    | ref a => cases h
    | _ => cases h; exact ⟨rfl, fun a q => by cases q⟩
theorem valD_G {κ : Type} [DecidableEq κ] {kvs : List (κ × D)} {k : κ} : valD kvs k = valG kvs k := rfl
theorem valG_map {κ α β : Type} [DecidableEq κ] (f : α → β) (k : κ) : ∀ kvs : List (κ × α), valG (kvs.map fun kv => (kv.1, f kv.2)) k = (valG kvs k).map f
  | [] => rfl
  | kv :: r => by
    have ih := valG_map f k r
    unfold valG at ih ⊢
    rw [List.map_cons]
    by_cases q : kv.1 = k
    · rw [List.find?_cons_of_pos (by exact decide_eq_true q), List.find?_cons_of_pos (by exact decide_eq_true q)]; rfl
    · rw [List.find?_cons_of_neg (by simpa using q), List.find?_cons_of_neg (by simpa using q)]; exact ih
theorem putG_map {κ α β : Type} [DecidableEq κ] (f : α → β) (k : κ) (v : α) (kvs : List (κ × α)) : putG (kvs.map fun kv => (kv.1, f kv.2)) k (f v) = (putG kvs k v).map fun kv => (kv.1, f kv.2) := by
  unfold putG
  rw [List.any_map]
  by_cases q : (kvs.any fun kv => decide (kv.1 = k)) = true
  · rw [if_pos q, if_pos (by exact q), List.map_map, List.map_map]
    refine List.map_congr_left fun kv _ => ?_
    show (if kv.1 = k then _ else _) = _
    show _ = ((if kv.1 = k then (kv.1, v) else kv).1, f (if kv.1 = k then (kv.1, v) else kv).2)
    by_cases z : kv.1 = k
    · rw [if_pos z, if_pos z]
    · rw [if_neg z, if_neg z]
  · rw [if_neg q, if_neg (by exact q), List.map_append]; rfl
theorem valG_mem {κ α : Type} [DecidableEq κ] {kvs : List (κ × α)} {k : κ} {v : α} (h : valG kvs k = some v) : (k, v) ∈ kvs := by
  unfold valG at h
  cases q : kvs.find? fun kv => decide (kv.1 = k) with
  | none => rw [q] at h; cases h
  | some e =>
    rw [q] at h
    have h : e.2 = v := Option.some.inj h
    have h1 : decide (e.1 = k) = true := List.find?_some (p := fun kv : κ × α => decide (kv.1 = k)) q
    have h1 := of_decide_eq_true h1
    have h2 := List.mem_of_find?_eq_some q
    rw [← h1, ← h]; exact h2
theorem putG_mem {κ α : Type} [DecidableEq κ] {kvs : List (κ × α)} {k : κ} {v : α} {e : κ × α} (h : e ∈ putG kvs k v) : e ∈ kvs ∨ e = (k, v) := by
  unfold putG at h
  split at h
  · obtain ⟨e0, h0, h1⟩ := List.mem_map.mp h
    split at h1
    · rename_i z
      rw [← h1, ← z]; exact .inr rfl
    · rw [← h1]; exact .inl h0
  · rcases List.mem_append.mp h with h | h
    · exact .inl h
    · exact .inr (List.mem_singleton.mp h)
theorem rnd_v {kvs : List (Key × D)} {k : Key} : ((valG kvs k).map W.v).map (rnW ι) = valG kvs k := by
  cases valG kvs k <;> rfl
theorem rnd_vT {kvs : List (List Key × D)} {k : List Key} : ((valG kvs k).map W.v).map (rnW ι) = valG kvs k := by
  cases valG kvs k <;> rfl
theorem df_dfind (e : Emb ι S M) {o : Option W} (h : dfW S y d = some o) : dfind M (rnW ι y) d = some (o.map (rnW ι)) ∧ seqM M (rnW ι y) = none ∧ ∀ w, o = some w → wfW S.length w := by
  cases y with
  | v z =>
    cases z with
    | dK ks ds =>
      have h : (match keyK d with | some k => some ((valG (ks.zip ds) k).map W.v) | none => none) = some o := h
      split at h
      · rename_i k hk
        cases h
        refine ⟨?_, rfl, ?_⟩
        · show (match (some (ks.zip ds)), keyK d with | some kvs, some k => some (valD kvs k) | _, _ => _) = _
          rw [hk, rnd_v]; rfl
        · intro w hw
          cases q : valG (ks.zip ds) k with
          | none => rw [q] at hw; cases hw
          | some v => rw [q] at hw; cases hw; trivial
      · cases h
    | dT ks ds =>
      have h : (match keyT d with | some k => some ((valG (ks.zip ds) k).map W.v) | none => none) = some o := h
      split at h
      · rename_i k hk
        cases h
        refine ⟨?_, rfl, ?_⟩
        · have : dfind M (D.dT ks ds) d = (match some (ks.zip ds), keyT d with | some kvs, some k => some (valD kvs k) | _, _ => none) := by
            unfold dfind; rfl
          show dfind M (D.dT ks ds) d = _
          rw [this, hk, rnd_vT]; rfl
        · intro w hw
          cases q : valG (ks.zip ds) k with
          | none => rw [q] at hw; cases hw
          | some v => rw [q] at hw; cases hw; trivial
      · cases h
    | _ => cases h
  | r i =>
    have h : (match getS S i with
      | some (.dK kvs) => (match keyK d with | some k => some (valG kvs k) | none => none)
      | some (.dT kvs) => (match keyT d with | some k => some (valG kvs k) | none => none)
      | _ => none) = some o := h
    split at h
    · rename_i kvs g
      split at h
      · rename_i k hk
        cases h
        have hM := e.at' i _ g
        refine ⟨?_, ?_, fun w hw => e.wf i _ g _ (valG_mem hw)⟩
        · have : asK M (.ref (ι i)) = some (kvs.map fun kv => (kv.1, rnW ι kv.2)) := by
            show (match M (ι i) with | some (.dK kvs) => some kvs | _ => none) = _
            rw [hM]; rfl
          show dfind M (.ref (ι i)) d = _
          unfold dfind
          rw [this, hk, ← valG_map]; rfl
        · show (match M (ι i) with | some (.lst ds) => some ds | _ => none) = none
          rw [hM]; rfl
      · cases h
    · rename_i kvs g
      split at h
      · rename_i k hk
        cases h
        have hM := e.at' i _ g
        refine ⟨?_, ?_, fun w hw => e.wf i _ g _ (valG_mem hw)⟩
        · have h1 : asK M (.ref (ι i)) = none := by
            show (match M (ι i) with | some (.dK kvs) => some kvs | _ => none) = _
            rw [hM]; rfl
          have h2 : asD M (.ref (ι i)) = some (kvs.map fun kv => (kv.1, rnW ι kv.2)) := by
            show (match M (ι i) with | some (.dT kvs) => some kvs | _ => none) = _
            rw [hM]; rfl
          show dfind M (.ref (ι i)) d = _
          unfold dfind
          rw [h1, h2, hk, ← valG_map]; rfl
        · show (match M (ι i) with | some (.lst ds) => some ds | _ => none) = none
          rw [hM]; rfl
      · cases h
    · cases h
end
end Z

/-! V3: operators and constructs: the functions are sound for the reading of data. -/
namespace Z
open PySem PySem.Spec PyProof.Rows L2

/-- what is left to show behind a result -/
def Post {α : Type} (ι : Nm) (S : Sto) (M : MH) (E : X3) (r : Rs α) (K : α → Nm → Sto → MH → Prop) : Prop := match r with
  | .ok a S' => ∀ ι' M', Ext ι S M ι' S' M' → K a ι' S' M'
  | .ex x S' => ∀ ι' M', Ext ι S M ι' S' M' → E x M'
  | .no => False
section
variable {α β : Type} {ι ι1 : Nm} {S S1 : Sto} {M M1 : MH} {E : X3} {r : Rs α} {K K' : α → Nm → Sto → MH → Prop}
theorem Post.from (x : Ext ι S M ι1 S1 M1) (h : Post ι S M E r K) : Post ι1 S1 M1 E r K := by
  cases r with
  | ok a S' => exact fun ι' M' y => h ι' M' (x.trans y)
  | ex e S' => exact fun ι' M' y => h ι' M' (x.trans y)
  | no => exact h
theorem Post.bind {g : α → Sto → Rs β} {K : β → Nm → Sto → MH → Prop} (h : Post ι S M E (r.bind g) K) : Post ι S M E r fun a ι' S' M' => Post ι' S' M' E (g a S') K := by
  cases r with
  | ok a S' => exact fun ι' M' x => Post.from x (show Post ι S M E (g a S') K from h)
  | ex e S' => exact h
  | no => exact h
theorem Post.imp (h : Post ι S M E r K) (f : ∀ a ι' S' M', Ext ι S M ι' S' M' → K a ι' S' M' → K' a ι' S' M') : Post ι S M E r K' := by
  cases r with
  | ok a S' => exact fun ι' M' x => f a ι' S' M' x (h ι' M' x)
  | ex e S' => exact h
  | no => exact h
theorem Post.now {a : α} (e : Emb ι S M) (h : Post ι S M E (.ok a S) K) : K a ι S M := h ι M (Ext.refl e)
theorem Post.lft {o : Option α} (e : Emb ι S M) (h : Post ι S M E (lft S o) K) : ∃ a, o = some a ∧ K a ι S M := by
  cases o with
  | none => exact h.elim
  | some a => exact ⟨a, rfl, Post.now e h⟩
theorem Post.lfv {o : Option D} {K : W → Nm → Sto → MH → Prop} (e : Emb ι S M) (h : Post ι S M E (lfv S o) K) : ∃ a, o = some a ∧ K (.v a) ι S M := by
  cases o with
  | none => exact h.elim
  | some a => exact ⟨a, rfl, Post.now e h⟩
end
def SndE (E : X3) (t : T3) (f : WF W) : Prop := ∀ en S ι M Q, wfE S.length en → Emb ι S M → Post ι S M E (f en S) (fun w ι' S' M' => wfW S'.length w → Q (rnW ι' w) M') → t (rnE ι en) M Q
def SndT (E : X3) (t : TB3) (f : WF Bool) : Prop := ∀ en S ι M Q, wfE S.length en → Emb ι S M → Post ι S M E (f en S) (fun b _ _ M' => Q b M') → t (rnE ι en) M Q
def SndL (E : X3) (t : TL3) (f : WF (List W)) : Prop := ∀ en S ι M Q, wfE S.length en → Emb ι S M → Post ι S M E (f en S) (fun ws ι' S' M' => wfL S'.length ws → Q (ws.map (rnW ι')) M') → t (rnE ι en) M Q
def SndO (E : X3) (t : TO3) (f : WF (Option Int)) : Prop := ∀ en S ι M Q, wfE S.length en → Emb ι S M → Post ι S M E (f en S) (fun b _ _ M' => Q b M') → t (rnE ι en) M Q
def SndI (E : X3) (t : TL3) (f : WF (List D)) : Prop := ∀ en S ι M Q, wfE S.length en → Emb ι S M → Post ι S M E (f en S) (fun ds _ _ M' => Q ds M') → t (rnE ι en) M Q
def OpS (o : O2) (f : Sto → W → W → Option D) : Prop := ∀ S ι M x y r Q, Emb ι S M → f S x y = some r → Q r M → o (rnW ι x) (rnW ι y) M Q
def OpW (o : O2) (f : Sto → W → W → Option W) : Prop := ∀ S ι M x y r Q, Emb ι S M → f S x y = some r → (wfW S.length r → Q (rnW ι r) M) → o (rnW ι x) (rnW ι y) M Q
def Op1 (o : O1) (f : Sto → W → Option D) : Prop := ∀ S ι M x r Q, Emb ι S M → f S x = some r → Q r M → o (rnW ι x) M Q
section
variable {E : X3} {ta tb tc : T3} {fa fb fc : WF W}
theorem wf_ext {ι ι1 : Nm} {S S1 : Sto} {M M1 : MH} (x : Ext ι S M ι1 S1 M1) {en : WEn} (h : wfE S.length en) : wfE S1.length en ∧ rnE ι en = rnE ι1 en := ⟨h.le x.len, (rnE_agr x.agr h).symm⟩
theorem rd1_some {S : Sto} {w : W} {f : D → Option D} {r : D} (h : rd1 S w f = some r) : ∃ d, rdW S w = some d ∧ f d = some r := by
  unfold rd1 at h
  cases q : rdW S w with
  | none => rw [q] at h; cases h
  | some d => rw [q] at h; exact ⟨d, rfl, h⟩
theorem rd2_some {S : Sto} {x y : W} {f : D → D → Option D} {r : D} (h : rd2 S x y f = some r) : ∃ d e, rdW S x = some d ∧ rdW S y = some e ∧ f d e = some r := by
  unfold rd2 at h
  cases q : rdW S x with
  | none => rw [q] at h; cases h
  | some d =>
    cases q2 : rdW S y with
    | none => rw [q, q2] at h; cases h
    | some e => rw [q, q2] at h; exact ⟨d, e, rfl, rfl, h⟩
theorem rdW_v {S : Sto} {w : W} {d : D} (h : rdW S w = some d) (hn : ∀ ds, d ≠ .lst ds) : w = .v d := by
  rcases rdW_cases h with ⟨rfl, _⟩ | ⟨i, ds, rfl, g, rfl⟩
  · rfl
  · exact absurd rfl (hn ds)
/-! ### operators -/
theorem os_bin (o : BOp) : OpS o.o2 (fun S x y => rd2 S x y o.vo) := by
  intro S ι M x y r Q em h q
  obtain ⟨d, e, hx, hy, hf⟩ := rd2_some h
  cases o with
  | add =>
    change vadd d e = some r at hf
    show add3 _ _ _ _
    unfold vadd at hf
    split at hf
    · rw [rdW_v hx (fun _ z => by cases z), rdW_v hy (fun _ z => by cases z)]
      cases hf; exact q
    · rw [rdW_v hx (fun _ z => by cases z), rdW_v hy (fun _ z => by cases z)]
      split at hf
      · rename_i hl
        cases hf; exact ⟨hl, q⟩
      · cases hf
    · rw [rdW_v hx (fun _ z => by cases z), rdW_v hy (fun _ z => by cases z)]
      split at hf
      · rename_i hl
        cases hf; exact ⟨hl, q⟩
      · cases hf
    · rename_i a b
      split at hf
      · rename_i hl
        cases hf
        have h1 := rd_exL em hx
        have h2 := rd_exL em hy
        have key : ∀ u v : D, exL M u = some a → exL M v = some b → add3 u v M Q := by
          intro u v h1 h2
          unfold add3
          split
          · cases h1
          · cases h1
          · cases h1
          · rw [h1, h2]; exact ⟨hl, q⟩
        exact key _ _ h1 h2
      · cases hf
    · cases hf
  | sub =>
    change vsub d e = some r at hf
    unfold vsub at hf
    split at hf
    · rw [rdW_v hx (fun _ z => by cases z), rdW_v hy (fun _ z => by cases z)]
      cases hf; exact q
    · cases hf
  | mul =>
    change vmul d e = some r at hf
    show mul3 _ _ _ _
    unfold vmul at hf
    split at hf
    · rw [rdW_v hx (fun _ z => by cases z), rdW_v hy (fun _ z => by cases z)]
      split at hf
      · rename_i hl
        cases hf
        refine ⟨?_, q⟩
        unfold mulOk at hl
        show IntMulOk _ _
        unfold IntMulOk
        rw [Bool.not_eq_true'] at hl
        rw [hl]; simp
      · cases hf
    · rw [rdW_v hx (fun _ z => by cases z), rdW_v hy (fun _ z => by cases z)]
      split at hf
      · rename_i hl
        cases hf
        exact ⟨hl.1, hl.2.1, hl.2.2.1, hl.2.2.2, q⟩
      · cases hf
    · rw [rdW_v hx (fun _ z => by cases z), rdW_v hy (fun _ z => by cases z)]
      split at hf
      · rename_i hl
        cases hf
        exact ⟨hl, q⟩
      · cases hf
    · rename_i a k
      rw [rdW_v hy (fun _ z => by cases z)]
      split at hf
      · rename_i hl
        cases hf
        have h1 := rd_exL em hx
        have key : ∀ u : D, exL M u = some a → mul3 u (.int k) M Q := by
          intro u h1
          unfold mul3
          split
          · cases h1
          · cases h1
          · cases h1
          · rename_i z
            cases z
            rw [h1]; exact ⟨hl.1, hl.2.1, hl.2.2, q⟩
          · rename_i h7 h8 h9 h10
            first | exact (h10 _ rfl).elim | exact (h9 _ rfl).elim | exact (h8 _ rfl).elim | exact (h7 _ rfl).elim
        exact key _ h1
      · cases hf
    · cases hf
  | fdv =>
    change vfdv d e = some r at hf
    unfold vfdv at hf
    split at hf
    · rw [rdW_v hx (fun _ z => by cases z), rdW_v hy (fun _ z => by cases z)]
      split at hf
      · rename_i hl
        cases hf; exact ⟨hl, q⟩
      · cases hf
    · cases hf
  | mod =>
    change vmod d e = some r at hf
    unfold vmod at hf
    split at hf
    · rw [rdW_v hx (fun _ z => by cases z), rdW_v hy (fun _ z => by cases z)]
      split at hf
      · rename_i hl
        cases hf; exact ⟨hl, q⟩
      · cases hf
    · cases hf
  | pow =>
    change vpow d e = some r at hf
    unfold vpow at hf
    split at hf
    · rw [rdW_v hx (fun _ z => by cases z), rdW_v hy (fun _ z => by cases z)]
      split at hf
      · rename_i hl
        cases hf; exact ⟨hl, q⟩
      · cases hf
    · cases hf
theorem eqOk_of {S : Sto} {ι : Nm} {M : MH} {x y : W} {d e : D} (em : Emb ι S M) (hx : rdW S x = some d) (hy : rdW S y = some e) (h : veqOk d e = true) : eqOk M (rnW ι x) (rnW ι y) = true := by
  unfold eqOk
  rw [rd_rdL em hx, rd_rdL em hy]
  unfold veqOk at h
  rw [Bool.or_eq_true] at h ⊢
  rcases h with h | h
  · left
    have : (∀ ds, d ≠ .lst ds) ∧ ∀ ds, e ≠ .lst ds := by
      constructor <;> intro ds z <;> subst z
      · exact absurd h (by simp [sc2])
      · cases d <;> exact absurd h (by simp [sc2])
    rw [rdW_v hx this.1, rdW_v hy this.2]; exact h
  · right; exact h
theorem ltOk_of {S : Sto} {ι : Nm} {M : MH} {x y : W} {d e : D} (em : Emb ι S M) (hx : rdW S x = some d) (hy : rdW S y = some e) (h : vltOk d e = true) : ltOk M (rnW ι x) (rnW ι y) = true := by
  unfold ltOk
  rw [rd_rdL em hx, rd_rdL em hy]; exact h
theorem rdW_int {S : Sto} {x : W} {ι : Nm} {M : MH} {d : D} (em : Emb ι S M) (hx : rdW S x = some d) {i : Int} (h : rnW ι x = .int i) : d = .int i := by
  rcases rdW_cases hx with ⟨rfl, _⟩ | ⟨j, ds, rfl, g, rfl⟩
  · exact h
  · cases h
theorem inW_ok {S : Sto} {ι : Nm} {M : MH} {x y : W} {b : Bool} (em : Emb ι S M) (h : inW S x y = some b) : inAns M (rnW ι x) (rnW ι y) = some b := by
  unfold inW at h
  split at h
  · cases h
  · rename_i d hx
    obtain ⟨rfl, _⟩ := plW_eq hx
    show inAns M d (rnW ι y) = some b
    split at h
    · rename_i z
      exact h
    · rename_i hny
      have key : ∀ Y : D, (∀ z, Y ≠ .str z) → inAns M d Y = (match seqM M Y with
          | some ds => if inOk d ds = true then some (ds.any fun z => eqv z d) else none
          | none => match dfind M Y d with
            | some o => some o.isSome
            | none => none) := by
        intro Y hY
        unfold inAns
        split
        · exact absurd rfl (hY _)
        · rfl
      have hY : ∀ z, rnW ι y ≠ .str z := by
        intro z e
        cases y with
        | r i => cases e
        | v d' => exact hny z (by rw [show d' = .str z from e])
      rw [key _ hY]
      split at h
      · rename_i ds hs
        rw [sq_seqM em hs]; exact h
      · split at h
        · rename_i o ho
          obtain ⟨h1, h2, _⟩ := df_dfind em ho
          rw [h1, h2]
          cases h
          cases o <;> rfl
        · cases h
theorem ixW_ok {S : Sto} {ι : Nm} {M : MH} {x y r : W} (em : Emb ι S M) (h : ixW S x y = some r) : ixAns M (rnW ι x) (rnW ι y) = some (rnW ι r) ∧ wfW S.length r := by
  unfold ixW at h
  split at h
  · cases h
  · rename_i i hy
    obtain ⟨rfl, _⟩ := plW_eq hy
    show ixAns M (rnW ι x) (.int i) = _ ∧ _
    split at h
    · rename_i z
      split at h
      · rename_i hl
        split at h
        · rename_i c hc
          cases h
          refine ⟨?_, trivial⟩
          show (if z.length ≤ sizeLine then (match atI z.cps.toList i with | some c => some (D.str ⟨#[c]⟩) | none => none) else none) = _
          rw [if_pos hl, hc]; rfl
        · cases h
      · cases h
    · rename_i hnx
      have key : ∀ Y : D, (∀ z, Y ≠ .str z) → ixAns M Y (.int i) = (match seqM M Y with
          | some ds => atI ds i
          | none => (dfind M Y (.int i)).join) := by
        intro Y hY
        show (match Y with
          | .str z => if z.length ≤ sizeLine then (match atI z.cps.toList i with | some c => some (D.str ⟨#[c]⟩) | none => none) else none
          | x => match seqM M x with
            | some ds => atI ds i
            | none => (dfind M x (.int i)).join) = _
        split
        · exact absurd rfl (hY _)
        · rfl
      have hY : ∀ z, rnW ι x ≠ .str z := by
        intro z e
        cases x with
        | r i => cases e
        | v d' => exact hnx z (by rw [show d' = .str z from e])
      rw [key _ hY]
      split at h
      · rename_i ds hs
        rw [sq_seqM em hs]
        cases q : atI ds i with
        | none => rw [q] at h; cases h
        | some d => rw [q] at h; cases h; exact ⟨q, trivial⟩
      · cases q : dfW S x (.int i) with
        | none => rw [q] at h; cases h
        | some o =>
          rw [q] at h
          obtain ⟨h1, h2, h3⟩ := df_dfind em q
          have h : o = some r := h
          subst h
          rw [h1, h2]
          exact ⟨rfl, h3 r rfl⟩
  · rename_i d hni hy
    obtain ⟨rfl, _⟩ := plW_eq hy
    cases q : dfW S x d with
    | none => rw [q] at h; cases h
    | some o =>
      rw [q] at h
      obtain ⟨h1, h2, h3⟩ := df_dfind em q
      have h : o = some r := h
      subst h
      refine ⟨?_, h3 r rfl⟩
      show ixAns M (rnW ι x) d = _
      unfold ixAns
      split
      · exact absurd rfl (hni _)
      · rw [h1]; rfl
theorem os_cmp (o : COp) : OpS o.o2 (fun S x y => o.vo S x y) := by
  intro S ι M x y r Q em h q
  cases o with
  | eq =>
    obtain ⟨d, e, hx, hy, hf⟩ := rd2_some (show rd2 S x y veq = some r from h)
    unfold veq at hf
    split at hf
    · rename_i hl
      cases hf
      refine ⟨eqOk_of em hx hy hl, ?_⟩
      rw [rd_rdL em hx, rd_rdL em hy]; exact q
    · cases hf
  | ne =>
    obtain ⟨d, e, hx, hy, hf⟩ := rd2_some (show rd2 S x y vne = some r from h)
    unfold vne at hf
    split at hf
    · rename_i hl
      cases hf
      refine ⟨eqOk_of em hx hy hl, ?_⟩
      rw [rd_rdL em hx, rd_rdL em hy]; exact q
    · cases hf
  | lt =>
    obtain ⟨d, e, hx, hy, hf⟩ := rd2_some (show rd2 S x y vlt = some r from h)
    show lt3 _ _ _ _
    unfold lt3
    split
    · rename_i i j h1 h2
      cases rdW_int em hx h1
      cases rdW_int em hy h2
      cases hf; exact q
    · rename_i hno
      rw [rd_rdL em hx, rd_rdL em hy]
      unfold vlt at hf
      split at hf
      · exact (hno _ _ (by rw [rdW_v hx (fun _ z => by cases z)]; rfl) (by rw [rdW_v hy (fun _ z => by cases z)]; rfl)).elim
      · split at hf
        · rename_i hl
          cases hf
          exact ⟨ltOk_of em hx hy hl, q⟩
        · cases hf
  | le =>
    obtain ⟨d, e, hx, hy, hf⟩ := rd2_some (show rd2 S x y vle = some r from h)
    show le3 _ _ _ _
    unfold le3
    split
    · rename_i i j h1 h2
      cases rdW_int em hx h1
      cases rdW_int em hy h2
      cases hf; exact q
    · rename_i hno
      rw [rd_rdL em hx, rd_rdL em hy]
      unfold vle at hf
      split at hf
      · exact (hno _ _ (by rw [rdW_v hx (fun _ z => by cases z)]; rfl) (by rw [rdW_v hy (fun _ z => by cases z)]; rfl)).elim
      · split at hf
        · rename_i hl
          cases hf
          exact ⟨ltOk_of em hx hy hl, q⟩
        · cases hf
  | gt =>
    obtain ⟨d, e, hx, hy, hf⟩ := rd2_some (show rd2 S x y vgt = some r from h)
    show gt3 _ _ _ _
    unfold gt3
    split
    · rename_i i j h1 h2
      cases rdW_int em hx h1
      cases rdW_int em hy h2
      cases hf; exact q
    · rename_i hno
      rw [rd_rdL em hx, rd_rdL em hy]
      unfold vgt at hf
      split at hf
      · exact (hno _ _ (by rw [rdW_v hx (fun _ z => by cases z)]; rfl) (by rw [rdW_v hy (fun _ z => by cases z)]; rfl)).elim
      · split at hf
        · rename_i hl
          cases hf
          exact ⟨ltOk_of em hx hy hl, q⟩
        · cases hf
  | ge =>
    obtain ⟨d, e, hx, hy, hf⟩ := rd2_some (show rd2 S x y vge = some r from h)
    show ge3 _ _ _ _
    unfold ge3
    split
    · rename_i i j h1 h2
      cases rdW_int em hx h1
      cases rdW_int em hy h2
      cases hf; exact q
    · rename_i hno
      rw [rd_rdL em hx, rd_rdL em hy]
      unfold vge at hf
      split at hf
      · exact (hno _ _ (by rw [rdW_v hx (fun _ z => by cases z)]; rfl) (by rw [rdW_v hy (fun _ z => by cases z)]; rfl)).elim
      · split at hf
        · rename_i hl
          cases hf
          exact ⟨ltOk_of em hx hy hl, q⟩
        · cases hf
  | isin =>
    have h : blO (inW S x y) = some r := h
    cases z : inW S x y with
    | none => rw [z] at h; cases h
    | some b =>
      rw [z] at h
      cases h
      show (match inAns M (rnW ι x) (rnW ι y) with | some b => Q (.bl b) M | none => False)
      rw [inW_ok em z]; exact q
  | notin =>
    have h : blO ((inW S x y).map not) = some r := h
    cases z : inW S x y with
    | none => rw [z] at h; cases h
    | some b =>
      rw [z] at h
      cases h
      show (match inAns M (rnW ι x) (rnW ι y) with | some b => Q (.bl (!b)) M | none => False)
      rw [inW_ok em z]; exact q
  | «is» =>
    have h : (if nonW y = true then some (D.bl (nonW x)) else none) = some r := h
    split at h
    · rename_i hl
      cases h
      have hy : y = .v .non := by
        cases y with
        | r i => cases hl
        | v d => cases d <;> first | rfl | cases hl
      subst hy
      show Q (.bl (isNon (rnW ι x))) M
      have : isNon (rnW ι x) = nonW x := by
        cases x with
        | r i => rfl
        | v d => cases d <;> rfl
      rw [this]; exact q
    · cases h
  | «isnot» =>
    have h : (if nonW y = true then some (D.bl (!nonW x)) else none) = some r := h
    split at h
    · rename_i hl
      cases h
      have hy : y = .v .non := by
        cases y with
        | r i => cases hl
        | v d => cases d <;> first | rfl | cases hl
      subst hy
      show Q (.bl (!isNon (rnW ι x))) M
      have : isNon (rnW ι x) = nonW x := by
        cases x with
        | r i => rfl
        | v d => cases d <;> rfl
      rw [this]; exact q
    · cases h
end
end Z

/-! V4: constructs of expressions are sound. -/
namespace Z
open PySem PySem.Spec PyProof.Rows L2
section
variable {E : X3} {ta tb tc : T3} {fa fb fc : WF W} {tl : TL3} {fl : WF (List W)}
theorem sd_loc (i : Nat) : SndE E (loc3 i) (fun en S => lft S (getV en i)) := by
  intro en S ι M Q we em h
  obtain ⟨w, hw, k⟩ := Post.lft em h
  unfold loc3
  rw [getE_rn, hw]
  exact k (wfE_get we hw)
theorem sd_con (d : D) : SndE E (con3 d) (fun _ S => .ok (.v d) S) := fun en S ι M Q we em h => Post.now em h trivial
theorem sd_bin {o : O2} {f : Sto → W → W → Option D} (ho : OpS o f) (ha : SndE E ta fa) (hb : SndE E tb fb) : SndE E (op2 o ta tb) (fun en S => (fa en S).bind fun x S1 => (fb en S1).bind fun y S2 => lfv S2 (f S2 x y)) := by
  intro en S ι M Q we em h
  refine ha en S ι M _ we em ((Post.bind h).imp fun x ι1 S1 M1 x1 h1 wx => ?_)
  obtain ⟨we1, e1⟩ := wf_ext x1 we
  rw [e1]
  refine hb en S1 ι1 M1 _ we1 x1.emb ((Post.bind h1).imp fun y ι2 S2 M2 x2 h2 wy => ?_)
  obtain ⟨r, hr, k⟩ := Post.lfv x2.emb h2
  rw [← rnW_agr x2.agr wx]
  exact ho S2 ι2 M2 x y r Q x2.emb hr (k trivial)
theorem sd_binW {o : O2} {f : Sto → W → W → Option W} (ho : OpW o f) (ha : SndE E ta fa) (hb : SndE E tb fb) : SndE E (op2 o ta tb) (fun en S => (fa en S).bind fun x S1 => (fb en S1).bind fun y S2 => lft S2 (f S2 x y)) := by
  intro en S ι M Q we em h
  refine ha en S ι M _ we em ((Post.bind h).imp fun x ι1 S1 M1 x1 h1 wx => ?_)
  obtain ⟨we1, e1⟩ := wf_ext x1 we
  rw [e1]
  refine hb en S1 ι1 M1 _ we1 x1.emb ((Post.bind h1).imp fun y ι2 S2 M2 x2 h2 wy => ?_)
  obtain ⟨r, hr, k⟩ := Post.lft x2.emb h2
  rw [← rnW_agr x2.agr wx]
  exact ho S2 ι2 M2 x y r Q x2.emb hr k
theorem sd_un {o : O1} {f : Sto → W → Option D} (ho : Op1 o f) (ha : SndE E ta fa) : SndE E (op1 o ta) (fun en S => (fa en S).bind fun x S1 => lfv S1 (f S1 x)) := by
  intro en S ι M Q we em h
  refine ha en S ι M _ we em ((Post.bind h).imp fun x ι1 S1 M1 x1 h1 wx => ?_)
  obtain ⟨r, hr, k⟩ := Post.lfv x1.emb h1
  exact ho S1 ι1 M1 x r Q x1.emb hr (k trivial)
theorem ow_ix : OpW ix3 ixW := by
  intro S ι M x y r Q em h q
  obtain ⟨h1, h2⟩ := ixW_ok em h
  unfold ix3
  rw [h1]; exact q h2
theorem o1_neg : Op1 neg3 (fun S x => rd1 S x vneg) := by
  intro S ι M x r Q em h q
  obtain ⟨d, hx, hf⟩ := rd1_some h
  unfold vneg at hf
  split at hf
  · rw [rdW_v hx (fun _ z => by cases z)]
    cases hf; exact q
  · cases hf
theorem asL_not {d : D} {M : MH} (h : ∀ a, d ≠ .ref a) : asL M d = asL M00 d := by
  cases d <;> first | rfl | exact absurd rfl (h _)
theorem isTy_rd {S : Sto} {ι : Nm} {M : MH} {x : W} {d : D} {T : Ty} (em : Emb ι S M) (hx : rdW S x = some d) : isTy M (rnW ι x) T = isTy M00 d T := by
  rcases rdW_cases hx with ⟨rfl, q⟩ | ⟨i, ds, rfl, g, rfl⟩
  · cases d <;> first | rfl | exact absurd rfl (q _)
  · show (match asL M (.ref (ι i)) with | some _ => some (decide (T = .tlst)) | none => none) = some (decide (T = .tlst))
    have : asL M (.ref (ι i)) = some ds := by
      show (match M (ι i) with | some (.lst ds) => some ds | _ => none) = some ds
      rw [rdW_at em g]
    rw [this]
theorem o1_isi (T : Ty) : Op1 (isi3 T) (fun S x => rd1 S x fun d => blO (isTy M00 d T)) := by
  intro S ι M x r Q em h q
  obtain ⟨d, hx, hf⟩ := rd1_some h
  unfold isi3
  rw [isTy_rd em hx]
  cases z : isTy M00 d T with
  | none => rw [z] at hf; cases hf
  | some b => rw [z] at hf; cases hf; exact q
theorem o1_rev : Op1 rev3 (fun S x => rd1 S x vrev) := by
  intro S ι M x r Q em h q
  obtain ⟨d, hx, hf⟩ := rd1_some h
  unfold rev3
  rw [rd_asL em hx]
  unfold vrev at hf
  split at hf
  · cases hf; exact q
  · cases hf; exact q
  · cases hf
theorem blW_some {w : W} {b : Bool} (h : blW w = some b) : w = .v (.bl b) := by
  cases w with
  | r i => cases h
  | v d => cases d <;> first | (cases h; done) | (cases h; rfl)
theorem sd_not (ha : SndE E ta fa) : SndE E (notV3 ta) (fun en S => (fa en S).bind fun x S1 => lfv S1 (blO ((blW x).map not))) := by
  intro en S ι M Q we em h
  refine ha en S ι M _ we em ((Post.bind h).imp fun x ι1 S1 M1 x1 h1 wx => ?_)
  obtain ⟨r, hr, k⟩ := Post.lfv x1.emb h1
  cases z : blW x with
  | none => rw [z] at hr; cases hr
  | some b =>
    rw [z] at hr
    cases hr
    rw [blW_some z]
    exact k trivial
theorem bl_of {o : Option D} {r : Bool} (h : (match o with | some (.bl b) => some b | _ => none) = some r) : o = some (.bl r) := by
  split at h
  · cases h; rfl
  · cases h
theorem sd_tcmp {o : O2} {f : Sto → W → W → Option D} (ho : OpS o f) (ha : SndE E ta fa) (hb : SndE E tb fb) : SndT E (tst (op2 o ta tb)) (fun en S => (fa en S).bind fun x S1 => (fb en S1).bind fun y S2 => lft S2 (match f S2 x y with | some (.bl b) => some b | _ => none)) := by
  intro en S ι M Q we em h
  refine ha en S ι M _ we em ((Post.bind h).imp fun x ι1 S1 M1 x1 h1 wx => ?_)
  obtain ⟨we1, e1⟩ := wf_ext x1 we
  rw [e1]
  refine hb en S1 ι1 M1 _ we1 x1.emb ((Post.bind h1).imp fun y ι2 S2 M2 x2 h2 wy => ?_)
  obtain ⟨r, hr, k⟩ := Post.lft x2.emb h2
  rw [← rnW_agr x2.agr wx]
  exact ho S2 ι2 M2 x y _ _ x2.emb (bl_of hr) k
theorem sd_chain {o o' : O2} {f f' : Sto → W → W → Option D} (ho : OpS o f) (ho' : OpS o' f') (ha : SndE E ta fa) (hb : SndE E tb fb) (hc : SndE E tc fc) :
    SndE E (chain3 o o' ta tb tc) (fun en S => (fa en S).bind fun x S1 => (fb en S1).bind fun y S2 => match f S2 x y with
      | some (.bl true) => (fc en S2).bind fun z S3 => lfv S3 (f' S3 y z)
      | some (.bl false) => .ok (.v (.bl false)) S2
      | _ => .no) := by
  intro en S ι M Q we em h
  refine ha en S ι M _ we em ((Post.bind h).imp fun x ι1 S1 M1 x1 h1 wx => ?_)
  obtain ⟨we1, e1⟩ := wf_ext x1 we
  rw [e1]
  refine hb en S1 ι1 M1 _ we1 x1.emb ((Post.bind h1).imp fun y ι2 S2 M2 x2 h2 wy => ?_)
  rw [← rnW_agr x2.agr wx]
  split at h2
  · rename_i hr
    refine ho S2 ι2 M2 x y _ _ x2.emb hr ?_
    obtain ⟨we2, e2⟩ := wf_ext x2 we1
    rw [e2]
    refine hc en S2 ι2 M2 _ we2 x2.emb ((Post.bind h2).imp fun z ι3 S3 M3 x3 h3 wz => ?_)
    obtain ⟨r, hr, k⟩ := Post.lfv x3.emb h3
    rw [← rnW_agr x3.agr wy]
    exact ho' S3 ι3 M3 y z r Q x3.emb hr (k trivial)
  · rename_i hr
    refine ho S2 ι2 M2 x y _ _ x2.emb hr ?_
    exact Post.now x2.emb h2 trivial
  · exact h2.elim
theorem sd_tchain {o o' : O2} {f f' : Sto → W → W → Option D} (ho : OpS o f) (ho' : OpS o' f') (ha : SndE E ta fa) (hb : SndE E tb fb) (hc : SndE E tc fc) :
    SndT E (tst (chain3 o o' ta tb tc)) (fun en S => (fa en S).bind fun x S1 => (fb en S1).bind fun y S2 => match f S2 x y with
      | some (.bl true) => (fc en S2).bind fun z S3 => lft S3 (match f' S3 y z with | some (.bl b) => some b | _ => none)
      | some (.bl false) => .ok false S2
      | _ => .no) := by
  intro en S ι M Q we em h
  refine ha en S ι M _ we em ((Post.bind h).imp fun x ι1 S1 M1 x1 h1 wx => ?_)
  obtain ⟨we1, e1⟩ := wf_ext x1 we
  rw [e1]
  refine hb en S1 ι1 M1 _ we1 x1.emb ((Post.bind h1).imp fun y ι2 S2 M2 x2 h2 wy => ?_)
  rw [← rnW_agr x2.agr wx]
  split at h2
  · rename_i hr
    refine ho S2 ι2 M2 x y _ _ x2.emb hr ?_
    obtain ⟨we2, e2⟩ := wf_ext x2 we1
    rw [e2]
    refine hc en S2 ι2 M2 _ we2 x2.emb ((Post.bind h2).imp fun z ι3 S3 M3 x3 h3 wz => ?_)
    obtain ⟨r, hr, k⟩ := Post.lft x3.emb h3
    rw [← rnW_agr x3.agr wy]
    exact ho' S3 ι3 M3 y z _ _ x3.emb (bl_of hr) k
  · rename_i hr
    refine ho S2 ι2 M2 x y _ _ x2.emb hr ?_
    exact Post.now x2.emb h2
  · exact h2.elim
/-! #### and, or, not, if -/
variable {tA tB : TB3} {fA fB : WF Bool}
theorem sd_and (ha : SndT E tA fA) (hb : SndT E tB fB) : SndT E (and3 tA tB) (fun en S => (fA en S).bind fun b S1 => match b with | true => fB en S1 | false => .ok false S1) := by
  intro en S ι M Q we em h
  refine ha en S ι M _ we em ((Post.bind h).imp fun b ι1 S1 M1 x1 h1 => ?_)
  obtain ⟨we1, e1⟩ := wf_ext x1 we
  rw [e1]
  cases b with
  | true => exact hb en S1 ι1 M1 _ we1 x1.emb h1
  | false => exact Post.now x1.emb h1
theorem sd_or (ha : SndT E tA fA) (hb : SndT E tB fB) : SndT E (or3 tA tB) (fun en S => (fA en S).bind fun b S1 => match b with | true => .ok true S1 | false => fB en S1) := by
  intro en S ι M Q we em h
  refine ha en S ι M _ we em ((Post.bind h).imp fun b ι1 S1 M1 x1 h1 => ?_)
  obtain ⟨we1, e1⟩ := wf_ext x1 we
  rw [e1]
  cases b with
  | false => exact hb en S1 ι1 M1 _ we1 x1.emb h1
  | true => exact Post.now x1.emb h1
theorem sd_tnot (ha : SndT E tA fA) : SndT E (not3 tA) (fun en S => (fA en S).bind fun b S1 => .ok (!b) S1) := by
  intro en S ι M Q we em h
  exact ha en S ι M _ we em ((Post.bind h).imp fun b ι1 S1 M1 x1 h1 => Post.now x1.emb h1)
theorem sd_ite (hc : SndT E tA fA) (ha : SndE E ta fa) (hb : SndE E tb fb) : SndE E (ite3 tA ta tb) (fun en S => (fA en S).bind fun k S1 => match k with | true => fa en S1 | false => fb en S1) := by
  intro en S ι M Q we em h
  refine hc en S ι M _ we em ((Post.bind h).imp fun b ι1 S1 M1 x1 h1 => ?_)
  obtain ⟨we1, e1⟩ := wf_ext x1 we
  rw [e1]
  cases b with
  | true => exact ha en S1 ι1 M1 _ we1 x1.emb h1
  | false => exact hb en S1 ι1 M1 _ we1 x1.emb h1
theorem sd_andV (ha : SndE E ta fa) (hb : SndE E tb fb) : SndE E (andV3 ta tb) (fun en S => (fa en S).bind fun x S1 => match blW x with | some true => fb en S1 | some false => .ok (.v (.bl false)) S1 | none => .no) := by
  intro en S ι M Q we em h
  refine ha en S ι M _ we em ((Post.bind h).imp fun x ι1 S1 M1 x1 h1 wx => ?_)
  obtain ⟨we1, e1⟩ := wf_ext x1 we
  rw [e1]
  split at h1
  · rename_i hz
    rw [blW_some hz]
    exact hb en S1 ι1 M1 _ we1 x1.emb h1
  · rename_i hz
    rw [blW_some hz]
    exact Post.now x1.emb h1 trivial
  · exact h1.elim
theorem sd_orV (ha : SndE E ta fa) (hb : SndE E tb fb) : SndE E (orV3 ta tb) (fun en S => (fa en S).bind fun x S1 => match blW x with | some true => .ok (.v (.bl true)) S1 | some false => fb en S1 | none => .no) := by
  intro en S ι M Q we em h
  refine ha en S ι M _ we em ((Post.bind h).imp fun x ι1 S1 M1 x1 h1 wx => ?_)
  obtain ⟨we1, e1⟩ := wf_ext x1 we
  rw [e1]
  split at h1
  · rename_i hz
    rw [blW_some hz]
    exact Post.now x1.emb h1 trivial
  · rename_i hz
    rw [blW_some hz]
    exact hb en S1 ι1 M1 _ we1 x1.emb h1
  · exact h1.elim
/-! #### truth -/
theorem truW_ok {S : Sto} {ι : Nm} {M : MH} {w : W} {b : Bool} (em : Emb ι S M) (h : truW S w = some b) : truA M (rnW ι w) = some b := by
  cases w with
  | v d =>
    cases d <;> first | exact h | cases h
  | r i =>
    have h : (match sqW S (.r i) with
      | some ds => some (!ds.isEmpty)
      | none => match getS S i with | some (.dK kvs) => some (!kvs.isEmpty) | _ => none) = some b := h
    show (match seqM M (.ref (ι i)) with
      | some ds => some (!ds.isEmpty)
      | none => (match M (ι i) with | some (.dK kvs) => some (!kvs.isEmpty) | _ => none)) = some b
    split at h
    · rename_i ds hs
      rw [show seqM M (.ref (ι i)) = some ds from sq_seqM em hs]; exact h
    · split at h
      · rename_i kvs g
        have hM := em.at' i _ g
        have h1 : seqM M (.ref (ι i)) = none := by
          show (match M (ι i) with | some (.lst ds) => some ds | _ => none) = none
          rw [hM]; rfl
        rw [h1, hM]
        cases h
        cases kvs <;> rfl
      · cases h
theorem sd_tru (ha : SndE E ta fa) : SndT E (tru3 ta) (fun en S => truV (fa en S)) := by
  intro en S ι M Q we em h
  refine ha en S ι M _ we em ((Post.bind h).imp fun x ι1 S1 M1 x1 h1 wx => ?_)
  obtain ⟨r, hr, k⟩ := Post.lft x1.emb h1
  rw [truW_ok x1.emb hr]; exact k
/-! #### lists of arguments, displays -/
theorem sd_nil : SndL E nil3 (fun _ S => .ok [] S) := fun en S ι M Q we em h => Post.now em h fun w hw => nomatch hw
theorem sd_cons (ha : SndE E ta fa) (hl : SndL E tl fl) : SndL E (cons3 ta tl) (fun en S => (fa en S).bind fun x S1 => (fl en S1).bind fun xs S2 => .ok (x :: xs) S2) := by
  intro en S ι M Q we em h
  refine ha en S ι M _ we em ((Post.bind h).imp fun x ι1 S1 M1 x1 h1 wx => ?_)
  obtain ⟨we1, e1⟩ := wf_ext x1 we
  rw [e1]
  refine hl en S1 ι1 M1 _ we1 x1.emb ((Post.bind h1).imp fun xs ι2 S2 M2 x2 h2 wxs => ?_)
  rw [← rnW_agr x2.agr wx]
  refine Post.now x2.emb h2 fun w hw => ?_
  rcases List.mem_cons.mp hw with rfl | hw
  · exact wx.le x2.len
  · exact wxs w hw
theorem plnW_ok {ι : Nm} : ∀ {ws : List W} {ds : List D}, plnW ws = some ds → ws.map (rnW ι) = ds
  | [], _, h => by cases h; rfl
  | .r i :: r, _, h => by cases h
  | .v d :: r, ds, h => by
    have h : (match plnW r with | some ds => some (d :: ds) | none => none) = some ds := h
    split at h
    · rename_i es he
      cases h
      rw [List.map_cons, plnW_ok he]; rfl
    · cases h
theorem sd_tup (hl : SndL E tl fl) : SndE E (tup3 tl) (fun en S => (fl en S).bind fun ws S1 => match plnW ws with
    | some ds => if ds.length ≤ sizeLine then .ok (.v (.tup ds)) S1 else .no
    | none => .no) := by
  intro en S ι M Q we em h
  refine hl en S ι M _ we em ((Post.bind h).imp fun xs ι1 S1 M1 x1 h1 wxs => ?_)
  split at h1
  · rename_i ds hds
    split at h1
    · rename_i hz
      rw [plnW_ok hds]
      exact ⟨hz, Post.now x1.emb h1 trivial⟩
    · exact h1.elim
  · exact h1.elim
theorem sd_lst (hl : SndL E tl fl) : SndE E (lst3 tl) (fun en S => (fl en S).bind fun ws S1 => match plnW ws with
    | some ds => if ds.length ≤ sizeLine then .ok (.v (.lst ds)) S1 else .no
    | none => .no) := by
  intro en S ι M Q we em h
  refine hl en S ι M _ we em ((Post.bind h).imp fun xs ι1 S1 M1 x1 h1 wxs => ?_)
  split at h1
  · rename_i ds hds
    split at h1
    · rename_i hz
      rw [plnW_ok hds]
      exact ⟨hz, Post.now x1.emb h1 trivial⟩
    · exact h1.elim
  · exact h1.elim
theorem post_new {ι : Nm} {S : Sto} {M : MH} {o : VO} {K : W → Nm → Sto → MH → Prop} (em : Emb ι S M) (w : wfO S.length o) (h : Post ι S M E (newW S o) K) {p : Addr} (hp : M p = none) : K (.r S.length) (pin ι S.length p) (S ++ [some o]) (up M p (rnO ι o)) :=
  h _ _ (Ext.new em hp w)
theorem lt_new {S : Sto} {o : VO} : wfW (S ++ [some o]).length (.r S.length) := by
  show S.length < (S ++ [some o]).length
  rw [List.length_append]; simp
theorem sd_lstM (hl : SndL E tl fl) : SndE E (lstM3 tl) (fun en S => (fl en S).bind fun ws S1 => match plnW ws with
    | some ds => if ds.length ≤ sizeLine then newW S1 (.lst ds) else .no
    | none => .no) := by
  intro en S ι M Q we em h
  refine hl en S ι M _ we em ((Post.bind h).imp fun xs ι1 S1 M1 x1 h1 wxs => ?_)
  split at h1
  · rename_i ds hds
    split at h1
    · rename_i hz
      rw [plnW_ok hds]
      refine ⟨hz, fun p hp => ?_⟩
      have := post_new (o := .lst ds) x1.emb trivial h1 hp lt_new
      have e : rnW (pin ι1 S1.length p) (.r S1.length) = .ref p := congrArg D.ref pin_at
      rw [e] at this
      exact this
    · exact h1.elim
  · exact h1.elim
theorem sd_addM (ha : SndE E ta fa) (hb : SndE E tb fb) : SndE E (op2 addM3 ta tb) (fun en S => (fa en S).bind fun x S1 => (fb en S1).bind fun y S2 => addMV S2 x y) := by
  intro en S ι M Q we em h
  refine ha en S ι M _ we em ((Post.bind h).imp fun x ι1 S1 M1 x1 h1 wx => ?_)
  obtain ⟨we1, e1⟩ := wf_ext x1 we
  rw [e1]
  refine hb en S1 ι1 M1 _ we1 x1.emb ((Post.bind h1).imp fun y ι2 S2 M2 x2 h2 wy => ?_)
  rw [← rnW_agr x2.agr wx]
  unfold addMV at h2
  split at h2
  · rename_i a b hx hy
    split at h2
    · rename_i hz
      have k1 := rd_exL x2.emb hx
      have k2 := rd_exL x2.emb hy
      unfold addM3
      rw [k1, k2]
      refine ⟨hz, fun p hp => ?_⟩
      have := post_new (o := .lst (a ++ b)) x2.emb trivial h2 hp lt_new
      have e : rnW (pin ι2 S2.length p) (.r S2.length) = .ref p := congrArg D.ref pin_at
      rw [e] at this
      exact this
    · exact h2.elim
  · exact h2.elim
theorem sd_newK (m : Bool) : SndE E (newK3 m) (fun _ S => match m with | true => newW S (.dK []) | false => .ok (.v (.dK [] [])) S) := by
  intro en S ι M Q we em h
  cases m with
  | true =>
    intro p hp
    have := post_new (o := .dK []) em (fun kv hk => nomatch hk) h hp lt_new
    have e : rnW (pin ι S.length p) (.r S.length) = .ref p := congrArg D.ref pin_at
    rw [e] at this
    exact this
  | false => exact Post.now em h trivial
theorem sd_newT : SndE E newT3 (fun _ S => newW S (.dT [])) := by
  intro en S ι M Q we em h p hp
  have := post_new (o := .dT []) em (fun kv hk => nomatch hk) h hp lt_new
  have e : rnW (pin ι S.length p) (.r S.length) = .ref p := congrArg D.ref pin_at
  rw [e] at this
  exact this
/-! #### slices -/
variable {to1 to2 : TO3} {fo1 fo2 : WF (Option Int)}
theorem sd_noP : SndO E noP3 (fun _ S => .ok none S) := fun en S ι M Q we em h => Post.now em h
theorem sd_part (ha : SndE E ta fa) : SndO E (part3 ta) (fun en S => (fa en S).bind fun x S1 => match x with | .v (.int i) => .ok (some i) S1 | _ => .no) := by
  intro en S ι M Q we em h
  refine ha en S ι M _ we em ((Post.bind h).imp fun x ι1 S1 M1 x1 h1 wx => ?_)
  split at h1
  · exact Post.now x1.emb h1
  · exact h1.elim
theorem vsl_ok {S : Sto} {ι : Nm} {M : MH} {x : W} {d r : D} {l h : Option Int} (em : Emb ι S M) (hx : rdW S x = some d) (hf : vsl d l h = some r) : slA M (rnW ι x) l h = some r := by
  unfold vsl at hf
  have key : ∀ (u : D) (ds : List D), asL M u = some ds → slA M u l h = some (.lst (cutD ds l h)) := by
    intro u ds hu
    unfold slA
    split
    · cases hu
    · cases hu
    · rw [hu]
  split at hf
  · rw [rdW_v hx (fun _ z => by cases z)]; exact hf
  · rw [rdW_v hx (fun _ z => by cases z)]; exact hf
  · rw [key _ _ (by rw [rd_asL em hx]; rfl)]; exact hf
  · rw [key _ _ (by rw [rd_asL em hx]; rfl)]; exact hf
  · cases hf
theorem sd_sl (ha : SndE E ta fa) (h1 : SndO E to1 fo1) (h2 : SndO E to2 fo2) : SndE E (sl3 ta to1 to2) (fun en S => (fa en S).bind fun x S1 => (fo1 en S1).bind fun l S2 => (fo2 en S2).bind fun h S3 => lfv S3 (rd1 S3 x fun d => vsl d l h)) := by
  intro en S ι M Q we em h
  refine ha en S ι M _ we em ((Post.bind h).imp fun x ι1 S1 M1 x1 g1 wx => ?_)
  obtain ⟨we1, e1⟩ := wf_ext x1 we
  rw [e1]
  refine h1 en S1 ι1 M1 _ we1 x1.emb ((Post.bind g1).imp fun l ι2 S2 M2 x2 g2 => ?_)
  obtain ⟨we2, e2⟩ := wf_ext x2 we1
  rw [e2]
  refine h2 en S2 ι2 M2 _ we2 x2.emb ((Post.bind g2).imp fun hh ι3 S3 M3 x3 g3 => ?_)
  obtain ⟨r, hr, k⟩ := Post.lfv x3.emb g3
  obtain ⟨d, hx, hf⟩ := rd1_some hr
  rw [← rnW_agr (x2.trans x3).agr wx, vsl_ok x3.emb hx hf]
  exact k trivial
end
end Z

/-! V5: built-ins, methods, walks, comprehensions, displays of dicts, calls are sound. -/
namespace Z
open PySem PySem.Spec PyProof.Rows L2
section
variable {E : X3} {ta tb tc : T3} {fa fb fc : WF W} {tl : TL3} {fl : WF (List W)}
/-- a function of a plain value or a list -/
def RdOk (f : MH → D → Option D) : Prop := ∀ {S : Sto} {ι : Nm} {M : MH} {x : W} {d : D}, Emb ι S M → rdW S x = some d → f M (rnW ι x) = f M00 d
theorem rd_len : RdOk lenA := by
  intro S ι M x d em hx
  rcases rdW_cases hx with ⟨rfl, q⟩ | ⟨i, ds, rfl, g, rfl⟩
  · cases d <;> first | rfl | exact absurd rfl (q _)
  · show (match seqM M (.ref (ι i)) with | some ds => some (D.int ds.length) | none => none) = _
    rw [show seqM M (.ref (ι i)) = some ds from rd_seqM em hx]; rfl
theorem rd_int : RdOk intA := by
  intro S ι M x d em hx
  rcases rdW_cases hx with ⟨rfl, q⟩ | ⟨i, ds, rfl, g, rfl⟩ <;> rfl
theorem rd_abs : RdOk absA := by
  intro S ι M x d em hx
  rcases rdW_cases hx with ⟨rfl, q⟩ | ⟨i, ds, rfl, g, rfl⟩ <;> rfl
theorem rd_str : RdOk strA := by
  intro S ι M x d em hx
  rcases rdW_cases hx with ⟨rfl, q⟩ | ⟨i, ds, rfl, g, rfl⟩ <;> rfl
theorem rd_sum : RdOk sumA := by
  intro S ι M x d em hx; unfold sumA; rw [rd_asL em hx]
theorem rd_all : RdOk allA := by
  intro S ι M x d em hx; unfold allA; rw [rd_asL em hx]
theorem rd_any : RdOk anyA := by
  intro S ι M x d em hx; unfold anyA; rw [rd_asL em hx]
theorem rd_minL : RdOk Z.minL := by
  intro S ι M x d em hx; unfold Z.minL; rw [rd_asL em hx]
theorem rd_maxL : RdOk Z.maxL := by
  intro S ι M x d em hx; unfold Z.maxL; rw [rd_asL em hx]
theorem o1_ofO {f : MH → D → Option D} (hf : RdOk f) : Op1 (ofO f) (fun S x => rd1 S x (f M00)) := by
  intro S ι M x r Q em h q
  obtain ⟨d, hx, h1⟩ := rd1_some h
  unfold ofO
  rw [hf em hx, h1]; exact q
theorem os_ofO2 {f : MH → D → D → Option D} (hf : ∀ (M : MH) (d e r : D), f M00 d e = some r → f M d e = some r ∧ (∀ ds, d ≠ .lst ds) ∧ ∀ ds, e ≠ .lst ds) : OpS (ofO2 f) (fun S x y => rd2 S x y (f M00)) := by
  intro S ι M x y r Q em h q
  obtain ⟨d, e, hx, hy, h1⟩ := rd2_some h
  obtain ⟨h2, h3, h4⟩ := hf M d e r h1
  unfold ofO2
  rw [rdW_v hx h3, rdW_v hy h4]
  show (match f M d e with | some r => Q r M | none => False)
  rw [h2]; exact q
theorem os_min : OpS (ofO2 minA) (fun S x y => rd2 S x y (minA M00)) := os_ofO2 fun M d e r h => by
  unfold minA at h
  split at h
  · exact ⟨h, (by intro ds z; cases z), (by intro ds z; cases z)⟩
  · cases h
theorem os_max : OpS (ofO2 maxA) (fun S x y => rd2 S x y (maxA M00)) := os_ofO2 fun M d e r h => by
  unfold maxA at h
  split at h
  · exact ⟨h, (by intro ds z; cases z), (by intro ds z; cases z)⟩
  · cases h
theorem sortB_ok {ds : List D} (h : sortB ds = true) : sortOk ds := by
  unfold sortB at h
  obtain ⟨h, h3⟩ := b2 h
  obtain ⟨h1, h2⟩ := b2 h
  refine ⟨fun d hd e he => List.all_eq_true.mp (List.all_eq_true.mp h1 d hd) e he, fun d hd => List.all_eq_true.mp h2 d hd, ?_⟩
  rw [Bool.or_eq_true] at h3
  rcases h3 with h3 | h3
  · left
    intro d hd
    have := List.all_eq_true.mp h3 d hd
    unfold tup1 at this
    split at this
    · exact ⟨_, _, _, rfl⟩
    · cases this
  · right
    intro d hd
    have := List.all_eq_true.mp h3 d hd
    refine ⟨fun z => ?_, fun k xs z => ?_⟩ <;> subst z <;> cases this
theorem o1_srt : Op1 srtA (fun S x => rd1 S x vsrt) := by
  intro S ι M x r Q em h q
  obtain ⟨d, hx, hf⟩ := rd1_some h
  unfold srtA
  rw [rd_asL em hx]
  unfold vsrt at hf
  split at hf
  · split at hf
    · rename_i hz
      cases hf; exact ⟨sortB_ok hz, q⟩
    · cases hf
  · split at hf
    · rename_i hz
      cases hf; exact ⟨sortB_ok hz, q⟩
    · cases hf
  · cases hf
theorem tupA_asL {k : TK} (hk : k ≠ .s) {d : D} {M : MH} {ds : List D} {Q : Q3} (h : asL M d = some ds) (q : Q (.tp k ds) M) : tupA k d M Q := by
  unfold tupA
  split
  · cases h
  · rw [h]; exact q
  · rw [h]; exact q
  · exact absurd rfl hk
theorem o1_tupT : Op1 (tupA .t) (fun S x => rd1 S x vtupT) := by
  intro S ι M x r Q em h q
  obtain ⟨d, hx, hf⟩ := rd1_some h
  unfold vtupT at hf
  split at hf
  · rw [rdW_v hx (fun _ z => by cases z)]
    cases hf; exact q
  · cases hf
    exact tupA_asL (by decide) (by rw [rd_asL em hx]; rfl) q
  · cases hf
    exact tupA_asL (by decide) (by rw [rd_asL em hx]; rfl) q
  · cases hf
theorem o1_tupK : Op1 (tupA .k) (fun S x => rd1 S x vtupK) := by
  intro S ι M x r Q em h q
  obtain ⟨d, hx, hf⟩ := rd1_some h
  unfold vtupK at hf
  split at hf
  · cases hf
    exact tupA_asL (by decide) (by rw [rd_asL em hx]; rfl) q
  · cases hf
    exact tupA_asL (by decide) (by rw [rd_asL em hx]; rfl) q
  · cases hf
/-- what list() reads -/
def lstD (M : MH) (d : D) : Option (List D) := match seqM M d with
  | some ds => some ds
  | none => match asD M d with
    | some kvs => some (kvs.map fun kv => D.tup (kv.1.map kD))
    | none => match asK M d with
      | some kvs => some (kvs.map fun kv => kD kv.1)
      | none => none
theorem lstA_D {m : Bool} {d : D} {M : MH} {Q : Q3} {ds : List D} (h : lstD M d = some ds) (q : resL m ds M Q) : lstA m d M Q := by
  unfold lstD at h
  unfold lstA
  split at h
  · rename_i e; try rw [e]
    cases h; exact q
  · rename_i e
    try rw [e]
    split at h
    · rename_i e2; cases h; try rw [e2]
      exact q
    · rename_i e2
      try rw [e2]
      split at h
      · rename_i e3; cases h; try rw [e3]
        exact q
      · cases h
theorem lstW_ok {S : Sto} {ι : Nm} {M : MH} {w : W} {ds : List D} (em : Emb ι S M) (h : lstW S w = some ds) : lstD M (rnW ι w) = some ds := by
  unfold lstW at h
  unfold lstD
  split at h
  · rename_i e
    rw [sq_seqM em e]; exact h
  · split at h
    · exact h
    · exact h
    · rename_i i e
      split at h
      · rename_i kvs g
        have hM := em.at' i _ g
        have h1 : seqM M (.ref (ι i)) = none := by
          show (match M (ι i) with | some (.lst ds) => some ds | _ => none) = none
          rw [hM]; rfl
        have h2 : asD M (.ref (ι i)) = none := by
          show (match M (ι i) with | some (.dT kvs) => some kvs | _ => none) = _
          rw [hM]; rfl
        have h3 : asK M (.ref (ι i)) = some (kvs.map fun kv => (kv.1, rnW ι kv.2)) := by
          show (match M (ι i) with | some (.dK kvs) => some kvs | _ => none) = _
          rw [hM]; rfl
        show (match seqM M (.ref (ι i)) with
          | some ds => some ds
          | none => match asD M (.ref (ι i)) with
            | some kvs => some (kvs.map fun (kv : List Key × D) => D.tup (kv.1.map kD))
            | none => match asK M (.ref (ι i)) with
              | some kvs => some (kvs.map fun (kv : Key × D) => kD kv.1)
              | none => none) = _
        rw [h1, h2, h3]
        cases h
        simp
      · rename_i kvs g
        have hM := em.at' i _ g
        have h1 : seqM M (.ref (ι i)) = none := by
          show (match M (ι i) with | some (.lst ds) => some ds | _ => none) = none
          rw [hM]; rfl
        have h2 : asD M (.ref (ι i)) = some (kvs.map fun kv => (kv.1, rnW ι kv.2)) := by
          show (match M (ι i) with | some (.dT kvs) => some kvs | _ => none) = _
          rw [hM]; rfl
        show (match seqM M (.ref (ι i)) with
          | some ds => some ds
          | none => match asD M (.ref (ι i)) with
            | some kvs => some (kvs.map fun (kv : List Key × D) => D.tup (kv.1.map kD))
            | none => match asK M (.ref (ι i)) with
              | some kvs => some (kvs.map fun (kv : Key × D) => kD kv.1)
              | none => none) = _
        rw [h1, h2]
        cases h
        simp
      · cases h
    · cases h
/-- behind an operation -/
def PW (ι : Nm) (S : Sto) (M : MH) (E : X3) (r : Rs W) (Q : Q3) : Prop := Post ι S M E r fun w ι' S' M' => wfW S'.length w → Q (rnW ι' w) M'
theorem pw_lfv {ι : Nm} {S : Sto} {M : MH} {o : Option D} {Q : Q3} (em : Emb ι S M) (h : PW ι S M E (lfv S o) Q) : ∃ d, o = some d ∧ Q d M := by
  obtain ⟨d, h1, h2⟩ := Post.lfv em h
  exact ⟨d, h1, h2 trivial⟩
theorem pw_new {ι : Nm} {S : Sto} {M : MH} {o : VO} {Q : Q3} (em : Emb ι S M) (w : wfO S.length o) (h : PW ι S M E (newW S o) Q) : ∀ p, M p = none → Q (.ref p) (up M p (rnO (pin ι S.length p) o)) := by
  intro p hp
  have := post_new em w h hp lt_new
  have e : rnW (pin ι S.length p) (.r S.length) = .ref p := congrArg D.ref pin_at
  rw [e] at this
  have e2 : rnO (pin ι S.length p) o = rnO ι o := rnO_agr (fun i h => pin_ne (Nat.ne_of_lt h)) w
  rw [e2]
  exact this
theorem bt_ok {b : Bt} {ι : Nm} {S : Sto} {M : MH} {ws : List W} {Q : Q3} (em : Emb ι S M) (h : PW ι S M E (b.wo S ws) Q) : b.ol (ws.map (rnW ι)) M Q := by
  unfold Bt.wo at h
  split at h
  · obtain ⟨d, h1, h2⟩ := pw_lfv em h; exact o1_ofO rd_len S ι M _ d Q em h1 h2
  · obtain ⟨d, h1, h2⟩ := pw_lfv em h; exact o1_ofO rd_int S ι M _ d Q em h1 h2
  · obtain ⟨d, h1, h2⟩ := pw_lfv em h; exact o1_ofO rd_abs S ι M _ d Q em h1 h2
  · obtain ⟨d, h1, h2⟩ := pw_lfv em h; exact o1_ofO rd_str S ι M _ d Q em h1 h2
  · obtain ⟨d, h1, h2⟩ := pw_lfv em h; exact os_min S ι M _ _ d Q em h1 h2
  · obtain ⟨d, h1, h2⟩ := pw_lfv em h; exact os_max S ι M _ _ d Q em h1 h2
  · obtain ⟨d, h1, h2⟩ := pw_lfv em h; exact o1_ofO rd_minL S ι M _ d Q em h1 h2
  · obtain ⟨d, h1, h2⟩ := pw_lfv em h; exact o1_ofO rd_maxL S ι M _ d Q em h1 h2
  · obtain ⟨d, h1, h2⟩ := pw_lfv em h; exact o1_ofO rd_sum S ι M _ d Q em h1 h2
  · obtain ⟨d, h1, h2⟩ := pw_lfv em h; exact o1_ofO rd_all S ι M _ d Q em h1 h2
  · obtain ⟨d, h1, h2⟩ := pw_lfv em h; exact o1_ofO rd_any S ι M _ d Q em h1 h2
  · obtain ⟨d, h1, h2⟩ := pw_lfv em h; exact o1_srt S ι M _ d Q em h1 h2
  · obtain ⟨d, h1, h2⟩ := pw_lfv em h; exact o1_tupT S ι M _ d Q em h1 h2
  · obtain ⟨d, h1, h2⟩ := pw_lfv em h; exact o1_tupK S ι M _ d Q em h1 h2
  · split at h
    · rename_i ds hd
      exact lstA_D (lstW_ok em hd) (Post.now em h trivial)
    · exact h.elim
  · split at h
    · rename_i ds hd
      exact lstA_D (lstW_ok em hd) (pw_new (o := .lst ds) em trivial h)
    · exact h.elim
  · exact h.elim
theorem sd_blt {b : Bt} (ha : SndL E tl fl) : SndE E (opL b.ol tl) (fun en S => (fl en S).bind fun xs S2 => b.wo S2 xs) := by
  intro en S ι M Q we em h
  exact ha en S ι M _ we em ((Post.bind h).imp fun xs ι1 S1 M1 x1 h1 wxs => bt_ok x1.emb h1)
theorem bind_assoc {α β γ : Type} {r : Rs α} {f : α → Sto → Rs β} {g : β → Sto → Rs γ} : (r.bind f).bind g = r.bind fun a S => (f a S).bind g := by
  cases r <;> rfl
/-! #### methods -/
theorem tyOk_of {m : Mt} {S : Sto} {ι : Nm} {M : MH} {o : W} {ws : List W} (em : Emb ι S M) (h : m.wo S o ws ≠ .no) : True := trivial
theorem pw_put {ι : Nm} {S : Sto} {M : MH} {a : Nat} {u o : VO} {Q : Q3} {w : W} (em : Emb ι S M) (g : getS S a = some u) (wo : wfO S.length o) (h : PW ι S M E (.ok w (setS S a (some o))) Q) (hw : wfW S.length w) : Q (rnW ι w) (up M (ι a) (rnO ι o)) :=
  h _ _ (Ext.put em g wo) (by rw [show (setS S a (some o)).length = S.length from List.length_set]; exact hw)
theorem mt_ok {m : Mt} {ι : Nm} {S : Sto} {M : MH} {o : W} {ws : List W} {Q : Q3} (em : Emb ι S M) (wws : wfL S.length ws) (h : PW ι S M E (m.wo S o ws) Q) :
    tyOk m M (rnW ι o) = true ∧ (match mthA m M (rnW ι o) (ws.map (rnW ι)) with | some (r, M3) => Q r M3 | none => False) := by
  unfold Mt.wo at h
  split at h
  · rename_i a x
    split at h
    · rename_i ds g
      split at h
      · rename_i hl
        have hM : M (ι a) = some (.lst ds) := em.at' a _ g
        refine ⟨?_, ?_⟩
        · show (match M (ι a) with | some (.lst ds) => some ds | _ => none).isSome = true
          rw [hM]; rfl
        · have : mthA .append M (.ref (ι a)) [x] = some (.non, up M (ι a) (.lst (ds ++ [x]))) := by
            show (match M (ι a) with
              | some (.lst ds) => if ds.length < sizeLine then some (D.non, up M (ι a) (.lst (ds ++ [x]))) else none
              | _ => none) = _
            rw [hM]; exact if_pos hl
          show (match mthA .append M (.ref (ι a)) [x] with | some (r, M3) => Q r M3 | none => False)
          rw [this]
          exact pw_put (o := .lst (ds ++ [x])) em g trivial h trivial
      · exact h.elim
    · exact h.elim
  · rename_i a x
    split at h
    · rename_i ds es g hx
      split at h
      · rename_i hl
        have hM : M (ι a) = some (.lst ds) := em.at' a _ g
        have hX : exL M (rnW ι x) = some es := by rw [rd_exL em hx]; rfl
        refine ⟨?_, ?_⟩
        · show (match M (ι a) with | some (.lst ds) => some ds | _ => none).isSome = true
          rw [hM]; rfl
        · have : mthA .extend M (.ref (ι a)) [rnW ι x] = some (.non, up M (ι a) (.lst (ds ++ es))) := by
            show (match M (ι a) with
              | some (.lst ds) => (match exL M (rnW ι x) with
                | some es => if ds.length + es.length ≤ sizeLine then some (D.non, up M (ι a) (.lst (ds ++ es))) else none
                | none => none)
              | _ => none) = _
            rw [hM, hX]; exact if_pos hl
          show (match mthA .extend M (.ref (ι a)) [rnW ι x] with | some (r, M3) => Q r M3 | none => False)
          rw [this]
          exact pw_put (o := .lst (ds ++ es)) em g trivial h trivial
      · exact h.elim
    · exact h.elim
  · rename_i k z
    split at h
    · rename_i r hr
      obtain ⟨h1, h2, h3⟩ := df_dfind em hr
      refine ⟨?_, ?_⟩
      · show ((asK M (rnW ι o)).isSome || (asD M (rnW ι o)).isSome) = true
        unfold dfind at h1
        rw [Bool.or_eq_true]
        split at h1
        · rename_i e _; left; rw [e]; rfl
        · split at h1
          · rename_i e _; right; rw [e]; rfl
          · cases h1
      · have : mthA .get M (rnW ι o) [k, rnW ι z] = some ((r.map (rnW ι)).getD (rnW ι z), M) := by
          show (match dfind M (rnW ι o) k with | some r => some (r.getD (rnW ι z), M) | none => none) = _
          rw [h1]
        show (match mthA .get M (rnW ι o) [k, rnW ι z] with | some (r, M3) => Q r M3 | none => False)
        rw [this]
        have wz : wfW S.length z := wws z (by simp)
        have := Post.now em h
        cases r with
        | none => exact this wz
        | some r => exact this (h3 r rfl)
    · exact h.elim
  · rename_i a k z
    split at h
    · rename_i kvs k' g hk
      split at h
      · rename_i hl
        have hM : M (ι a) = some (.dK (kvs.map fun kv => (kv.1, rnW ι kv.2))) := em.at' a _ g
        have wz : wfW S.length z := wws z (by simp)
        refine ⟨?_, ?_⟩
        · show ((match M (ι a) with | some (.dK kvs) => some kvs | _ => none).isSome || _) = true
          rw [hM]; rfl
        · have hlen : (kvs.map fun kv => (kv.1, rnW ι kv.2)).length < sizeLine := by rw [List.length_map]; exact hl
          have e0 : mthA .setdefault M (.ref (ι a)) [k, rnW ι z] = (match valD (kvs.map fun kv => (kv.1, rnW ι kv.2)) k' with
                | some v => some (v, M)
                | none => some (rnW ι z, up M (ι a) (.dK (putD (kvs.map fun kv => (kv.1, rnW ι kv.2)) k' (rnW ι z))))) := by
            show (match M (ι a), keyK k with
              | some (.dK kvs), some k => if kvs.length < sizeLine then (match valD kvs k with
                | some v => some (v, M)
                | none => some (rnW ι z, up M (ι a) (.dK (putD kvs k (rnW ι z))))) else none
              | _, _ => none) = _
            rw [hM, hk]
            exact if_pos hlen
          show (match mthA .setdefault M (.ref (ι a)) [k, rnW ι z] with | some (r, M3) => Q r M3 | none => False)
          rw [e0, valD_G, valG_map]
          split at h
          · rename_i v hv
            rw [hv]
            exact Post.now em h (em.wf a _ g _ (valG_mem hv))
          · rename_i hv
            rw [hv]
            have := pw_put (o := .dK (putG kvs k' z)) em g (fun kv hkv => by
              rcases putG_mem hkv with q | q
              · exact em.wf a _ g _ q
              · rw [q]; exact wz) h wz
            have e : putD (kvs.map fun kv => (kv.1, rnW ι kv.2)) k' (rnW ι z) = (putG kvs k' z).map fun kv => (kv.1, rnW ι kv.2) := putG_map (rnW ι) k' z kvs
            show Q (rnW ι z) (up M (ι a) (.dK (putD (kvs.map fun kv => (kv.1, rnW ι kv.2)) k' (rnW ι z))))
            rw [e]
            exact this
      · exact h.elim
    · exact h.elim
  · rename_i x
    split at h
    · rename_i ds hx
      split at h
      · rename_i hl
        have hX : exL M (rnW ι o) = some ds := by rw [rd_exL em hx]; rfl
        refine ⟨?_, ?_⟩
        · show (exL M (rnW ι o)).isSome = true
          rw [hX]; rfl
        · have : mthA .index M (rnW ι o) [x] = (match findD x ds 0 with | some j => some (.int j, M) | none => none) := by
            show (match exL M (rnW ι o) with
              | some ds => if lay 59 x && layL 59 ds then (match findD x ds 0 with | some j => some (D.int j, M) | none => none) else none
              | none => none) = _
            rw [hX]; exact if_pos hl
          show (match mthA .index M (rnW ι o) [x] with | some (r, M3) => Q r M3 | none => False)
          rw [this]
          split at h
          · rename_i j hj
            try rw [hj]
            exact Post.now em h trivial
          · exact h.elim
      · exact h.elim
    · exact h.elim
  · rename_i ds x
    split at h
    · rename_i ys hy
      split at h
      · rename_i j hj
        refine ⟨rfl, ?_⟩
        have : mthA .indexT M (.tp .k ds) [.str x] = some (.int j, M) := by
          show (match strsOf ds with
            | some ys => (match findS x ys 0 with | some j => some (D.int j, M) | none => none)
            | none => none) = _
          rw [hy]; show (match findS x ys 0 with | some j => some (D.int j, M) | none => none) = _; rw [hj]
        show (match mthA .indexT M (.tp .k ds) [.str x] with | some (r, M3) => Q r M3 | none => False)
        rw [this]
        exact Post.now em h trivial
      · exact h.elim
    · exact h.elim
  · rename_i z x
    split at h
    · rename_i ds hs
      split at h
      · rename_i ys hy
        split at h
        · rename_i hl
          refine ⟨rfl, ?_⟩
          have : mthA .join M (.str z) [rnW ι x] = some (.str (Txt.join z ys), M) := by
            simp only [mthA, sq_seqM em hs, hy]
            exact if_pos hl
          show (match mthA .join M (.str z) [rnW ι x] with | some (r, M3) => Q r M3 | none => False)
          rw [this]
          exact Post.now em h trivial
        · exact h.elim
      · exact h.elim
    · exact h.elim
  · rename_i a b
    split at h
    · rename_i hl
      refine ⟨rfl, ?_⟩
      have : mthA .split M (.str a) [.str b] = some (.lst ((Txt.split a b).map D.str), M) := if_pos hl
      show (match mthA .split M (.str a) [.str b] with | some (r, M3) => Q r M3 | none => False)
      rw [this]
      exact Post.now em h trivial
    · exact h.elim
  · exact ⟨rfl, Post.now em h trivial⟩
  · exact h.elim
end
end Z

/-! V6: walks, comprehensions, displays of dicts, calls, statements are sound. -/
namespace Z
open PySem PySem.Spec PyProof.Rows L2
section
variable {E : X3} {ta tb tc : T3} {fa fb fc : WF W} {tl : TL3} {fl : WF (List W)}
/-! #### walks -/
def itF (ik : IK) (fl : WF (List W)) : WF (List D) := fun en S => (fl en S).bind fun ws S1 => lft S1 (itW ik ws)
theorem it_seq {ws : List W} {ds : List D} (h : itW .seq ws = some ds) : ∃ d, ws = [.v d] ∧ itemsA d = some ds := by
  unfold itW at h
  split at h <;> first | contradiction | skip
  rename_i w _
  cases w with
  | r i => cases h
  | v d => exact ⟨d, rfl, h⟩
theorem it_rng1 {ws : List W} {ds : List D} (h : itW .rng1 ws = some ds) : ∃ j, ws = [.v (.int j)] ∧ (-16777216 ≤ j ∧ j ≤ 16777216) ∧ rngD 0 j.toNat = ds := by
  unfold itW at h
  split at h <;> first | contradiction | skip
  split at h
  · rename_i j _ hz; exact ⟨j, rfl, hz, Option.some.inj h⟩
  · cases h
theorem it_rng2 {ws : List W} {ds : List D} (h : itW .rng2 ws = some ds) : ∃ i j, ws = [.v (.int i), .v (.int j)] ∧ (-16777216 ≤ i ∧ i ≤ 16777216 ∧ -16777216 ≤ j ∧ j ≤ 16777216 ∧ j - i ≤ 16777216) ∧ rngD i (j - i).toNat = ds := by
  unfold itW at h
  split at h <;> first | contradiction | skip
  split at h
  · rename_i i j _ hz; exact ⟨i, j, rfl, hz, Option.some.inj h⟩
  · cases h
theorem it_enm {ws : List W} {ds : List D} (h : itW .enm ws = some ds) : ∃ es, ws = [.v (.lst es)] ∧ es.length ≤ sizeLine ∧ enumD 0 es = ds := by
  unfold itW at h
  split at h <;> first | contradiction | skip
  split at h
  · rename_i es _ hz; exact ⟨es, rfl, hz, Option.some.inj h⟩
  · cases h
theorem sd_it (ik : IK) (hl : SndL E tl fl) : SndI E (wi ik tl) (itF ik fl) := by
  intro en S ι M Q we em h
  have h0 : Post ι S M E (fl en S) (fun ws ι1 S1 M1 => ∃ ds, itW ik ws = some ds ∧ Q ds M1) := (Post.bind h).imp fun ws ι1 S1 M1 x1 h1 => by
    obtain ⟨ds, h2, h3⟩ := Post.lft x1.emb h1
    exact ⟨ds, h2, h3⟩
  cases ik with
  | seq =>
    refine hl en S ι M _ we em (h0.imp fun ws ι1 S1 M1 x1 ⟨ds, h2, q⟩ _ => ?_)
    obtain ⟨d, rfl, h3⟩ := it_seq h2
    show (match itemsA d with | some ds => Q ds M1 | none => False)
    rw [h3]; exact q
  | rng1 =>
    refine hl en S ι M _ we em (h0.imp fun ws ι1 S1 M1 x1 ⟨ds, h2, q⟩ _ => ?_)
    obtain ⟨j, rfl, hz, rfl⟩ := it_rng1 h2
    exact ⟨hz, q⟩
  | rng2 =>
    refine hl en S ι M _ we em (h0.imp fun ws ι1 S1 M1 x1 ⟨ds, h2, q⟩ _ => ?_)
    obtain ⟨i, j, rfl, hz, rfl⟩ := it_rng2 h2
    exact ⟨hz, q⟩
  | enm =>
    refine hl en S ι M _ we em (h0.imp fun ws ι1 S1 M1 x1 ⟨ds, h2, q⟩ _ => ?_)
    obtain ⟨es, rfl, hz, rfl⟩ := it_enm h2
    exact ⟨trivial, hz, q⟩
/-! #### aside -/
theorem Emb.er {ι : Nm} {S : Sto} {M : MH} {p : Addr} (e : Emb ι S M) (hn : ∀ i o, getS S i = some o → ι i ≠ p) : Emb ι S (Z.er M p) :=
  ⟨fun i u h => by unfold Z.er; rw [if_neg (hn i u h)]; exact e.at' i u h, e.inj, e.wf⟩
theorem post_aside {α : Type} {ι : Nm} {S : Sto} {M : MH} {p : Addr} {r : Rs α} {K : α → Nm → Sto → MH → Prop} (hp : M p ≠ none) (hn : ∀ i o, getS S i = some o → ι i ≠ p) (h : Post ι S (Z.er M p) noX r K) :
    Post ι S M noX r fun a ι' S' M' => K a ι' S' (Z.er M' p) ∧ M' p = M p ∧ ∀ i o, getS S' i = some o → ι' i ≠ p := by
  cases r with
  | ok a S' => exact fun ι' M' x => let ⟨y, z1, z2⟩ := x.aside hp hn; ⟨h ι' _ y, z1, z2⟩
  | ex e S' => exact fun ι' M' x => let ⟨y, z1, z2⟩ := x.aside hp hn; (id (h ι' (Z.er M' p) y) : False)
  | no => exact h
theorem post_calm {α : Type} {ι : Nm} {S : Sto} {M : MH} {E E' : X3} {r : Rs α} {K : α → Nm → Sto → MH → Prop} (h : Post ι S M E (calm r) K) : Post ι S M E' r K := by
  cases r with
  | ok a S' => exact h
  | ex e S' => exact h.elim
  | no => exact h
theorem cw_ok {tg : Tg} {tt : TB3} {te : T3} {ft : WF Bool} {fe : WF W} (hT : SndT noX tt ft) (hE : SndE noX te fe) {en : WEn} {p : Addr} {Kc : List D → MH → Prop} :
    ∀ (items acc : List D) (S : Sto) (ι : Nm) (M : MH), wfE S.length en → Emb ι S M → (∀ i o, getS S i = some o → ι i ≠ p) → M p = some (.lst acc) →
      Post ι S (Z.er M p) noX (compV tg ft fe en items S) (fun ys ι' S' N => N p = none → Kc (acc ++ ys) (up N p (.lst (acc ++ ys)))) → compW tg tt te (rnE ι en) p Kc items acc M
  | [], acc, S, ι, M, we, em, hn, hp, h => by
    have := Post.now (Emb.er em hn) h er_none
    rw [List.append_nil, up_er hp] at this
    exact ⟨hp, this⟩
  | x :: r, acc, S, ι, M, we, em, hn, hp, h => by
    have hp0 : M p ≠ none := by rw [hp]; intro z; cases z
    unfold compV at h
    unfold compW
    cases q : bindV tg (.v x) en with
    | none => rw [q] at h; exact h.elim
    | some e1 =>
      rw [q] at h
      obtain ⟨b1, we1⟩ := bind_rn (ι := ι) (w := .v x) we trivial q
      rw [show bindT tg x (rnE ι en) = some (rnE ι e1) from b1]
      refine hT e1 S ι M _ we1 em ((post_aside hp0 hn (Post.bind h)).imp fun b ι1 S1 M1 x1 ⟨h1, p1, n1⟩ => ?_)
      have em1 := x1.emb
      have hp1 : M1 p = some (.lst acc) := p1.trans hp
      have hp01 : M1 p ≠ none := by rw [hp1]; intro z; cases z
      have we1' := we.le x1.len
      cases b with
      | false =>
        show compW tg tt te (rnE ι en) p Kc r acc M1
        rw [← rnE_agr x1.agr we]
        exact cw_ok hT hE r acc S1 ι1 M1 we1' em1 n1 hp1 h1
      | true =>
        show te (rnE ι e1) M1 _
        rw [← rnE_agr x1.agr we1]
        refine hE e1 S1 ι1 M1 _ (we1.le x1.len) em1 ((post_aside hp01 n1 (Post.bind h1)).imp fun w ι2 S2 M2 x2 ⟨h2, p2, n2⟩ ww => ?_)
        have hp2 : M2 p = some (.lst acc) := p2.trans hp1
        refine ⟨hp2, ?_⟩
        cases w with
        | r i => exact h2.elim
        | v y =>
          show compW tg tt te (rnE ι en) p Kc r (acc ++ [y]) (up M2 p (.lst (acc ++ [y])))
          rw [← rnE_agr (x1.trans x2).agr we]
          refine cw_ok hT hE r (acc ++ [y]) S2 ι2 _ (we.le (x1.trans x2).len) (Emb.mark x2.emb n2) n2 up_same ?_
          rw [er_up']
          refine (Post.bind (show Post ι2 S2 (Z.er M2 p) noX ((compV tg ft fe en r S2).bind fun ys S3 => .ok (y :: ys) S3) _ from h2)).imp fun ys ι3 S3 M3 x3 h3 hN => ?_
          have := Post.now x3.emb h3 hN
          rw [List.append_assoc]
          exact this
theorem post_it {α : Type} {ik : IK} {r : Rs (List W)} {g : List D → Sto → Rs α} {ι : Nm} {S : Sto} {M : MH} {K : α → Nm → Sto → MH → Prop}
    (h : Post ι S M E (r.bind fun ws S1 => match itW ik ws with | some items => g items S1 | none => .no) K) : Post ι S M E (r.bind fun ws S1 => lft S1 (itW ik ws)) fun items ι1 S1 M1 => Post ι1 S1 M1 E (g items S1) K := by
  cases r with
  | no => exact h
  | ex e S' => exact h
  | ok ws S1 =>
    rw [Rs.bind_ok] at h ⊢
    cases q : itW ik ws with
    | none => rw [q] at h; exact h.elim
    | some items => rw [q] at h; exact fun ι1 M1 x1 => Post.from x1 h
def endC (m : Bool) (p : Addr) (Q : Q3) : List D → MH → Prop := fun acc M2 => match m with | true => Q (.ref p) M2 | false => Q (.lst acc) (Z.er M2 p)
theorem sd_comp {m : Bool} {ik : IK} {tg : Tg} {own : List Nat} {tt : TB3} {te : T3} {ft : WF Bool} {fe : WF W} (hl : SndL E tl fl) (hT : SndT noX tt ft) (hE : SndE noX te fe) :
    SndE E (comp3 m (wi ik tl) tg tt te own) (fun en S => (fl en S).bind fun ws S1 => match itW ik ws with
      | some items => compR m (calm (compV tg ft fe (wipeV en own) items S1))
      | none => .no) := by
  intro en S ι M Q we em h
  show wi ik tl (rnE ι en) M fun items M1 => ∀ p, M1 p = none → compW tg tt te (wipeE (rnE ι en) own) p (endC m p Q) items [] (up M1 p (.lst []))
  refine sd_it ik hl en S ι M _ we em ((post_it h).imp fun items ι1 S1 M1 x1 h1 p hp => ?_)
  have ww := wfE_wipe (we.le x1.len) own
  rw [wipeE_rn, ← rnE_agr x1.agr (wfE_wipe we own)]
  have fr := Emb.fresh x1.emb hp
  refine cw_ok hT hE items [] S1 ι1 (up M1 p (.lst [])) ww (Emb.mark x1.emb fr) fr up_same ?_
  rw [er_up', er_self hp]
  refine (post_calm (Post.bind h1)).imp fun ys ι2 S2 N x2 h2 hN => ?_
  rw [List.nil_append]
  cases m with
  | true => exact pw_new (o := .lst ys) x2.emb trivial h2 p hN
  | false =>
    show Q (.lst ys) (Z.er (up N p (.lst ys)) p)
    rw [er_up', er_self hN]
    exact Post.now x2.emb h2 trivial
/-! #### displays of dicts -/
def SndP (E : X3) (t : List (T3 × T3)) (f : WF (List (W × W))) : Prop := ∀ en S ι M Q, wfE S.length en → Emb ι S M → Post ι S M E (f en S) (fun ps ι' S' M' => (∀ q ∈ ps, wfW S'.length q.1 ∧ wfW S'.length q.2) → Q (ps.map fun q => (rnW ι' q.1, rnW ι' q.2)) M') → pairs3 t (rnE ι en) M Q
theorem sd_pnil : SndP E [] (fun _ S => .ok [] S) := fun en S ι M Q we em h => Post.now em h fun q hq => nomatch hq
theorem sd_pcons {t : List (T3 × T3)} {fp : WF (List (W × W))} (ha : SndE E ta fa) (hb : SndE E tb fb) (hp : SndP E t fp) : SndP E ((ta, tb) :: t) (fun en S => (fa en S).bind fun x S1 => (fb en S1).bind fun y S2 => (fp en S2).bind fun ps S3 => .ok ((x, y) :: ps) S3) := by
  intro en S ι M Q we em h
  refine ha en S ι M _ we em ((Post.bind h).imp fun x ι1 S1 M1 x1 h1 wx => ?_)
  obtain ⟨we1, e1⟩ := wf_ext x1 we
  rw [e1]
  refine hb en S1 ι1 M1 _ we1 x1.emb ((Post.bind h1).imp fun y ι2 S2 M2 x2 h2 wy => ?_)
  obtain ⟨we2, e2⟩ := wf_ext x2 we1
  rw [e2]
  refine hp en S2 ι2 M2 _ we2 x2.emb ((Post.bind h2).imp fun ps ι3 S3 M3 x3 h3 wps => ?_)
  rw [← rnW_agr (x2.trans x3).agr wx, ← rnW_agr x3.agr wy]
  refine Post.now x3.emb h3 fun q hq => ?_
  rcases List.mem_cons.mp hq with rfl | hq
  · exact ⟨wx.le (x2.trans x3).len, wy.le x3.len⟩
  · exact wps q hq
theorem keysW_ok {ι : Nm} {n : Nat} : ∀ {ps : List (W × W)} {kvs : List (Key × W)}, keysW ps = some kvs → (∀ q ∈ ps, wfW n q.1 ∧ wfW n q.2) → keysD (ps.map fun q => (rnW ι q.1, rnW ι q.2)) = some (kvs.map fun kv => (kv.1, rnW ι kv.2)) ∧ ∀ kv ∈ kvs, wfW n kv.2
  | [], kvs, h, _ => by cases h; exact ⟨rfl, fun kv hk => nomatch hk⟩
  | (k, v) :: r, kvs, h, w => by
    cases k with
    | r i => cases h
    | v k =>
      have h : (match keyK k, keysW r with
        | some k, some r => some ((k, v) :: r)
        | _, _ => none) = some kvs := h
      split at h
      · rename_i k' r' h1 h2
        cases h
        obtain ⟨i1, i2⟩ := keysW_ok (ι := ι) h2 fun q hq => w q (List.mem_cons_of_mem _ hq)
        refine ⟨?_, fun kv hk => ?_⟩
        · show (match keyK k, keysD (r.map fun q => (rnW ι q.1, rnW ι q.2)) with
            | some k, some r => some ((k, rnW ι v) :: r)
            | _, _ => none) = _
          rw [h1, i1]; rfl
        · rcases List.mem_cons.mp hk with rfl | hk
          · exact (w (W.v k, v) (by simp)).2
          · exact i2 kv hk
      · cases h
theorem merge_map {ι : Nm} : ∀ (more kvs : List (Key × W)), mergeD (kvs.map fun kv => (kv.1, rnW ι kv.2)) (more.map fun kv => (kv.1, rnW ι kv.2)) = (mergeG kvs more).map fun kv => (kv.1, rnW ι kv.2)
  | [], kvs => rfl
  | kv :: r, kvs => by
    show mergeD (putD (kvs.map fun kv => (kv.1, rnW ι kv.2)) kv.1 (rnW ι kv.2)) (r.map fun kv => (kv.1, rnW ι kv.2)) = _
    rw [show putD (kvs.map fun kv => (kv.1, rnW ι kv.2)) kv.1 (rnW ι kv.2) = (putG kvs kv.1 kv.2).map fun kv => (kv.1, rnW ι kv.2) from putG_map (rnW ι) kv.1 kv.2 kvs, merge_map r]
    rfl
theorem merge_wf {n : Nat} : ∀ (more kvs : List (Key × W)), (∀ kv ∈ kvs, wfW n kv.2) → (∀ kv ∈ more, wfW n kv.2) → ∀ kv ∈ mergeG kvs more, wfW n kv.2
  | [], kvs, h, _ => h
  | kv :: r, kvs, h, g => merge_wf r _ (fun e he => by
      rcases putG_mem he with q | q
      · exact h e q
      · rw [q]; exact g kv (by simp)) fun e he => g e (List.mem_cons_of_mem _ he)
theorem sd_dis {m : Bool} {t : List (T3 × T3)} {fp : WF (List (W × W))} (hp : SndP E t fp) : SndE E (disp3 m t) (fun en S => (calm (fp en S)).bind fun ps S1 => disW m S1 ps) := by
  intro en S ι M Q we em h p hpn
  replace h : Post ι S M E ((calm (fp en S)).bind fun ps S1 => disW m S1 ps) (fun w ι' S' M' => wfW S'.length w → Q (rnW ι' w) M') := h
  have fr := Emb.fresh em hpn
  have h0 : Post ι S (Z.er (up M p (.dK [])) p) noX (fp en S) (fun ps ι1 S1 N => Post ι1 S1 N E (disW m S1 ps) fun w ι' S' M' => wfW S'.length w → Q (rnW ι' w) M') := by
    rw [er_up', er_self hpn]
    exact post_calm (Post.bind h)
  have h1 := post_aside (M := up M p (.dK [])) (by rw [up_same]; intro z; cases z) fr h0
  have h2 : Post ι S (up M p (.dK [])) E (fp en S) (fun ps ι1 S1 M1 => Post ι1 S1 (Z.er M1 p) E (disW m S1 ps) (fun w ι' S' M' => wfW S'.length w → Q (rnW ι' w) M') ∧ M1 p = some (.dK []) ∧ ∀ i o, getS S1 i = some o → ι1 i ≠ p) := by
    cases hr : fp en S with
    | no => rw [hr] at h1; exact h1
    | ex e S' => rw [hr] at h; exact h.elim
    | ok ps S1 =>
      rw [hr] at h1
      intro ι' M' x
      obtain ⟨a, b, c⟩ := h1 ι' M' x
      exact ⟨a, b.trans up_same, c⟩
  refine hp en S ι (up M p (.dK [])) _ we (Emb.mark em fr) (h2.imp fun ps ι1 S1 M1 x1 ⟨h3, p3, n3⟩ wps => ?_)
  refine ⟨p3, ?_⟩
  unfold disW at h3
  split at h3
  · rename_i kvs hk
    obtain ⟨k1, k2⟩ := keysW_ok (ι := ι1) hk wps
    rw [k1]
    split at h3
    · rename_i hl
      refine ⟨by rw [List.length_map]; exact hl, ?_⟩
      have hm : mergeD [] (kvs.map fun kv => (kv.1, rnW ι1 kv.2)) = (mergeG [] kvs).map fun kv => (kv.1, rnW ι1 kv.2) := merge_map kvs []
      rw [hm]
      have wm := merge_wf kvs [] (fun kv hk => nomatch hk) k2
      have em1 := Emb.er x1.emb n3
      cases m with
      | true =>
        have := pw_new (o := .dK (mergeG [] kvs)) em1 wm h3 p er_none
        have e2 : rnO (pin ι1 S1.length p) (.dK (mergeG [] kvs)) = .dK ((mergeG [] kvs).map fun kv => (kv.1, rnW ι1 kv.2)) := rnO_agr (ι := ι1) (o := .dK (mergeG [] kvs)) (fun i h => pin_ne (Nat.ne_of_lt h)) wm
        rw [e2] at this
        have e3 : ∀ o, up (Z.er M1 p) p o = up M1 p o := fun o => by
          funext a; unfold up Z.er
          by_cases q : a = p
          · simp [q]
          · simp [q]
        rw [e3] at this
        exact this
      | false =>
        dsimp only at h3
        split at h3
        · rename_i ds hds
          have h4 : Post ι1 S1 (Z.er M1 p) E (.ok (.v (.dK ((mergeG [] kvs).map (·.1)) ds)) S1) (fun w ι' S' M' => wfW S'.length w → Q (rnW ι' w) M') := h3
          have := Post.now em1 h4 trivial
          have e : ((mergeG [] kvs).map fun kv => (kv.1, rnW ι1 kv.2)).map (·.2) = ds := by
            rw [← plnW_ok (ι := ι1) hds, List.map_map, List.map_map]; rfl
          have e' : ((mergeG [] kvs).map fun kv => (kv.1, rnW ι1 kv.2)).map (·.1) = (mergeG [] kvs).map (·.1) := by
            rw [List.map_map]; rfl
          show Q (.dK (((mergeG [] kvs).map fun kv => (kv.1, rnW ι1 kv.2)).map (·.1)) (((mergeG [] kvs).map fun kv => (kv.1, rnW ι1 kv.2)).map (·.2))) (Z.er M1 p)
          rw [e, e']
          exact this
        · exact h3.elim
    · exact h3.elim
  · exact h3.elim
/-! #### methods, calls -/
theorem ty_lst {S : Sto} {ι : Nm} {M : MH} {o : W} (em : Emb ι S M) (h : (match rdW S o with | some (.lst _) => true | _ => false) = true) : (exL M (rnW ι o)).isSome = true := by
  split at h
  · rename_i ds hx
    rw [rd_exL em hx]; rfl
  · cases h
theorem ty_dct {S : Sto} {ι : Nm} {M : MH} {o : W} (em : Emb ι S M) (h : (match o with
    | .v (.dK _ _) => true
    | .v (.dT _ _) => true
    | .r i => (match getS S i with | some (.dK _) => true | some (.dT _) => true | _ => false)
    | _ => false) = true) : ((asK M (rnW ι o)).isSome || (asD M (rnW ι o)).isSome) = true := by
  split at h
  · rfl
  · rfl
  · rename_i i
    split at h
    · rename_i kvs g
      show ((match M (ι i) with | some (.dK kvs) => some kvs | _ => none).isSome || _) = true
      rw [em.at' i _ g]; rfl
    · rename_i kvs g
      rw [Bool.or_eq_true]; right
      show (match M (ι i) with | some (.dT kvs) => some kvs | _ => none).isSome = true
      rw [em.at' i _ g]; rfl
    · cases h
  · cases h
theorem ty_str {ι : Nm} {o : W} (h : (match o with | .v (.str _) => true | _ => false) = true) : isStrD (rnW ι o) = true := by
  split at h
  · rfl
  · cases h
theorem ty_tk {ι : Nm} {o : W} (h : (match o with | .v (.tp .k _) => true | _ => false) = true) : isTk (rnW ι o) = true := by
  split at h
  · rfl
  · cases h
theorem tyW_ok {m : Mt} {S : Sto} {ι : Nm} {M : MH} {o : W} (em : Emb ι S M) (h : tyW m S o = true) : tyOk m M (rnW ι o) = true := by
  cases m with
  | append => exact ty_lst em h
  | extend => exact ty_lst em h
  | index => exact ty_lst em h
  | get => exact ty_dct em h
  | setdefault => exact ty_dct em h
  | indexT => exact ty_tk h
  | join => exact ty_str h
  | split => exact ty_str h
  | startswith => exact ty_str h
theorem sd_mth {m : Mt} (ho : SndE E ta fa) (hl : SndL E tl fl) : SndE E (mth3 m ta tl) (fun en S => (fa en S).bind fun x S1 => match tyW m S1 x with
    | true => (fl en S1).bind fun ws S2 => m.wo S2 x ws
    | false => .no) := by
  intro en S ι M Q we em h
  refine ho en S ι M _ we em ((Post.bind h).imp fun x ι1 S1 M1 x1 h1 wx => ?_)
  obtain ⟨we1, e1⟩ := wf_ext x1 we
  rw [e1]
  split at h1
  · rename_i ht
    refine ⟨tyW_ok x1.emb ht, ?_⟩
    refine hl en S1 ι1 M1 _ we1 x1.emb ((Post.bind h1).imp fun ws ι2 S2 M2 x2 h2 wws => ?_)
    rw [← rnW_agr x2.agr wx]
    exact (mt_ok x2.emb wws h2).2
  · exact h1.elim
/-- a def's promise, of its function -/
def spV (F : List W → Sto → Rs W) : Sp3 := fun ds M Q E => ∃ ws S ι, ds = ws.map (rnW ι) ∧ wfL S.length ws ∧ Emb ι S M ∧ PW ι S M E (F ws S) Q
theorem sd_call {n : Nat} {F : List W → Sto → Rs W} (hl : SndL E tl fl) : SndE E (call3 n (spV F) E tl) (fun en S => (fl en S).bind fun ws S2 => if ws.length = n then F ws S2 else .no) := by
  intro en S ι M Q we em h
  refine hl en S ι M _ we em ((Post.bind h).imp fun ws ι1 S1 M1 x1 h4 wws => ?_)
  split at h4
  · rename_i h3
    exact ⟨by rw [List.length_map]; exact h3, ws, S1, ι1, rfl, wws, x1.emb, h4⟩
  · exact h4.elim
end
end Z

/-! V7: statements; THE END: the reading by functions is sound. -/
namespace Z
open PySem PySem.Spec PyProof.Rows L2
def wfC (n : Nat) : Oc → Prop
  | .nx e => wfE n e
  | .rt w => wfW n w
  | .bk e => wfE n e
  | .ct e => wfE n e
def oQ (D3 : Ends3) (ι : Nm) (o : Oc) (M : MH) : Prop := match o with
  | .nx e => D3.nx (rnE ι e) M
  | .rt w => D3.rt (rnW ι w) M
  | .bk e => D3.bk (rnE ι e) M
  | .ct e => D3.ct (rnE ι e) M
def SndS (E : X3) (t : TS3) (f : WF Oc) : Prop := ∀ D3 en S ι M, wfE S.length en → Emb ι S M → Post ι S M E (f en S) (fun o ι' S' M' => wfC S'.length o → oQ D3 ι' o M') → t D3 (rnE ι en) M
section
variable {E : X3} {ta tb tc : T3} {fa fb fc : WF W} {tl : TL3} {fl : WF (List W)} {t u : TS3} {f g : WF Oc}
theorem SndE.congr {t : T3} {f g : WF W} (h : SndE E t f) (e : ∀ en S, f en S = g en S) : SndE E t g := by
  have : f = g := by funext en S; exact e en S
  rw [← this]; exact h
theorem ss_seq (h1 : SndS E t f) (h2 : SndS E u g) : SndS E (seq3 t u) (fun en S => (f en S).bind fun o S1 => match o with | .nx e => g e S1 | o => .ok o S1) := by
  intro D3 en S ι M we em h
  refine h1 _ en S ι M we em ((Post.bind h).imp fun o ι1 S1 M1 x1 h1 wo => ?_)
  cases o with
  | nx e => exact h2 D3 e S1 ι1 M1 wo x1.emb h1
  | rt w => exact Post.now x1.emb h1 wo
  | bk e => exact Post.now x1.emb h1 wo
  | ct e => exact Post.now x1.emb h1 wo
theorem ss_next : SndS E next3 (fun en S => .ok (.nx en) S) := fun D3 en S ι M we em h => Post.now em h we
theorem ss_brk : SndS E brk3 (fun en S => .ok (.bk en) S) := fun D3 en S ι M we em h => Post.now em h we
theorem ss_cnt : SndS E cnt3 (fun en S => .ok (.ct en) S) := fun D3 en S ι M we em h => Post.now em h we
theorem ss_drop (ha : SndE E ta fa) : SndS E (drop3 ta) (fun en S => (fa en S).bind fun _ S1 => .ok (.nx en) S1) := by
  intro D3 en S ι M we em h
  refine ha en S ι M _ we em ((Post.bind h).imp fun x ι1 S1 M1 x1 h1 wx => ?_)
  obtain ⟨we1, e1⟩ := wf_ext x1 we
  rw [e1]
  exact Post.now x1.emb h1 we1
theorem ss_ret (ha : SndE E ta fa) : SndS E (ret3 ta) (fun en S => (fa en S).bind fun w S1 => .ok (.rt w) S1) := by
  intro D3 en S ι M we em h
  refine ha en S ι M _ we em ((Post.bind h).imp fun x ι1 S1 M1 x1 h1 wx => ?_)
  exact Post.now x1.emb h1 wx
theorem ss_retN : SndS E retN3 (fun _ S => .ok (.rt (.v .non)) S) := fun D3 en S ι M we em h => Post.now em h trivial
theorem ss_if {tA : TB3} {fA : WF Bool} (hc : SndT E tA fA) (h1 : SndS E t f) (h2 : SndS E u g) : SndS E (if3 tA t u) (fun en S => (fA en S).bind fun k S1 => match k with | true => f en S1 | false => g en S1) := by
  intro D3 en S ι M we em h
  refine hc en S ι M _ we em ((Post.bind h).imp fun b ι1 S1 M1 x1 g1 => ?_)
  obtain ⟨we1, e1⟩ := wf_ext x1 we
  rw [e1]
  cases b with
  | true => exact h1 D3 en S1 ι1 M1 we1 x1.emb g1
  | false => exact h2 D3 en S1 ι1 M1 we1 x1.emb g1
theorem ss_asg {tg : Tg} (ha : SndE E ta fa) : SndS E (asg3 ta tg) (fun en S => (fa en S).bind fun w S1 => match bindV tg w en with | some e' => .ok (.nx e') S1 | none => .no) := by
  intro D3 en S ι M we em h
  refine ha en S ι M _ we em ((Post.bind h).imp fun w ι1 S1 M1 x1 h1 ww => ?_)
  obtain ⟨we1, e1⟩ := wf_ext x1 we
  rw [e1]
  split at h1
  · rename_i e' hb
    obtain ⟨b1, b2⟩ := bind_rn (ι := ι1) we1 ww hb
    rw [b1]
    exact Post.now x1.emb h1 b2
  · exact h1.elim
theorem ss_par {i j : Nat} (ha : SndE E ta fa) (hb : SndE E tb fb) : SndS E (par3 i j (cons3 ta (cons3 tb nil3))) (fun en S => (fa en S).bind fun x S1 => (fb en S1).bind fun y S2 => .ok (.nx (setV2 (setV2 en i x) j y)) S2) := by
  intro D3 en S ι M we em h
  refine ha en S ι M _ we em ((Post.bind h).imp fun x ι1 S1 M1 x1 h1 wx => ?_)
  obtain ⟨we1, e1⟩ := wf_ext x1 we
  rw [e1]
  refine hb en S1 ι1 M1 _ we1 x1.emb ((Post.bind h1).imp fun y ι2 S2 M2 x2 h2 wy => ?_)
  obtain ⟨we2, e2⟩ := wf_ext x2 we1
  show D3.nx (setE (setE (rnE ι1 en) i (rnW ι1 x)) j (rnW ι2 y)) M2
  rw [← rnW_agr x2.agr wx, e2, setE_rn, setE_rn]
  exact Post.now x2.emb h2 (wfE_set wy (wfE_set (wx.le x2.len) we2))
theorem put3_ref {M : MH} {a : Addr} {i v : D} : put3 M (.ref a) i v = (match M a with
        | some (.lst ds) => (match i with
          | .int k => (match ixN ds.length k with
            | some j => some (up M a (.lst (ds.set j v)))
            | none => none)
          | _ => none)
        | some (.dK kvs) => (match keyK i with
          | some k => if kvs.length < sizeLine then some (up M a (.dK (putD kvs k v))) else none
          | none => none)
        | some (.dT kvs) => (match keyT i with
          | some k => if kvs.length < sizeLine then some (up M a (.dT (putD kvs k v))) else none
          | none => none)
        | _ => none) := rfl
theorem putW_ok {S S' : Sto} {ι : Nm} {M : MH} {o i v : W} (em : Emb ι S M) (wv : wfW S.length v) (h : putW S o i v = some S') : ∃ M', put3 M (rnW ι o) (rnW ι i) (rnW ι v) = some M' ∧ Ext ι S M ι S' M' := by
  unfold putW at h
  split at h
  · rename_i a i
    show ∃ M', put3 M (.ref (ι a)) i (rnW ι v) = some M' ∧ _
    have red := put3_ref (M := M) (a := ι a) (i := i) (v := rnW ι v)
    split at h
    · rename_i ds g
      have hM : M (ι a) = some (.lst ds) := em.at' a _ g
      split at h
      · rename_i k d
        split at h
        · rename_i j hj
          cases h
          refine ⟨_, ?_, Ext.put em g (o := .lst (ds.set j d)) trivial⟩
          rw [red, hM]
          show (match ixN ds.length k with | some j => some (up M (ι a) (.lst (ds.set j d))) | none => none) = _
          rw [hj]; rfl
        · cases h
      · cases h
    · rename_i kvs g
      have hM : M (ι a) = some (.dK (kvs.map fun kv => (kv.1, rnW ι kv.2))) := em.at' a _ g
      split at h
      · rename_i k hk
        split at h
        · rename_i hl
          cases h
          refine ⟨_, ?_, Ext.put em g (o := .dK (putG kvs k v)) fun kv hkv => ?_⟩
          · rw [red, hM]
            show (match keyK i with
              | some k => if (kvs.map fun (kv : Key × W) => (kv.1, rnW ι kv.2)).length < sizeLine then some (up M (ι a) (.dK (putD (kvs.map fun (kv : Key × W) => (kv.1, rnW ι kv.2)) k (rnW ι v)))) else none
              | none => none) = _
            rw [hk]
            show (if (kvs.map fun kv => (kv.1, rnW ι kv.2)).length < sizeLine then _ else none) = _
            rw [if_pos (by rw [List.length_map]; exact hl), show putD (kvs.map fun kv => (kv.1, rnW ι kv.2)) k (rnW ι v) = (putG kvs k v).map fun kv => (kv.1, rnW ι kv.2) from putG_map (rnW ι) k v kvs]
            rfl
          · rcases putG_mem hkv with q | q
            · exact em.wf a _ g kv q
            · rw [q]; exact wv
        · cases h
      · cases h
    · rename_i kvs g
      have hM : M (ι a) = some (.dT (kvs.map fun kv => (kv.1, rnW ι kv.2))) := em.at' a _ g
      split at h
      · rename_i k hk
        split at h
        · rename_i hl
          cases h
          refine ⟨_, ?_, Ext.put em g (o := .dT (putG kvs k v)) fun kv hkv => ?_⟩
          · rw [red, hM]
            show (match keyT i with
              | some k => if (kvs.map fun (kv : List Key × W) => (kv.1, rnW ι kv.2)).length < sizeLine then some (up M (ι a) (.dT (putD (kvs.map fun (kv : List Key × W) => (kv.1, rnW ι kv.2)) k (rnW ι v)))) else none
              | none => none) = _
            rw [hk]
            show (if (kvs.map fun kv => (kv.1, rnW ι kv.2)).length < sizeLine then _ else none) = _
            rw [if_pos (by rw [List.length_map]; exact hl), show putD (kvs.map fun kv => (kv.1, rnW ι kv.2)) k (rnW ι v) = (putG kvs k v).map fun kv => (kv.1, rnW ι kv.2) from putG_map (rnW ι) k v kvs]
            rfl
          · rcases putG_mem hkv with q | q
            · exact em.wf a _ g kv q
            · rw [q]; exact wv
        · cases h
      · cases h
    · cases h
  · cases h
theorem ss_sput (ho : SndE E ta fa) (hi : SndE E tb fb) (he : SndE E tc fc) : SndS E (sput3 ta tb tc) (fun en S => (fc en S).bind fun v S1 => (fa en S1).bind fun x S2 => (fb en S2).bind fun k S3 => match putW S3 x k v with | some S4 => .ok (.nx en) S4 | none => .no) := by
  intro D3 en S ι M we em h
  refine he en S ι M _ we em ((Post.bind h).imp fun v ι1 S1 M1 x1 h1 wv => ?_)
  obtain ⟨we1, e1⟩ := wf_ext x1 we
  rw [e1]
  refine ho en S1 ι1 M1 _ we1 x1.emb ((Post.bind h1).imp fun x ι2 S2 M2 x2 h2 wx => ?_)
  obtain ⟨we2, e2⟩ := wf_ext x2 we1
  rw [e2]
  refine hi en S2 ι2 M2 _ we2 x2.emb ((Post.bind h2).imp fun k ι3 S3 M3 x3 h3 wk => ?_)
  obtain ⟨we3, e3⟩ := wf_ext x3 we2
  rw [← rnW_agr (x2.trans x3).agr wv, ← rnW_agr x3.agr wx]
  split at h3
  · rename_i S4 hp
    obtain ⟨M4, p1, p2⟩ := putW_ok x3.emb (wv.le (x2.trans x3).len) hp
    rw [p1, e3]
    exact h3 ι3 M4 p2 (we3.le p2.len)
  · exact h3.elim
theorem ss_aug {i : Nat} {o : O2} {w : D → D → Option D} (hw : ∀ d e r, w d e = some r → (∀ ds, d ≠ .lst ds) ∧ (∀ ds, e ≠ .lst ds) ∧ ∀ (M : MH) (Q : Q3), Q r M → o d e M Q) (ha : SndE E ta fa) : SndS E (aug3 i ta o) (fun en S => match getV en i with
    | some d => (fa en S).bind fun d2 S1 => match rd2 S1 d d2 w with | some r => .ok (.nx (setV2 en i (.v r))) S1 | none => .no
    | none => .no) := by
  intro D3 en S ι M we em h
  unfold aug3
  rw [getE_rn]
  dsimp only at h
  split at h
  · rename_i d hd
    rw [hd]
    refine ha en S ι M _ we em ((Post.bind h).imp fun d2 ι1 S1 M1 x1 h1 ww => ?_)
    obtain ⟨we1, e1⟩ := wf_ext x1 we
    split at h1
    · rename_i r hr
      obtain ⟨x, y, hx, hy, hf⟩ := rd2_some hr
      obtain ⟨n1, n2, n3⟩ := hw x y r hf
      rw [← rnW_agr x1.agr (wfE_get we hd), rdW_v hx n1, rdW_v hy n2]
      refine n3 _ _ ?_
      rw [e1, show setE (rnE ι1 en) i r = rnE ι1 (setV2 en i (.v r)) from setE_rn en i (.v r)]
      exact Post.now x1.emb h1 (wfE_set (w := .v r) trivial we1)
    · exact h1.elim
  · exact h.elim
theorem iadd_ok (d e r : D) (h : viadd d e = some r) : (∀ ds, d ≠ .lst ds) ∧ (∀ ds, e ≠ .lst ds) ∧ ∀ (M : MH) (Q : Q3), Q r M → iadd3 d e M Q := by
  unfold viadd at h
  split at h
  · cases h; exact ⟨(fun _ z => nomatch z), (fun _ z => nomatch z), fun M Q q => q⟩
  · split at h
    · rename_i hl
      cases h; exact ⟨(fun _ z => nomatch z), (fun _ z => nomatch z), fun M Q q => ⟨hl, q⟩⟩
    · cases h
  · cases h
theorem isub_ok (d e r : D) (h : visub d e = some r) : (∀ ds, d ≠ .lst ds) ∧ (∀ ds, e ≠ .lst ds) ∧ ∀ (M : MH) (Q : Q3), Q r M → isub3 d e M Q := by
  unfold visub at h
  split at h
  · cases h; exact ⟨(fun _ z => nomatch z), (fun _ z => nomatch z), fun M Q q => q⟩
  · cases h
theorem turns_ok {tg : Tg} {body : TS3} {fb : WF Oc} {Z : Ends3} (hb : SndS E body fb) : ∀ (items : List D) (en : WEn) (S : Sto) (ι : Nm) (M : MH), wfE S.length en → Emb ι S M →
    Post ι S M E (turnsV tg fb items en S) (fun o ι' S' M' => wfC S'.length o → oQ Z ι' o M') → turns3 tg body Z items (rnE ι en) M
  | [], en, S, ι, M, we, em, h => Post.now em h we
  | x :: r, en, S, ι, M, we, em, h => by
    unfold turnsV at h
    unfold turns3
    cases q : bindV tg (.v x) en with
    | none => rw [q] at h; exact h.elim
    | some e1 =>
      rw [q] at h
      obtain ⟨b1, we1⟩ := bind_rn (ι := ι) (w := .v x) we trivial q
      rw [show bindT tg x (rnE ι en) = some (rnE ι e1) from b1]
      refine hb _ e1 S ι M we1 em ((Post.bind h).imp fun o ι1 S1 M1 x1 h1 wo => ?_)
      cases o with
      | nx e => exact turns_ok hb r e S1 ι1 M1 wo x1.emb h1
      | ct e => exact turns_ok hb r e S1 ι1 M1 wo x1.emb h1
      | bk e => exact Post.now x1.emb h1 wo
      | rt w => exact Post.now x1.emb h1 wo
theorem ss_for {ik : IK} {tg : Tg} {body : TS3} {fb : WF Oc} (hl : SndL E tl fl) (hb : SndS E body fb) : SndS E (for3 (wi ik tl) tg body) (fun en S => (fl en S).bind fun ws S1 => match itW ik ws with
    | some items => turnsV tg fb items en S1
    | none => .no) := by
  intro D3 en S ι M we em h
  refine sd_it ik hl en S ι M _ we em ((post_it (g := fun items S1 => turnsV tg fb items en S1) h).imp fun items ι1 S1 M1 x1 h1 => ?_)
  obtain ⟨we1, e1⟩ := wf_ext x1 we
  rw [e1]
  exact turns_ok hb items en S1 ι1 M1 we1 x1.emb h1
theorem whN_ok {tA : TB3} {fA : WF Bool} {body : TS3} {fb : WF Oc} {D3 : Ends3} (hc : SndT E tA fA) (hb : SndS E body fb) : ∀ (n : Nat) (en : WEn) (S : Sto) (ι : Nm) (M : MH), wfE S.length en → Emb ι S M →
    Post ι S M E (whN fA fb n en S) (fun o ι' S' M' => wfC S'.length o → oQ D3 ι' o M') → whileN tA body D3 n (rnE ι en) M
  | 0, en, S, ι, M, we, em, h => h
  | n + 1, en, S, ι, M, we, em, h => by
    unfold whN at h
    unfold whileN
    refine hc en S ι M _ we em ((Post.bind h).imp fun b ι1 S1 M1 x1 h1 => ?_)
    obtain ⟨we1, e1⟩ := wf_ext x1 we
    rw [e1]
    cases b with
    | false => exact Post.now x1.emb h1 we1
    | true =>
      refine hb _ en S1 ι1 M1 we1 x1.emb ((Post.bind h1).imp fun o ι2 S2 M2 x2 h2 wo => ?_)
      cases o with
      | nx e => exact whN_ok hc hb n e S2 ι2 M2 wo x2.emb h2
      | ct e => exact whN_ok hc hb n e S2 ι2 M2 wo x2.emb h2
      | bk e => exact Post.now x2.emb h2 wo
      | rt w => exact Post.now x2.emb h2 wo
theorem ss_while {tA : TB3} {fA : WF Bool} {body : TS3} {fb : WF Oc} (hc : SndT E tA fA) (hb : SndS E body fb) : SndS E (while3 tA body) (whV fA fb) := by
  intro D3 en S ι M we em h
  unfold whV at h
  split at h
  · rename_i hz
    exact ⟨hz.choose, whN_ok hc hb _ en S ι M we em h⟩
  · exact h.elim
theorem ss_fz {i : Nat} (h2 : SndS E u g) : SndS E (fz3 i u) (fun en S => (match fzV i en S with | some (e, S1) => Rs.ok (.nx e) S1 | none => .no : Rs Oc).bind fun o S1 => match o with | .nx e => g e S1 | o => .ok o S1) := by
  intro D3 en S ι M we em h
  unfold fz3
  rw [getE_rn]
  dsimp only at h
  have key : ∀ (a : Nat) (vo : VO) (d : D), getV en i = some (.r a) → getS S a = some vo → fzV i en S = some (setV2 en i (.v d), setS S a none) → u D3 (setE (rnE ι en) i d) (Z.er M (ι a)) := by
    intro a vo d h1 h3 h4
    rw [h4] at h
    have x := Ext.del em h3
    rw [show setE (rnE ι en) i d = rnE ι (setV2 en i (.v d)) from setE_rn en i (.v d)]
    exact h2 D3 _ _ ι _ ((wfE_set (w := .v d) trivial we).le x.len) x.emb (Post.from x h)
  unfold fzV at h key
  split at h
  · rename_i e S1 hz
    split at hz
    · rename_i a ha
      rw [ha]
      show (match M (ι a) with
        | some (.lst ds) => u D3 (setE (rnE ι en) i (.lst ds)) (Z.er M (ι a))
        | some (.dK kvs) => u D3 (setE (rnE ι en) i (.dK (kvs.map (·.1)) (kvs.map (·.2)))) (Z.er M (ι a))
        | some (.dT kvs) => u D3 (setE (rnE ι en) i (.dT (kvs.map (·.1)) (kvs.map (·.2)))) (Z.er M (ι a))
        | _ => False)
      split at hz
      · rename_i ds g
        rw [show M (ι a) = some (.lst ds) from em.at' a _ g]
        refine key a _ (.lst ds) ha g ?_
        rw [ha]; dsimp only; rw [g]
      · rename_i kvs g
        split at hz
        · rename_i ds hds
          rw [show M (ι a) = some (.dK (kvs.map fun kv => (kv.1, rnW ι kv.2))) from em.at' a _ g]
          have e : (kvs.map fun kv => (kv.1, rnW ι kv.2)).map (·.2) = ds := by
            rw [← plnW_ok (ι := ι) hds, List.map_map, List.map_map]; rfl
          have e' : (kvs.map fun kv => (kv.1, rnW ι kv.2)).map (·.1) = kvs.map (·.1) := by
            rw [List.map_map]; rfl
          show u D3 (setE (rnE ι en) i (.dK ((kvs.map fun kv => (kv.1, rnW ι kv.2)).map (·.1)) ((kvs.map fun kv => (kv.1, rnW ι kv.2)).map (·.2)))) (Z.er M (ι a))
          rw [e, e']
          refine key a _ (.dK (kvs.map (·.1)) ds) ha g ?_
          rw [ha]; dsimp only; rw [g]; dsimp only; rw [hds]
        · cases hz
      · rename_i kvs g
        split at hz
        · rename_i ds hds
          rw [show M (ι a) = some (.dT (kvs.map fun kv => (kv.1, rnW ι kv.2))) from em.at' a _ g]
          have e : (kvs.map fun kv => (kv.1, rnW ι kv.2)).map (·.2) = ds := by
            rw [← plnW_ok (ι := ι) hds, List.map_map, List.map_map]; rfl
          have e' : (kvs.map fun kv => (kv.1, rnW ι kv.2)).map (·.1) = kvs.map (·.1) := by
            rw [List.map_map]; rfl
          show u D3 (setE (rnE ι en) i (.dT ((kvs.map fun kv => (kv.1, rnW ι kv.2)).map (·.1)) ((kvs.map fun kv => (kv.1, rnW ι kv.2)).map (·.2)))) (Z.er M (ι a))
          rw [e, e']
          refine key a _ (.dT (kvs.map (·.1)) ds) ha g ?_
          rw [ha]; dsimp only; rw [g]; dsimp only; rw [hds]
        · cases hz
      · cases hz
    · cases hz
  · exact h.elim
end
end Z

/-! V8: the reading by functions is sound, whole; THE END. -/
namespace Z
open PySem PySem.Spec PyProof.Rows L2
def gtOf (G : GV) : GT := ⟨G.fns.map fun e => (e.1, e.2.1, spV e.2.2), G.cst, G.bn, G.er⟩
theorem nth_map {α β : Type} (f : α → β) : ∀ (l : List α) (j : Nat), nth (l.map f) j = (nth l j).map f
  | [], _ => rfl
  | _ :: _, 0 => rfl
  | _ :: r, n + 1 => nth_map f r n
section
variable {G : GV} {E : X3}
theorem sd_callG {tl : TL3} {fl : WF (List W)} {j : Nat} (hl : SndL E tl fl) : SndE E (callG (gtOf G) j E tl) (fun en S => callV G j (fl en S)) := by
  unfold callG callV
  rw [show (gtOf G).fns = G.fns.map fun e => (e.1, e.2.1, spV e.2.2) from rfl, nth_map]
  cases q : nth G.fns j with
  | none => exact fun en S ι M Q we em h => h
  | some e =>
    obtain ⟨x, n, F⟩ := e
    exact sd_call hl
theorem sd_cst {j : Nat} : SndE E (cstG (gtOf G) j) (fun _ S => cstV G j S) := by
  unfold cstG cstV
  show SndE E (match nth G.cst j with | some (_, d) => con3 d | none => fun _ _ _ => False) _
  cases q : nth G.cst j with
  | none => exact fun en S ι M Q we em h => h
  | some e => exact sd_con e.2
theorem sd_no {t : T3} : SndE E t (fun _ _ => .no) := fun en S ι M Q we em h => h.elim
theorem sd_noT {t : TB3} : SndT E t (fun _ _ => .no) := fun en S ι M Q we em h => h.elim
theorem o1_fmt : Op1 fmt3 (fun S x => rd1 S x vfmt) := by
  intro S ι M x r Q em h q
  obtain ⟨d, hx, hf⟩ := rd1_some h
  unfold vfmt at hf
  split at hf
  · rw [rdW_v hx (fun _ z => by cases z)]
    split at hf
    · rename_i hl
      cases hf; exact ⟨hl, q⟩
    · cases hf
  · rw [rdW_v hx (fun _ z => by cases z)]
    split at hf
    · rename_i hl
      cases hf; exact ⟨hl, q⟩
    · cases hf
  · cases hf
def SndJ (E : X3) (ts : List T3) (acc : Str) (f : WF W) : Prop := ∀ en S ι M (Q : Q3), wfE S.length en → Emb ι S M → Post ι S M E (f en S) (fun w ι' S' M' => wfW S'.length w → Q (rnW ι' w) M') → jsW ts acc (rnE ι en) M (fun out M1 => Q (.str out) M1)
theorem js_step {t : T3} {ts : List T3} {acc : Str} {f : WF W} {g : Str → WF W} (h1 : SndE E t f) (h2 : ∀ a, SndJ E ts a (g a)) : SndJ E (t :: ts) acc (fun en S => (f en S).bind fun x S1 => jsV acc x fun a => g a en S1) := by
  intro en S ι M Q we em h
  refine h1 en S ι M _ we em ((Post.bind h).imp fun x ι1 S1 M1 x1 h3 wx => ?_)
  obtain ⟨we1, e1⟩ := wf_ext x1 we
  rw [e1]
  unfold jsV at h3
  split at h3
  · split at h3
    · rename_i hl
      exact ⟨hl, h2 _ en S1 ι1 M1 Q we1 x1.emb h3⟩
    · exact h3.elim
  · exact h3.elim
mutual
theorem sndE (G : GV) (E : X3) : ∀ e : Ex, SndE E (wpe (gtOf G) e E) (evE G e)
  | .loc i => sd_loc i
  | .non => sd_con .non
  | .bl b => sd_con (.bl b)
  | .int i => sd_con (.int i)
  | .str x => sd_con (.str x)
  | .glo j => sd_cst
  | .bin o a b => sd_bin (os_bin o) (sndE G E a) (sndE G E b)
  | .addM a b => sd_addM (sndE G E a) (sndE G E b)
  | .neg a => sd_un o1_neg (sndE G E a)
  | .cmp o a b => sd_bin (os_cmp o) (sndE G E a) (sndE G E b)
  | .chn o o' a b c => sd_chain (os_cmp o) (os_cmp o') (sndE G E a) (sndE G E b) (sndE G E c)
  | .bol k es => sndV G E k es
  | .nt a => sd_not (sndE G E a)
  | .ite c a b => sd_ite (sndT G E c) (sndE G E a) (sndE G E b)
  | .tup es => sd_tup (sndL G E es)
  | .lst m es => match m with
    | true => sd_lstM (sndL G E es)
    | false => sd_lst (sndL G E es)
  | .idx a b => sd_binW ow_ix (sndE G E a) (sndE G E b)
  | .sli a lo hi => sd_sl (sndE G E a) (sndO G E lo) (sndO G E hi)
  | .rev a => sd_un o1_rev (sndE G E a)
  | .call j e es => sd_callG (sd_cons (sndE G E e) (sndL G E es))
  | .blt b e es => (sd_blt (b := b) (sd_cons (sndE G E e) (sndL G E es))).congr fun en S => by
    show Rs.bind (Rs.bind _ _) _ = _
    first | (simp only [bind_assoc, Rs.bind_ok]; done) | (simp only [bind_assoc, Rs.bind_ok]; rfl)
  | .isi T e => sd_un (o1_isi T) (sndE G E e)
  | .mth m o e es => (sd_mth (m := m) (sndE G E o) (sd_cons (sndE G E e) (sndL G E es))).congr fun en S => by
    first | (simp only [bind_assoc, Rs.bind_ok]; done) | (simp only [bind_assoc, Rs.bind_ok]; rfl)
  | .comp m elt tg ik its ifs own => sd_comp (sndL G E its) (sndC G noX ifs) (sndE G noX elt)
  | .newK m => sd_newK m
  | .newT => sd_newT
  | .dis m kvs => sd_dis (sndP G E kvs)
  | .fmt e => sd_un o1_fmt (sndE G E e)
  | .js e e2 es => by
    intro en S ι M Q we em h
    show jsW (wpe (gtOf G) e E :: wpe (gtOf G) e2 E :: wpj (gtOf G) es E) Str.empty (rnE ι en) M (fun out M1 => Q (.str out) M1)
    refine js_step (sndE G E e) (fun a1 => js_step (sndE G E e2) (fun a2 => sndJ G E es a2)) en S ι M Q we em ?_
    exact h
theorem sndT (G : GV) (E : X3) : ∀ e : Ex, SndT E (wpt (gtOf G) e E) (evT G e)
  | .cmp o a b => sd_tcmp (os_cmp o) (sndE G E a) (sndE G E b)
  | .chn o o' a b c => sd_tchain (os_cmp o) (os_cmp o') (sndE G E a) (sndE G E b) (sndE G E c)
  | .bol k es => sndB G E k es
  | .nt a => sd_tnot (sndT G E a)
  | .loc i => sd_tru (sd_loc i)
  | .non => sd_tru (sd_con .non)
  | .bl b => sd_tru (sd_con (.bl b))
  | .int i => sd_tru (sd_con (.int i))
  | .str x => sd_tru (sd_con (.str x))
  | .idx a b => sd_tru (sd_binW ow_ix (sndE G E a) (sndE G E b))
  | .call j e es => sd_tru (sd_callG (sd_cons (sndE G E e) (sndL G E es)))
  | .blt b e es => sd_tru ((sd_blt (b := b) (sd_cons (sndE G E e) (sndL G E es))).congr fun en S => by
    show Rs.bind (Rs.bind _ _) _ = _
    simp only [bind_assoc, Rs.bind_ok])
  | .isi T e => sd_tru (sd_un (o1_isi T) (sndE G E e))
  | .mth m o e es => sd_tru ((sd_mth (m := m) (sndE G E o) (sd_cons (sndE G E e) (sndL G E es))).congr fun en S => by
    first | (simp only [bind_assoc, Rs.bind_ok]; done) | (simp only [bind_assoc, Rs.bind_ok]; rfl))
  | .glo _ => sd_noT
  | .bin _ _ _ => sd_noT
  | .addM _ _ => sd_noT
  | .neg _ => sd_noT
  | .ite _ _ _ => sd_noT
  | .tup _ => sd_noT
  | .lst _ _ => sd_noT
  | .sli _ _ _ => sd_noT
  | .rev _ => sd_noT
  | .comp _ _ _ _ _ _ _ => sd_noT
  | .newK _ => sd_noT
  | .newT => sd_noT
  | .dis _ _ => sd_noT
  | .fmt _ => sd_noT
  | .js _ _ _ => sd_noT
theorem sndL (G : GV) (E : X3) : ∀ es : List Ex, SndL E (wpl (gtOf G) es E) (evL G es)
  | [] => sd_nil
  | e :: es => sd_cons (sndE G E e) (sndL G E es)
theorem sndV (G : GV) (E : X3) : ∀ (k : Bool) (es : List Ex), SndE E (wpv (gtOf G) k es E) (evV G k es)
  | true, [] => sd_no
  | false, [] => sd_no
  | true, [e] => sndE G E e
  | false, [e] => sndE G E e
  | true, e :: e' :: es => sd_andV (sndE G E e) (sndV G E true (e' :: es))
  | false, e :: e' :: es => sd_orV (sndE G E e) (sndV G E false (e' :: es))
theorem sndB (G : GV) (E : X3) : ∀ (k : Bool) (es : List Ex), SndT E (wpb (gtOf G) k es E) (evB G k es)
  | true, [] => sd_noT
  | false, [] => sd_noT
  | true, [e] => sndT G E e
  | false, [e] => sndT G E e
  | true, e :: e' :: es => sd_and (sndT G E e) (sndB G E true (e' :: es))
  | false, e :: e' :: es => sd_or (sndT G E e) (sndB G E false (e' :: es))
theorem sndO (G : GV) (E : X3) : ∀ es : List Ex, SndO E (wpo (gtOf G) es E) (evO G es)
  | [] => sd_noP
  | e :: _ => sd_part (sndE G E e)
theorem sndC (G : GV) (E : X3) : ∀ es : List Ex, SndT E (wpc (gtOf G) es E) (evC G es)
  | [] => fun en S ι M Q we em h => Post.now em h
  | e :: _ => sndT G E e
theorem sndJ (G : GV) (E : X3) : ∀ (es : List Ex) (acc : Str), SndJ E (wpj (gtOf G) es E) acc (evJ G es acc)
  | [], acc => fun en S ι M Q we em h => Post.now em h trivial
  | e :: es, acc => js_step (sndE G E e) fun a => sndJ G E es a
theorem sndP (G : GV) (E : X3) : ∀ es : List Ex, SndP E (wpp (gtOf G) es E) (evP G es)
  | [] => sd_pnil
  | [_] => sd_pnil
  | k :: v :: r => sd_pcons (sndE G E k) (sndE G E v) (sndP G E r)
end
mutual
theorem sndS (G : GV) (E : X3) : ∀ s : Sx, (∀ i, s ≠ .fz i) → SndS E (wps (gtOf G) E s) (evS G s)
  | .asg tg e, _ => ss_asg (sndE G E e)
  | .par i j a b, _ => ss_par (sndE G E a) (sndE G E b)
  | .sput o i e, _ => ss_sput (sndE G E o) (sndE G E i) (sndE G E e)
  | .aug i k e, _ => match k with
    | true => ss_aug iadd_ok (sndE G E e)
    | false => ss_aug isub_ok (sndE G E e)
  | .expr e, _ => ss_drop (sndE G E e)
  | .ret e, _ => ss_ret (sndE G E e)
  | .retN, _ => ss_retN
  | .ifs c a b, _ => ss_if (sndT G E c) (sndSs G E a) (sndSs G E b)
  | .fors tg ik its body, _ => ss_for (sndL G E its) (sndSs G E body)
  | .whl c body, _ => ss_while (sndT G E c) (sndSs G E body)
  | .brk, _ => ss_brk
  | .cnt, _ => ss_cnt
  | .pss, _ => ss_next
  | .fz i, h => absurd rfl (h i)
  | .rse e, _ => fun D3 en S ι M we em h => (sndE G E e) en S ι M _ we em ((Post.bind h).imp fun w ι1 S1 M1 x1 h1 ww => by
      cases w with
      | r i => exact h1.elim
      | v d => exact h1 ι1 M1 (Ext.refl x1.emb))
  | .rseN, _ => fun D3 en S ι M we em h => h.elim
  | .tryR body k i, _ => fun D3 en S ι M we em h => by
      refine (sndSs G (excR D3 k) body) D3 en S ι M we em ?_
      have h : Post ι S M E (catchV k (evSs G body en S)) (fun o ι' S' M' => wfC S'.length o → oQ D3 ι' o M') := h
      cases hr : evSs G body en S with
      | no => rw [hr] at h; exact h
      | ok o S1 => rw [hr] at h; exact h
      | ex x S1 =>
        rw [hr] at h
        unfold catchV at h
        dsimp only at h
        split at h
        · rename_i a ha
          split at h
          · rename_i hc
            exact fun ι' M' xx => ⟨hc, a, ha, h ι' M' xx trivial⟩
          · exact h.elim
        · exact h.elim
theorem sndSs (G : GV) (E : X3) : ∀ l : List Sx, SndS E (wpss (gtOf G) E l) (evSs G l)
  | [] => ss_next
  | .fz i :: r => ss_fz (sndSs G E r)
  | .asg tg e :: r => ss_seq (t := wps (gtOf G) E (.asg tg e)) (u := wpss (gtOf G) E r) (f := evS G (.asg tg e)) (g := evSs G r) (sndS G E (.asg tg e) (fun _ => nofun)) (sndSs G E r)
  | .par i j a b :: r => ss_seq (t := wps (gtOf G) E (.par i j a b)) (u := wpss (gtOf G) E r) (f := evS G (.par i j a b)) (g := evSs G r) (sndS G E (.par i j a b) (fun _ => nofun)) (sndSs G E r)
  | .sput o i e :: r => ss_seq (t := wps (gtOf G) E (.sput o i e)) (u := wpss (gtOf G) E r) (f := evS G (.sput o i e)) (g := evSs G r) (sndS G E (.sput o i e) (fun _ => nofun)) (sndSs G E r)
  | .aug i k e :: r => ss_seq (t := wps (gtOf G) E (.aug i k e)) (u := wpss (gtOf G) E r) (f := evS G (.aug i k e)) (g := evSs G r) (sndS G E (.aug i k e) (fun _ => nofun)) (sndSs G E r)
  | .expr e :: r => ss_seq (t := wps (gtOf G) E (.expr e)) (u := wpss (gtOf G) E r) (f := evS G (.expr e)) (g := evSs G r) (sndS G E (.expr e) (fun _ => nofun)) (sndSs G E r)
  | .ret e :: r => ss_seq (t := wps (gtOf G) E (.ret e)) (u := wpss (gtOf G) E r) (f := evS G (.ret e)) (g := evSs G r) (sndS G E (.ret e) (fun _ => nofun)) (sndSs G E r)
  | .retN :: r => ss_seq (t := wps (gtOf G) E .retN) (u := wpss (gtOf G) E r) (f := evS G .retN) (g := evSs G r) (sndS G E .retN (fun _ => nofun)) (sndSs G E r)
  | .ifs c a b :: r => ss_seq (t := wps (gtOf G) E (.ifs c a b)) (u := wpss (gtOf G) E r) (f := evS G (.ifs c a b)) (g := evSs G r) (sndS G E (.ifs c a b) (fun _ => nofun)) (sndSs G E r)
  | .fors tg ik its body :: r => ss_seq (t := wps (gtOf G) E (.fors tg ik its body)) (u := wpss (gtOf G) E r) (f := evS G (.fors tg ik its body)) (g := evSs G r) (sndS G E (.fors tg ik its body) (fun _ => nofun)) (sndSs G E r)
  | .whl c body :: r => ss_seq (t := wps (gtOf G) E (.whl c body)) (u := wpss (gtOf G) E r) (f := evS G (.whl c body)) (g := evSs G r) (sndS G E (.whl c body) (fun _ => nofun)) (sndSs G E r)
  | .brk :: r => ss_seq (t := wps (gtOf G) E .brk) (u := wpss (gtOf G) E r) (f := evS G .brk) (g := evSs G r) (sndS G E .brk (fun _ => nofun)) (sndSs G E r)
  | .cnt :: r => ss_seq (t := wps (gtOf G) E .cnt) (u := wpss (gtOf G) E r) (f := evS G .cnt) (g := evSs G r) (sndS G E .cnt (fun _ => nofun)) (sndSs G E r)
  | .rse e :: r => ss_seq (t := wps (gtOf G) E (.rse e)) (u := wpss (gtOf G) E r) (f := evS G (.rse e)) (g := evSs G r) (sndS G E (.rse e) (fun _ => nofun)) (sndSs G E r)
  | .rseN :: r => ss_seq (t := wps (gtOf G) E .rseN) (u := wpss (gtOf G) E r) (f := evS G .rseN) (g := evSs G r) (sndS G E .rseN (fun _ => nofun)) (sndSs G E r)
  | .tryR b k i :: r => ss_seq (t := wps (gtOf G) E (.tryR b k i)) (u := wpss (gtOf G) E r) (f := evS G (.tryR b k i)) (g := evSs G r) (sndS G E (.tryR b k i) (fun _ => nofun)) (sndSs G E r)
  | .pss :: r => ss_seq (t := wps (gtOf G) E .pss) (u := wpss (gtOf G) E r) (f := evS G .pss) (g := evSs G r) (sndS G E .pss (fun _ => nofun)) (sndSs G E r)
end
theorem start_rn {ι : Nm} {n : Nat} {ws : List W} : startE n (ws.map (rnW ι)) = rnE ι (startV n ws) := by
  unfold startE startV rnE
  rw [List.map_append, List.map_map, List.map_map, List.map_replicate, List.length_map]
  rfl
theorem start_wf {n m : Nat} {ws : List W} (h : wfL m ws) : wfE m (startV n ws) := by
  intro w hw
  unfold startV at hw
  rcases List.mem_append.mp hw with q | q
  · obtain ⟨u, h1, h2⟩ := List.mem_map.mp q
    cases h2; exact h w h1
  · have := List.eq_of_mem_replicate q
    cases this
/-- a def keeps the promise of its function -/
theorem pV (G : GV) (n : Nat) (B : List Sx) (ds : List D) (M : MH) (Q : Q3) (E : X3) (h : spV (runV G n B) ds M Q E) : wpss (gtOf G) E B (bodyEnds Q) (startE n ds) M := by
  obtain ⟨ws, S, ι, rfl, wws, em, h⟩ := h
  rw [start_rn]
  refine sndSs G E B (bodyEnds Q) _ S ι M (start_wf wws) em ?_
  refine (Post.bind h).imp fun o ι1 S1 M1 x1 h1 wo => ?_
  cases o with
  | nx e => exact ⟨M1, Sub.refl _, Post.now x1.emb h1 trivial⟩
  | rt w => exact ⟨M1, Sub.refl _, Post.now x1.emb h1 wo⟩
  | bk e => exact h1.elim
  | ct e => exact h1.elim
theorem emb0 : Emb (fun _ => 0) [] M00 := ⟨(fun i o h => nomatch h), (fun i j o u h => nomatch h), (fun i o h => nomatch h)⟩
/-- THE END: the law answers True -/
theorem lawV {F : List W → Sto → Rs W} {ns : List Int} {S' : Sto} (h : F [.v (.flst (ns.map D.int))] [] = .ok (.v (.bl true)) S') : spV F [.flst (ns.map D.int)] M00 (fun v _ => v = .bl true) noX := by
  refine ⟨[.v (.flst (ns.map D.int))], [], fun _ => 0, rfl, fun w hw => ?_, emb0, ?_⟩
  · have := List.mem_singleton.mp hw
    subst this; trivial
  · unfold PW
    rw [h]
    exact fun ι' M' x _ => rfl
end
end Z

set_option autoImplicit true
/-! V9: the reading's equations, for simp. -/
namespace Z
open PySem PySem.Spec PyProof.Rows L2
@[simp] theorem evE_1 : evE G (.loc i) en S = lft S (getV en i) := by rfl
@[simp] theorem evE_2 : evE G .non z1 S = .ok (.v .non) S := by rfl
@[simp] theorem evE_3 : evE G (.bl b) z1 S = .ok (.v (.bl b)) S := by rfl
@[simp] theorem evE_4 : evE G (.int i) z1 S = .ok (.v (.int i)) S := by rfl
@[simp] theorem evE_5 : evE G (.str x) z1 S = .ok (.v (.str x)) S := by rfl
@[simp] theorem evE_6 : evE G (.glo j) z1 S = cstV G j S := by rfl
@[simp] theorem evE_7 : evE G (.bin o a b) en S = (evE G a en S).bind fun x S1 => (evE G b en S1).bind fun y S2 => lfv S2 (rd2 S2 x y o.vo) := by rfl
@[simp] theorem evE_8 : evE G (.neg a) en S = (evE G a en S).bind fun x S1 => lfv S1 (rd1 S1 x vneg) := by rfl
@[simp] theorem evE_9 : evE G (.cmp o a b) en S = (evE G a en S).bind fun x S1 => (evE G b en S1).bind fun y S2 => lfv S2 (o.vo S2 x y) := by rfl
@[simp] theorem evE_10 : evE G (.chn o o' a b c) en S = (evE G a en S).bind fun x S1 => (evE G b en S1).bind fun y S2 => match o.vo S2 x y with
    | some (.bl true) => (evE G c en S2).bind fun z S3 => lfv S3 (o'.vo S3 y z)
    | some (.bl false) => .ok (.v (.bl false)) S2
    | _ => .no := by rfl
@[simp] theorem evE_11 : evE G (.bol k es) en S = evV G k es en S := by rfl
@[simp] theorem evE_12 : evE G (.nt a) en S = (evE G a en S).bind fun x S1 => lfv S1 (blO ((blW x).map not)) := by rfl
@[simp] theorem evE_13 : evE G (.ite c a b) en S = (evT G c en S).bind fun k S1 => match k with | true => evE G a en S1 | false => evE G b en S1 := by rfl
@[simp] theorem evE_14 : evE G (.tup es) en S = (evL G es en S).bind fun ws S1 => match plnW ws with
    | some ds => if ds.length ≤ sizeLine then .ok (.v (.tup ds)) S1 else .no
    | none => .no := by rfl
@[simp] theorem evE_15 : evE G (.lst m es) en S = (evL G es en S).bind fun ws S1 => match plnW ws with
    | some ds => if ds.length ≤ sizeLine then (match m with | true => newW S1 (.lst ds) | false => .ok (.v (.lst ds)) S1) else .no
    | none => .no := by rfl
@[simp] theorem evE_16 : evE G (.idx a b) en S = (evE G a en S).bind fun x S1 => (evE G b en S1).bind fun y S2 => lft S2 (ixW S2 x y) := by rfl
@[simp] theorem evE_17 : evE G (.sli a lo0 hi0) en S = (evE G a en S).bind fun x S1 => (evO G lo0 en S1).bind fun l S2 => (evO G hi0 en S2).bind fun h S3 => lfv S3 (rd1 S3 x fun d => vsl d l h) := by rfl
@[simp] theorem evE_18 : evE G (.rev a) en S = (evE G a en S).bind fun x S1 => lfv S1 (rd1 S1 x vrev) := by rfl
@[simp] theorem evE_19 : evE G (.call j e es) en S = callV G j ((evE G e en S).bind fun x S1 => (evL G es en S1).bind fun xs S2 => .ok (x :: xs) S2) := by rfl
@[simp] theorem evE_20 : evE G (.blt b e es) en S = (evE G e en S).bind fun x S1 => (evL G es en S1).bind fun xs S2 => b.wo S2 (x :: xs) := by rfl
@[simp] theorem evE_21 : evE G (.isi T e) en S = (evE G e en S).bind fun x S1 => lfv S1 (rd1 S1 x fun d => blO (isTy M00 d T)) := by rfl
@[simp] theorem evE_22 : evE G (.mth m o e es) en S = (evE G o en S).bind fun x S1 => match tyW m S1 x with
    | true => (evE G e en S1).bind fun y S2 => (evL G es en S2).bind fun ys S3 => m.wo S3 x (y :: ys)
    | false => .no := by rfl
@[simp] theorem evE_23 : evE G (.comp m elt tg ik its ifs own) en S = (evL G its en S).bind fun ws S1 => match itW ik ws with
    | some items => compR m (calm (compV tg (evC G ifs) (evE G elt) (wipeV en (own.map (·.2))) items S1))
    | none => .no := by rfl
@[simp] theorem evE_24 : evE G (.newK m) z1 S = match m with | true => newW S (.dK []) | false => .ok (.v (.dK [] [])) S := by rfl
@[simp] theorem evE_25 : evE G .newT z1 S = newW S (.dT []) := by rfl
@[simp] theorem evE_26 : evE G (.dis m kvs) en S = (calm (evP G kvs en S)).bind fun ps S1 => disW m S1 ps := by rfl
@[simp] theorem evE_27 : evE G (.fmt e) en S = (evE G e en S).bind fun x S1 => lfv S1 (rd1 S1 x vfmt) := by rfl
@[simp] theorem evE_28 : evE G (.js e e2 es) en S = (evE G e en S).bind fun x S1 => jsV Str.empty x fun a1 => (evE G e2 en S1).bind fun y S2 => jsV a1 y fun a2 => evJ G es a2 en S2 := by rfl
@[simp] theorem evT_1 : evT G (.cmp o a b) en S = (evE G a en S).bind fun x S1 => (evE G b en S1).bind fun y S2 => lft S2 (match o.vo S2 x y with | some (.bl b) => some b | _ => none) := by rfl
@[simp] theorem evT_2 : evT G (.chn o o' a b c) en S = (evE G a en S).bind fun x S1 => (evE G b en S1).bind fun y S2 => match o.vo S2 x y with
    | some (.bl true) => (evE G c en S2).bind fun z S3 => lft S3 (match o'.vo S3 y z with | some (.bl b) => some b | _ => none)
    | some (.bl false) => .ok false S2
    | _ => .no := by rfl
@[simp] theorem evT_3 : evT G (.bol k es) en S = evB G k es en S := by rfl
@[simp] theorem evT_4 : evT G (.nt a) en S = (evT G a en S).bind fun b S1 => .ok (!b) S1 := by rfl
@[simp] theorem evT_5 : evT G (.loc i) en S = truV (lft S (getV en i)) := by rfl
@[simp] theorem evT_6 : evT G .non z1 S = .ok false S := by rfl
@[simp] theorem evT_7 : evT G (.bl b) z1 S = .ok b S := by rfl
@[simp] theorem evT_8 : evT G (.int i) z1 S = .ok (i != 0) S := by rfl
@[simp] theorem evT_9 : evT G (.str x) z1 S = truV (.ok (.v (.str x)) S) := by rfl
@[simp] theorem evT_10 : evT G (.idx a b) en S = truV ((evE G a en S).bind fun x S1 => (evE G b en S1).bind fun y S2 => lft S2 (ixW S2 x y)) := by rfl
@[simp] theorem evT_11 : evT G (.call j e es) en S = truV (callV G j ((evE G e en S).bind fun x S1 => (evL G es en S1).bind fun xs S2 => .ok (x :: xs) S2)) := by rfl
@[simp] theorem evT_12 : evT G (.blt b e es) en S = truV ((evE G e en S).bind fun x S1 => (evL G es en S1).bind fun xs S2 => b.wo S2 (x :: xs)) := by rfl
@[simp] theorem evT_13 : evT G (.isi T e) en S = truV ((evE G e en S).bind fun x S1 => lfv S1 (rd1 S1 x fun d => blO (isTy M00 d T))) := by rfl
@[simp] theorem evT_14 : evT G (.mth m o e es) en S = truV ((evE G o en S).bind fun x S1 => match tyW m S1 x with
    | true => (evE G e en S1).bind fun y S2 => (evL G es en S2).bind fun ys S3 => m.wo S3 x (y :: ys)
    | false => .no) := by rfl
@[simp] theorem evL_1 : evL G [] z1 S = .ok [] S := by rfl
@[simp] theorem evL_2 : evL G (e :: es) en S = (evE G e en S).bind fun x S1 => (evL G es en S1).bind fun xs S2 => .ok (x :: xs) S2 := by rfl
@[simp] theorem evV_1 : evV G z1 [] z2 z3 = .no := by rfl
@[simp] theorem evV_2 : evV G z1 [e] en S = evE G e en S := by rfl
@[simp] theorem evV_3 : evV G true (e :: e' :: es) en S = (evE G e en S).bind fun x S1 => match blW x with | some true => evV G true (e' :: es) en S1 | some false => .ok (.v (.bl false)) S1 | none => .no := by rfl
@[simp] theorem evV_4 : evV G false (e :: e' :: es) en S = (evE G e en S).bind fun x S1 => match blW x with | some true => .ok (.v (.bl true)) S1 | some false => evV G false (e' :: es) en S1 | none => .no := by rfl
@[simp] theorem evB_1 : evB G z1 [] z2 z3 = .no := by rfl
@[simp] theorem evB_2 : evB G z1 [e] en S = evT G e en S := by rfl
@[simp] theorem evB_3 : evB G true (e :: e' :: es) en S = (evT G e en S).bind fun b S1 => match b with | true => evB G true (e' :: es) en S1 | false => .ok false S1 := by rfl
@[simp] theorem evB_4 : evB G false (e :: e' :: es) en S = (evT G e en S).bind fun b S1 => match b with | true => .ok true S1 | false => evB G false (e' :: es) en S1 := by rfl
@[simp] theorem evO_1 : evO G [] z1 S = .ok none S := by rfl
@[simp] theorem evO_2 : evO G (e :: z1) en S = (evE G e en S).bind fun x S1 => match x with | .v (.int i) => .ok (some i) S1 | _ => .no := by rfl
@[simp] theorem evC_1 : evC G [] z1 S = .ok true S := by rfl
@[simp] theorem evC_2 : evC G (e :: z1) en S = evT G e en S := by rfl
@[simp] theorem evJ_1 : evJ G [] acc z1 S = .ok (.v (.str acc)) S := by rfl
@[simp] theorem evJ_2 : evJ G (e :: es) acc en S = (evE G e en S).bind fun x S1 => jsV acc x fun a => evJ G es a en S1 := by rfl
@[simp] theorem evP_1 : evP G (k :: v :: r) en S = (evE G k en S).bind fun x S1 => (evE G v en S1).bind fun y S2 => (evP G r en S2).bind fun ps S3 => .ok ((x, y) :: ps) S3 := by rfl
@[simp] theorem evP_2 : evP G [] en S = .ok [] S := by rfl
@[simp] theorem evS_1 : evS G (.asg tg e) en S = (evE G e en S).bind fun w S1 => match bindV tg w en with | some e' => .ok (.nx e') S1 | none => .no := by rfl
@[simp] theorem evS_2 : evS G (.par i j a b) en S = (evE G a en S).bind fun x S1 => (evE G b en S1).bind fun y S2 => .ok (.nx (setV2 (setV2 en i x) j y)) S2 := by rfl
@[simp] theorem evS_3 : evS G (.sput o i e) en S = (evE G e en S).bind fun v S1 => (evE G o en S1).bind fun x S2 => (evE G i en S2).bind fun k S3 => match putW S3 x k v with | some S4 => .ok (.nx en) S4 | none => .no := by rfl
@[simp] theorem evS_4 : evS G (.aug i k e) en S = match getV en i with
    | some d => (evE G e en S).bind fun d2 S1 => match rd2 S1 d d2 (match k with | true => viadd | false => visub) with | some r => .ok (.nx (setV2 en i (.v r))) S1 | none => .no
    | none => .no := by rfl
@[simp] theorem evS_5 : evS G (.expr e) en S = (evE G e en S).bind fun _ S1 => .ok (.nx en) S1 := by rfl
@[simp] theorem evS_6 : evS G (.ret e) en S = (evE G e en S).bind fun w S1 => .ok (.rt w) S1 := by rfl
@[simp] theorem evS_7 : evS G .retN z1 S = .ok (.rt (.v .non)) S := by rfl
@[simp] theorem evS_8 : evS G (.ifs c a b) en S = (evT G c en S).bind fun k S1 => match k with | true => evSs G a en S1 | false => evSs G b en S1 := by rfl
@[simp] theorem evS_9 : evS G (.fors tg ik its body) en S = (evL G its en S).bind fun ws S1 => match itW ik ws with
    | some items => turnsV tg (evSs G body) items en S1
    | none => .no := by rfl
@[simp] theorem evS_10 : evS G (.whl c body) en S = whV (evT G c) (evSs G body) en S := by rfl
@[simp] theorem evS_11 : evS G .brk en S = .ok (.bk en) S := by rfl
@[simp] theorem evS_12 : evS G .cnt en S = .ok (.ct en) S := by rfl
@[simp] theorem evS_13 : evS G .pss en S = .ok (.nx en) S := by rfl
@[simp] theorem evS_14 : evS G (.fz i) en S = match fzV i en S with | some (e, S1) => .ok (.nx e) S1 | none => .no := by rfl
@[simp] theorem evS_15 : evS G (.rse e) en S = (evE G e en S).bind fun w S1 => match w with | .v d => .ex ⟨"InvalidLine", some d⟩ S1 | .r _ => .no := by rfl
@[simp] theorem evS_16 : evS G .rseN z1 z2 = .no := by rfl
@[simp] theorem evS_17 : evS G (.tryR body k z1) en S = catchV k (evSs G body en S) := by rfl
@[simp] theorem evSs_1 : evSs G [] en S = .ok (.nx en) S := by rfl
@[simp] theorem evSs_2 : evSs G (s :: r) en S = (evS G s en S).bind fun o S1 => match o with
    | .nx e => evSs G r e S1
    | o => .ok o S1 := by rfl

@[simp] theorem evE_7m : evE G (.addM a b) en S = (evE G a en S).bind fun x S1 => (evE G b en S1).bind fun y S2 => addMV S2 x y := by rfl
/-! readers at constructors -/
section
variable {S : Sto}
@[simp] theorem rdW_non : rdW S (.v .non) = some .non := rfl
@[simp] theorem rdW_bl {b : Bool} : rdW S (.v (.bl b)) = some (.bl b) := rfl
@[simp] theorem rdW_i {i : Int} : rdW S (.v (.int i)) = some (.int i) := rfl
@[simp] theorem rdW_str {x : Str} : rdW S (.v (.str x)) = some (.str x) := rfl
@[simp] theorem rdW_tp {k : TK} {ds : List D} : rdW S (.v (.tp k ds)) = some (.tp k ds) := rfl
@[simp] theorem rdW_lst {ds : List D} : rdW S (.v (.lst ds)) = some (.lst ds) := rfl
@[simp] theorem rdW_flst {ds : List D} : rdW S (.v (.flst ds)) = some (.flst ds) := rfl
theorem rdW_pl {d : D} (h : pln d = true) : rdW S (.v d) = some d := by cases d <;> first | rfl | (simp [pln] at h)
@[simp] theorem plW_non : plW (.v .non) = some .non := rfl
@[simp] theorem plW_bl {b : Bool} : plW (.v (.bl b)) = some (.bl b) := rfl
@[simp] theorem plW_int {i : Int} : plW (.v (.int i)) = some (.int i) := rfl
@[simp] theorem plW_str {x : Str} : plW (.v (.str x)) = some (.str x) := rfl
@[simp] theorem plW_tp {k : TK} {ds : List D} : plW (.v (.tp k ds)) = some (.tp k ds) := rfl
@[simp] theorem plW_lst {ds : List D} : plW (.v (.lst ds)) = some (.lst ds) := rfl
@[simp] theorem blW_bl {b : Bool} : blW (.v (.bl b)) = some b := rfl
@[simp] theorem sqW_tp {k : TK} {ds : List D} : sqW S (.v (.tp k ds)) = some ds := rfl
@[simp] theorem sqW_lst {ds : List D} : sqW S (.v (.lst ds)) = some ds := rfl
@[simp] theorem sqW_flst {ds : List D} : sqW S (.v (.flst ds)) = some ds := rfl
@[simp] theorem truW_non : truW S (.v .non) = some false := rfl
@[simp] theorem truW_bl {b : Bool} : truW S (.v (.bl b)) = some b := rfl
@[simp] theorem truW_int {i : Int} : truW S (.v (.int i)) = some (i != 0) := rfl
@[simp] theorem truW_tp {k : TK} {ds : List D} : truW S (.v (.tp k ds)) = some (!ds.isEmpty) := rfl
@[simp] theorem truW_lst {ds : List D} : truW S (.v (.lst ds)) = some (!ds.isEmpty) := rfl
@[simp] theorem nonW_non : nonW (.v .non) = true := rfl
@[simp] theorem nonW_int {i : Int} : nonW (.v (.int i)) = false := rfl
@[simp] theorem nonW_str {i : Str} : nonW (.v (.str i)) = false := rfl
@[simp] theorem nonW_bl {i : Bool} : nonW (.v (.bl i)) = false := rfl
@[simp] theorem nonW_tp {k : TK} {ds : List D} : nonW (.v (.tp k ds)) = false := rfl
@[simp] theorem nonW_lst {ds : List D} : nonW (.v (.lst ds)) = false := rfl
@[simp] theorem nonW_r {i : Nat} : nonW (.r i) = false := rfl
@[simp] theorem itW_tp {k : TK} {ds : List D} : itW .seq [.v (.tp k ds)] = some ds := rfl
@[simp] theorem itW_lst {ds : List D} : itW .seq [.v (.lst ds)] = some ds := rfl
@[simp] theorem itW_flst {ds : List D} : itW .seq [.v (.flst ds)] = some ds := rfl
@[simp] theorem plnW_nil : plnW [] = some [] := rfl
@[simp] theorem plnW_cons {d : D} {r : List W} : plnW (.v d :: r) = (match plnW r with | some ds => some (d :: ds) | none => none) := rfl
@[simp] theorem getV_0 {x : Option W} {r : WEn} : getV (x :: r) 0 = x := rfl
@[simp] theorem getV_s {x : Option W} {r : WEn} {n : Nat} : getV (x :: r) (n + 1) = getV r n := rfl
@[simp] theorem setV2_0 {x : Option W} {r : WEn} {d : W} : setV2 (x :: r) 0 d = some d :: r := rfl
@[simp] theorem setV2_s {x : Option W} {r : WEn} {n : Nat} {d : W} : setV2 (x :: r) (n + 1) d = x :: setV2 r n d := rfl
@[simp] theorem wipeV_nil {e : WEn} : wipeV e [] = e := rfl
@[simp] theorem wipeV_cons {e : WEn} {v : Nat} {vs : List Nat} : wipeV e (v :: vs) = wipeV1 (wipeV e vs) v := rfl
@[simp] theorem wipeV1_0 {x : Option W} {r : WEn} : wipeV1 (x :: r) 0 = none :: r := rfl
@[simp] theorem wipeV1_s {x : Option W} {r : WEn} {n : Nat} : wipeV1 (x :: r) (n + 1) = x :: wipeV1 r n := rfl
@[simp] theorem bindV_nm {i : Nat} {w : W} {e : WEn} : bindV (.nm i) w e = some (setV2 e i w) := rfl
@[simp] theorem bindV_tp {is : List Nat} {k : TK} {ds : List D} {e : WEn} : bindV (.tp is) (.v (.tp k ds)) e = setAllV e is ds := rfl
@[simp] theorem setAllV_nil {e : WEn} : setAllV e [] [] = some e := rfl
@[simp] theorem setAllV_cons {e : WEn} {i : Nat} {is : List Nat} {d : D} {ds : List D} : setAllV e (i :: is) (d :: ds) = setAllV (setV2 e i (.v d)) is ds := rfl
@[simp] theorem nth_0 {α : Type u} {x : α} {r : List α} : nth (x :: r) 0 = some x := rfl
@[simp] theorem nth_s {α : Type u} {x : α} {r : List α} {n : Nat} : nth (x :: r) (n + 1) = nth r n := rfl
@[simp] theorem out_nx {e : WEn} : Rs.out (.ok (.nx e) S) = .ok (.v .non) S := rfl
@[simp] theorem out_rt {w : W} : Rs.out (.ok (.rt w) S) = .ok w S := rfl
@[simp] theorem out_ex {x : Exc} : Rs.out (.ex x S) = .ex x S := rfl
@[simp] theorem rd1_some' {w : W} {f : D → Option D} {d : D} (h : rdW S w = some d) : rd1 S w f = f d := by unfold rd1; rw [h]
@[simp] theorem rd2_some' {x y : W} {f : D → D → Option D} {d e : D} (h : rdW S x = some d) (g : rdW S y = some e) : rd2 S x y f = f d e := by unfold rd2; rw [h, g]
@[simp] theorem blO_some {b : Bool} : blO (some b) = some (.bl b) := rfl
@[simp] theorem turnsV_nil {tg : Tg} {body : WF Oc} {en : WEn} : turnsV tg body [] en S = .ok (.nx en) S := rfl
@[simp] theorem compV_nil {tg : Tg} {tt : WF Bool} {te : WF W} {en : WEn} : compV tg tt te en [] S = .ok [] S := rfl
@[simp] theorem compR_ok {ys : List D} : compR false (.ok ys S) = .ok (.v (.lst ys)) S := rfl
@[simp] theorem compR_okM {ys : List D} : compR true (.ok ys S) = newW S (.lst ys) := rfl
@[simp] theorem truV_ok {w : W} : truV (.ok w S) = lft S (truW S w) := rfl
@[simp] theorem truV_ex {x : Exc} : truV (.ex x S) = .ex x S := rfl
theorem compV_fm {tg : Tg} {tt : WF Bool} {te : WF W} {en : WEn} (b : D → Bool) (f : D → D) : ∀ (items : List D), (∀ x ∈ items, ∃ e1, bindV tg (.v x) en = some e1 ∧ tt e1 S = .ok (b x) S ∧ (b x = true → te e1 S = .ok (.v (f x)) S)) → compV tg tt te en items S = .ok ((items.filter b).map f) S
  | [], _ => rfl
  | x :: r, h => by
    obtain ⟨e1, h1, h2, h3⟩ := h x (by simp)
    have ih := compV_fm (tg := tg) (tt := tt) (te := te) (en := en) b f r fun y hy => h y (List.mem_cons_of_mem _ hy)
    unfold compV
    rw [h1]
    simp only [h2, Rs.bind_ok]
    cases q : b x with
    | true => simp only [h3 q, Rs.bind_ok, ih, List.filter_cons_of_pos q, List.map_cons]
    | false => rw [List.filter_cons_of_neg (by rw [q]; simp)]; exact ih
theorem compV_map {tg : Tg} {tt : WF Bool} {te : WF W} {en : WEn} (f : D → D) (items : List D) (h : ∀ x ∈ items, ∃ e1, bindV tg (.v x) en = some e1 ∧ tt e1 S = .ok true S ∧ te e1 S = .ok (.v (f x)) S) : compV tg tt te en items S = .ok (items.map f) S := by
  have := compV_fm (S := S) (tg := tg) (tt := tt) (te := te) (en := en) (fun _ => true) f items fun x hx => by
    obtain ⟨e1, h1, h2, h3⟩ := h x hx
    exact ⟨e1, h1, h2, fun _ => h3⟩
  rw [this, List.filter_eq_self.mpr fun _ _ => rfl]
end
/-! a while, step by step -/
theorem whN_mono {c : WF Bool} {b : WF Oc} : ∀ (n : Nat) (en : WEn) (S : Sto), whN c b n en S ≠ .no → whN c b (n + 1) en S = whN c b n en S
  | 0, en, S, h => absurd rfl h
  | n + 1, en, S, h => by
    unfold whN at h
    conv => lhs; unfold whN
    conv => rhs; unfold whN
    cases hc : c en S with
    | no => rfl
    | ex x S1 => rfl
    | ok k S1 =>
      rw [hc] at h
      simp only [Rs.bind_ok] at h ⊢
      cases k with
      | false => rfl
      | true =>
        dsimp only at h ⊢
        cases hb : b en S1 with
        | no => rfl
        | ex x S2 => rfl
        | ok o S2 =>
          rw [hb] at h
          simp only [Rs.bind_ok] at h ⊢
          cases o with
          | nx e => exact whN_mono n e S2 h
          | ct e => exact whN_mono n e S2 h
          | bk e => rfl
          | rt w => rfl
theorem whN_le {c : WF Bool} {b : WF Oc} {n : Nat} {en : WEn} {S : Sto} (h : whN c b n en S ≠ .no) : ∀ m, n ≤ m → whN c b m en S = whN c b n en S
  | 0, l => by have : n = 0 := by omega
               subst this; rfl
  | m + 1, l => by
    by_cases e : n = m + 1
    · rw [e]
    · have := whN_le h m (by omega)
      rw [whN_mono m en S (by rw [this]; exact h), this]
theorem whV_of {c : WF Bool} {b : WF Oc} {n : Nat} {en : WEn} {S : Sto} (h : whN c b n en S ≠ .no) : whV c b en S = whN c b n en S := by
  have ex : ∃ n, whN c b n en S ≠ .no := ⟨n, h⟩
  unfold whV
  rw [dif_pos ex]
  have h2 := ex.choose_spec
  rcases Nat.le_total n ex.choose with l | l
  · exact whN_le h _ l
  · exact (whN_le h2 _ l).symm
/-- one turn of a while -/
theorem whV_step {c : WF Bool} {b : WF Oc} {en : WEn} {S : Sto} : whV c b en S = (c en S).bind fun k S1 => match k with
    | true => (b en S1).bind fun o S2 => match o with
      | .nx e => whV c b e S2
      | .ct e => whV c b e S2
      | .bk e => .ok (.nx e) S2
      | .rt w => .ok (.rt w) S2
    | false => .ok (.nx en) S1 := by
  have go : ∀ n e S2, whN c b n e S2 ≠ .no → whV c b e S2 = whN c b n e S2 := fun n e S2 h => whV_of h
  by_cases ex : ∃ n, whN c b n en S ≠ .no
  · obtain ⟨n, h⟩ := ex
    rw [whV_of h]
    cases n with
    | zero => exact absurd rfl h
    | succ n =>
      unfold whN at h ⊢
      cases hc : c en S with
      | no => rfl
      | ex x S1 => rfl
      | ok k S1 =>
        rw [hc] at h
        simp only [Rs.bind_ok] at h ⊢
        cases k with
        | false => rfl
        | true =>
          dsimp only at h ⊢
          cases hb : b en S1 with
          | no => rfl
          | ex x S2 => rfl
          | ok o S2 =>
            rw [hb] at h
            simp only [Rs.bind_ok] at h ⊢
            cases o with
            | nx e => exact (go n e S2 h).symm
            | ct e => exact (go n e S2 h).symm
            | bk e => rfl
            | rt w => rfl
  · have no : ∀ n, whN c b n en S = .no := fun n => Classical.byContradiction fun z => ex ⟨n, z⟩
    have e0 : whV c b en S = .no := by unfold whV; rw [dif_neg ex]
    rw [e0]
    have n1 := fun n => no (n + 1)
    cases hc : c en S with
    | no => rfl
    | ex x S1 =>
      have := n1 0
      unfold whN at this
      rw [hc] at this; cases this
    | ok k S1 =>
      simp only [Rs.bind_ok]
      cases k with
      | false =>
        have := n1 0
        unfold whN at this
        rw [hc] at this; cases this
      | true =>
        dsimp only
        cases hb : b en S1 with
        | no => rfl
        | ex x S2 =>
          have := n1 0
          unfold whN at this
          rw [hc] at this
          simp only [Rs.bind_ok, hb] at this
          cases this
        | ok o S2 =>
          simp only [Rs.bind_ok]
          have key : ∀ e, (∀ n, whN c b n e S2 = .no) → whV c b e S2 = .no := fun e hn => by
            unfold whV
            rw [dif_neg (fun ⟨n, z⟩ => z (hn n))]
          cases o with
          | nx e =>
            refine (key e fun n => ?_).symm
            have := n1 n
            unfold whN at this
            rw [hc] at this
            simpa only [Rs.bind_ok, hb] using this
          | ct e =>
            refine (key e fun n => ?_).symm
            have := n1 n
            unfold whN at this
            rw [hc] at this
            simpa only [Rs.bind_ok, hb] using this
          | bk e =>
            have := n1 0
            unfold whN at this
            rw [hc] at this
            simp only [Rs.bind_ok, hb] at this
            cases this
          | rt w =>
            have := n1 0
            unfold whN at this
            rw [hc] at this
            simp only [Rs.bind_ok, hb] at this
            cases this
/-- a tuple of texts of the written part -/
def toksOf : List D → List Value → Prop
  | [], us => us = []
  | d :: r, us => match d with
    | .str x => ∃ t us', us = .str x t :: us' ∧ toksOf r us'
    | _ => False
theorem toksOf_len : ∀ {ds : List D} {us : List Value}, toksOf ds us → us.length = ds.length
  | [], us, h => by have h : us = [] := h; rw [h]; rfl
  | d :: r, us, h => by
    cases d with
    | str x =>
      obtain ⟨t, us', h1, h2⟩ := h
      rw [h1, List.length_cons, List.length_cons, toksOf_len h2]
    | _ => exact h.elim
theorem toksOf_vals {K : PySem.W.Frag} {M : MH} {H : Hp} : ∀ {ds : List D} {us : List Value}, toksOf ds us → ∃ vs, Vals vs us ∧ RpL K M H ds vs
  | [], us, h => by
    have h : us = [] := h
    subst h
    exact ⟨[], .nil, rfl⟩
  | d :: r, us, h => by
    cases d with
    | str x =>
      obtain ⟨t, us', h1, h2⟩ := h
      subst h1
      obtain ⟨vs, g1, g2⟩ := toksOf_vals (K := K) (M := M) (H := H) h2
      exact ⟨.str x :: vs, .cons ⟨t, rfl⟩ g1, .str x, vs, rfl, rfl, g2⟩
    | _ => exact h.elim
theorem DC.tup {K : PySem.W.Frag} {x : Str} {a : Addr} {od : Option Addr} {its : Array Value} {n : Nat} {sl : Array (Option Value)} {ds : List D} (h : PySem.W.nsIn K mainGlobals x = some (some (.ref a))) (l : K.lookup a = some ⟨.type "tuple", od, .seq its n, sl⟩) (r : toksOf ds its.toList) (hn : ds.length ≤ sizeLine := by decide) : DC K x (.tp .s ds) := by
  refine ⟨.ref a, .ref a, h, rfl, fun M H => ?_⟩
  obtain ⟨vs, g1, g2⟩ := toksOf_vals (K := K) (M := M) (H := H) r
  refine ⟨a, vs, rfl, ⟨_, its, n, l, rfl, rfl, ?_, g1⟩, g2⟩
  have := toksOf_len r
  rw [← Array.length_toList, this]; exact hn

end Z

/-! V10: texts, lines, methods at sight. -/
namespace Z
open PySem PySem.Spec PyProof.Rows L2
abbrev tl (x : Str) : List Nat := x.cps.toList
def lns (ws : List Str) : D := .lst (ws.map D.str)
/-! ### plain facts of texts -/
theorem eqvL_str : ∀ a b : List Str, eqvL (a.map D.str) (b.map D.str) = decide (a = b)
  | [], [] => rfl
  | [], _ :: _ => rfl
  | _ :: _, [] => rfl
  | x :: a, y :: b => by
    show (eqv (.str x) (.str y) && eqvL (a.map D.str) (b.map D.str)) = _
    rw [eqvL_str a b]
    show ((x == y) && _) = _
    by_cases h : x = y
    · subst h; simp
    · have : (x == y) = false := by simpa using h
      rw [this]; simp [h]
theorem layL_str (n : Nat) : ∀ a : List Str, (∀ x ∈ a, PyData.strOk x = true) → layL n (a.map D.str) = true
  | [], _ => by simp [layL]
  | x :: a, h => by
    rw [List.map_cons, layL, layL_str n a fun y hy => h y (List.mem_cons_of_mem _ hy)]
    simp [lay, h x (by simp)]
def okS (x : Str) : Prop := PyData.strOk x = true
theorem okS_of {x : Str} (h : ∀ c ∈ tl x, c < 128) : okS x := by
  show PyData.strOk x = true
  unfold PyData.strOk
  rw [← Array.all_toList, List.all_eq_true]
  intro c hc
  have := h c hc
  exact decide_eq_true (by omega)
theorem veq_lns {a b : List Str} (ha : ∀ x ∈ a, okS x) (hb : ∀ x ∈ b, okS x) : veq (lns a) (lns b) = some (.bl (decide (a = b))) := by
  unfold veq veqOk lns
  have h1 : lay 60 (D.lst (a.map D.str)) = true := layL_str 59 a ha
  have h2 : lay 60 (D.lst (b.map D.str)) = true := layL_str 59 b hb
  rw [h1, h2]
  simp only [Bool.and_self, Bool.or_true, if_true]
  show some (D.bl (eqvL _ _)) = _
  rw [eqvL_str]
theorem vne_lns {a b : List Str} (ha : ∀ x ∈ a, okS x) (hb : ∀ x ∈ b, okS x) : vne (lns a) (lns b) = some (.bl (!decide (a = b))) := by
  unfold vne veqOk lns
  have h1 : lay 60 (D.lst (a.map D.str)) = true := layL_str 59 a ha
  have h2 : lay 60 (D.lst (b.map D.str)) = true := layL_str 59 b hb
  rw [h1, h2]
  simp only [Bool.and_self, Bool.or_true, if_true]
  show some (D.bl (!eqvL _ _)) = _
  rw [eqvL_str]
@[simp] theorem veq_str {x y : Str} : veq (.str x) (.str y) = some (.bl (decide (x = y))) := by
  show some (D.bl (x == y)) = _
  congr 2
@[simp] theorem vne_str {x y : Str} : vne (.str x) (.str y) = some (.bl (!decide (x = y))) := by
  show some (D.bl (!(x == y))) = _
  congr 2
@[simp] theorem veq_int {x y : Int} : veq (.int x) (.int y) = some (.bl (decide (x = y))) := by
  show some (D.bl (x == y)) = _
  congr 2
@[simp] theorem vne_int {x y : Int} : vne (.int x) (.int y) = some (.bl (!decide (x = y))) := by
  show some (D.bl (!(x == y))) = _
  congr 2
@[simp] theorem vlt_int {x y : Int} : vlt (.int x) (.int y) = some (.bl (decide (x < y))) := rfl
@[simp] theorem vle_int {x y : Int} : vle (.int x) (.int y) = some (.bl (decide (x ≤ y))) := rfl
@[simp] theorem vgt_int {x y : Int} : vgt (.int x) (.int y) = some (.bl (decide (y < x))) := rfl
@[simp] theorem vge_int {x y : Int} : vge (.int x) (.int y) = some (.bl (decide (y ≤ x))) := rfl
@[simp] theorem vadd_int {x y : Int} : vadd (.int x) (.int y) = some (.int (x + y)) := rfl
@[simp] theorem vsub_int {x y : Int} : vsub (.int x) (.int y) = some (.int (x - y)) := rfl
theorem vle_chr {a b : Nat} : vle (.str ⟨#[a]⟩) (.str ⟨#[b]⟩) = some (.bl (decide (a ≤ b))) := by
  show (if vltOk (.str ⟨#[a]⟩) (.str ⟨#[b]⟩) = true then some (D.bl (!ltD (.str ⟨#[b]⟩) (.str ⟨#[a]⟩))) else none) = _
  rw [if_pos (show vltOk (.str ⟨#[a]⟩) (.str ⟨#[b]⟩) = true from rfl)]
  congr 2
  show (!decide ([b] < [a])) = decide (a ≤ b)
  have : ([b] < [a]) ↔ b < a := by
    constructor
    · intro h
      cases h with
      | rel h => exact h
      | cons h => cases h
    · intro h
      exact .rel h
  by_cases h : a ≤ b
  · rw [decide_eq_true h, decide_eq_false (by rw [this]; omega)]; rfl
  · rw [decide_eq_false h, decide_eq_true (by rw [this]; omega)]; rfl
theorem c_sp : (" " : Str) = ⟨#[32]⟩ := by decide +kernel
theorem c_ti : ("~" : Str) = ⟨#[126]⟩ := by decide +kernel
theorem c_0 : ("0" : Str) = ⟨#[48]⟩ := by decide +kernel
theorem c_9 : ("9" : Str) = ⟨#[57]⟩ := by decide +kernel
theorem c_a : ("a" : Str) = ⟨#[97]⟩ := by decide +kernel
theorem c_z : ("z" : Str) = ⟨#[122]⟩ := by decide +kernel
theorem c_nl : ("\n" : Str) = ⟨#[10]⟩ := by decide +kernel
theorem c_sl : ("/" : Str) = ⟨#[47]⟩ := by decide +kernel
theorem c_mi : ("-" : Str) = ⟨#[45]⟩ := by decide +kernel
/-- all signs within bounds, as the program asks -/
def rngS (a b : Nat) (x : Str) : Bool := (tl x).all fun c => decide (a ≤ c) && decide (c ≤ b)
def rngL (a b : Nat) (x : Str) : List D := (tl x).map fun c => D.bl (decide (a ≤ c) && decide (c ≤ b))
@[simp] theorem rng_all {a b : Nat} {x : Str} : allA M00 (.lst (rngL a b x)) = some (.bl (rngS a b x)) := allA_map _ _
theorem all_chars {S : Sto} {G : GV} {en : WEn} {lo hi : Str} {a b : Nat} (i : Nat) (x : Str) (hl : lo = ⟨#[a]⟩) (hh : hi = ⟨#[b]⟩) (hi' : ∀ d, getV (setV2 en i (.v d)) i = some (.v d)) :
    compV (.nm i) (evC G []) (evE G (.chn .le .le (.str lo) (.loc i) (.str hi))) en (charsD x) S = .ok (rngL a b x) S := by
  have := compV_map (S := S) (tg := .nm i) (tt := evC G []) (te := evE G (.chn .le .le (.str lo) (.loc i) (.str hi))) (en := en) (fun d => match d with | .str z => (match tl z with | [c] => .bl (decide (a ≤ c) && decide (c ≤ b)) | _ => .non) | _ => .non) (charsD x) (fun d hd => by
    obtain ⟨c, hc, rfl⟩ := List.mem_map.mp hd
    refine ⟨_, rfl, rfl, ?_⟩
    simp only [evE_10, evE_2, evE_3, evE_4, evE_5, evE_1, hi', Rs.bind_ok, lft_some, COp.vo, rd2, rdW_str, hl, hh, vle_chr]
    by_cases h1 : a ≤ c
    · simp [h1, vle_chr]
    · simp [h1])
  rw [this]
  congr 1
  unfold charsD rngL
  rw [List.map_map]
  rfl
/-! ### methods at sight -/
section
variable {S : Sto}
@[simp] theorem tyW_split {x : Str} : tyW .split S (.v (.str x)) = true := rfl
@[simp] theorem tyW_join {x : Str} : tyW .join S (.v (.str x)) = true := rfl
@[simp] theorem tyW_starts {x : Str} : tyW .startswith S (.v (.str x)) = true := rfl
theorem tyW_app {i : Nat} {ds : List D} (h : getS S i = some (.lst ds)) : tyW .append S (.r i) = true := by
  show (match (match getS S i with | some (.lst ds) => some (D.lst ds) | _ => none) with | some (.lst _) => true | _ => false) = true
  rw [h]
theorem tyW_ext {i : Nat} {ds : List D} (h : getS S i = some (.lst ds)) : tyW .extend S (.r i) = true := by
  show (match (match getS S i with | some (.lst ds) => some (D.lst ds) | _ => none) with | some (.lst _) => true | _ => false) = true
  rw [h]
theorem wo_split {a b : Str} (h1 : (b.length == 0) = false) (h2 : a.length + 2 ≤ sizeLine) : Mt.split.wo S (.v (.str a)) [.v (.str b)] = .ok (.v (lns (Txt.split a b))) S := if_pos ⟨h1, h2⟩
@[simp] theorem wo_starts {a b : Str} : Mt.startswith.wo S (.v (.str a)) [.v (.str b)] = .ok (.v (.bl (Txt.startswith a b))) S := rfl
theorem wo_join {z : Str} {ys : List Str} (h : (ys.map (·.length)).sum + ys.length * z.length ≤ 16777216) : Mt.join.wo S (.v (.str z)) [.v (lns ys)] = .ok (.v (.str (Txt.join z ys))) S := by
  unfold Mt.wo
  simp only [sqW_lst, lns, strsOf_map]
  exact if_pos h
theorem wo_append {i : Nat} {ds : List D} {x : D} (h : getS S i = some (.lst ds)) (hl : ds.length < sizeLine) : Mt.append.wo S (.r i) [.v x] = .ok (.v .non) (setS S i (some (.lst (ds ++ [x])))) := by
  show (match getS S i with
    | some (.lst ds) => if ds.length < sizeLine then Rs.ok (W.v D.non) (setS S i (some (.lst (ds ++ [x])))) else .no
    | _ => .no) = _
  rw [h]; exact if_pos hl
theorem wo_extend {i : Nat} {ds es : List D} (h : getS S i = some (.lst ds)) (hl : ds.length + es.length ≤ sizeLine) : Mt.extend.wo S (.r i) [.v (.lst es)] = .ok (.v .non) (setS S i (some (.lst (ds ++ es)))) := by
  show (match getS S i, some (D.lst es) with
    | some (.lst ds), some (.lst es) => if ds.length + es.length ≤ sizeLine then Rs.ok (W.v D.non) (setS S i (some (.lst (ds ++ es)))) else .no
    | _, _ => .no) = _
  rw [h]; exact if_pos hl
@[simp] theorem rdW_lns {ws : List Str} : rdW S (.v (lns ws)) = some (lns ws) := rfl
@[simp] theorem plW_lns {ws : List Str} : plW (.v (lns ws)) = some (lns ws) := rfl
@[simp] theorem sqW_lns {ws : List Str} : sqW S (.v (lns ws)) = some (ws.map D.str) := rfl
@[simp] theorem nonW_lns {ws : List Str} : nonW (.v (lns ws)) = false := rfl
@[simp] theorem itW_lns {ws : List Str} : itW .seq [.v (lns ws)] = some (ws.map D.str) := rfl
@[simp] theorem len_lns {ws : List Str} : lenA M00 (lns ws) = some (.int ws.length) := by show some (D.int (ws.map D.str).length) = _; rw [List.length_map]
theorem ix_lns {ws : List Str} {i : Nat} {x : Str} (h : ws[i]? = some x) : ixW S (.v (lns ws)) (.v (.int i)) = some (.v (.str x)) := by
  show (atI (ws.map D.str) (i : Int)).map W.v = _
  rw [atI_get (by rw [List.length_map]; exact (List.getElem?_eq_some_iff.mp h).1), List.getElem?_map, h]; rfl
theorem ix_lst {ds : List D} {i : Nat} {x : D} (h : ds[i]? = some x) : ixW S (.v (.lst ds)) (.v (.int i)) = some (.v x) := by
  show (atI ds (i : Int)).map W.v = _
  rw [atI_get (List.getElem?_eq_some_iff.mp h).1, h]; rfl
theorem ix_tp {k : TK} {ds : List D} {i : Nat} {x : D} (h : ds[i]? = some x) : ixW S (.v (.tp k ds)) (.v (.int i)) = some (.v x) := by
  show (atI ds (i : Int)).map W.v = _
  rw [atI_get (List.getElem?_eq_some_iff.mp h).1, h]; rfl
end
theorem mem_joinL {S : List Nat} : ∀ {parts : List (List Nat)} {p : List Nat} {c : Nat}, p ∈ parts → c ∈ p → c ∈ TL.joinL S parts
  | [], _, _, h, _ => nomatch h
  | [q], p, c, h, hc => by
    have : p = q := by simpa using h
    subst this; exact hc
  | q :: r :: rs, p, c, h, hc => by
    show c ∈ q ++ (S ++ TL.joinL S (r :: rs))
    rcases List.mem_cons.mp h with e | h
    · subst e; simp [hc]
    · have := mem_joinL (S := S) h hc
      simp [this]
theorem split_mem {x y w : Str} (h : w ∈ Txt.split x y) {c : Nat} (hc : c ∈ tl w) : c ∈ tl x := by
  have e := StrLaws.join_split x y
  have : tl x = TL.joinL (tl y) ((Txt.split x y).map tl) := by
    have := TL.tl_join y (Txt.split x y)
    rw [e] at this
    exact this
  rw [this]
  exact mem_joinL (List.mem_map.mpr ⟨w, h, rfl⟩) hc
theorem joinL_len {S : List Nat} : ∀ {parts : List (List Nat)}, 1 ≤ S.length → parts.length ≤ (TL.joinL S parts).length + 1
  | [], _ => by simp [TL.joinL]
  | [q], _ => by simp
  | q :: r :: rs, h => by
    have := joinL_len (S := S) (parts := r :: rs) h
    show _ ≤ (q ++ (S ++ TL.joinL S (r :: rs))).length + 1
    simp only [List.length_append, List.length_cons] at this ⊢
    omega
theorem split_len {x y : Str} (hy : 1 ≤ y.length) : (Txt.split x y).length ≤ x.length + 1 := by
  have e := StrLaws.join_split x y
  have h1 := TL.tl_join y (Txt.split x y)
  rw [e] at h1
  have := joinL_len (S := TL.tl y) (parts := (Txt.split x y).map TL.tl) (by rw [← TL.len_tl]; exact hy)
  rw [← h1, List.length_map, ← TL.len_tl] at this
  exact this
theorem part_len {S : List Nat} : ∀ {parts : List (List Nat)} {p : List Nat}, p ∈ parts → p.length ≤ (TL.joinL S parts).length
  | [], _, h => nomatch h
  | [q], p, h => by
    have : p = q := by simpa using h
    subst this; exact Nat.le_refl _
  | q :: r :: rs, p, h => by
    show _ ≤ (q ++ (S ++ TL.joinL S (r :: rs))).length
    rw [List.length_append, List.length_append]
    rcases List.mem_cons.mp h with e | h
    · subst e; omega
    · have := part_len (S := S) h
      omega
theorem split_part {x y w : Str} (h : w ∈ Txt.split x y) : w.length ≤ x.length := by
  have e := StrLaws.join_split x y
  have h1 := TL.tl_join y (Txt.split x y)
  rw [e] at h1
  have := part_len (S := TL.tl y) (p := TL.tl w) (List.mem_map.mpr ⟨w, h, rfl⟩)
  rw [← h1, ← TL.len_tl, ← TL.len_tl] at this
  exact this
end Z

/-! V11: operators at sight. -/
namespace Z
open PySem PySem.Spec PyProof.Rows L2
@[simp] theorem bo_add {x y : D} : BOp.add.vo x y = vadd x y := rfl
@[simp] theorem bo_sub {x y : D} : BOp.sub.vo x y = vsub x y := rfl
@[simp] theorem bo_mul {x y : D} : BOp.mul.vo x y = vmul x y := rfl
@[simp] theorem bo_fdv {x y : D} : BOp.fdv.vo x y = vfdv x y := rfl
@[simp] theorem bo_mod {x y : D} : BOp.mod.vo x y = vmod x y := rfl
@[simp] theorem bo_pow {x y : D} : BOp.pow.vo x y = vpow x y := rfl
section
variable {S : Sto} {w x y : W} {ws : List W}
@[simp] theorem co_eq : COp.eq.vo S x y = rd2 S x y veq := rfl
@[simp] theorem co_ne : COp.ne.vo S x y = rd2 S x y vne := rfl
@[simp] theorem co_lt : COp.lt.vo S x y = rd2 S x y vlt := rfl
@[simp] theorem co_le : COp.le.vo S x y = rd2 S x y vle := rfl
@[simp] theorem co_gt : COp.gt.vo S x y = rd2 S x y vgt := rfl
@[simp] theorem co_ge : COp.ge.vo S x y = rd2 S x y vge := rfl
@[simp] theorem co_in : COp.isin.vo S x y = blO (inW S x y) := rfl
@[simp] theorem co_nin : COp.notin.vo S x y = blO ((inW S x y).map not) := rfl
@[simp] theorem co_is : COp.is.vo S x y = if nonW y = true then some (.bl (nonW x)) else none := rfl
@[simp] theorem co_isn : COp.isnot.vo S x y = if nonW y = true then some (.bl (!nonW x)) else none := rfl
@[simp] theorem bt_len : Bt.len.wo S [w] = lfv S (rd1 S w (lenA M00)) := rfl
@[simp] theorem bt_int : Bt.int.wo S [w] = lfv S (rd1 S w (intA M00)) := rfl
@[simp] theorem bt_abs : Bt.abs.wo S [w] = lfv S (rd1 S w (absA M00)) := rfl
@[simp] theorem bt_strI : Bt.strI.wo S [w] = lfv S (rd1 S w (strA M00)) := rfl
@[simp] theorem bt_all : Bt.all.wo S [w] = lfv S (rd1 S w (allA M00)) := rfl
@[simp] theorem bt_any : Bt.any.wo S [w] = lfv S (rd1 S w (anyA M00)) := rfl
@[simp] theorem bt_sum : Bt.sum.wo S [w] = lfv S (rd1 S w (sumA M00)) := rfl
@[simp] theorem bt_srt : Bt.srt.wo S [w] = lfv S (rd1 S w vsrt) := rfl
@[simp] theorem bt_tupT : Bt.tupT.wo S [w] = lfv S (rd1 S w vtupT) := rfl
@[simp] theorem bt_min2 : Bt.min2.wo S [x, y] = lfv S (rd2 S x y (minA M00)) := rfl
@[simp] theorem bt_max2 : Bt.max2.wo S [x, y] = lfv S (rd2 S x y (maxA M00)) := rfl
@[simp] theorem bt_minL : Bt.minL.wo S [w] = lfv S (rd1 S w (Z.minL M00)) := rfl
@[simp] theorem bt_maxL : Bt.maxL.wo S [w] = lfv S (rd1 S w (Z.maxL M00)) := rfl
@[simp] theorem bt_lstF : Bt.lstF.wo S [w] = match lstW S w with | some ds => .ok (.v (.lst ds)) S | none => .no := rfl
@[simp] theorem bt_lstM : Bt.lstM.wo S [w] = match lstW S w with | some ds => newW S (.lst ds) | none => .no := rfl
@[simp] theorem newW_eq {o : VO} : newW S o = .ok (.r S.length) (S ++ [some o]) := rfl
@[simp] theorem tup_lst {ds : List D} : vtupT (.lst ds) = some (.tup ds) := rfl
@[simp] theorem tup_tp {k : TK} {ds : List D} : vtupT (.tp k ds) = some (.tp k ds) := rfl
@[simp] theorem lenA_lst' {ds : List D} : lenA M00 (.lst ds) = some (.int ds.length) := rfl
@[simp] theorem lenA_flst {ds : List D} : lenA M00 (.flst ds) = some (.int ds.length) := rfl
@[simp] theorem lenA_tp' {k : TK} {ds : List D} : lenA M00 (.tp k ds) = some (.int ds.length) := rfl
@[simp] theorem int_int {i : Int} : intA M00 (.int i) = some (.int i) := rfl
@[simp] theorem int_bl {i : Bool} : intA M00 (.bl i) = some (.int (if i then 1 else 0)) := rfl
@[simp] theorem sl_0 : (0 : Nat) ≤ sizeLine := by decide
@[simp] theorem sl_1 : (1 : Nat) ≤ sizeLine := by decide
@[simp] theorem sl_2 : (2 : Nat) ≤ sizeLine := by decide
@[simp] theorem sl_3 : (3 : Nat) ≤ sizeLine := by decide
@[simp] theorem sl_4 : (4 : Nat) ≤ sizeLine := by decide
@[simp] theorem sl_5 : (5 : Nat) ≤ sizeLine := by decide
@[simp] theorem sl_6 : (6 : Nat) ≤ sizeLine := by decide
@[simp] theorem sl_8 : (8 : Nat) ≤ sizeLine := by decide
@[simp] theorem sl_11 : (11 : Nat) ≤ sizeLine := by decide
@[simp] theorem sl_12 : (12 : Nat) ≤ sizeLine := by decide
end
/-! things in the store -/
section
variable {S J : Sto} {o : Option VO}
@[simp] theorem getS_app0 {x : Option VO} {r : Sto} : getS (x :: r) 0 = x := by cases x <;> rfl
theorem getS_last : getS (S ++ [o]) S.length = o := by unfold getS; simp
theorem getS_mid : getS (S ++ o :: J) S.length = o := by unfold getS; simp
theorem setS_last {o' : Option VO} : setS (S ++ [o]) S.length o' = S ++ [o'] := by unfold setS; simp
theorem setS_mid {o' : Option VO} : setS (S ++ o :: J) S.length o' = S ++ o' :: J := by unfold setS; simp
theorem rdW_mid {ds : List D} : rdW (S ++ some (.lst ds) :: J) (.r S.length) = some (.lst ds) := by
  show (match getS (S ++ some (.lst ds) :: J) S.length with | some (.lst ds) => some (D.lst ds) | _ => none) = _
  rw [getS_mid]
theorem sqW_mid {ds : List D} : sqW (S ++ some (.lst ds) :: J) (.r S.length) = some ds := by
  unfold sqW; rw [rdW_mid]
theorem truW_mid {ds : List D} : truW (S ++ some (.lst ds) :: J) (.r S.length) = some (!ds.isEmpty) := by
  unfold truW
  simp only [sqW_mid]
theorem ixW_mid {ds : List D} {i : Int} {x : D} (h : atI ds i = some x) : ixW (S ++ some (.lst ds) :: J) (.r S.length) (.v (.int i)) = some (.v x) := by
  unfold ixW
  simp only [plW_int, sqW_mid, h]; rfl
theorem ty_app_mid {ds : List D} : tyW .append (S ++ some (.lst ds) :: J) (.r S.length) = true := tyW_app getS_mid
theorem ty_ext_mid {ds : List D} : tyW .extend (S ++ some (.lst ds) :: J) (.r S.length) = true := tyW_ext getS_mid
theorem wo_app_mid {ds : List D} {x : D} (hl : ds.length < sizeLine) : Mt.append.wo (S ++ some (.lst ds) :: J) (.r S.length) [.v x] = .ok (.v .non) (S ++ some (.lst (ds ++ [x])) :: J) := by
  rw [wo_append getS_mid hl, setS_mid]
theorem wo_ext_mid {ds es : List D} (hl : ds.length + es.length ≤ sizeLine) : Mt.extend.wo (S ++ some (.lst ds) :: J) (.r S.length) [.v (.lst es)] = .ok (.v .non) (S ++ some (.lst (ds ++ es)) :: J) := by
  rw [wo_extend getS_mid hl, setS_mid]
end
end Z

namespace K92
open PySem PySem.Spec PyProof.Rows L2 Z

def topS (i : Nat) : Stmt := PySem.Challenge.pw_letterways_k92_whole_texts_of_ways_and_t.main.body.getD i (.Pass ⟨0, 0, 0, 0⟩)
/-! is_integer -/
abbrev sis_integer : Stmt := topS 4
def Nis_integer : List Str := ["value"]
def Bis_integer : List Sx := [.ret (.bol true [(.isi .tint (.loc 0)), (.nt (.isi .tbool (.loc 0)))])]
noncomputable def Gis_integer : GV := ⟨[], [], ["isinstance", "int", "bool"], false⟩
noncomputable def Fis_integer : List W → Sto → Rs W := runV Gis_integer 1 Bis_integer
theorem eis_integer {w0 : W} {S : Sto} : Fis_integer [w0] S = (evSs Gis_integer Bis_integer [some w0] S).out := rfl
/-! is_name -/
abbrev sis_name : Stmt := topS 5
def Nis_name : List Str := ["value", "sign"]
def Bis_name : List Sx := [.ifs (.bol false [(.nt (.isi .tstr (.loc 0))), (.nt (.chn .le .le (.int 1) (.blt .len (.loc 0) []) (.int 12)))])
    [.ret (.bl false)]
    [], .ret (.blt .all (.comp false (.chn .le .le (.str "a") (.loc 1) (.str "z")) (.nm 1) .seq [(.loc 0)] [] [("sign", 1)]) [])]
noncomputable def Gis_name : GV := ⟨[], [], ["isinstance", "str", "len", "all"], false⟩
noncomputable def Fis_name : List W → Sto → Rs W := runV Gis_name 2 Bis_name
theorem eis_name {w0 : W} {S : Sto} : Fis_name [w0] S = (evSs Gis_name Bis_name [some w0, none] S).out := rfl
/-! is_figures -/
abbrev sis_figures : Stmt := topS 6
def Nis_figures : List Str := ["text", "sign"]
def Bis_figures : List Sx := [.ret (.bol true [(.cmp .ne (.loc 0) (.str "")), (.blt .all (.comp false (.chn .le .le (.str "0") (.loc 1) (.str "9")) (.nm 1) .seq [(.loc 0)] [] [("sign", 1)]) [])])]
noncomputable def Gis_figures : GV := ⟨[], [], ["all"], false⟩
noncomputable def Fis_figures : List W → Sto → Rs W := runV Gis_figures 2 Bis_figures
theorem eis_figures {w0 : W} {S : Sto} : Fis_figures [w0] S = (evSs Gis_figures Bis_figures [some w0, none] S).out := rfl
/-! is_bound -/
abbrev sis_bound : Stmt := topS 10
def Nis_bound : List Str := ["value"]
def Bis_bound : List Sx := [.ret (.bol false [(.cmp .is (.loc 0) .non), (.call 0 (.loc 0) [])])]
noncomputable def Gis_bound : GV := ⟨[("is_integer", 1, Fis_integer)], [], [], false⟩
noncomputable def Fis_bound : List W → Sto → Rs W := runV Gis_bound 1 Bis_bound
theorem eis_bound {w0 : W} {S : Sto} : Fis_bound [w0] S = (evSs Gis_bound Bis_bound [some w0] S).out := rfl
/-! _is_pair -/
abbrev s_is_pair : Stmt := topS 11
def N_is_pair : List Str := ["pair", "value", "step"]
def B_is_pair : List Sx := [.ifs (.bol false [(.nt (.isi .ttup (.loc 0))), (.cmp .ne (.blt .len (.loc 0) []) (.int 2))])
    [.ret (.bl false)]
    [], .asg (.tp [1, 2]) (.loc 0), .ifs (.cmp .is (.loc 1) .non)
    [.ret (.bol true [(.call 0 (.loc 2) []), (.cmp .eq (.loc 2) (.int 0))])]
    [], .ret (.bol true [(.call 0 (.loc 1) []), (.call 0 (.loc 2) [])])]
noncomputable def G_is_pair : GV := ⟨[("is_integer", 1, Fis_integer)], [], ["isinstance", "tuple", "len"], false⟩
noncomputable def F_is_pair : List W → Sto → Rs W := runV G_is_pair 3 B_is_pair
theorem e_is_pair {w0 : W} {S : Sto} : F_is_pair [w0] S = (evSs G_is_pair B_is_pair [some w0, none, none] S).out := rfl
/-! form_fault -/
abbrev sform_fault : Stmt := topS 12
def Nform_fault : List Str := ["form", "head", "tail", "value", "pair"]
def Bform_fault : List Sx := [.ifs (.bol false [(.nt (.isi .ttup (.loc 0))), (.cmp .ne (.blt .len (.loc 0) []) (.int 2))])
    [.ret (.str "form")]
    [], .asg (.tp [1, 2]) (.loc 0), .ifs (.bol false [(.nt (.isi .ttup (.loc 1))), (.nt (.isi .ttup (.loc 2)))])
    [.ret (.str "form")]
    [], .ifs (.bol false [(.cmp .gt (.blt .len (.loc 1) []) (.glo 0)), (.nt (.blt .all (.comp false (.call 0 (.loc 3) []) (.nm 3) .seq [(.loc 1)] [] [("value", 3)]) []))])
    [.ret (.str "head")]
    [], .ifs (.bol false [(.nt (.chn .le .le (.int 1) (.blt .len (.loc 2) []) (.glo 1))), (.nt (.blt .all (.comp false (.call 1 (.loc 4) []) (.nm 4) .seq [(.loc 2)] [] [("pair", 4)]) []))])
    [.ret (.str "tail")]
    [], .ret .non]
noncomputable def Gform_fault : GV := ⟨[("is_bound", 1, Fis_bound), ("_is_pair", 1, F_is_pair)], [("MAX_HEAD", D.int 4000), ("MAX_PERIOD", D.int 1000)], ["isinstance", "tuple", "len", "all"], false⟩
noncomputable def Fform_fault : List W → Sto → Rs W := runV Gform_fault 5 Bform_fault
theorem eform_fault {w0 : W} {S : Sto} : Fform_fault [w0] S = (evSs Gform_fault Bform_fault [some w0, none, none, none, none] S).out := rfl
/-! words_of -/
abbrev swords_of : Stmt := topS 15
def Nwords_of : List Str := ["line", "sign", "words"]
def Bwords_of : List Sx := [.ifs (.nt (.blt .all (.comp false (.chn .le .le (.str " ") (.loc 1) (.str "~")) (.nm 1) .seq [(.loc 0)] [] [("sign", 1)]) []))
    [.ret .non]
    [], .asg (.nm 2) (.mth .split (.loc 0) (.str " ") []), .ifs (.cmp .isin (.str "") (.loc 2))
    [.ret .non]
    [], .ret (.loc 2)]
noncomputable def Gwords_of : GV := ⟨[], [], ["all"], false⟩
noncomputable def Fwords_of : List W → Sto → Rs W := runV Gwords_of 3 Bwords_of
theorem ewords_of {w0 : W} {S : Sto} : Fwords_of [w0] S = (evSs Gwords_of Bwords_of [some w0, none, none] S).out := rfl
/-! integer_of -/
abbrev sinteger_of : Stmt := topS 16
def Ninteger_of : List Str := ["word", "figures"]
def Binteger_of : List Sx := [.asg (.nm 1) (.ite (.mth .startswith (.loc 0) (.str "-") []) (.sli (.loc 0) [(.int 1)] []) (.loc 0)), .ifs (.bol false [(.cmp .gt (.blt .len (.loc 0) []) (.glo 0)), (.nt (.call 0 (.loc 1) []))])
    [.ret .non]
    [], .ifs (.cmp .ne (.blt .strI (.blt .int (.loc 0) []) []) (.loc 0))
    [.ret .non]
    [], .ret (.blt .int (.loc 0) [])]
noncomputable def Ginteger_of : GV := ⟨[("is_figures", 1, Fis_figures)], [("MAX_SIGNS", D.int 40)], ["len", "str", "int"], false⟩
noncomputable def Finteger_of : List W → Sto → Rs W := runV Ginteger_of 2 Binteger_of
theorem einteger_of {w0 : W} {S : Sto} : Finteger_of [w0] S = (evSs Ginteger_of Binteger_of [some w0, none] S).out := rfl
/-! optional_of -/
abbrev soptional_of : Stmt := topS 17
def Noptional_of : List Str := ["word", "none", "number"]
def Boptional_of : List Sx := [.ifs (.cmp .eq (.loc 0) (.loc 1))
    [.ret .non]
    [], .asg (.nm 2) (.call 0 (.loc 0) []), .ret (.ite (.cmp .is (.loc 2) .non) (.loc 0) (.loc 2))]
noncomputable def Goptional_of : GV := ⟨[("integer_of", 1, Finteger_of)], [], [], false⟩
noncomputable def Foptional_of : List W → Sto → Rs W := runV Goptional_of 3 Boptional_of
theorem eoptional_of {w0 w1 : W} {S : Sto} : Foptional_of [w0, w1] S = (evSs Goptional_of Boptional_of [some w0, some w1, none] S).out := rfl
/-! optional_word -/
abbrev soptional_word : Stmt := topS 18
def Noptional_word : List Str := ["number", "none"]
def Boptional_word : List Sx := [.ifs (.cmp .is (.loc 0) .non)
    [.ret (.loc 1)]
    [], .ret (.blt .strI (.loc 0) [])]
noncomputable def Goptional_word : GV := ⟨[], [], ["str"], false⟩
noncomputable def Foptional_word : List W → Sto → Rs W := runV Goptional_word 2 Boptional_word
theorem eoptional_word {w0 w1 : W} {S : Sto} : Foptional_word [w0, w1] S = (evSs Goptional_word Boptional_word [some w0, some w1] S).out := rfl
/-! words_at -/
abbrev swords_at : Stmt := topS 20
def Nwords_at : List Str := ["lines", "at", "words"]
def Bwords_at : List Sx := [.asg (.nm 2) (.ite (.cmp .lt (.loc 1) (.blt .len (.loc 0) [])) (.call 0 (.idx (.loc 0) (.loc 1)) []) .non), .ifs (.cmp .is (.loc 2) .non)
    [.rse (.loc 1)]
    [], .ret (.loc 2)]
noncomputable def Gwords_at : GV := ⟨[("words_of", 1, Fwords_of)], [], ["len"], true⟩
noncomputable def Fwords_at : List W → Sto → Rs W := runV Gwords_at 3 Bwords_at
theorem ewords_at {w0 w1 : W} {S : Sto} : Fwords_at [w0, w1] S = (evSs Gwords_at Bwords_at [some w0, some w1, none] S).out := rfl
/-! begin -/
abbrev sbegin : Stmt := topS 21
def Nbegin : List Str := ["text", "first", "lines"]
def Bbegin : List Sx := [.asg (.nm 2) (.mth .split (.loc 0) (.str "\n") []), .ifs (.cmp .ne (.call 0 (.loc 2) [(.int 0)]) (.loc 1))
    [.rse (.int 0)]
    [], .ret (.loc 2)]
noncomputable def Gbegin : GV := ⟨[("words_at", 2, Fwords_at)], [], [], true⟩
noncomputable def Fbegin : List W → Sto → Rs W := runV Gbegin 3 Bbegin
theorem ebegin {w0 w1 : W} {S : Sto} : Fbegin [w0, w1] S = (evSs Gbegin Bbegin [some w0, some w1, none] S).out := rfl
/-! finish -/
abbrev sfinish : Stmt := topS 22
def Nfinish : List Str := ["lines", "at"]
def Bfinish : List Sx := [.ifs (.cmp .ne (.call 0 (.loc 0) [(.loc 1)]) (.lst false [(.str "end")]))
    [.rse (.loc 1)]
    [], .ifs (.cmp .lt (.bin .add (.loc 1) (.int 1)) (.blt .len (.loc 0) []))
    [.rse (.bin .add (.loc 1) (.int 1))]
    []]
noncomputable def Gfinish : GV := ⟨[("words_at", 2, Fwords_at)], [], ["len"], true⟩
noncomputable def Ffinish : List W → Sto → Rs W := runV Gfinish 2 Bfinish
theorem efinish {w0 w1 : W} {S : Sto} : Ffinish [w0, w1] S = (evSs Gfinish Bfinish [some w0, some w1] S).out := rfl
/-! _pair_word -/
abbrev s_pair_word : Stmt := topS 23
def N_pair_word : List Str := ["pair", "value", "step"]
def B_pair_word : List Sx := [.asg (.tp [1, 2]) (.loc 0), .ret (.ite (.cmp .is (.loc 1) .non) (.str "none") (.js (.fmt (.loc 1)) (.str "/") [(.fmt (.loc 2))]))]
noncomputable def G_pair_word : GV := ⟨[], [], [], false⟩
noncomputable def F_pair_word : List W → Sto → Rs W := runV G_pair_word 3 B_pair_word
theorem e_pair_word {w0 : W} {S : Sto} : F_pair_word [w0] S = (evSs G_pair_word B_pair_word [some w0, none, none] S).out := rfl
/-! form_lines -/
abbrev sform_lines : Stmt := topS 24
def Nform_lines : List Str := ["form", "head", "value", "tail", "pair"]
def Bform_lines : List Sx := [.asg (.nm 1) (.bin .add (.lst false [(.str "head")]) (.comp false (.call 0 (.loc 2) [(.str "none")]) (.nm 2) .seq [(.idx (.loc 0) (.int 0))] [] [("value", 2)])), .asg (.nm 3) (.bin .add (.lst false [(.str "tail")]) (.comp false (.call 1 (.loc 4) []) (.nm 4) .seq [(.idx (.loc 0) (.int 1))] [] [("pair", 4)])), .ret (.lst false [(.mth .join (.str " ") (.loc 1) []), (.mth .join (.str " ") (.loc 3) [])])]
noncomputable def Gform_lines : GV := ⟨[("optional_word", 2, Foptional_word), ("_pair_word", 1, F_pair_word)], [], [], false⟩
noncomputable def Fform_lines : List W → Sto → Rs W := runV Gform_lines 5 Bform_lines
theorem eform_lines {w0 : W} {S : Sto} : Fform_lines [w0] S = (evSs Gform_lines Bform_lines [some w0, none, none, none, none] S).out := rfl
/-! _pair_of -/
abbrev s_pair_of : Stmt := topS 25
def N_pair_of : List Str := ["word", "parts", "value", "step"]
def B_pair_of : List Sx := [.ifs (.cmp .eq (.loc 0) (.str "none"))
    [.ret (.tup [.non, (.int 0)])]
    [], .asg (.nm 1) (.mth .split (.loc 0) (.str "/") []), .ifs (.cmp .ne (.blt .len (.loc 1) []) (.int 2))
    [.ret .non]
    [], .asg (.nm 2) (.call 0 (.idx (.loc 1) (.int 0)) []), .asg (.nm 3) (.call 0 (.idx (.loc 1) (.int 1)) []), .ret (.ite (.bol false [(.cmp .is (.loc 2) .non), (.cmp .is (.loc 3) .non)]) .non (.tup [(.loc 2), (.loc 3)]))]
noncomputable def G_pair_of : GV := ⟨[("integer_of", 1, Finteger_of)], [], ["len"], false⟩
noncomputable def F_pair_of : List W → Sto → Rs W := runV G_pair_of 4 B_pair_of
theorem e_pair_of {w0 : W} {S : Sto} : F_pair_of [w0] S = (evSs G_pair_of B_pair_of [some w0, none, none, none] S).out := rfl
/-! read_form -/
abbrev sread_form : Stmt := topS 26
def Nread_form : List Str := ["lines", "at", "words", "head", "word", "form"]
def Bread_form : List Sx := [.asg (.nm 2) (.call 0 (.loc 0) [(.loc 1)]), .asg (.nm 3) (.blt .tupT (.comp false (.call 1 (.loc 4) [(.str "none")]) (.nm 4) .seq [(.sli (.loc 2) [(.int 1)] [])] [] [("word", 4)]) []), .ifs (.bol false [(.cmp .ne (.idx (.loc 2) (.int 0)) (.str "head")), (.cmp .isnot (.call 2 (.tup [(.loc 3), (.tup [(.tup [.non, (.int 0)])])]) []) .non)])
    [.rse (.loc 1)]
    [], .asg (.nm 2) (.call 0 (.loc 0) [(.bin .add (.loc 1) (.int 1))]), .asg (.nm 5) (.tup [(.loc 3), (.blt .tupT (.comp false (.call 3 (.loc 4) []) (.nm 4) .seq [(.sli (.loc 2) [(.int 1)] [])] [] [("word", 4)]) [])]), .ifs (.bol false [(.cmp .ne (.idx (.loc 2) (.int 0)) (.str "tail")), (.cmp .isnot (.call 2 (.loc 5) []) .non)])
    [.rse (.bin .add (.loc 1) (.int 1))]
    [], .ret (.loc 5)]
noncomputable def Gread_form : GV := ⟨[("words_at", 2, Fwords_at), ("optional_of", 2, Foptional_of), ("form_fault", 1, Fform_fault), ("_pair_of", 1, F_pair_of)], [], ["tuple"], true⟩
noncomputable def Fread_form : List W → Sto → Rs W := runV Gread_form 6 Bread_form
theorem eread_form {w0 w1 : W} {S : Sto} : Fread_form [w0, w1] S = (evSs Gread_form Bread_form [some w0, some w1, none, none, none, none] S).out := rfl
/-! format_ways -/
abbrev sformat_ways : Stmt := topS 30
def Nformat_ways : List Str := ["paper", "rows", "triple", "part"]
def Bformat_ways : List Sx := [.asg (.nm 1) (.lst true [(.str "ways")]), .fors (.nm 2) .seq [(.loc 0)]
    [.expr (.mth .append (.loc 1) (.str "to") []), .fors (.nm 3) .rng1 [(.blt .len (.glo 0) [])]
    [.expr (.mth .append (.loc 1) (.idx (.glo 0) (.loc 3)) []), .expr (.mth .extend (.loc 1) (.call 0 (.idx (.loc 2) (.loc 3)) []) [])]], .ret (.mth .join (.str "\n") (.bin .add (.loc 1) (.lst false [(.str "end")])) [])]
noncomputable def Gformat_ways : GV := ⟨[("form_lines", 1, Fform_lines)], [("PARTS", D.tp .s [D.str "price", D.str "count", D.str "last"])], ["range", "len"], false⟩
noncomputable def Fformat_ways : List W → Sto → Rs W := runV Gformat_ways 4 Bformat_ways
theorem eformat_ways {w0 : W} {S : Sto} : Fformat_ways [w0] S = (evSs Gformat_ways Bformat_ways [some w0, none, none, none] S).out := rfl
/-! _read_triple -/
abbrev s_read_triple : Stmt := topS 31
def N_read_triple : List Str := ["lines", "at", "found", "part"]
def B_read_triple : List Sx := [.asg (.nm 2) (.lst true []), .fors (.nm 3) .seq [(.glo 0)]
    [.ifs (.cmp .ne (.call 0 (.loc 0) [(.loc 1)]) (.lst false [(.loc 3)]))
    [.rse (.loc 1)]
    [], .expr (.mth .append (.loc 2) (.call 1 (.loc 0) [(.bin .add (.loc 1) (.int 1))]) []), .aug 1 true (.int 3)], .ret (.blt .tupT (.loc 2) [])]
noncomputable def G_read_triple : GV := ⟨[("words_at", 2, Fwords_at), ("read_form", 2, Fread_form)], [("PARTS", D.tp .s [D.str "price", D.str "count", D.str "last"])], ["tuple"], true⟩
noncomputable def F_read_triple : List W → Sto → Rs W := runV G_read_triple 4 B_read_triple
theorem e_read_triple {w0 w1 : W} {S : Sto} : F_read_triple [w0, w1] S = (evSs G_read_triple B_read_triple [some w0, some w1, none, none] S).out := rfl
/-! parse_ways -/
abbrev sparse_ways : Stmt := topS 32
def Nparse_ways : List Str := ["text", "lines", "paper", "at"]
def Bparse_ways : List Sx := [.asg (.nm 1) (.call 0 (.loc 0) [(.lst false [(.str "ways")])]), .asg (.nm 2) (.lst true []), .asg (.nm 3) (.int 1), .whl (.bol false [(.nt (.loc 2)), (.bol true [(.cmp .lt (.blt .len (.loc 2) []) (.glo 0)), (.cmp .eq (.call 1 (.loc 1) [(.loc 3)]) (.lst false [(.str "to")]))])])
    [.ifs (.cmp .ne (.call 1 (.loc 1) [(.loc 3)]) (.lst false [(.str "to")]))
    [.rse (.loc 3)]
    [], .expr (.mth .append (.loc 2) (.call 2 (.loc 1) [(.bin .add (.loc 3) (.int 1))]) []), .aug 3 true (.bin .add (.int 1) (.bin .mul (.int 3) (.blt .len (.glo 1) [])))], .expr (.call 3 (.loc 1) [(.loc 3)]), .ret (.blt .tupT (.loc 2) [])]
noncomputable def Gparse_ways : GV := ⟨[("begin", 2, Fbegin), ("words_at", 2, Fwords_at), ("_read_triple", 2, F_read_triple), ("finish", 2, Ffinish)], [("MAX_OFFICES", D.int 8), ("PARTS", D.tp .s [D.str "price", D.str "count", D.str "last"])], ["len", "tuple"], true⟩
noncomputable def Fparse_ways : List W → Sto → Rs W := runV Gparse_ways 4 Bparse_ways
theorem eparse_ways {w0 : W} {S : Sto} : Fparse_ways [w0] S = (evSs Gparse_ways Bparse_ways [some w0, none, none, none] S).out := rfl
/-! format_way_claim -/
abbrev sformat_way_claim : Stmt := topS 33
def Nformat_way_claim : List Str := ["claim", "part"]
def Bformat_way_claim : List Sx := [.ret (.mth .join (.str "\n") (.lst false [(.mth .join (.str " ") (.bin .add (.lst false [(.str "claim")]) (.comp false (.blt .strI (.loc 1) []) (.nm 1) .seq [(.loc 0)] [] [("part", 1)])) []), (.str "end")]) [])]
noncomputable def Gformat_way_claim : GV := ⟨[], [], ["str"], false⟩
noncomputable def Fformat_way_claim : List W → Sto → Rs W := runV Gformat_way_claim 2 Bformat_way_claim
theorem eformat_way_claim {w0 : W} {S : Sto} : Fformat_way_claim [w0] S = (evSs Gformat_way_claim Bformat_way_claim [some w0, none] S).out := rfl
/-! parse_way_claim -/
abbrev sparse_way_claim : Stmt := topS 34
def Nparse_way_claim : List Str := ["text", "lines", "words", "last", "word"]
def Bparse_way_claim : List Sx := [.asg (.nm 1) (.mth .split (.loc 0) (.str "\n") []), .asg (.nm 2) (.call 0 (.loc 1) [(.int 0)]), .ifs (.bol false [(.cmp .ne (.blt .len (.loc 2) []) (.int 5)), (.cmp .ne (.idx (.loc 2) (.int 0)) (.str "claim")), (.cmp .notin (.idx (.loc 2) (.int 1)) (.tup [(.str "reached"), (.str "nearer"), (.str "over"), (.str "within")]))])
    [.rse (.int 0)]
    [], .asg (.nm 3) (.idx (.loc 2) (.int 4)), .ifs (.cmp .isin (.idx (.loc 2) (.int 1)) (.tup [(.str "reached"), (.str "within")]))
    [.asg (.nm 3) (.call 1 (.loc 3) []), .ifs (.bol false [(.nt (.call 2 (.loc 3) [])), (.cmp .lt (.loc 3) (.int 0))])
    [.rse (.int 0)]
    []]
    [], .ifs (.bol false [(.nt (.blt .all (.comp false (.call 3 (.loc 4) []) (.nm 4) .seq [(.sli (.loc 2) [(.int 2)] [(.int 4)])] [] [("word", 4)]) [])), (.bol true [(.isi .tstr (.loc 3)), (.nt (.call 3 (.loc 3) []))])])
    [.rse (.int 0)]
    [], .expr (.call 4 (.loc 1) [(.int 1)]), .ret (.tup [(.idx (.loc 2) (.int 1)), (.idx (.loc 2) (.int 2)), (.idx (.loc 2) (.int 3)), (.loc 3)])]
noncomputable def Gparse_way_claim : GV := ⟨[("words_at", 2, Fwords_at), ("integer_of", 1, Finteger_of), ("is_integer", 1, Fis_integer), ("is_name", 1, Fis_name), ("finish", 2, Ffinish)], [], ["len", "all", "isinstance", "str"], true⟩
noncomputable def Fparse_way_claim : List W → Sto → Rs W := runV Gparse_way_claim 5 Bparse_way_claim
theorem eparse_way_claim {w0 : W} {S : Sto} : Fparse_way_claim [w0] S = (evSs Gparse_way_claim Bparse_way_claim [some w0, none, none, none, none] S).out := rfl
/-! _law_state -/
abbrev s_law_state : Stmt := topS 36
def N_law_state : List Str := ["script"]
def B_law_state : List Sx := [.ret (.lst true [(.blt .lstF (.loc 0) []), (.int 0), (.int 0), (.int 0), (.bl false)])]
noncomputable def G_law_state : GV := ⟨[], [], ["list"], false⟩
noncomputable def F_law_state : List W → Sto → Rs W := runV G_law_state 1 B_law_state
theorem e_law_state {w0 : W} {S : Sto} : F_law_state [w0] S = (evSs G_law_state B_law_state [some w0] S).out := rfl
/-! _law_draw -/
abbrev s_law_draw : Stmt := topS 37
def N_law_draw : List Str := ["state", "limit", "cell", "digit", "mixed"]
def B_law_draw : List Sx := [.ifs (.cmp .eq (.idx (.loc 0) (.int 3)) (.int 0))
    [.ifs (.cmp .ge (.idx (.loc 0) (.int 1)) (.blt .len (.idx (.loc 0) (.int 0)) []))
    [.ret (.int 0)]
    [], .asg (.nm 2) (.idx (.idx (.loc 0) (.int 0)) (.idx (.loc 0) (.int 1))), .ifs (.cmp .lt (.loc 2) (.int 0))
    [.asg (.nm 2) (.bin .sub (.neg (.int 1)) (.loc 2))]
    [], .sput (.loc 0) (.int 1) (.bin .add (.idx (.loc 0) (.int 1)) (.int 1)), .sput (.loc 0) (.int 2) (.loc 2), .sput (.loc 0) (.int 4) (.cmp .ge (.loc 2) (.bin .pow (.int 10) (.int 18))), .sput (.loc 0) (.int 3) (.int 6), .ifs (.idx (.loc 0) (.int 4))
    [.sput (.loc 0) (.int 3) (.int 60)]
    []]
    [], .sput (.loc 0) (.int 3) (.bin .sub (.idx (.loc 0) (.int 3)) (.int 1)), .ifs (.idx (.loc 0) (.int 4))
    [.asg (.nm 3) (.bin .mod (.blt .int (.idx (.loc 0) (.int 2)) []) (.loc 1)), .sput (.loc 0) (.int 2) (.bin .fdv (.idx (.loc 0) (.int 2)) (.loc 1)), .ifs (.cmp .eq (.idx (.loc 0) (.int 2)) (.int 0))
    [.sput (.loc 0) (.int 3) (.int 0)]
    [], .ret (.loc 3)]
    [], .asg (.nm 4) (.bin .mod (.blt .int (.bin .add (.bin .add (.bin .mul (.idx (.loc 0) (.int 2)) (.int 48271)) (.bin .mul (.idx (.loc 0) (.int 3)) (.int 69621))) (.int 7)) []) (.int 2147483647)), .asg (.nm 4) (.bin .mod (.blt .int (.bin .add (.bin .add (.bin .mul (.loc 4) (.loc 4)) (.bin .mul (.idx (.loc 0) (.int 2)) (.int 31))) (.idx (.loc 0) (.int 3))) []) (.int 1000003)), .ret (.bin .mod (.blt .int (.loc 4) []) (.loc 1))]
noncomputable def G_law_draw : GV := ⟨[], [], ["len", "int"], false⟩
noncomputable def F_law_draw : List W → Sto → Rs W := runV G_law_draw 5 B_law_draw
theorem e_law_draw {w0 w1 : W} {S : Sto} : F_law_draw [w0, w1] S = (evSs G_law_draw B_law_draw [some w0, some w1, none, none, none] S).out := rfl
/-! _law_number -/
abbrev s_law_number : Stmt := topS 38
def N_law_number : List Str := ["state", "kind"]
def B_law_number : List Sx := [.asg (.nm 1) (.call 0 (.loc 0) [(.int 8)]), .ifs (.cmp .lt (.loc 1) (.int 5))
    [.ret (.bin .sub (.call 0 (.loc 0) [(.int 9)]) (.int 3))]
    [], .ifs (.cmp .lt (.loc 1) (.int 7))
    [.ret (.bin .sub (.call 0 (.loc 0) [(.int 241)]) (.int 120))]
    [], .ret (.bin .add (.bin .mul (.bin .sub (.call 0 (.loc 0) [(.int 2001)]) (.int 1000)) (.bin .pow (.int 10) (.int 24))) (.call 0 (.loc 0) [(.int 1000)]))]
noncomputable def G_law_number : GV := ⟨[("_law_draw", 2, F_law_draw)], [], [], false⟩
noncomputable def F_law_number : List W → Sto → Rs W := runV G_law_number 2 B_law_number
theorem e_law_number {w0 : W} {S : Sto} : F_law_number [w0] S = (evSs G_law_number B_law_number [some w0, none] S).out := rfl
/-! _law_name -/
abbrev s_law_name : Stmt := topS 39
def N_law_name : List Str := ["state", "letters", "size", "name", "k"]
def B_law_name : List Sx := [.asg (.nm 1) (.str "abcdefghijklmnopqrstuvwxyz"), .asg (.nm 2) (.bin .add (.int 1) (.idx (.lst false [(.call 0 (.loc 0) [(.int 3)]), (.call 0 (.loc 0) [(.int 12)])]) (.call 0 (.loc 0) [(.int 2)]))), .asg (.nm 3) (.str ""), .fors (.nm 4) .rng1 [(.loc 2)]
    [.asg (.nm 3) (.bin .add (.loc 3) (.idx (.loc 1) (.call 0 (.loc 0) [(.int 26)])))], .ret (.loc 3)]
noncomputable def G_law_name : GV := ⟨[("_law_draw", 2, F_law_draw)], [], ["range"], false⟩
noncomputable def F_law_name : List W → Sto → Rs W := runV G_law_name 5 B_law_name
theorem e_law_name {w0 : W} {S : Sto} : F_law_name [w0] S = (evSs G_law_name B_law_name [some w0, none, none, none, none] S).out := rfl
/-! _law_word -/
abbrev s_law_word : Stmt := topS 40
def N_law_word : List Str := ["value"]
def B_law_word : List Sx := [.ifs (.cmp .is (.loc 0) .non)
    [.ret (.str "none")]
    [], .ret (.blt .strI (.loc 0) [])]
noncomputable def G_law_word : GV := ⟨[], [], ["str"], false⟩
noncomputable def F_law_word : List W → Sto → Rs W := runV G_law_word 1 B_law_word
theorem e_law_word {w0 : W} {S : Sto} : F_law_word [w0] S = (evSs G_law_word B_law_word [some w0] S).out := rfl
/-! _law_form_lines -/
abbrev s_law_form_lines : Stmt := topS 41
def N_law_form_lines : List Str := ["form", "head", "value", "tail", "step"]
def B_law_form_lines : List Sx := [.asg (.nm 1) (.str "head"), .fors (.nm 2) .seq [(.idx (.loc 0) (.int 0))]
    [.asg (.nm 1) (.bin .add (.bin .add (.loc 1) (.str " ")) (.call 0 (.loc 2) []))], .asg (.nm 3) (.str "tail"), .fors (.tp [2, 4]) .seq [(.idx (.loc 0) (.int 1))]
    [.asg (.nm 3) (.bin .add (.bin .add (.loc 3) (.str " ")) (.idx (.lst false [(.str "none"), (.bin .add (.bin .add (.call 0 (.loc 2) []) (.str "/")) (.blt .strI (.loc 4) []))]) (.blt .int (.cmp .isnot (.loc 2) .non) [])))], .ret (.lst false [(.loc 1), (.loc 3)])]
noncomputable def G_law_form_lines : GV := ⟨[("_law_word", 1, F_law_word)], [], ["str", "int"], false⟩
noncomputable def F_law_form_lines : List W → Sto → Rs W := runV G_law_form_lines 5 B_law_form_lines
theorem e_law_form_lines {w0 : W} {S : Sto} : F_law_form_lines [w0] S = (evSs G_law_form_lines B_law_form_lines [some w0, none, none, none, none] S).out := rfl
/-! _law_long -/
abbrev s_law_long : Stmt := topS 42
def N_law_long : List Str := ["state", "kind"]
def B_law_long : List Sx := [.asg (.nm 1) (.call 0 (.loc 0) [(.int 12)]), .ifs (.cmp .eq (.loc 1) (.int 0))
    [.ret (.bin .add (.bin .pow (.int 10) (.int 39)) (.call 0 (.loc 0) [(.int 9)]))]
    [], .ifs (.cmp .eq (.loc 1) (.int 1))
    [.ret (.bin .sub (.bin .sub (.int 0) (.bin .pow (.int 10) (.int 38))) (.call 0 (.loc 0) [(.int 9)]))]
    [], .ret (.call 1 (.loc 0) [])]
noncomputable def G_law_long : GV := ⟨[("_law_draw", 2, F_law_draw), ("_law_number", 1, F_law_number)], [], [], false⟩
noncomputable def F_law_long : List W → Sto → Rs W := runV G_law_long 2 B_law_long
theorem e_law_long {w0 : W} {S : Sto} : F_law_long [w0] S = (evSs G_law_long B_law_long [some w0, none] S).out := rfl
/-! _law_text_form -/
abbrev s_law_text_form : Stmt := topS 43
def N_law_text_form : List Str := ["state", "head", "k", "tail"]
def B_law_text_form : List Sx := [.asg (.nm 1) (.comp false (.idx (.lst false [.non, (.call 1 (.loc 0) [])]) (.blt .int (.cmp .gt (.call 0 (.loc 0) [(.int 4)]) (.int 0)) [])) (.nm 2) .rng1 [(.call 0 (.loc 0) [(.int 6)])] [] [("k", 2)]), .asg (.nm 3) (.comp false (.idx (.lst false [(.tup [.non, (.int 0)]), (.tup [(.call 1 (.loc 0) []), (.call 1 (.loc 0) [])])]) (.blt .int (.cmp .gt (.call 0 (.loc 0) [(.int 4)]) (.int 0)) [])) (.nm 2) .rng1 [(.bin .add (.int 1) (.call 0 (.loc 0) [(.int 4)]))] [] [("k", 2)]), .ret (.tup [(.blt .tupT (.loc 1) []), (.blt .tupT (.loc 3) [])])]
noncomputable def G_law_text_form : GV := ⟨[("_law_draw", 2, F_law_draw), ("_law_long", 1, F_law_long)], [], ["range", "int", "tuple"], false⟩
noncomputable def F_law_text_form : List W → Sto → Rs W := runV G_law_text_form 4 B_law_text_form
theorem e_law_text_form {w0 : W} {S : Sto} : F_law_text_form [w0] S = (evSs G_law_text_form B_law_text_form [some w0, none, none, none] S).out := rfl
/-! _law_paper -/
abbrev s_law_paper : Stmt := topS 44
def N_law_paper : List Str := ["state", "count", "paper", "k"]
def B_law_paper : List Sx := [.asg (.nm 2) (.lst true []), .fors (.nm 3) .rng1 [(.loc 1)]
    [.expr (.mth .append (.loc 2) (.tup [(.call 0 (.loc 0) []), (.call 0 (.loc 0) []), (.call 0 (.loc 0) [])]) [])], .ret (.blt .tupT (.loc 2) [])]
noncomputable def G_law_paper : GV := ⟨[("_law_text_form", 1, F_law_text_form)], [], ["range", "tuple"], false⟩
noncomputable def F_law_paper : List W → Sto → Rs W := runV G_law_paper 4 B_law_paper
theorem e_law_paper {w0 w1 : W} {S : Sto} : F_law_paper [w0, w1] S = (evSs G_law_paper B_law_paper [some w0, some w1, none, none] S).out := rfl
/-! _law_lines -/
abbrev s_law_lines : Stmt := topS 45
def N_law_lines : List Str := ["paper", "lines", "triple", "part"]
def B_law_lines : List Sx := [.asg (.nm 1) (.lst true [(.str "ways")]), .fors (.nm 2) .seq [(.loc 0)]
    [.expr (.mth .append (.loc 1) (.str "to") []), .fors (.nm 3) .rng1 [(.int 3)]
    [.asg (.nm 1) (.addM (.bin .add (.loc 1) (.lst false [(.idx (.lst false [(.str "price"), (.str "count"), (.str "last")]) (.loc 3))])) (.call 0 (.idx (.loc 2) (.loc 3)) []))]], .ret (.bin .add (.loc 1) (.lst false [(.str "end")]))]
noncomputable def G_law_lines : GV := ⟨[("_law_form_lines", 1, F_law_form_lines)], [], ["range"], false⟩
noncomputable def F_law_lines : List W → Sto → Rs W := runV G_law_lines 4 B_law_lines
theorem e_law_lines {w0 : W} {S : Sto} : F_law_lines [w0] S = (evSs G_law_lines B_law_lines [some w0, none, none, none] S).out := rfl
/-! _law_read -/
abbrev s_law_read : Stmt := topS 46
def N_law_read : List Str := ["word", "lines", "e"]
def B_law_read : List Sx := [.tryR [.ifs (.cmp .eq (.loc 0) (.str "ways"))
    [.ret (.tup [(.str "read"), (.call 0 (.mth .join (.str "\n") (.loc 1) []) [])])]
    [], .ret (.tup [(.str "read"), (.call 1 (.mth .join (.str "\n") (.loc 1) []) [])])] "refused" 2]
noncomputable def G_law_read : GV := ⟨[("parse_ways", 1, Fparse_ways), ("parse_way_claim", 1, Fparse_way_claim)], [], [], true⟩
noncomputable def F_law_read : List W → Sto → Rs W := runV G_law_read 3 B_law_read
theorem e_law_read {w0 w1 : W} {S : Sto} : F_law_read [w0, w1] S = (evSs G_law_read B_law_read [some w0, some w1, none] S).out := rfl
/-! _law_refused -/
abbrev s_law_refused : Stmt := topS 47
def N_law_refused : List Str := ["word", "lines", "due", "answer", "told"]
def B_law_refused : List Sx := [.asg (.tp [3, 4]) (.call 0 (.loc 0) [(.loc 1)]), .ret (.bol true [(.cmp .eq (.loc 3) (.str "refused")), (.isi .tint (.loc 4)), (.nt (.isi .tbool (.loc 4))), (.cmp .eq (.loc 4) (.loc 2))])]
noncomputable def G_law_refused : GV := ⟨[("_law_read", 2, F_law_read)], [], ["isinstance", "int", "bool"], false⟩
noncomputable def F_law_refused : List W → Sto → Rs W := runV G_law_refused 5 B_law_refused
theorem e_law_refused {w0 w1 w2 : W} {S : Sto} : F_law_refused [w0, w1, w2] S = (evSs G_law_refused B_law_refused [some w0, some w1, some w2, none, none] S).out := rfl
/-! _law_wrong_line -/
abbrev s_law_wrong_line : Stmt := topS 48
def N_law_wrong_line : List Str := ["state", "wrong"]
def B_law_wrong_line : List Sx := [.asg (.nm 1) (.lst false [(.str ""), (.str " end"), (.str "end "), (.str "nonsense"), (.str "to 1"), (.str "price 1"), (.str "count count"), (.str "last -1"), (.str "head 01"), (.str "tail"), (.str "tail 1"), (.str "To")]), .asg (.nm 1) (.bin .add (.loc 1) (.lst false [(.str "tail 1/2/3"), (.bin .add (.str "head ") (.bin .mul (.str "1") (.int 41))), (.bin .add (.str "head -") (.bin .mul (.str "1") (.int 40))), (.str "way"), (.str "paper"), (.str "to\t"), (.str "price\t"), (.str "office a")])), .ret (.idx (.loc 1) (.call 0 (.loc 0) [(.blt .len (.loc 1) [])]))]
noncomputable def G_law_wrong_line : GV := ⟨[("_law_draw", 2, F_law_draw)], [], ["len"], false⟩
noncomputable def F_law_wrong_line : List W → Sto → Rs W := runV G_law_wrong_line 2 B_law_wrong_line
theorem e_law_wrong_line {w0 : W} {S : Sto} : F_law_wrong_line [w0] S = (evSs G_law_wrong_line B_law_wrong_line [some w0, none] S).out := rfl
/-! _law_paper_holds -/
abbrev s_law_paper_holds : Stmt := topS 49
def N_law_paper_holds : List Str := ["state", "paper", "lines", "told", "count", "cut", "k", "at", "place", "line", "due", "many"]
def B_law_paper_holds : List Sx := [.asg (.nm 2) (.call 0 (.loc 1) []), .ifs (.cmp .ne (.call 1 (.str "ways") [(.loc 2)]) (.tup [(.str "read"), (.loc 1)]))
    [.ret (.bl false)]
    [], .asg (.nm 3) (.call 2 (.loc 1) []), .ifs (.bol false [(.nt (.isi .tstr (.loc 3))), (.cmp .ne (.loc 3) (.mth .join (.str "\n") (.loc 2) []))])
    [.ret (.bl false)]
    [], .asg (.nm 4) (.blt .len (.loc 2) []), .asg (.nm 5) (.call 3 (.loc 0) [(.loc 4)]), .ifs (.bol false [(.nt (.call 4 (.str "ways") [(.sli (.loc 2) [] [(.loc 5)]), (.loc 5)])), (.nt (.call 4 (.str "ways") [(.bin .add (.loc 2) (.lst false [(.str "to")])), (.loc 4)]))])
    [.ret (.bl false)]
    [], .fors (.nm 6) .rng1 [(.int 3)]
    [.asg (.nm 7) (.call 3 (.loc 0) [(.loc 4)]), .ifs (.nt (.call 4 (.str "ways") [(.bin .add (.bin .add (.sli (.loc 2) [] [(.loc 7)]) (.lst false [(.call 5 (.loc 0) [])])) (.sli (.loc 2) [(.bin .add (.loc 7) (.int 1))] [])), (.loc 7)]))
    [.ret (.bl false)]
    []], .asg (.nm 7) (.bin .add (.int 1) (.bin .mul (.int 10) (.call 3 (.loc 0) [(.blt .len (.loc 1) [])]))), .fors (.tp [8, 9]) .seq [(.lst false [(.tup [(.bin .add (.loc 7) (.int 1)), (.str "count")]), (.tup [(.bin .add (.loc 7) (.int 4)), (.str "last")]), (.tup [(.bin .add (.loc 7) (.int 7)), (.str "to")]), (.tup [(.bin .add (.loc 7) (.int 2)), (.str "tail 1/0")]), (.tup [(.bin .add (.loc 7) (.int 3)), (.str "end")]), (.tup [(.bin .add (.loc 7) (.int 4)), (.str "end")])])]
    [.ifs (.nt (.call 4 (.str "ways") [(.bin .add (.bin .add (.sli (.loc 2) [] [(.loc 8)]) (.lst false [(.loc 9)])) (.sli (.loc 2) [(.bin .add (.loc 8) (.int 1))] [])), (.loc 8)]))
    [.ret (.bl false)]
    []], .asg (.nm 10) (.idx (.lst false [(.bin .add (.loc 7) (.int 1)), (.loc 7)]) (.blt .int (.cmp .eq (.loc 7) (.int 1)) [])), .ifs (.nt (.call 4 (.str "ways") [(.bin .add (.bin .add (.sli (.loc 2) [] [(.loc 7)]) (.lst false [(.str "end")])) (.sli (.loc 2) [(.bin .add (.loc 7) (.int 1))] [])), (.loc 10)]))
    [.ret (.bl false)]
    [], .asg (.nm 11) (.bin .add (.bin .add (.lst false [(.str "ways")]) (.bin .mul (.sli (.call 0 (.sli (.loc 1) [] [(.int 1)]) []) [(.int 1)] [(.int 11)]) (.int 9))) (.lst false [(.str "end")])), .ifs (.nt (.call 4 (.str "ways") [(.loc 11), (.int 81)]))
    [.ret (.bl false)]
    [], .ret (.bol true [(.cmp .eq (.call 1 (.str "ways") [(.bin .add (.sli (.loc 11) [] [(.int 81)]) (.lst false [(.str "end")]))]) (.tup [(.str "read"), (.bin .mul (.sli (.loc 1) [] [(.int 1)]) (.int 8))])), (.call 4 (.str "ways") [(.lst false [(.str "ways"), (.str "end")]), (.int 1)])])]
noncomputable def G_law_paper_holds : GV := ⟨[("_law_lines", 1, F_law_lines), ("_law_read", 2, F_law_read), ("format_ways", 1, Fformat_ways), ("_law_draw", 2, F_law_draw), ("_law_refused", 3, F_law_refused), ("_law_wrong_line", 1, F_law_wrong_line)], [], ["isinstance", "str", "len", "range", "int"], false⟩
noncomputable def F_law_paper_holds : List W → Sto → Rs W := runV G_law_paper_holds 12 B_law_paper_holds
theorem e_law_paper_holds {w0 w1 : W} {S : Sto} : F_law_paper_holds [w0, w1] S = (evSs G_law_paper_holds B_law_paper_holds [some w0, some w1, none, none, none, none, none, none, none, none, none, none] S).out := rfl
/-! _law_claim -/
abbrev s_law_claim : Stmt := topS 50
def N_law_claim : List Str := ["state", "names", "parts", "k", "word"]
def B_law_claim : List Sx := [.asg (.nm 1) (.lst false [(.str "claim"), (.str "end"), (.str "nearer"), (.str "none"), (.str "over"), (.str "reached"), (.str "ways"), (.str "within")]), .asg (.nm 2) (.comp false (.idx (.lst false [(.call 0 (.loc 0) []), (.idx (.loc 1) (.call 1 (.loc 0) [(.int 8)]))]) (.call 1 (.loc 0) [(.int 2)])) (.nm 3) .rng1 [(.int 3)] [] [("k", 3)]), .asg (.nm 4) (.idx (.lst false [(.str "reached"), (.str "nearer"), (.str "over"), (.str "within")]) (.call 1 (.loc 0) [(.int 4)])), .ifs (.cmp .isin (.loc 4) (.lst false [(.str "nearer"), (.str "over")]))
    [.ret (.tup [(.loc 4), (.idx (.loc 2) (.int 0)), (.idx (.loc 2) (.int 1)), (.idx (.loc 2) (.int 2))])]
    [], .ret (.tup [(.loc 4), (.idx (.loc 2) (.int 0)), (.idx (.loc 2) (.int 1)), (.blt .abs (.call 2 (.loc 0) []) [])])]
noncomputable def G_law_claim : GV := ⟨[("_law_name", 1, F_law_name), ("_law_draw", 2, F_law_draw), ("_law_long", 1, F_law_long)], [], ["range", "abs"], false⟩
noncomputable def F_law_claim : List W → Sto → Rs W := runV G_law_claim 5 B_law_claim
theorem e_law_claim {w0 : W} {S : Sto} : F_law_claim [w0] S = (evSs G_law_claim B_law_claim [some w0, none, none, none, none] S).out := rfl
/-! _law_claim_holds -/
abbrev s_law_claim_holds : Stmt := topS 51
def N_law_claim_holds : List Str := ["state", "claim", "line", "told", "short", "other", "wrong", "one", "lines", "due"]
def B_law_claim_holds : List Sx := [.asg (.nm 2) (.bin .add (.bin .add (.bin .add (.bin .add (.bin .add (.bin .add (.bin .add (.str "claim ") (.idx (.loc 1) (.int 0))) (.str " ")) (.idx (.loc 1) (.int 1))) (.str " ")) (.idx (.loc 1) (.int 2))) (.str " ")) (.blt .strI (.idx (.loc 1) (.int 3)) [])), .ifs (.cmp .ne (.call 0 (.str "claim") [(.lst false [(.loc 2), (.str "end")])]) (.tup [(.str "read"), (.loc 1)]))
    [.ret (.bl false)]
    [], .asg (.nm 3) (.call 1 (.loc 1) []), .ifs (.bol false [(.nt (.isi .tstr (.loc 3))), (.cmp .ne (.loc 3) (.bin .add (.loc 2) (.str "\nend")))])
    [.ret (.bl false)]
    [], .asg (.nm 4) (.bin .add (.bin .add (.bin .add (.bin .add (.bin .add (.str "claim ") (.idx (.loc 1) (.int 0))) (.str " ")) (.idx (.loc 1) (.int 1))) (.str " ")) (.idx (.loc 1) (.int 2))), .asg (.nm 5) (.idx (.lst false [(.str " -1"), (.str " 01"), (.bin .add (.str " ") (.bin .mul (.str "1") (.int 41))), (.str " none"), (.str " a1")]) (.call 2 (.loc 0) [(.int 5)])), .ifs (.cmp .isin (.idx (.loc 1) (.int 0)) (.lst false [(.str "nearer"), (.str "over")]))
    [.asg (.nm 5) (.idx (.lst false [(.str " 1"), (.str " A"), (.str " caf_"), (.str " a1"), (.str " abcdefghijklm")]) (.call 2 (.loc 0) [(.int 5)]))]
    [], .asg (.nm 6) (.lst false [(.loc 4), (.bin .add (.loc 2) (.str " a")), (.bin .add (.loc 2) (.str " ")), (.bin .add (.str "Claim") (.sli (.loc 2) [(.int 5)] [])), (.str "claim least a b c"), (.str ""), (.str "claim"), (.bin .add (.loc 4) (.loc 5))]), .asg (.nm 6) (.bin .add (.loc 6) (.lst false [(.bin .add (.bin .add (.bin .add (.bin .add (.str "claim ") (.idx (.loc 1) (.int 0))) (.str " A ")) (.idx (.loc 1) (.int 2))) (.sli (.loc 2) [(.blt .len (.loc 4) [])] [])), (.bin .add (.bin .add (.bin .add (.bin .add (.bin .add (.str "claim ") (.idx (.loc 1) (.int 0))) (.str " ")) (.idx (.loc 1) (.int 1))) (.str " 3")) (.sli (.loc 2) [(.blt .len (.loc 4) [])] []))])), .fors (.nm 7) .seq [(.loc 6)]
    [.ifs (.nt (.call 3 (.str "claim") [(.lst false [(.loc 7), (.str "end")]), (.int 0)]))
    [.ret (.bl false)]
    []], .fors (.tp [8, 9]) .seq [(.lst false [(.tup [(.lst false [(.loc 2)]), (.int 1)]), (.tup [(.lst false [(.loc 2), (.str "")]), (.int 1)]), (.tup [(.lst false [(.loc 2), (.loc 2)]), (.int 1)]), (.tup [(.lst false [(.loc 2), (.str "end"), (.str "end")]), (.int 2)]), (.tup [(.lst false [(.loc 2), (.str "end ")]), (.int 1)])])]
    [.ifs (.nt (.call 3 (.str "claim") [(.loc 8), (.loc 9)]))
    [.ret (.bl false)]
    []], .ret (.bl true)]
noncomputable def G_law_claim_holds : GV := ⟨[("_law_read", 2, F_law_read), ("format_way_claim", 1, Fformat_way_claim), ("_law_draw", 2, F_law_draw), ("_law_refused", 3, F_law_refused)], [], ["str", "isinstance", "len"], false⟩
noncomputable def F_law_claim_holds : List W → Sto → Rs W := runV G_law_claim_holds 10 B_law_claim_holds
theorem e_law_claim_holds {w0 w1 : W} {S : Sto} : F_law_claim_holds [w0, w1] S = (evSs G_law_claim_holds B_law_claim_holds [some w0, some w1, none, none, none, none, none, none, none, none] S).out := rfl
/-! law -/
abbrev slaw : Stmt := topS 52
def Nlaw : List Str := ["script", "state", "paper", "k"]
def Blaw : List Sx := [.asg (.nm 1) (.call 0 (.loc 0) []), .asg (.nm 2) (.call 1 (.loc 1) [(.idx (.lst false [(.bin .add (.int 1) (.call 2 (.loc 1) [(.int 3)])), (.bin .add (.int 1) (.call 2 (.loc 1) [(.int 8)]))]) (.call 2 (.loc 1) [(.int 2)]))]), .ifs (.nt (.call 3 (.loc 1) [(.loc 2)]))
    [.ret (.bl false)]
    [], .fors (.nm 3) .rng1 [(.int 4)]
    [.ifs (.nt (.call 4 (.loc 1) [(.call 5 (.loc 1) [])]))
    [.ret (.bl false)]
    []], .ret (.bol true [(.call 6 (.str "ways") [(.lst false [(.str "")]), (.int 0)]), (.call 6 (.str "claim") [(.lst false [(.str "")]), (.int 0)])])]
noncomputable def Glaw : GV := ⟨[("_law_state", 1, F_law_state), ("_law_paper", 2, F_law_paper), ("_law_draw", 2, F_law_draw), ("_law_paper_holds", 2, F_law_paper_holds), ("_law_claim_holds", 2, F_law_claim_holds), ("_law_claim", 1, F_law_claim), ("_law_refused", 3, F_law_refused)], [], ["range"], false⟩
noncomputable def Flaw : List W → Sto → Rs W := runV Glaw 4 Blaw
theorem elaw {w0 : W} {S : Sto} : Flaw [w0] S = (evSs Glaw Blaw [some w0, none, none, none] S).out := rfl
end K92

namespace K92
open PySem PySem.Spec PyProof.Rows L2 Z
/-! ### the program's small functions -/
theorem v_is_integer {S : Sto} {d : D} (h : pln d = true) : Fis_integer [.v d] S = .ok (.v (.bl (Z.isInt d))) S := by
  rw [eis_integer]
  unfold Bis_integer Gis_integer
  cases d <;> first | (simp [pln] at h; done) | simp [isTy, Z.isInt, asL]
def figS (x : Str) : Bool := !decide (x = "") && rngS 48 57 x
def lowS (x : Str) : Bool := decide (1 ≤ x.length) && decide (x.length ≤ 12) && rngS 97 122 x
theorem v_is_figures {S : Sto} {x : Str} (hl : x.length ≤ sizeLine) : Fis_figures [.v (.str x)] S = .ok (.v (.bl (figS x))) S := by
  rw [eis_figures]
  unfold Bis_figures Gis_figures figS
  by_cases h : x = ""
  · simp [h, COp.vo]
  · simp [h, COp.vo, itW, itmW, itemsA, hl]
    rw [all_chars 1 x c_0 c_9 (fun d => rfl)]
    simp [Bt.wo]
theorem v_is_name {S : Sto} {x : Str} (hl : x.length ≤ sizeLine) : Fis_name [.v (.str x)] S = .ok (.v (.bl (lowS x))) S := by
  rw [eis_name]
  unfold Bis_name Gis_name lowS
  have e1 : lenA M00 (.str x) = some (.int x.length) := if_pos hl
  by_cases h1 : 1 ≤ x.length
  · by_cases h2 : x.length ≤ 12
    · have h1' : (1 : Int) ≤ x.length := by omega
      have h2' : (x.length : Int) ≤ 12 := by omega
      simp [h1', h2', COp.vo, isTy, Bt.wo, e1, itW, itmW, itemsA, hl, h1, h2]
      rw [all_chars 1 x c_a c_z (fun d => rfl)]
      simp [Bt.wo]
    · have h1' : (1 : Int) ≤ x.length := by omega
      have h2' : ¬ (x.length : Int) ≤ 12 := by omega
      simp [h1', h2', COp.vo, isTy, Bt.wo, e1, h2]
  · have h1' : ¬ (1 : Int) ≤ x.length := by omega
    simp [h1', COp.vo, isTy, Bt.wo, e1, h1]
end K92

namespace K92
open PySem PySem.Spec PyProof.Rows L2 Z
/-- the words of a line -/
def wds (x : Str) : Option (List Str) := if rngS 32 126 x = true then (if ("" : Str) ∈ Txt.split x " " then none else some (Txt.split x " ")) else none
structure Wok (x : Str) (ws : List Str) : Prop where
  ok : ∀ w ∈ ws, okS w
  len : ws.length ≤ x.length + 1
  part : ∀ w ∈ ws, w.length ≤ x.length
  ne : ∀ w ∈ ws, w ≠ ""
theorem prn_ok {x : Str} (h : rngS 32 126 x = true) : ∀ c ∈ tl x, c < 128 := by
  intro c hc
  have := List.all_eq_true.mp h c hc
  simp only [Bool.and_eq_true, decide_eq_true_eq] at this
  omega
theorem wds_ok {x : Str} {ws : List Str} (h : wds x = some ws) : Wok x ws := by
  unfold wds at h
  split at h
  · rename_i hp
    split at h
    · cases h
    · rename_i hn
      cases h
      refine ⟨fun w hw => okS_of fun c hc => prn_ok hp c (split_mem hw hc), split_len (by decide +kernel), fun w hw => split_part hw, fun w hw e => ?_⟩
      exact hn (e ▸ hw)
  · cases h
def wdsD (x : Str) : D := match wds x with | some ws => lns ws | none => .non
theorem sl1000 : (1000 : Nat) + 2 ≤ sizeLine := by decide
theorem v_words_of {S : Sto} {x : Str} (hl : x.length ≤ 1000) : Fwords_of [.v (.str x)] S = .ok (.v (wdsD x)) S := by
  have s0 := sl1000
  have hl' : x.length ≤ sizeLine := by omega
  rw [ewords_of]
  unfold Bwords_of Gwords_of wdsD
  simp [COp.vo, itW, itmW, itemsA, hl']
  rw [all_chars 1 x c_sp c_ti (fun d => rfl)]
  simp [Bt.wo]
  unfold wds
  cases h : rngS 32 126 x with
  | false => simp
  | true =>
    have lay' : layL 59 ((Txt.split x " ").map D.str) = true := layL_str 59 _ fun w hw => okS_of fun c hc => prn_ok h c (split_mem hw hc)
    have e1 : ((" " : Str).length == 0) = false := by decide +kernel
    have hin : inW S (.v (.str "")) (.v (lns (Txt.split x " "))) = some (decide (("" : Str) ∈ Txt.split x " ")) := by
      show (if inOk (.str "") ((Txt.split x " ").map D.str) = true then some (((Txt.split x " ").map D.str).any fun z => eqv z (.str "")) else none) = _
      rw [if_pos (by unfold inOk; rw [lay']; decide +kernel), List.any_map]
      congr 1
      have : ((Txt.split x " ").any ((fun z => eqv z (.str "")) ∘ D.str)) = (Txt.split x " ").any fun z => z == "" := rfl
      rw [this]
      apply Bool.eq_iff_iff.mpr
      rw [List.any_eq_true, decide_eq_true_eq]
      constructor
      · rintro ⟨z, hz, e⟩
        have : z = "" := eq_of_beq e
        rw [← this]; exact hz
      · intro hz
        exact ⟨_, hz, beq_self_eq_true _⟩
    simp [wo_split e1 (show x.length + 2 ≤ sizeLine by omega), hin]
    by_cases h2 : ("" : Str) ∈ Txt.split x " " <;> simp [h2]
/-! ### words_at, begin, finish -/
def IL (i : Nat) : Exc := ⟨"InvalidLine", some (.int i)⟩
abbrev Pr (α : Type) := Except Nat α
def enc {α : Type} (f : α → D) (S : Sto) : Pr α → Rs W
  | .ok a => .ok (.v (f a)) S
  | .error i => .ex (IL i) S
@[simp] theorem enc_ok {α : Type} {f : α → D} {S : Sto} {a : α} : enc f S (.ok a) = .ok (.v (f a)) S := rfl
@[simp] theorem enc_er {α : Type} {f : α → D} {S : Sto} {i : Nat} : enc f S (.error i) = .ex (IL i) S := rfl
def wAt (ls : List Str) (i : Nat) : Pr (List Str) := match (ls[i]?).bind wds with | some w => .ok w | none => .error i
/-- lines as they come -/
structure Lok (ls : List Str) : Prop where
  len : ls.length ≤ 1000
  each : ∀ l ∈ ls, l.length ≤ 1000
theorem v_words_at {S : Sto} {ls : List Str} (L : Lok ls) (i : Nat) : Fwords_at [.v (lns ls), .v (.int i)] S = enc lns S (wAt ls i) := by
  rw [ewords_at]
  unfold Bwords_at Gwords_at wAt
  by_cases h : i < ls.length
  · have h' : (i : Int) < ls.length := by omega
    have e : ls[i]? = some ls[i] := List.getElem?_eq_getElem h
    have hx := L.each _ (List.getElem_mem h)
    simp [Bt.wo, COp.vo, h', e, ix_lns e, callV, v_words_of hx]
    unfold wdsD
    cases hw : wds ls[i] with
    | none => simp [IL]
    | some w => simp
  · have h' : ¬ (i : Int) < ls.length := by omega
    have e : ls[i]? = none := List.getElem?_eq_none (by omega)
    simp [Bt.wo, COp.vo, h', e, IL]
end K92

/-! numbers as words -/
namespace K92
open PySem PySem.Spec PyProof.Rows L2 Z
/-- an integer's text -/
def dec (i : Int) : Str := Str.ofString (toString i)
def digS (l : List Nat) : Bool := !l.isEmpty && l.all fun c => decide (48 ≤ c) && decide (c ≤ 57)
def body (w : Str) : List Nat := match tl w with | 45 :: r => r | l => l
def valS (w : Str) : Int := match tl w with | 45 :: r => -(NumText.digitsVal r : Nat) | l => (NumText.digitsVal l : Nat)
/-- a word that is an integer -/
def num (w : Str) : Option Int := if w.length ≤ 40 ∧ digS (body w) = true ∧ (dec (valS w) = w) then some (valS w) else none
theorem digitsVal_lt : ∀ (l : List Nat) (a : Nat), NumText.AllDigits l → l.foldl (fun acc c => acc * 10 + (c - 48)) a < (a + 1) * 10 ^ l.length
  | [], a, _ => by simp
  | c :: r, a, h => by
    have hc := h.head
    have := digitsVal_lt r (a * 10 + (c - 48)) h.tail
    rw [List.foldl_cons, List.length_cons, Nat.pow_succ]
    refine Nat.lt_of_lt_of_le this ?_
    have h1 : a * 10 + (c - 48) + 1 ≤ (a + 1) * 10 := by omega
    calc (a * 10 + (c - 48) + 1) * 10 ^ r.length ≤ (a + 1) * 10 * 10 ^ r.length := Nat.mul_le_mul_right _ h1
      _ = (a + 1) * (10 ^ r.length * 10) := by rw [Nat.mul_assoc, Nat.mul_comm 10]
theorem digS_all {l : List Nat} (h : digS l = true) : NumText.AllDigits l ∧ l ≠ [] := by
  unfold digS at h
  rw [Bool.and_eq_true] at h
  refine ⟨fun c hc => ?_, fun e => ?_⟩
  · have := List.all_eq_true.mp h.2 c hc
    simpa using this
  · subst e; exact absurd h.1 (by simp)
theorem valS_small {w : Str} (h1 : w.length ≤ 40) (h2 : digS (body w) = true) : (valS w).natAbs < 10 ^ 40 := by
  obtain ⟨ha, hn⟩ := digS_all h2
  have hb : (body w).length ≤ 40 := by
    rw [TL.len_tl] at h1
    unfold body
    split
    · rename_i r e
      have e : TL.tl w = 45 :: r := e
      rw [e, List.length_cons] at h1
      omega
    · exact h1
  have := digitsVal_lt (body w) 0 ha
  have h3 : NumText.digitsVal (body w) < 10 ^ 40 := by
    refine Nat.lt_of_lt_of_le (show NumText.digitsVal (body w) < (0 + 1) * 10 ^ (body w).length from this) ?_
    rw [Nat.zero_add, Nat.one_mul]
    exact Nat.pow_le_pow_right (by decide) hb
  unfold body at h3
  unfold valS
  split
  · rename_i r e
    have e : tl w = 45 :: r := e
    rw [e] at h3
    simpa using h3
  · rename_i hno
    split at h3
    · rename_i r e; exact absurd e (hno r)
    · simpa using h3
theorem log_small {i : Int} (h : i.natAbs < 10 ^ 40) : i.natAbs.log2 < 1920 := by
  by_cases h0 : i.natAbs = 0
  · rw [h0]; decide
  · rw [Nat.log2_lt h0]
    exact Nat.lt_trans h (by decide)
theorem int_valS {w : Str} (h1 : w.length ≤ 40) (h2 : digS (body w) = true) : intText? w = some (valS w) := by
  obtain ⟨ha, hn⟩ := digS_all h2
  unfold body at ha hn
  unfold valS
  split at ha
  · rename_i r e
    rw [e] at hn
    exact intText_neg e ha hn (by omega)
  · rename_i hno
    have hn : tl w ≠ [] := by
      intro e
      apply hn
      split
      · rename_i r e2; exact absurd e2 (hno r)
      · exact e
    exact intText_digits ha hn (by omega)
theorem starts_mi (w : Str) : Txt.startswith w "-" = (match tl w with | 45 :: _ => true | _ => false) := by
  rw [c_mi]
  unfold Txt.startswith Builtin.Str.subAt
  obtain ⟨⟨l⟩⟩ := w
  cases l with
  | nil => rfl
  | cons c r =>
    show (decide (0 + 1 ≤ (c :: r).length) && (((c :: r).toArray.extract 0 (0 + 1)) == #[45])) = _
    rw [show decide (0 + 1 ≤ (c :: r).length) = true by simp, Bool.true_and]
    show (((c :: r).toArray.extract 0 1) == #[45]) = (match c :: r with | 45 :: _ => true | _ => false)
    have : (c :: r).toArray.extract 0 1 = #[c] := by simp
    rw [this]
    by_cases e : c = 45
    · subst e; rfl
    · have : (#[c] == #[45]) = false := by simpa using e
      rw [this]
      split
      · rename_i e2; cases e2; exact absurd rfl e
      · rfl
theorem cut1 (w : Str) : tl (cutS w (some 1) none) = (tl w).drop 1 := by
  unfold cutS
  show ((w.cps.toList.drop (HT.sIx w.length 0 (some ((1 : Nat) : Int)))).take (HT.sIx w.length w.length none - HT.sIx w.length 0 (some ((1 : Nat) : Int)))) = _
  rw [HT.sIx_none, HT.sIx_nat]
  have e : w.cps.toList.length = w.length := by simp [Str.length]
  by_cases h : 1 ≤ w.length
  · rw [Nat.min_eq_left h]
    apply List.take_of_length_le
    rw [List.length_drop, e]
    exact Nat.le_refl _
  · have h0 : w.length = 0 := by omega
    have : w.cps.toList = [] := List.eq_nil_of_length_eq_zero (by rw [e]; exact h0)
    show _ = w.cps.toList.drop 1
    rw [this]; simp
theorem figS_dig (x : Str) : figS x = digS (tl x) := by
  unfold figS digS rngS
  congr 1
  by_cases h : x = ""
  · subst h; decide +kernel
  · have : tl x ≠ [] := fun e => h (TL.ext_tl (by rw [show TL.tl x = [] from e]; decide +kernel))
    cases q : tl x with
    | nil => exact absurd q this
    | cons c r => simp [h]
def optI : Option Int → D | some n => .int n | none => .non
theorem v_integer_of {S : Sto} {w : Str} (hl : w.length ≤ 1000) : Finteger_of [.v (.str w)] S = .ok (.v (optI (num w))) S := by
  have s0 := sl1000
  have hl' : w.length ≤ sizeLine := by omega
  rw [einteger_of]
  unfold Binteger_of Ginteger_of num
  have el : lenA M00 (.str w) = some (.int w.length) := if_pos hl'
  -- the figures
  have key : ∀ f : Str, f.length ≤ 1000 → tl f = body w → (evSs ⟨[("is_figures", 1, Fis_figures)], [("MAX_SIGNS", D.int 40)], ["len", "str", "int"], false⟩ (Binteger_of.drop 1) [some (.v (.str w)), some (.v (.str f))] S).out = .ok (.v (optI (if w.length ≤ 40 ∧ digS (body w) = true ∧ (dec (valS w) = w) then some (valS w) else none))) S := by
    intro f hf ef
    have h2 : figS f = digS (body w) := by rw [figS_dig, ef]
    have hf' : f.length ≤ sizeLine := by omega
    unfold Binteger_of
    by_cases h40 : w.length ≤ 40
    · have h40' : ¬ (40 : Int) < w.length := by omega
      cases hd : digS (body w) with
      | false => simp [Bt.wo, el, cstV, COp.vo, h40', callV, v_is_figures hf', h2, hd, optI]
      | true =>
        have hi := int_valS h40 hd
        have e1 : intA M00 (.str w) = some (.int (valS w)) := by
          show (if w.length ≤ 640 then (match intText? w with | some n => some (D.int n) | none => none) else none) = _
          rw [if_pos (by omega), hi]
        have e2 : strA M00 (.int (valS w)) = some (.str (dec (valS w))) := if_pos (log_small (valS_small h40 hd))
        by_cases hs : dec (valS w) = w
        · simp [Bt.wo, el, cstV, COp.vo, h40', callV, v_is_figures hf', h2, hd, e1, e2, hs, h40, optI]
        · simp [Bt.wo, el, cstV, COp.vo, h40', callV, v_is_figures hf', h2, hd, e1, e2, hs, h40, optI]
    · have h40' : (40 : Int) < w.length := by omega
      simp [Bt.wo, el, cstV, COp.vo, h40', h40, optI]
  cases hs : Txt.startswith w "-" with
  | true =>
    have e0 : vsl (.str w) (some 1) none = some (.str (cutS w (some 1) none)) := if_pos hl'
    have hb : tl (cutS w (some 1) none) = body w := by
      rw [cut1]
      rw [starts_mi] at hs
      unfold body
      split at hs
      · rename_i r e; rw [e]; rfl
      · cases hs
    have hc : (cutS w (some 1) none).length ≤ 1000 := Nat.le_trans (cutS_length _ _ _) hl
    have := key _ hc hb
    unfold Binteger_of at this
    simp [hs, e0] at this ⊢
    exact this
  | false =>
    have hb : tl w = body w := by
      rw [starts_mi] at hs
      unfold body
      split at hs
      · cases hs
      · rfl
    have := key w hl hb
    unfold Binteger_of at this
    simp [hs] at this ⊢
    exact this
end K92

/-! forms as lines -/
namespace K92
open PySem PySem.Spec PyProof.Rows L2 Z
/-- a member of a head: none where it is none -/
def opt (w : Str) : Option (Option Int) := if w = "none" then some none else (num w).map some
def optD (w : Str) : D := if w = "none" then .non else match num w with | some n => .int n | none => .str w
theorem v_optional_of {S : Sto} {w : Str} (hl : w.length ≤ 1000) : Foptional_of [.v (.str w), .v (.str "none")] S = .ok (.v (optD w)) S := by
  rw [eoptional_of]
  unfold Boptional_of Goptional_of optD
  by_cases h : w = "none"
  · simp [h, COp.vo]
  · simp [h, COp.vo, callV, v_integer_of hl]
    cases num w <;> simp [optI]
theorem optD_pln (w : Str) : pln (optD w) = true := by
  unfold optD
  split
  · rfl
  · split <;> rfl
section
variable {S : Sto}
@[simp] theorem vii_int {i : Int} : Fis_integer [.v (.int i)] S = .ok (.v (.bl true)) S := v_is_integer rfl
@[simp] theorem vii_non : Fis_integer [.v .non] S = .ok (.v (.bl false)) S := v_is_integer rfl
@[simp] theorem vii_bl {i : Bool} : Fis_integer [.v (.bl i)] S = .ok (.v (.bl false)) S := v_is_integer rfl
@[simp] theorem vii_str {i : Str} : Fis_integer [.v (.str i)] S = .ok (.v (.bl false)) S := v_is_integer rfl
@[simp] theorem vii_tp {k : TK} {i : List D} : Fis_integer [.v (.tp k i)] S = .ok (.v (.bl false)) S := v_is_integer rfl
@[simp] theorem vii_lst {i : List D} : Fis_integer [.v (.lst i)] S = .ok (.v (.bl false)) S := v_is_integer rfl
end
theorem v_is_bound {S : Sto} {d : D} (h : pln d = true) : Fis_bound [.v d] S = .ok (.v (.bl (Z.isNon d || Z.isInt d))) S := by
  rw [eis_bound]
  unfold Bis_bound Gis_bound
  cases d <;> first | (simp [pln] at h; done) | simp [COp.vo, callV, Z.isNon, Z.isInt]
theorem optD_bnd (w : Str) : (Z.isNon (optD w) || Z.isInt (optD w)) = (opt w).isSome := by
  unfold optD opt
  split
  · rfl
  · cases num w <;> rfl
/-- a member of a tail -/
def pr (w : Str) : Option (Option Int × Int) := if w = "none" then some (none, 0) else match Txt.split w "/" with
  | [a, b] => match num a, num b with | some v, some s => some (some v, s) | _, _ => none
  | _ => none
def prD : Option (Option Int × Int) → D
  | some (v, s) => .tup [optI v, .int s]
  | none => .non
theorem v_pair_of {S : Sto} {w : Str} (hl : w.length ≤ 1000) : F_pair_of [.v (.str w)] S = .ok (.v (prD (pr w))) S := by
  have s0 := sl1000
  rw [e_pair_of]
  unfold B_pair_of G_pair_of pr
  by_cases h : w = "none"
  · simp [h, COp.vo, prD, optI, show (2 : Nat) ≤ sizeLine by decide]
  · have e1 : (("/" : Str).length == 0) = false := by decide +kernel
    simp [h, COp.vo, wo_split e1 (show w.length + 2 ≤ sizeLine by omega), Bt.wo]
    have hp := fun z (hz : z ∈ Txt.split w "/") => split_part hz
    revert hp
    generalize Txt.split w "/" = ps
    intro hp
    match ps with
    | [] => simp [prD]
    | [a] => simp [prD]
    | [a, b] =>
      have ha := hp a (by simp)
      have hb := hp b (by simp)
      have i0 : ixW S (.v (lns [a, b])) (.v (.int 0)) = some (.v (.str a)) := ix_lns (i := 0) rfl
      have i1 : ixW S (.v (lns [a, b])) (.v (.int 1)) = some (.v (.str b)) := ix_lns (i := 1) rfl
      simp [i0, i1, callV, v_integer_of (show a.length ≤ 1000 by omega), v_integer_of (show b.length ≤ 1000 by omega)]
      cases num a with
      | none => simp [optI, prD]
      | some v =>
        cases num b with
        | none => simp [optI, prD]
        | some s => simp [optI, prD, show (2 : Nat) ≤ sizeLine by decide]
    | a :: b :: c :: r =>
      have : ¬ ((r.length : Int) + 1 + 1 + 1 = 2) := by omega
      simp [this, prD]
theorem v_is_pair {S : Sto} {p : Option (Option Int × Int)} (hp : ∀ s, p = some (none, s) → s = 0) : F_is_pair [.v (prD p)] S = .ok (.v (.bl p.isSome)) S := by
  rw [e_is_pair]
  unfold B_is_pair G_is_pair
  have e2 : ∀ a b : D, lenA M00 (.tp .t [a, b]) = some (.int 2) := fun _ _ => rfl
  match p, hp with
  | none, _ => simp [prD, isTy]
  | some (none, s), hp =>
    have := hp s rfl
    subst this
    simp [prD, isTy, optI, Bt.wo, e2, COp.vo, callV]
  | some (some v, s), _ =>
    simp [prD, isTy, optI, Bt.wo, e2, COp.vo, callV]
theorem pr_none (w : Str) : ∀ s, pr w = some (none, s) → s = 0 := by
  intro s h
  unfold pr at h
  split at h
  · cases h; rfl
  · split at h
    · split at h <;> cases h
    · cases h
def hB (hs : List Str) : Bool := hs.all fun w => (opt w).isSome
def pB (ps : List (Option (Option Int × Int))) : Bool := ps.all fun p => p.isSome
def ffD (hs : List Str) (ps : List (Option (Option Int × Int))) : D :=
  if hs.length ≤ 4000 ∧ hB hs = true then (if 1 ≤ ps.length ∧ ps.length ≤ 1000 ∧ pB ps = true then .non else .str "tail") else .str "head"
theorem v_form_fault {S : Sto} {hs : List Str} {ps : List (Option (Option Int × Int))} (hp : ∀ p ∈ ps, ∀ s, p = some (none, s) → s = 0) : Fform_fault [.v (.tup [.tup (hs.map optD), .tup (ps.map prD)])] S = .ok (.v (ffD hs ps)) S := by
  rw [eform_fault]
  unfold Bform_fault Gform_fault ffD
  have e2 : ∀ a b : D, lenA M00 (.tp .t [a, b]) = some (.int 2) := fun _ _ => rfl
  have eh : lenA M00 (.tp .t (hs.map optD)) = some (.int hs.length) := by show some (D.int (hs.map optD).length) = _; rw [List.length_map]
  have et : lenA M00 (.tp .t (ps.map prD)) = some (.int ps.length) := by show some (D.int (ps.map prD).length) = _; rw [List.length_map]
  simp [isTy, Bt.wo, e2, COp.vo, eh, et, cstV]
  by_cases h1 : hs.length ≤ 4000
  · have h1' : ¬ (4000 : Int) < hs.length := by omega
    simp [h1, h1']
    rw [compV_map (fun d => .bl (Z.isNon d || Z.isInt d)) (hs.map optD) (fun x hx => by
      obtain ⟨w, hw, rfl⟩ := List.mem_map.mp hx
      refine ⟨_, rfl, rfl, ?_⟩
      simp [callV, v_is_bound (optD_pln w)])]
    have e3 : allA M00 (.lst ((hs.map optD).map fun d => D.bl (Z.isNon d || Z.isInt d))) = some (.bl (hB hs)) := by
      rw [List.map_map]
      have : ((fun d => D.bl (Z.isNon d || Z.isInt d)) ∘ optD) = fun w => D.bl ((opt w).isSome) := by
        funext w; show D.bl (Z.isNon (optD w) || Z.isInt (optD w)) = _; rw [optD_bnd]
      rw [this]
      exact allA_map _ _
    have e4 : allA M00 (.lst ((ps.map prD).map fun d => D.bl (!Z.isNon d))) = some (.bl (pB ps)) := by
      rw [List.map_map]
      have : ((fun d => D.bl (!Z.isNon d)) ∘ prD) = fun p => D.bl p.isSome := by
        funext p
        cases p with
        | none => rfl
        | some p => rfl
      rw [this]
      exact allA_map _ _
    simp only [calm_ok, compR_ok, Rs.bind_ok, rd1_some' rdW_lst, e3, lfv_some]
    cases ha : hB hs with
    | false => simp
    | true =>
      by_cases h2 : 1 ≤ ps.length
      · by_cases h3 : ps.length ≤ 1000
        · have h2' : (1 : Int) ≤ ps.length := by omega
          have h3' : (ps.length : Int) ≤ 1000 := by omega
          simp [h2, h3, h2', h3', et]
          rw [compV_map (fun d => .bl (!Z.isNon d)) (ps.map prD) (fun x hx => by
            obtain ⟨p, hpm, rfl⟩ := List.mem_map.mp hx
            refine ⟨_, rfl, rfl, ?_⟩
            have : (!Z.isNon (prD p)) = p.isSome := by
              cases p with
              | none => rfl
              | some p => rfl
            simp [callV, v_is_pair (hp p hpm), this])]
          simp only [calm_ok, compR_ok, Rs.bind_ok, rd1_some' rdW_lst, e4, lfv_some]
          cases hb : pB ps <;> simp
        · have h2' : (1 : Int) ≤ ps.length := by omega
          have h3' : ¬ (ps.length : Int) ≤ 1000 := by omega
          simp [h3, h2', h3', et]
      · have h2' : ¬ (1 : Int) ≤ ps.length := by omega
        simp [h2, h2', et]
  · have h1' : (4000 : Int) < hs.length := by omega
    simp [h1, h1']
end K92

/-! reading forms, triples, papers -/
namespace K92
open PySem PySem.Spec PyProof.Rows L2 Z
theorem spl_ne (S : List Nat) : ∀ (l : List Nat) (k : Nat) (acc : List Nat), TL.spl S k acc l ≠ []
  | [], k, acc => by rw [TL.spl_nil]; simp
  | c :: r, 0, acc => by
    show (if TL.pre S (c :: r) = true then acc :: TL.spl S (S.length - 1) [] r else TL.spl S 0 (acc ++ [c]) r) ≠ []
    split
    · simp
    · exact spl_ne S r 0 _
  | c :: r, k + 1, acc => spl_ne S r k acc
theorem split_ne {x y : Str} (hy : tl y ≠ []) (hk : y.cps.all (· < 256) = true) : Txt.split x y ≠ [] := by
  intro e
  have := TL.split_spl x y hy (TL.kind_ok hk)
  rw [e] at this
  exact spl_ne _ _ _ _ this.symm
theorem wds_ne {x : Str} {ws : List Str} (h : wds x = some ws) : ws ≠ [] := by
  unfold wds at h
  split at h
  · split at h
    · cases h
    · cases h
      exact split_ne (by decide +kernel) (by decide +kernel)
  · cases h
theorem wAt_ok {ls : List Str} {i : Nat} {w : List Str} (h : wAt ls i = .ok w) : ∃ x, ls[i]? = some x ∧ wds x = some w := by
  unfold wAt at h
  cases q : ls[i]? with
  | none => rw [q] at h; cases h
  | some x =>
    rw [q] at h
    cases q2 : wds x with
    | none =>
      have h : (match (some x).bind wds with | some w => Except.ok w | none => (.error i : Pr (List Str))) = .ok w := h
      rw [show (some x).bind wds = wds x from rfl, q2] at h
      cases h
    | some w' =>
      have h : (match (some x).bind wds with | some w => Except.ok w | none => (.error i : Pr (List Str))) = .ok w := h
      rw [show (some x).bind wds = wds x from rfl, q2] at h
      cases h
      exact ⟨x, rfl, q2⟩
theorem wAt_er {ls : List Str} {i j : Nat} (h : wAt ls i = .error j) : j = i := by
  unfold wAt at h
  split at h <;> cases h
  rfl
structure W1 (w : List Str) : Prop where
  ne : w ≠ []
  ok : ∀ z ∈ w, okS z
  len : w.length ≤ 1001
  part : ∀ z ∈ w, z.length ≤ 1000
theorem wAt_w1 {ls : List Str} (L : Lok ls) {i : Nat} {w : List Str} (h : wAt ls i = .ok w) : W1 w := by
  obtain ⟨x, h1, h2⟩ := wAt_ok h
  have hx := L.each x (List.mem_of_getElem? h1)
  have k := wds_ok h2
  exact ⟨wds_ne h2, k.ok, Nat.le_trans k.len (by omega), fun z hz => Nat.le_trans (k.part z hz) hx⟩
def headW (w : List Str) : Option (List Str) := match w with
  | h :: r => if h = "head" ∧ r.length ≤ 4000 ∧ hB r = true then some r else none
  | [] => none
def tailW (w : List Str) : Option (List Str) := match w with
  | t :: r => if t = "tail" ∧ 1 ≤ r.length ∧ r.length ≤ 1000 ∧ pB (r.map pr) = true then some r else none
  | [] => none
def rdForm (ls : List Str) (i : Nat) : Pr (List Str × List Str) := match wAt ls i with
  | .error e => .error e
  | .ok w => match headW w with
    | none => .error i
    | some hs => match wAt ls (i + 1) with
      | .error e => .error e
      | .ok w2 => match tailW w2 with
        | none => .error (i + 1)
        | some ts => .ok (hs, ts)
def prsD (ts : List Str) : List D := (ts.map pr).map prD
def optsD (hs : List Str) : List D := hs.map optD
def formD (f : List Str × List Str) : D := .tup [.tup (optsD f.1), .tup (prsD f.2)]
theorem cutD1 {xs : List D} : Z.cutD xs (some 1) none = xs.drop 1 := by
  unfold Z.cutD
  rw [HT.sIx_none, show HT.sIx xs.length 0 (some 1) = min 1 xs.length from HT.sIx_nat xs.length 0 1]
  by_cases h : 1 ≤ xs.length
  · rw [Nat.min_eq_left h]
    exact List.take_of_length_le (by rw [List.length_drop]; exact Nat.le_refl _)
  · rw [Nat.min_eq_right (by omega)]
    have : xs = [] := List.eq_nil_of_length_eq_zero (by omega)
    subst this; rfl
theorem vsl_lns {a : Str} {r : List Str} : vsl (lns (a :: r)) (some 1) none = some (lns r) := by
  show some (D.lst (Z.cutD ((a :: r).map D.str) (some 1) none)) = _
  rw [cutD1]; rfl

theorem v_read_form {S : Sto} {ls : List Str} (L : Lok ls) (i : Nat) : Fread_form [.v (lns ls), .v (.int i)] S = enc formD S (rdForm ls i) := by
  rw [eread_form]
  unfold Bread_form Gread_form rdForm
  have w1 : ∀ {S : Sto}, Fwords_at [.v (lns ls), .v (.int ((i : Int) + 1))] S = enc lns S (wAt ls (i + 1)) := fun {S} => v_words_at L (i + 1)
  simp only [evSs_2, evSs_1, evS_1, evE_19, evE_1, evL_1, evL_2, getV_0, getV_s, lft_some, Rs.bind_ok, callV, nth_0, List.length_cons, List.length_nil, if_true, v_words_at L]
  cases h1 : wAt ls i with
  | error e =>
    have := wAt_er h1
    subst this
    simp
  | ok w =>
    have k := wAt_w1 L h1
    cases w with
    | nil => exact absurd rfl k.ne
    | cons h r =>
      have hr : ∀ z ∈ r, z.length ≤ 1000 := fun z hz => k.part z (List.mem_cons_of_mem _ hz)
      have hlen : r.length ≤ 4000 := by have := k.len; rw [List.length_cons] at this; omega
      have i0 : ∀ {S : Sto}, ixW S (.v (lns (h :: r))) (.v (.int 0)) = some (.v (.str h)) := ix_lns (i := 0) rfl
      simp [vsl_lns]
      rw [compV_map (fun d => match d with | .str z => optD z | d => d) (r.map D.str) (fun x hx => by
        obtain ⟨z, hz, rfl⟩ := List.mem_map.mp hx
        refine ⟨_, rfl, rfl, ?_⟩
        simp [callV, v_optional_of (hr z hz)])]
      have em : (r.map D.str).map (fun d => match d with | .str z => optD z | d => d) = optsD r := by
        unfold optsD; rw [List.map_map]; rfl
      rw [em]
      by_cases hh : h = "head"
      · subst hh
        have hf : ∀ {S : Sto}, Fform_fault [.v (.tup [.tup (optsD r), .tup [.tup [.non, .int 0]]])] S = .ok (.v (ffD r [some (none, 0)])) S := by
          intro S
          exact v_form_fault (hs := r) (ps := [some (none, 0)]) (by intro p hp s e; have : p = some (none, 0) := by simpa using hp
                                                                    rw [this] at e; cases e; rfl)
        cases hb : hB r with
        | false =>
          simp [Bt.wo, tup_lst, i0, headW, hb, callV, hf, ffD, IL, show (1 : Nat) ≤ sizeLine by decide, show (2 : Nat) ≤ sizeLine by decide]
        | true =>
          simp [Bt.wo, tup_lst, i0, headW, hb, hlen, callV, hf, ffD, pB, show (1 : Nat) ≤ sizeLine by decide, show (2 : Nat) ≤ sizeLine by decide, w1]
          cases h2 : wAt ls (i + 1) with
          | error e =>
            have := wAt_er h2
            subst this
            simp
          | ok w2 =>
            have k2 := wAt_w1 L h2
            cases w2 with
            | nil => exact absurd rfl k2.ne
            | cons t r2 =>
              have hr2 : ∀ z ∈ r2, z.length ≤ 1000 := fun z hz => k2.part z (List.mem_cons_of_mem _ hz)
              have hlen2 : r2.length ≤ 1000 := by have := k2.len; rw [List.length_cons] at this; omega
              have i02 : ∀ {S : Sto}, ixW S (.v (lns (t :: r2))) (.v (.int 0)) = some (.v (.str t)) := ix_lns (i := 0) rfl
              simp [vsl_lns]
              rw [compV_map (fun d => match d with | .str z => prD (pr z) | d => d) (r2.map D.str) (fun x hx => by
                obtain ⟨z, hz, rfl⟩ := List.mem_map.mp hx
                refine ⟨_, rfl, rfl, ?_⟩
                simp [callV, v_pair_of (hr2 z hz)])]
              have em2 : (r2.map D.str).map (fun d => match d with | .str z => prD (pr z) | d => d) = prsD r2 := by
                unfold prsD; rw [List.map_map, List.map_map]; rfl
              rw [em2]
              have hf2 : ∀ {S : Sto}, Fform_fault [.v (.tup [.tup (optsD r), .tup (prsD r2)])] S = .ok (.v (ffD r (r2.map pr))) S := by
                intro S
                exact v_form_fault fun p hp s e => by
                  obtain ⟨z, hz, rfl⟩ := List.mem_map.mp hp
                  exact pr_none z s e
              by_cases ht : t = "tail"
              · subst ht
                by_cases h1 : 1 ≤ r2.length
                · cases hb2 : pB (r2.map pr) with
                  | false => simp [Bt.wo, tup_lst, i02, tailW, hb2, h1, hlen2, callV, hf2, ffD, hlen, hb, IL, show (2 : Nat) ≤ sizeLine by decide]
                  | true => simp [Bt.wo, tup_lst, i02, tailW, hb2, h1, hlen2, callV, hf2, ffD, hlen, hb, IL, formD, show (2 : Nat) ≤ sizeLine by decide]
                · simp [Bt.wo, tup_lst, i02, tailW, h1, hlen2, callV, hf2, ffD, hlen, hb, IL, show (2 : Nat) ≤ sizeLine by decide]
              · simp [Bt.wo, tup_lst, i02, ht, tailW, IL, show (2 : Nat) ≤ sizeLine by decide]
      · simp [Bt.wo, tup_lst, i0, hh, headW, IL]
end K92

/-! finish, begin, triples, papers -/
namespace K92
open PySem PySem.Spec PyProof.Rows L2 Z
theorem ok_1 {p : Str} (h : okS p) : ∀ z ∈ [p], okS z := by
  intro z hz
  rw [List.mem_singleton.mp hz]; exact h
def finP (ls : List Str) (i : Nat) : Pr Unit := match wAt ls i with
  | .error e => .error e
  | .ok w => if w = [("end" : Str)] then (if i + 1 < ls.length then .error (i + 1) else .ok ()) else .error i
theorem v_finish {S : Sto} {ls : List Str} (L : Lok ls) (i : Nat) : Ffinish [.v (lns ls), .v (.int i)] S = enc (fun _ => .non) S (finP ls i) := by
  rw [efinish]
  unfold Bfinish Gfinish finP
  simp [callV, v_words_at L]
  cases h1 : wAt ls i with
  | error e => simp
  | ok w =>
    have k := wAt_w1 L h1
    have hv : vne (lns w) (.lst [.str "end"]) = some (.bl (!decide (w = [("end" : Str)]))) := vne_lns (b := [("end" : Str)]) k.ok (ok_1 (by decide +kernel : PyData.strOk ("end" : Str) = true))
    by_cases hw : w = [("end" : Str)]
    · subst hw
      simp [hv]
      by_cases hi : i + 1 < ls.length
      · have hi' : (i : Int) + 1 < ls.length := by omega
        simp [hi, hi', IL]
      · have hi' : ¬ (i : Int) + 1 < ls.length := by omega
        simp [hi, hi']
    · simp [hv, hw, IL]
def begP (ls : List Str) (f : List Str) : Pr (List Str) := match wAt ls 0 with
  | .error e => .error e
  | .ok w => if w = f then .ok ls else .error 0
theorem v_begin {S : Sto} {x : Str} {ls f : List Str} (L : Lok ls) (hx : Txt.split x "\n" = ls) (hl : x.length + 2 ≤ sizeLine) (hf : ∀ z ∈ f, okS z) : Fbegin [.v (.str x), .v (lns f)] S = enc lns S (begP ls f) := by
  have w0 : ∀ {S : Sto}, Fwords_at [.v (lns ls), .v (.int 0)] S = enc lns S (wAt ls 0) := fun {S} => v_words_at L 0
  have e1 : (("\n" : Str).length == 0) = false := by decide +kernel
  rw [ebegin]
  unfold Bbegin Gbegin begP
  simp [wo_split e1 hl, hx, callV, w0]
  cases h1 : wAt ls 0 with
  | error e => simp
  | ok w =>
    have k := wAt_w1 L h1
    simp [vne_lns k.ok hf]
    by_cases hw : w = f
    · simp [hw]
    · simp [hw, IL]
/-! ### triples -/
abbrev Fm := List Str × List Str
abbrev Tr := Fm × Fm × Fm
def triD (t : Tr) : D := .tup [formD t.1, formD t.2.1, formD t.2.2]
def rdPart (ls : List Str) (i : Nat) (p : Str) : Pr Fm := match wAt ls i with
  | .error e => .error e
  | .ok w => if w = [p] then rdForm ls (i + 1) else .error i
def rdTriple (ls : List Str) (i : Nat) : Pr Tr := match rdPart ls i "price" with
  | .error e => .error e
  | .ok a => match rdPart ls (i + 3) "count" with
    | .error e => .error e
    | .ok b => match rdPart ls (i + 6) "last" with
      | .error e => .error e
      | .ok c => .ok (a, b, c)
def BodyT : List Sx := [.ifs (.cmp .ne (.call 0 (.loc 0) [(.loc 1)]) (.lst false [(.loc 3)]))
    [.rse (.loc 1)]
    [], .expr (.mth .append (.loc 2) (.call 1 (.loc 0) [(.bin .add (.loc 1) (.int 1))]) []), .aug 1 true (.int 3)]
theorem v_turn {S : Sto} {ls : List Str} (L : Lok ls) (i : Nat) {p : Str} (hp : okS p) {ds : List D} (hd : ds.length ≤ 2) :
    evSs G_read_triple BodyT [some (.v (lns ls)), some (.v (.int i)), some (.r S.length), some (.v (.str p))] (S ++ [some (.lst ds)]) =
      match rdPart ls i p with
      | .ok f => .ok (.nx [some (.v (lns ls)), some (.v (.int ((i + 3 : Nat) : Int))), some (.r S.length), some (.v (.str p))]) (S ++ [some (.lst (ds ++ [formD f]))])
      | .error e => .ex (IL e) (S ++ [some (.lst ds)]) := by
  have s0 : ds.length < sizeLine := Nat.lt_of_le_of_lt hd (by decide)
  have rf : ∀ {S : Sto}, Fread_form [.v (lns ls), .v (.int ((i : Int) + 1))] S = enc formD S (rdForm ls (i + 1)) := fun {S} => v_read_form L (i + 1)
  unfold BodyT G_read_triple rdPart
  simp [callV, v_words_at L]
  cases h1 : wAt ls i with
  | error e => simp
  | ok w =>
    have k := wAt_w1 L h1
    have hv : vne (lns w) (.lst [.str p]) = some (.bl (!decide (w = [p]))) := vne_lns (b := [p]) k.ok (ok_1 hp)
    by_cases hw : w = [p]
    · subst hw
      simp [hv, ty_app_mid, rf]
      cases h2 : rdForm ls (i + 1) with
      | error e => simp
      | ok f => simp [wo_app_mid s0, viadd]
    · simp [hv, hw, IL]
theorem v_read_triple {S : Sto} {ls : List Str} (L : Lok ls) (i : Nat) : ∃ J, F_read_triple [.v (lns ls), .v (.int i)] S = enc triD (S ++ J) (rdTriple ls i) := by
  have ok1 : okS ("price" : Str) := (by decide +kernel : PyData.strOk ("price" : Str) = true)
  have ok2 : okS ("count" : Str) := (by decide +kernel : PyData.strOk ("count" : Str) = true)
  have ok3 : okS ("last" : Str) := (by decide +kernel : PyData.strOk ("last" : Str) = true)
  rw [e_read_triple]
  have step : ∀ (p : Str) (r : List D) (i : Nat) (ds : List D) (o : Option W), okS p → ds.length ≤ 2 → turnsV (.nm 3) (evSs G_read_triple BodyT) (.str p :: r) [some (.v (lns ls)), some (.v (.int i)), some (.r S.length), o] (S ++ [some (.lst ds)]) =
      match rdPart ls i p with
      | .ok f => turnsV (.nm 3) (evSs G_read_triple BodyT) r [some (.v (lns ls)), some (.v (.int ((i + 3 : Nat) : Int))), some (.r S.length), some (.v (.str p))] (S ++ [some (.lst (ds ++ [formD f]))])
      | .error e => .ex (IL e) (S ++ [some (.lst ds)]) := by
    intro p r i ds o hp hd
    conv => lhs; unfold turnsV
    simp only [bindV_nm, setV2_s, setV2_0]
    rw [v_turn L i hp hd]
    cases rdPart ls i p <;> simp only [Rs.bind_ok, Rs.bind_ex]
  have hB : B_read_triple = [.asg (.nm 2) (.lst true []), .fors (.nm 3) .seq [(.glo 0)] BodyT, .ret (.blt .tupT (.loc 2) [])] := rfl
  rw [hB]
  have hg : ∀ S, cstV G_read_triple 0 S = .ok (.v (.tp .s [.str "price", .str "count", .str "last"])) S := fun S => by unfold G_read_triple; simp [cstV]
  simp only [evSs_2, evSs_1, evS_1, evS_9, evS_6, evE_15, evE_6, evE_20, evE_1, evL_1, evL_2, hg, Rs.bind_ok, plnW_nil, List.length_nil, sl_0, if_true, newW_eq, bindV_nm, setV2_s, setV2_0, itW_tp]
  rw [step "price" _ i [] none ok1 (by decide)]
  unfold rdTriple
  cases h1 : rdPart ls i "price" with
  | error e => exact ⟨[some (.lst [])], by simp⟩
  | ok a =>
    dsimp only
    rw [step "count" _ (i + 3) _ _ ok2 (by simp)]
    cases h2 : rdPart ls (i + 3) "count" with
    | error e => exact ⟨[some (.lst [formD a])], by simp⟩
    | ok b =>
      dsimp only
      rw [step "last" _ (i + 3 + 3) _ _ ok3 (by simp), show i + 3 + 3 = i + 6 by omega]
      cases h3 : rdPart ls (i + 6) "last" with
      | error e => exact ⟨[some (.lst [formD a, formD b])], by simp⟩
      | ok c =>
        exact ⟨[some (.lst [formD a, formD b, formD c])], by simp [rdW_mid, triD]⟩
end K92

/-! parse_ways -/
namespace K92
open PySem PySem.Spec PyProof.Rows L2 Z
def loopP (ls : List Str) : Nat → Nat → Pr (List Tr × Nat)
  | 0, n => .ok ([], n)
  | k + 1, n => match wAt ls (1 + 10 * n) with
    | .error e => .error e
    | .ok w => if w = [("to" : Str)] then (match rdTriple ls (1 + 10 * n + 1) with
      | .error e => .error e
      | .ok T => match loopP ls k (n + 1) with
        | .error e => .error e
        | .ok (Ts, m) => .ok (T :: Ts, m)) else if n = 0 then .error 1 else .ok ([], n)
def CndP : Ex := .bol false [(.nt (.loc 2)), (.bol true [(.cmp .lt (.blt .len (.loc 2) []) (.glo 0)), (.cmp .eq (.call 1 (.loc 1) [(.loc 3)]) (.lst false [(.str "to")]))])]
def BodyP : List Sx := [.ifs (.cmp .ne (.call 1 (.loc 1) [(.loc 3)]) (.lst false [(.str "to")]))
    [.rse (.loc 3)]
    [], .expr (.mth .append (.loc 2) (.call 2 (.loc 1) [(.bin .add (.loc 3) (.int 1))]) []), .aug 3 true (.bin .add (.int 1) (.bin .mul (.int 3) (.blt .len (.glo 1) [])))]
def enP (x : Str) (ls : List Str) (S : Sto) (n : Nat) : WEn := [some (.v (.str x)), some (.v (lns ls)), some (.r S.length), some (.v (.int ((1 + 10 * n : Nat) : Int)))]
theorem okTo : okS ("to" : Str) := (by decide +kernel : PyData.strOk ("to" : Str) = true)
theorem isE_iff {ds : List D} {n : Nat} (h : ds.length = n) : ds.isEmpty = decide (n = 0) := by
  subst h
  cases ds with
  | nil => rfl
  | cons _ _ => rfl
theorem cnd_v {x : Str} {S J : Sto} {ls : List Str} (L : Lok ls) {ds : List D} {n : Nat} (hn : ds.length = n) (h8 : n ≤ 8) :
    evT Gparse_ways CndP (enP x ls S n) (S ++ some (.lst ds) :: J) = if n = 0 then .ok true (S ++ some (.lst ds) :: J) else if n < 8 then (match wAt ls (1 + 10 * n) with
      | .error e => .ex (IL e) (S ++ some (.lst ds) :: J)
      | .ok w => .ok (decide (w = [("to" : Str)])) (S ++ some (.lst ds) :: J)) else .ok false (S ++ some (.lst ds) :: J) := by
  unfold CndP Gparse_ways enP
  by_cases h0 : n = 0
  · have h1 : ds = [] := List.eq_nil_of_length_eq_zero (by omega)
    subst h1
    simp [truW_mid, h0]
  · have h1 : ds.isEmpty = false := by rw [isE_iff hn]; exact decide_eq_false h0
    have vw : ∀ {S : Sto}, Fwords_at [.v (lns ls), .v (.int (1 + 10 * (n : Int)))] S = enc lns S (wAt ls (1 + 10 * n)) := fun {S} => by
      have := v_words_at (S := S) L (1 + 10 * n)
      rw [← this]; congr 3
    have h2 : ds ≠ [] := by intro e; subst e; cases h1
    simp only [evT_3, evB_4, evB_3, evB_2, evT_4, evT_5, getV_s, getV_0, lft_some, truV_ok, truW_mid, Rs.bind_ok, h1, if_neg h0, Bool.not_false, Bool.not_true]
    by_cases h3 : n < 8
    · have h3' : (n : Int) < 8 := by omega
      simp [rdW_mid, cstV, hn, h3, h3', callV, vw]
      cases hw : wAt ls (1 + 10 * n) with
      | error e => simp
      | ok w =>
        have k := wAt_w1 L hw
        have hv : veq (lns w) (.lst [.str "to"]) = some (.bl (decide (w = [("to" : Str)]))) := veq_lns (b := [("to" : Str)]) k.ok (ok_1 okTo)
        simp [hv]
    · have h3' : ¬ (n : Int) < 8 := by omega
      simp [rdW_mid, cstV, hn, h3, h3']
theorem body_v {x : Str} {S J : Sto} {ls : List Str} (L : Lok ls) {ds : List D} {n : Nat} (hn : ds.length = n) (h8 : n < 8) : ∃ J',
    evSs Gparse_ways BodyP (enP x ls S n) (S ++ some (.lst ds) :: J) = match wAt ls (1 + 10 * n) with
      | .error e => .ex (IL e) (S ++ some (.lst ds) :: J')
      | .ok w => if w = [("to" : Str)] then (match rdTriple ls (1 + 10 * n + 1) with
        | .error e => .ex (IL e) (S ++ some (.lst ds) :: J')
        | .ok T => .ok (.nx (enP x ls S (n + 1))) (S ++ some (.lst (ds ++ [triD T])) :: J')) else .ex (IL (1 + 10 * n)) (S ++ some (.lst ds) :: J') := by
  have s0 : ds.length < sizeLine := Nat.lt_of_le_of_lt (show ds.length ≤ 8 by omega) (by decide)
  have vw : ∀ {S : Sto}, Fwords_at [.v (lns ls), .v (.int (1 + 10 * (n : Int)))] S = enc lns S (wAt ls (1 + 10 * n)) := fun {S} => by
    have := v_words_at (S := S) L (1 + 10 * n)
    rw [← this]; congr 3
  obtain ⟨J1, h1⟩ := v_read_triple (S := S ++ some (.lst ds) :: J) L (1 + 10 * n + 1)
  have h1 : F_read_triple [.v (lns ls), .v (.int (1 + 10 * (n : Int) + 1))] (S ++ some (.lst ds) :: J) = enc triD (S ++ some (.lst ds) :: (J ++ J1)) (rdTriple ls (1 + 10 * n + 1)) := by
    have e : (S ++ some (.lst ds) :: J) ++ J1 = S ++ some (.lst ds) :: (J ++ J1) := by simp
    rw [← e, ← h1]; congr 3
  cases hw : wAt ls (1 + 10 * n) with
  | error e =>
    refine ⟨J, ?_⟩
    unfold BodyP Gparse_ways enP
    simp [callV, vw, hw]
  | ok w =>
    have k := wAt_w1 L hw
    have hv : vne (lns w) (.lst [.str "to"]) = some (.bl (!decide (w = [("to" : Str)]))) := vne_lns (b := [("to" : Str)]) k.ok (ok_1 okTo)
    by_cases ht : w = [("to" : Str)]
    · subst ht
      cases hr : rdTriple ls (1 + 10 * n + 1) with
      | error e =>
        refine ⟨J ++ J1, ?_⟩
        rw [hr] at h1
        unfold BodyP Gparse_ways enP
        simp [callV, vw, hw, hv, ty_app_mid, h1]
      | ok T =>
        refine ⟨J ++ J1, ?_⟩
        rw [hr] at h1
        have m1 : mulOk 3 3 = true := by decide +kernel
        unfold BodyP Gparse_ways enP
        simp [callV, vw, hw, hv, ty_app_mid, h1, wo_app_mid s0, cstV, viadd, vmul, m1]
        omega
    · refine ⟨J, ?_⟩
      unfold BodyP Gparse_ways enP
      simp [callV, vw, hw, hv, ht, IL]
theorem loop_v {x : Str} {S : Sto} {ls : List Str} (L : Lok ls) : ∀ (k n : Nat) (ds : List D) (J : Sto), ds.length = n → k + n = 8 → ∃ J',
    whV (evT Gparse_ways CndP) (evSs Gparse_ways BodyP) (enP x ls S n) (S ++ some (.lst ds) :: J) = match loopP ls k n with
      | .error e => .ex (IL e) (S ++ J')
      | .ok (Ts, m) => .ok (.nx (enP x ls S m)) (S ++ some (.lst (ds ++ Ts.map triD)) :: J')
  | 0, n, ds, J, hn, h8 => by
    refine ⟨J, ?_⟩
    rw [whV_step, cnd_v L hn (by omega), if_neg (by omega), if_neg (by omega)]
    simp [loopP]
  | k + 1, n, ds, J, hn, h8 => by
    obtain ⟨J1, hb⟩ := body_v (x := x) (S := S) (J := J) L hn (by omega)
    rw [whV_step, cnd_v L hn (by omega)]
    unfold loopP
    cases hw : wAt ls (1 + 10 * n) with
    | error e =>
      rw [hw] at hb
      by_cases h0 : n = 0
      · refine ⟨some (.lst ds) :: J1, ?_⟩
        rw [if_pos h0]
        simp only [Rs.bind_ok, hb, Rs.bind_ex]
      · refine ⟨some (.lst ds) :: J, ?_⟩
        rw [if_neg h0, if_pos (by omega)]
        simp only [Rs.bind_ex]
    | ok w =>
      rw [hw] at hb
      dsimp only at hb ⊢
      by_cases ht : w = [("to" : Str)]
      · rw [if_pos ht] at hb ⊢
        have hc : (if n = 0 then Rs.ok true (S ++ some (VO.lst ds) :: J) else if n < 8 then .ok (decide (w = [("to" : Str)])) (S ++ some (.lst ds) :: J) else .ok false (S ++ some (.lst ds) :: J)) = .ok true (S ++ some (.lst ds) :: J) := by
          by_cases h0 : n = 0
          · rw [if_pos h0]
          · rw [if_neg h0, if_pos (by omega), decide_eq_true ht]
        rw [hc]
        simp only [Rs.bind_ok, hb]
        cases hr : rdTriple ls (1 + 10 * n + 1) with
        | error e => exact ⟨some (.lst ds) :: J1, by simp only [Rs.bind_ex]⟩
        | ok T =>
          obtain ⟨J2, h2⟩ := loop_v (x := x) (S := S) L k (n + 1) (ds ++ [triD T]) J1 (by simp [hn]) (by omega)
          simp only [Rs.bind_ok, h2]
          cases hl : loopP ls k (n + 1) with
          | error e => exact ⟨J2, rfl⟩
          | ok p =>
            refine ⟨J2, ?_⟩
            simp
      · rw [if_neg ht] at hb ⊢
        by_cases h0 : n = 0
        · refine ⟨some (.lst ds) :: J1, ?_⟩
          subst h0
          simp only [if_true, Rs.bind_ok, hb, Rs.bind_ex]
        · refine ⟨J, ?_⟩
          rw [if_neg h0, if_neg h0, if_pos (by omega), decide_eq_false ht]
          simp
def parseP (ls : List Str) : Pr (List Tr) := match begP ls [("ways" : Str)] with
  | .error e => .error e
  | .ok _ => match loopP ls 8 0 with
    | .error e => .error e
    | .ok (Ts, m) => match finP ls (1 + 10 * m) with
      | .error e => .error e
      | .ok _ => .ok Ts
def papD (Ts : List Tr) : D := .tup (Ts.map triD)
theorem v_parse_ways {S : Sto} {x : Str} {ls : List Str} (L : Lok ls) (hx : Txt.split x "\n" = ls) (hl : x.length + 2 ≤ sizeLine) : ∃ J, Fparse_ways [.v (.str x)] S = enc papD (S ++ J) (parseP ls) := by
  rw [eparse_ways]
  have hB : Bparse_ways = [.asg (.nm 1) (.call 0 (.loc 0) [(.lst false [(.str "ways")])]), .asg (.nm 2) (.lst true []), .asg (.nm 3) (.int 1), .whl CndP BodyP, .expr (.call 3 (.loc 1) [(.loc 3)]), .ret (.blt .tupT (.loc 2) [])] := rfl
  have hb : ∀ {S : Sto}, Fbegin [.v (.str x), .v (.lst [.str "ways"])] S = enc lns S (begP ls [("ways" : Str)]) := fun {S} => v_begin (f := [("ways" : Str)]) L hx hl (ok_1 (by decide +kernel : PyData.strOk ("ways" : Str) = true))
  have c0 : ∀ r, callV Gparse_ways 0 r = r.bind fun ws S => if ws.length = 2 then Fbegin ws S else .no := fun r => by unfold Gparse_ways; rfl
  have c3 : ∀ r, callV Gparse_ways 3 r = r.bind fun ws S => if ws.length = 2 then Ffinish ws S else .no := fun r => by unfold Gparse_ways; rfl
  rw [hB]
  unfold parseP
  simp [c0, hb]
  cases h1 : begP ls [("ways" : Str)] with
  | error e => exact ⟨[], by simp⟩
  | ok l2 =>
    have e2 : l2 = ls := by
      unfold begP at h1
      split at h1
      · cases h1
      · split at h1 <;> cases h1
        rfl
    subst e2
    obtain ⟨J, h2⟩ := loop_v (x := x) (S := S) L 8 0 [] [] rfl rfl
    have h2' : whV (evT Gparse_ways CndP) (evSs Gparse_ways BodyP) [some (.v (.str x)), some (.v (lns l2)), some (.r S.length), some (.v (.int 1))] (S ++ [some (.lst [])]) = _ := h2
    simp [h2']
    cases h3 : loopP l2 8 0 with
    | error e => exact ⟨J, by simp⟩
    | ok p =>
      obtain ⟨Ts, m⟩ := p
      have vf : ∀ {S : Sto}, Ffinish [.v (lns l2), .v (.int (1 + 10 * (m : Int)))] S = enc (fun _ => .non) S (finP l2 (1 + 10 * m)) := fun {S} => by
        have := v_finish (S := S) L (1 + 10 * m)
        rw [← this]; congr 3
      simp [c3, enP, vf]
      cases h4 : finP l2 (1 + 10 * m) with
      | error e => exact ⟨some (.lst (Ts.map triD)) :: J, by simp⟩
      | ok u => exact ⟨some (.lst (Ts.map triD)) :: J, by simp [rdW_mid, papD]⟩
end K92

/-! parse_way_claim -/
namespace K92
open PySem PySem.Spec PyProof.Rows L2 Z
inductive Cl where
  | n (v a b : Str) (k : Int)
  | s (v a b l : Str)
def clD : Cl → D
  | .n v a b k => .tup [.str v, .str a, .str b, .int k]
  | .s v a b l => .tup [.str v, .str a, .str b, .str l]
def isN4 (v : Str) : Bool := decide (v = "reached") || decide (v = "within")
def isS4 (v : Str) : Bool := decide (v = "nearer") || decide (v = "over")
def clLast (v a b l : Str) : Option Cl :=
  if isN4 v = true then (match num l with
    | some k => if 0 ≤ k ∧ lowS a = true ∧ lowS b = true then some (.n v a b k) else none
    | none => none)
  else if isS4 v = true then (if lowS a = true ∧ lowS b = true ∧ lowS l = true then some (.s v a b l) else none) else none
def claimW (w : List Str) : Option Cl := match w with
  | [c, v, a, b, l] => if c = "claim" then clLast v a b l else none
  | _ => none
def prC (ls : List Str) : Pr Cl := match wAt ls 0 with
  | .error e => .error e
  | .ok w => match claimW w with
    | none => .error 0
    | some d => match finP ls 1 with
      | .error e => .error e
      | .ok _ => .ok d
theorem in4 {S : Sto} {v : Str} (h : okS v) : inW S (.v (.str v)) (.v (.tup [.str "reached", .str "nearer", .str "over", .str "within"])) = some (isN4 v || isS4 v) := by
  show (if inOk (.str v) [.str "reached", .str "nearer", .str "over", .str "within"] = true then some (([.str "reached", .str "nearer", .str "over", .str "within"] : List D).any fun z => eqv z (.str v)) else none) = _
  rw [if_pos (by unfold inOk; simp only [layL, lay]; rw [show PyData.strOk v = true from h]; decide +kernel)]
  show some (((("reached" : Str) == v) || ((("nearer" : Str) == v) || ((("over" : Str) == v) || ((("within" : Str) == v) || false))))) = _
  have key : ∀ a : Str, (a == v) = decide (v = a) := by
    intro a
    by_cases e : v = a
    · subst e; simp
    · rw [decide_eq_false e]; simpa using fun z => e z.symm
  simp only [key]
  unfold isN4 isS4
  cases decide (v = ("reached" : Str)) <;> cases decide (v = ("nearer" : Str)) <;> cases decide (v = ("over" : Str)) <;> cases decide (v = ("within" : Str)) <;> rfl
theorem in2 {S : Sto} {v : Str} (h : okS v) : inW S (.v (.str v)) (.v (.tup [.str "reached", .str "within"])) = some (isN4 v) := by
  show (if inOk (.str v) [.str "reached", .str "within"] = true then some (([.str "reached", .str "within"] : List D).any fun z => eqv z (.str v)) else none) = _
  rw [if_pos (by unfold inOk; simp only [layL, lay]; rw [show PyData.strOk v = true from h]; decide +kernel)]
  show some (((("reached" : Str) == v) || ((("within" : Str) == v) || false))) = _
  have key : ∀ a : Str, (a == v) = decide (v = a) := by
    intro a
    by_cases e : v = a
    · subst e; simp
    · rw [decide_eq_false e]; simpa using fun z => e z.symm
  simp only [key]
  unfold isN4
  cases decide (v = ("reached" : Str)) <;> cases decide (v = ("within" : Str)) <;> rfl
theorem sl24 {c v a b l : Str} : vsl (lns [c, v, a, b, l]) (some 2) (some 4) = some (lns [a, b]) := rfl
theorem v_claim {S : Sto} {x : Str} {ls : List Str} (L : Lok ls) (hx : Txt.split x "\n" = ls) (hl : x.length + 2 ≤ sizeLine) : Fparse_way_claim [.v (.str x)] S = enc clD S (prC ls) := by
  have w0 : ∀ {S : Sto}, Fwords_at [.v (lns ls), .v (.int 0)] S = enc lns S (wAt ls 0) := fun {S} => v_words_at L 0
  have f1 : ∀ {S : Sto}, Ffinish [.v (lns ls), .v (.int 1)] S = enc (fun _ => .non) S (finP ls 1) := fun {S} => v_finish L 1
  have e1 : (("\n" : Str).length == 0) = false := by decide +kernel
  rw [eparse_way_claim]
  unfold Bparse_way_claim prC
  simp only [evSs_2, evSs_1, evS_1, evE_22, evE_1, evE_5, evL_1, evL_2, getV_0, getV_s, lft_some, Rs.bind_ok, tyW_split, wo_split e1 hl, hx, bindV_nm, setV2_s, setV2_0, evE_19, evE_4]
  have c0 : ∀ r, callV Gparse_way_claim 0 r = r.bind fun ws S => if ws.length = 2 then Fwords_at ws S else .no := fun r => by unfold Gparse_way_claim; rfl
  have c1 : ∀ r, callV Gparse_way_claim 1 r = r.bind fun ws S => if ws.length = 1 then Finteger_of ws S else .no := fun r => by unfold Gparse_way_claim; rfl
  have c2 : ∀ r, callV Gparse_way_claim 2 r = r.bind fun ws S => if ws.length = 1 then Fis_integer ws S else .no := fun r => by unfold Gparse_way_claim; rfl
  have c3 : ∀ r, callV Gparse_way_claim 3 r = r.bind fun ws S => if ws.length = 1 then Fis_name ws S else .no := fun r => by unfold Gparse_way_claim; rfl
  have c4 : ∀ r, callV Gparse_way_claim 4 r = r.bind fun ws S => if ws.length = 2 then Ffinish ws S else .no := fun r => by unfold Gparse_way_claim; rfl
  simp only [c0, Rs.bind_ok, List.length_cons, List.length_nil, if_true, w0]
  cases hw : wAt ls 0 with
  | error e => simp
  | ok w =>
    have k := wAt_w1 L hw
    have bad : ∀ w : List Str, w.length ≠ 5 → claimW w = none := by
      intro w h
      unfold claimW
      split
      · exact absurd rfl h
      · rfl
    by_cases h5 : w.length = 5
    · match w, h5, k with
      | [c, v, a, b, l], _, k =>
        have i0 : ∀ {S : Sto}, ixW S (.v (lns [c, v, a, b, l])) (.v (.int 0)) = some (.v (.str c)) := ix_lns (i := 0) rfl
        have i1 : ∀ {S : Sto}, ixW S (.v (lns [c, v, a, b, l])) (.v (.int 1)) = some (.v (.str v)) := ix_lns (i := 1) rfl
        have i2 : ∀ {S : Sto}, ixW S (.v (lns [c, v, a, b, l])) (.v (.int 2)) = some (.v (.str a)) := ix_lns (i := 2) rfl
        have i3 : ∀ {S : Sto}, ixW S (.v (lns [c, v, a, b, l])) (.v (.int 3)) = some (.v (.str b)) := ix_lns (i := 3) rfl
        have i4 : ∀ {S : Sto}, ixW S (.v (lns [c, v, a, b, l])) (.v (.int 4)) = some (.v (.str l)) := ix_lns (i := 4) rfl
        have hv : okS v := k.ok v (by simp)
        have s0 := sl1000
        have la := k.part a (by simp)
        have lb := k.part b (by simp)
        have ll := k.part l (by simp)
        have na : ∀ {S : Sto}, Fis_name [.v (.str a)] S = .ok (.v (.bl (lowS a))) S := fun {S} => v_is_name (by omega)
        have nb : ∀ {S : Sto}, Fis_name [.v (.str b)] S = .ok (.v (.bl (lowS b))) S := fun {S} => v_is_name (by omega)
        have nl : ∀ {S : Sto}, Fis_name [.v (.str l)] S = .ok (.v (.bl (lowS l))) S := fun {S} => v_is_name (by omega)
        have ni : ∀ {S : Sto}, Finteger_of [.v (.str l)] S = .ok (.v (optI (num l))) S := fun {S} => v_integer_of (by omega)
        have eg : Gparse_way_claim.cst = [] := rfl
        have cm : ∀ {S : Sto} {o0 o1 o2 o3 o4 : Option W}, compV (.nm 4) (evC Gparse_way_claim []) (evE Gparse_way_claim (.call 3 (.loc 4) [])) [o0, o1, o2, o3, o4] [.str a, .str b] S = .ok [.bl (lowS a), .bl (lowS b)] S := by
          intro S o0 o1 o2 o3 o4
          simp [compV, c3, na, nb]
        have al : ∀ p q : Bool, allA M00 (.lst [.bl p, .bl q]) = some (.bl (p && q)) := by
          intro p q; cases p <;> cases q <;> rfl
        have its : ∀ ds : List Str, itW .seq [.v (lns ds)] = some (ds.map D.str) := fun ds => rfl
        by_cases hc : c = "claim"
        · subst hc
          unfold claimW clLast
          cases h1 : isN4 v with
          | true =>
            cases hn : num l with
            | none => simp [i0, i1, i4, in4 hv, in2 hv, h1, c1, ni, hn, optI, c2, IL]
            | some n =>
              by_cases hz : n < 0
              · have : ¬ (0 : Int) ≤ n := by omega
                simp [i0, i1, i4, in4 hv, in2 hv, h1, c1, ni, hn, optI, c2, IL, hz, this]
              · have hz' : (0 : Int) ≤ n := by omega
                cases ha : lowS a with
                | false => simp [i0, i1, i4, in4 hv, in2 hv, h1, c1, ni, hn, optI, c2, IL, hz, sl24, cm, al, ha]
                | true =>
                  cases hb : lowS b with
                  | false => simp [i0, i1, i4, in4 hv, in2 hv, h1, c1, ni, hn, optI, c2, IL, hz, sl24, cm, al, ha, hb]
                  | true =>
                    simp [i0, i1, i2, i3, i4, in4 hv, in2 hv, h1, c1, c4, ni, hn, optI, c2, IL, hz, hz', sl24, cm, al, ha, hb, isTy, f1]
                    cases hf : finP ls 1 with
                    | error e => simp [IL]
                    | ok u => simp [i1, i2, i3, clD]
          | false =>
            cases h2 : isS4 v with
            | false => simp [i0, i1, i4, in4 hv, in2 hv, h1, h2, IL]
            | true =>
              cases ha : lowS a with
              | false => simp [i0, i1, i4, in4 hv, in2 hv, h1, h2, IL, sl24, cm, al, ha]
              | true =>
                cases hb : lowS b with
                | false => simp [i0, i1, i4, in4 hv, in2 hv, h1, h2, IL, sl24, cm, al, ha, hb]
                | true =>
                  cases hl2 : lowS l with
                  | false => simp [i0, i1, i4, in4 hv, in2 hv, h1, h2, IL, sl24, cm, al, ha, hb, isTy, c3, nl, hl2]
                  | true =>
                    simp [i0, i1, i2, i3, i4, in4 hv, in2 hv, h1, h2, c3, c4, nl, hl2, IL, sl24, cm, al, ha, hb, isTy, f1]
                    cases hf : finP ls 1 with
                    | error e => simp [IL]
                    | ok u => simp [i1, i2, i3, clD]
        · simp [i0, hc, claimW, IL]
    · have h5' : ¬ ((w.length : Int) = 5) := by omega
      simp [h5, h5', bad w h5, IL]
end K92

/-! words and lines as they are written -/
namespace K92
open PySem PySem.Spec PyProof.Rows L2 Z
theorem tl_ofS (s : String) : tl (Str.ofString s) = s.toList.map Char.toNat := by rw [Str.ofString_eq_toList]
theorem tl_dec (i : Int) : tl (dec i) = if i < 0 then 45 :: TL.numL i.natAbs else TL.numL i.natAbs := by
  unfold dec
  by_cases h : i < 0
  · rw [if_pos h, toString_neg h, tl_ofS, String.toList_append, List.map_append, ← tl_ofS, ← tl_ofS]
    have e : (0 - i) = ((i.natAbs : Nat) : Int) := by omega
    rw [e, show tl (Str.ofString (toString ((i.natAbs : Nat) : Int))) = TL.numL i.natAbs from TL.tl_num _]
    have : tl (Str.ofString "-") = [45] := by decide +kernel
    rw [this]; rfl
  · rw [if_neg h]
    have e : i = ((i.natAbs : Nat) : Int) := by omega
    conv => lhs; rw [e]
    exact TL.tl_num _
/-- written with at most 40 signs -/
def Sml (i : Int) : Prop := (dec i).length ≤ 40
theorem sml_of {i : Int} (h : i.natAbs < 10 ^ 39) : Sml i := by
  unfold Sml
  rw [TL.len_tl, show TL.tl (dec i) = _ from tl_dec i]
  have := TL.numL_len (n := i.natAbs) (k := 39) (by decide) h
  split
  · rw [List.length_cons]; omega
  · omega
theorem sml_pos {i : Int} (h0 : 0 ≤ i) (h : i.natAbs < 10 ^ 40) : Sml i := by
  unfold Sml
  rw [TL.len_tl, show TL.tl (dec i) = _ from tl_dec i, if_neg (by omega)]
  exact TL.numL_len (n := i.natAbs) (k := 40) (by decide) h
theorem numL_head {n : Nat} : ∀ r, TL.numL n ≠ 45 :: r := by
  intro r e
  exact TL.numL_free (n := n) (s := 45) (by omega) (by rw [e]; simp)
theorem body_dec (i : Int) : body (dec i) = TL.numL i.natAbs := by
  unfold body
  rw [tl_dec]
  by_cases h : i < 0
  · rw [if_pos h]; rfl
  · rw [if_neg h]
    split
    · rename_i r e; exact absurd e (numL_head r)
    · rfl
theorem val_dec (i : Int) : valS (dec i) = i := by
  unfold valS
  rw [tl_dec]
  by_cases h : i < 0
  · rw [if_pos h]
    show (-((NumText.digitsVal (TL.numL i.natAbs) : Nat) : Int)) = i
    rw [TL.numL_val]; omega
  · rw [if_neg h]
    split
    · rename_i r e; exact absurd e (numL_head r)
    · rw [TL.numL_val]; omega
theorem dig_dec (i : Int) : digS (body (dec i)) = true := by
  rw [body_dec]
  unfold digS
  rw [Bool.and_eq_true]
  refine ⟨?_, ?_⟩
  · have := TL.numL_ne i.natAbs
    cases h : TL.numL i.natAbs with
    | nil => exact absurd h this
    | cons _ _ => rfl
  · rw [List.all_eq_true]
    intro c hc
    have := TL.numL_digits i.natAbs c hc
    simpa using this
theorem num_dec {i : Int} (h : Sml i) : num (dec i) = some i := by
  unfold num
  rw [if_pos ⟨h, dig_dec i, by rw [val_dec]⟩, val_dec]
/-- a word: signs that are seen -/
def Wd (x : Str) : Prop := x ≠ "" ∧ ∀ c ∈ tl x, 33 ≤ c ∧ c ≤ 126
theorem ne_tl {x : Str} (h : tl x ≠ []) : x ≠ "" := by
  intro e; subst e; exact h (by decide +kernel)
theorem wd_dec (i : Int) : Wd (dec i) := by
  refine ⟨ne_tl ?_, ?_⟩
  · rw [tl_dec]
    split
    · simp
    · exact TL.numL_ne _
  · intro c hc
    rw [tl_dec] at hc
    split at hc
    · rcases List.mem_cons.mp hc with e | hc
      · omega
      · have := TL.numL_digits _ c hc; omega
    · have := TL.numL_digits _ c hc; omega
theorem wd_app {x y : Str} (hx : Wd x) (hy : ∀ c ∈ tl y, 33 ≤ c ∧ c ≤ 126) : Wd (x ++ y) := by
  have e : tl (x ++ y) = tl x ++ tl y := TL.tl_append x y
  refine ⟨ne_tl ?_, ?_⟩
  · rw [e]
    intro z
    have := (List.append_eq_nil_iff.mp z).1
    exact hx.1 (TL.ext_tl (by rw [show TL.tl x = [] from this]; decide +kernel))
  · intro c hc
    rw [e] at hc
    rcases List.mem_append.mp hc with h | h
    · exact hx.2 c h
    · exact hy c h
theorem joinL_mem {S : List Nat} {P : Nat → Prop} (hS : ∀ c ∈ S, P c) : ∀ {parts : List (List Nat)}, (∀ p ∈ parts, ∀ c ∈ p, P c) → ∀ c ∈ TL.joinL S parts, P c
  | [], _, c, h => nomatch h
  | [p], hp, c, h => hp p (by simp) c h
  | p :: q :: r, hp, c, h => by
    have h : c ∈ p ++ (S ++ TL.joinL S (q :: r)) := h
    rcases List.mem_append.mp h with h | h
    · exact hp p (by simp) c h
    · rcases List.mem_append.mp h with h | h
      · exact hS c h
      · exact joinL_mem hS (fun z hz => hp z (List.mem_cons_of_mem _ hz)) c h
theorem tlj (y : Str) (ps : List Str) : tl (Txt.join y ps) = TL.joinL (tl y) (ps.map tl) := by
  rw [TL.join_eq]; exact TL.tl_join y ps
theorem tsp : tl (" " : Str) = [32] := by decide +kernel
theorem tnl : tl ("\n" : Str) = [10] := by decide +kernel
theorem tsl : tl ("/" : Str) = [47] := by decide +kernel
theorem kOf {y : Str} (h : (tl y).all (· < 256) = true) : y.cps.all (· < 256) = true := by rw [← Array.all_toList]; exact h
theorem wds_join {ws : List Str} (h0 : ws ≠ []) (h : ∀ w ∈ ws, Wd w) : wds (Txt.join " " ws) = some ws := by
  have hs : Txt.split (Txt.join " " ws) " " = ws := TL.split_join (S := []) tsp (kOf (by rw [tsp]; rfl)) h0 fun p hp hm => by
    have := (h p hp).2 32 hm; omega
  unfold wds
  rw [hs, if_pos, if_neg]
  · intro hm; exact (h _ hm).1 rfl
  · unfold rngS
    rw [tlj, List.all_eq_true]
    intro c hc
    have := joinL_mem (P := fun c => 32 ≤ c ∧ c ≤ 126) (by rw [tsp]; intro c hc; have : c = 32 := by simpa using hc
                                                           omega) (fun p hp c hc => by
      obtain ⟨w, hw, rfl⟩ := List.mem_map.mp hp
      have := (h w hw).2 c hc
      omega) c hc
    simpa using this
theorem wds_one {w : Str} (h : Wd w) : wds w = some [w] := wds_join (ws := [w]) (by simp) (by intro z hz; rw [List.mem_singleton.mp hz]; exact h)
/-! ### forms -/
abbrev LF := List (Option Int) × List (Option (Int × Int))
def hw : Option Int → Str | none => "none" | some i => dec i
def tw : Option (Int × Int) → Str | none => "none" | some (v, s) => dec v ++ "/" ++ dec s
structure Gd (f : LF) : Prop where
  h : ∀ o ∈ f.1, ∀ i, o = some i → Sml i
  hl : f.1.length ≤ 5
  t : ∀ o ∈ f.2, ∀ p, o = some p → Sml p.1 ∧ Sml p.2
  t1 : 1 ≤ f.2.length
  tl : f.2.length ≤ 4
def wF (f : LF) : Fm := (f.1.map hw, f.2.map tw)
def lineH (f : LF) : Str := Txt.join " " ("head" :: f.1.map hw)
def lineT (f : LF) : Str := Txt.join " " ("tail" :: f.2.map tw)
theorem wd_none : Wd "none" := by
  refine ⟨by decide +kernel, ?_⟩
  rw [show tl ("none" : Str) = [110, 111, 110, 101] by decide +kernel]
  decide
theorem wd_lit {x : Str} {l : List Nat} (e : tl x = l) (h0 : l ≠ []) (h : l.all (fun c => decide (33 ≤ c) && decide (c ≤ 126)) = true) : Wd x := by
  refine ⟨ne_tl (by rw [e]; exact h0), ?_⟩
  intro c hc
  rw [e] at hc
  have := List.all_eq_true.mp h c hc
  simpa using this
theorem wd_hw (o : Option Int) : Wd (hw o) := by
  cases o with
  | none => exact wd_none
  | some i => exact wd_dec i
theorem wd_tw (o : Option (Int × Int)) : Wd (tw o) := by
  cases o with
  | none => exact wd_none
  | some p =>
    obtain ⟨v, s⟩ := p
    refine wd_app (wd_app (wd_dec v) ?_) (wd_dec s).2
    rw [tsl]; decide
theorem wds_H (f : LF) : wds (lineH f) = some (("head" : Str) :: f.1.map hw) := wds_join (by simp) (by
  intro w hm
  rcases List.mem_cons.mp hm with e | hm
  · rw [e]; exact wd_lit (l := [104, 101, 97, 100]) (by decide +kernel) (by simp) (by decide)
  · obtain ⟨o, _, rfl⟩ := List.mem_map.mp hm
    exact wd_hw o)
theorem wds_T (f : LF) : wds (lineT f) = some (("tail" : Str) :: f.2.map tw) := wds_join (by simp) (by
  intro w hm
  rcases List.mem_cons.mp hm with e | hm
  · rw [e]; exact wd_lit (l := [116, 97, 105, 108]) (by decide +kernel) (by simp) (by decide)
  · obtain ⟨o, _, rfl⟩ := List.mem_map.mp hm
    exact wd_tw o)
theorem dec_ne_none (i : Int) : dec i ≠ "none" := by
  intro e
  have h := tl_dec i
  rw [e, show tl ("none" : Str) = [110, 111, 110, 101] by decide +kernel] at h
  split at h
  · cases h
  · have := TL.numL_digits i.natAbs 110 (by rw [← h]; simp)
    omega
theorem opt_hw {o : Option Int} (h : ∀ i, o = some i → Sml i) : opt (hw o) = some o := by
  unfold opt
  cases o with
  | none => exact if_pos rfl
  | some i =>
    show (if dec i = "none" then _ else (num (dec i)).map some) = _
    rw [if_neg (dec_ne_none i), num_dec (h i rfl)]; rfl
theorem slash_ne {x : Str} (h : 47 ∈ tl x) : x ≠ "none" := by
  intro e
  rw [e, show tl ("none" : Str) = [110, 111, 110, 101] by decide +kernel] at h
  simp at h
theorem free47 (i : Int) : 47 ∉ tl (dec i) := by
  intro h
  rw [tl_dec] at h
  split at h
  · rcases List.mem_cons.mp h with e | h
    · omega
    · exact TL.numL_free (by omega) h
  · exact TL.numL_free (by omega) h
theorem split_pair (v s : Int) : Txt.split (dec v ++ "/" ++ dec s) "/" = [dec v, dec s] := by
  have h := TL.split_join (y := "/") (S := []) tsl (kOf (by rw [tsl]; rfl)) (parts := [dec v, dec s]) (by simp) (by
    intro p hp
    rcases List.mem_cons.mp hp with e | hp
    · rw [e]; exact free47 v
    · rw [List.mem_singleton.mp hp]; exact free47 s)
  have e : Txt.join "/" [dec v, dec s] = dec v ++ "/" ++ dec s := by
    rw [TL.join_eq]; rfl
  rw [e] at h
  exact h
def pw (o : Option (Int × Int)) : Option Int × Int := match o with | none => (none, 0) | some (v, s) => (some v, s)
theorem pr_tw {o : Option (Int × Int)} (h : ∀ p, o = some p → Sml p.1 ∧ Sml p.2) : pr (tw o) = some (pw o) := by
  unfold pr
  cases o with
  | none => exact if_pos rfl
  | some p =>
    obtain ⟨v, s⟩ := p
    have hn : tw (some (v, s)) ≠ "none" := slash_ne (by
      show 47 ∈ tl (dec v ++ "/" ++ dec s)
      rw [show tl (dec v ++ "/" ++ dec s) = tl (dec v ++ "/") ++ tl (dec s) from TL.tl_append _ _, show tl (dec v ++ "/") = tl (dec v) ++ tl "/" from TL.tl_append _ _, tsl]
      simp)
    rw [if_neg hn]
    rw [show tw (some (v, s)) = dec v ++ "/" ++ dec s from rfl, split_pair]
    dsimp only
    rw [num_dec (h _ rfl).1, num_dec (h _ rfl).2]; rfl
theorem hB_ok {f : LF} (g : Gd f) : hB (f.1.map hw) = true := by
  unfold hB
  rw [List.all_map, List.all_eq_true]
  intro o ho
  show (opt (hw o)).isSome = true
  rw [opt_hw (g.h o ho)]; rfl
theorem pB_ok {f : LF} (g : Gd f) : pB ((f.2.map tw).map pr) = true := by
  unfold pB
  rw [List.map_map, List.all_map, List.all_eq_true]
  intro o ho
  show (pr (tw o)).isSome = true
  rw [pr_tw (g.t o ho)]; rfl
theorem headW_ok {f : LF} (g : Gd f) : headW (("head" : Str) :: f.1.map hw) = some (f.1.map hw) := if_pos ⟨rfl, by rw [List.length_map]; have := g.hl; omega, hB_ok g⟩
theorem tailW_ok {f : LF} (g : Gd f) : tailW (("tail" : Str) :: f.2.map tw) = some (f.2.map tw) := if_pos ⟨rfl, by rw [List.length_map]; exact g.t1, by rw [List.length_map]; have := g.tl; omega, pB_ok g⟩
/-! ### as data -/
def tD (o : Option (Int × Int)) : D := match o with | none => .tup [.non, .int 0] | some (v, s) => .tup [.int v, .int s]
def lfD (f : LF) : D := .tup [.tup (f.1.map optI), .tup (f.2.map tD)]
theorem optD_hw {o : Option Int} (h : ∀ i, o = some i → Sml i) : optD (hw o) = optI o := by
  have e := opt_hw h
  unfold opt at e
  unfold optD
  cases o with
  | none => exact if_pos rfl
  | some i =>
    show (if dec i = "none" then _ else (match num (dec i) with | some n => D.int n | none => .str (dec i))) = _
    rw [if_neg (dec_ne_none i), num_dec (h i rfl)]; rfl
theorem formD_wF {f : LF} (g : Gd f) : formD (wF f) = lfD f := by
  show D.tup [.tup ((f.1.map hw).map optD), .tup (((f.2.map tw).map pr).map prD)] = _
  rw [List.map_map, List.map_map, List.map_map]
  unfold lfD
  have h1 : f.1.map (optD ∘ hw) = f.1.map optI := List.map_congr_left fun o ho => optD_hw (g.h o ho)
  have h2 : f.2.map (prD ∘ pr ∘ tw) = f.2.map tD := List.map_congr_left fun o ho => by
    show prD (pr (tw o)) = tD o
    rw [pr_tw (g.t o ho)]
    cases o with
    | none => rfl
    | some p => rfl
  rw [h1]
  have h3 : (f.2.map ((prD ∘ pr) ∘ tw)) = f.2.map tD := h2
  first | rw [h2] | rw [h3]
end K92

/-! what the lines of a paper are read as -/
namespace K92
open PySem PySem.Spec PyProof.Rows L2 Z
def Bnd (o : Option Str) : Option (List Str) := o.bind wds
theorem wAt_eq {ls : List Str} {i : Nat} : wAt ls i = match Bnd ls[i]? with | some w => .ok w | none => .error i := rfl
theorem wAt_ok' {ls : List Str} {i : Nat} {w : List Str} (h : Bnd ls[i]? = some w) : wAt ls i = .ok w := by rw [wAt_eq, h]
theorem wAt_no' {ls : List Str} {i : Nat} (h : Bnd ls[i]? = none) : wAt ls i = .error i := by rw [wAt_eq, h]
theorem bnd_some {x : Str} {w : List Str} (h : wds x = some w) : Bnd (some x) = some w := h
def wP : Str := "price"
def wC : Str := "count"
def wL : Str := "last"
def wTo : Str := "to"
def wEnd : Str := "end"
def wWays : Str := "ways"
theorem wdP : Wd wP := wd_lit (l := [112, 114, 105, 99, 101]) (by decide +kernel) (by simp) (by decide)
theorem wdC : Wd wC := wd_lit (l := [99, 111, 117, 110, 116]) (by decide +kernel) (by simp) (by decide)
theorem wdL : Wd wL := wd_lit (l := [108, 97, 115, 116]) (by decide +kernel) (by simp) (by decide)
theorem wdTo : Wd wTo := wd_lit (l := [116, 111]) (by decide +kernel) (by simp) (by decide)
theorem wdEnd : Wd wEnd := wd_lit (l := [101, 110, 100]) (by decide +kernel) (by simp) (by decide)
theorem wdWays : Wd wWays := wd_lit (l := [119, 97, 121, 115]) (by decide +kernel) (by simp) (by decide)
def bH (o : Option Str) : Prop := (Bnd o).bind headW = none
def bT (o : Option Str) : Prop := (Bnd o).bind tailW = none
theorem rdForm_b0 {ls : List Str} {i : Nat} (h : bH ls[i]?) : rdForm ls i = .error i := by
  unfold rdForm
  unfold bH at h
  rw [wAt_eq]
  cases q : Bnd ls[i]? with
  | none => rfl
  | some w =>
    rw [q] at h
    have h : headW w = none := h
    dsimp only
    rw [h]
theorem rdForm_1 {ls : List Str} {i : Nat} {f : LF} (g : Gd f) (h : ls[i]? = some (lineH f)) : rdForm ls i = match wAt ls (i + 1) with
      | .error e => .error e
      | .ok w2 => match tailW w2 with
        | none => .error (i + 1)
        | some ts => .ok (f.1.map hw, ts) := by
  unfold rdForm
  rw [wAt_ok' (w := ("head" : Str) :: f.1.map hw) (by rw [h]; exact wds_H f)]
  dsimp only
  rw [headW_ok g] <;> rfl
theorem rdForm_b1 {ls : List Str} {i : Nat} {f : LF} (g : Gd f) (h : ls[i]? = some (lineH f)) (hb : bT ls[i + 1]?) : rdForm ls i = .error (i + 1) := by
  rw [rdForm_1 g h, wAt_eq]
  unfold bT at hb
  cases q : Bnd ls[i + 1]? with
  | none => rfl
  | some w =>
    rw [q] at hb
    have hb : tailW w = none := hb
    dsimp only
    rw [hb]
theorem rdForm_ok {ls : List Str} {i : Nat} {f : LF} (g : Gd f) (h : ls[i]? = some (lineH f)) (h2 : ls[i + 1]? = some (lineT f)) : rdForm ls i = .ok (wF f) := by
  rw [rdForm_1 g h, wAt_ok' (w := ("tail" : Str) :: f.2.map tw) (by rw [h2]; exact wds_T f)]
  dsimp only
  rw [tailW_ok g]; rfl
theorem rdPart_b0 {ls : List Str} {i : Nat} {p : Str} (h : Bnd ls[i]? ≠ some [p]) : rdPart ls i p = .error i := by
  unfold rdPart
  rw [wAt_eq]
  cases q : Bnd ls[i]? with
  | none => rfl
  | some w =>
    rw [q] at h
    dsimp only
    rw [if_neg fun e => h (by rw [e])]
theorem rdPart_1 {ls : List Str} {i : Nat} {p : Str} (w : Wd p) (h : ls[i]? = some p) : rdPart ls i p = rdForm ls (i + 1) := by
  unfold rdPart
  rw [wAt_ok' (w := [p]) (by rw [h]; exact wds_one w)]
  exact if_pos rfl
abbrev LT := LF × LF × LF
structure GdT (t : LT) : Prop where
  a : Gd t.1
  b : Gd t.2.1
  c : Gd t.2.2
def wT (t : LT) : Tr := (wF t.1, wF t.2.1, wF t.2.2)
def triL (t : LT) : List Str := [wTo, wP, lineH t.1, lineT t.1, wC, lineH t.2.1, lineT t.2.1, wL, lineH t.2.2, lineT t.2.2]
def bR (r : Nat) (o : Option Str) : Prop := match r with
  | 1 => Bnd o ≠ some [wP]
  | 2 => bH o
  | 3 => bT o
  | 4 => Bnd o ≠ some [wC]
  | 5 => bH o
  | 6 => bT o
  | 7 => Bnd o ≠ some [wL]
  | 8 => bH o
  | 9 => bT o
  | _ => False
theorem part_ok {ls : List Str} {i : Nat} {p : Str} {f : LF} (w : Wd p) (g : Gd f) (h0 : ls[i]? = some p) (h1 : ls[i + 1]? = some (lineH f)) (h2 : ls[i + 2]? = some (lineT f)) : rdPart ls i p = .ok (wF f) := by
  rw [rdPart_1 w h0, rdForm_ok g h1 h2]
theorem triple_ok {ls : List Str} {i : Nat} {t : LT} (g : GdT t) (h : ∀ r, 1 ≤ r → r < 10 → ls[i + (r - 1)]? = (triL t)[r]?) : rdTriple ls i = .ok (wT t) := by
  unfold rdTriple
  rw [show rdPart ls i "price" = .ok (wF t.1) from part_ok wdP g.a (h 1 (by omega) (by omega)) (h 2 (by omega) (by omega)) (h 3 (by omega) (by omega))]
  dsimp only
  rw [show rdPart ls (i + 3) "count" = .ok (wF t.2.1) from part_ok wdC g.b (h 4 (by omega) (by omega)) (h 5 (by omega) (by omega)) (h 6 (by omega) (by omega))]
  dsimp only
  rw [show rdPart ls (i + 6) "last" = .ok (wF t.2.2) from part_ok wdL g.c (h 7 (by omega) (by omega)) (h 8 (by omega) (by omega)) (h 9 (by omega) (by omega))]
  rfl
theorem triple_bad {ls : List Str} {i q : Nat} {t : LT} (g : GdT t) (h : ∀ r, 1 ≤ r → r < q → ls[i + (r - 1)]? = (triL t)[r]?) (hb : bR q ls[i + (q - 1)]?) : rdTriple ls i = .error (i + (q - 1)) := by
  have p1 : 3 < q → rdPart ls i "price" = .ok (wF t.1) := fun z => part_ok wdP g.a (h 1 (by omega) (by omega)) (h 2 (by omega) (by omega)) (h 3 (by omega) (by omega))
  have p2 : 6 < q → rdPart ls (i + 3) "count" = .ok (wF t.2.1) := fun z => part_ok wdC g.b (h 4 (by omega) (by omega)) (h 5 (by omega) (by omega)) (h 6 (by omega) (by omega))
  unfold rdTriple
  match q, hb, h, p1, p2 with
  | 1, hb, h, p1, p2 => rw [show rdPart ls i "price" = .error i from rdPart_b0 hb]; rfl
  | 2, hb, h, p1, p2 => rw [show rdPart ls i "price" = .error (i + 1) from (rdPart_1 wdP (h 1 (by omega) (by omega))).trans (rdForm_b0 hb)]
  | 3, hb, h, p1, p2 => rw [show rdPart ls i "price" = .error (i + 2) from (rdPart_1 wdP (h 1 (by omega) (by omega))).trans (rdForm_b1 g.a (h 2 (by omega) (by omega)) hb)]
  | 4, hb, h, p1, p2 => rw [p1 (by omega)]; dsimp only; rw [show rdPart ls (i + 3) "count" = .error (i + 3) from rdPart_b0 hb]
  | 5, hb, h, p1, p2 => rw [p1 (by omega)]; dsimp only; rw [show rdPart ls (i + 3) "count" = .error (i + 4) from (rdPart_1 wdC (h 4 (by omega) (by omega))).trans (rdForm_b0 hb)]
  | 6, hb, h, p1, p2 => rw [p1 (by omega)]; dsimp only; rw [show rdPart ls (i + 3) "count" = .error (i + 5) from (rdPart_1 wdC (h 4 (by omega) (by omega))).trans (rdForm_b1 g.b (h 5 (by omega) (by omega)) hb)]
  | 7, hb, h, p1, p2 => rw [p1 (by omega)]; dsimp only; rw [p2 (by omega)]; dsimp only; rw [show rdPart ls (i + 6) "last" = .error (i + 6) from rdPart_b0 hb]
  | 8, hb, h, p1, p2 => rw [p1 (by omega)]; dsimp only; rw [p2 (by omega)]; dsimp only; rw [show rdPart ls (i + 6) "last" = .error (i + 7) from (rdPart_1 wdL (h 7 (by omega) (by omega))).trans (rdForm_b0 hb)]
  | 9, hb, h, p1, p2 => rw [p1 (by omega)]; dsimp only; rw [p2 (by omega)]; dsimp only; rw [show rdPart ls (i + 6) "last" = .error (i + 8) from (rdPart_1 wdL (h 7 (by omega) (by omega))).trans (rdForm_b1 g.c (h 8 (by omega) (by omega)) hb)]
  | 0, hb, _, _, _ => exact hb.elim
  | q + 10, hb, _, _, _ => exact hb.elim
/-! ### papers -/
def At (ls : List Str) : Nat → List LT → Prop
  | _, [] => True
  | n, t :: r => (∀ j, j < 10 → ls[1 + 10 * n + j]? = (triL t)[j]?) ∧ At ls (n + 1) r
theorem loopP_s {ls : List Str} {k n : Nat} : loopP ls (k + 1) n = match wAt ls (1 + 10 * n) with
    | .error e => .error e
    | .ok w => if w = [("to" : Str)] then (match rdTriple ls (1 + 10 * n + 1) with
      | .error e => .error e
      | .ok T => match loopP ls k (n + 1) with
        | .error e => .error e
        | .ok (Ts, m) => .ok (T :: Ts, m)) else if n = 0 then .error 1 else .ok ([], n) := rfl
theorem loop_pre {ls : List Str} : ∀ (ps : List LT) (k n : Nat), (∀ t ∈ ps, GdT t) → At ls n ps → loopP ls (k + ps.length) n = match loopP ls k (n + ps.length) with
    | .error e => .error e
    | .ok (Ts, q) => .ok (ps.map wT ++ Ts, q)
  | [], k, n, _, _ => by
    show loopP ls k n = match loopP ls k n with | .error e => .error e | .ok (Ts, q) => .ok ([] ++ Ts, q)
    cases loopP ls k n with
    | error e => rfl
    | ok p => rfl
  | t :: r, k, n, g, ⟨h1, h2⟩ => by
    have ih := loop_pre (ls := ls) r k (n + 1) (fun z hz => g z (List.mem_cons_of_mem _ hz)) h2
    show loopP ls ((k + r.length) + 1) n = _
    have gt := g t (by simp)
    have e1 : wAt ls (1 + 10 * n) = .ok [("to" : Str)] := wAt_ok' (by
      have := h1 0 (by omega)
      rw [show 1 + 10 * n = 1 + 10 * n + 0 from rfl, this]
      exact wds_one wdTo)
    have e2 : rdTriple ls (1 + 10 * n + 1) = .ok (wT t) := triple_ok gt fun q hq hq2 => by
      rw [show 1 + 10 * n + 1 + (q - 1) = 1 + 10 * n + q by omega]
      exact h1 q hq2
    rw [loopP_s, e1]
    dsimp only
    rw [if_pos rfl, e2]
    dsimp only
    rw [ih, show n + 1 + r.length = n + (t :: r).length by rw [List.length_cons]; omega]
    cases loopP ls k (n + (t :: r).length) with
    | error e => rfl
    | ok p => rfl
theorem triL_len {t : LT} : (triL t).length = 10 := rfl
theorem flat_len : ∀ ps : List LT, (ps.flatMap triL).length = 10 * ps.length
  | [] => rfl
  | t :: r => by rw [List.flatMap_cons, List.length_append, flat_len r, triL_len, List.length_cons]; omega
theorem at_of {ls : List Str} : ∀ (ps : List LT) (n : Nat), (∀ j, j < 10 * ps.length → ls[1 + 10 * n + j]? = (ps.flatMap triL)[j]?) → At ls n ps
  | [], n, h => trivial
  | t :: r, n, h => by
    rw [List.length_cons] at h
    refine ⟨fun j hj => ?_, at_of r (n + 1) fun j hj => ?_⟩
    · rw [h j (by omega), List.flatMap_cons, List.getElem?_append_left (by rw [triL_len]; exact hj)]
    · have := h (10 + j) (by omega)
      rw [show 1 + 10 * (n + 1) + j = 1 + 10 * n + (10 + j) by omega, this, List.flatMap_cons, List.getElem?_append_right (by rw [triL_len]; omega), triL_len, show 10 + j - 10 = j by omega]
def papL (ps : List LT) : List Str := wWays :: (ps.flatMap triL ++ [wEnd])
theorem papL_len (ps : List LT) : (papL ps).length = 10 * ps.length + 2 := by
  unfold papL
  rw [List.length_cons, List.length_append, flat_len]; rfl
/-- the same lines ahead of p -/
def Agr (ls : List Str) (ps : List LT) (p : Nat) : Prop := ∀ j, j < p → ls[j]? = (papL ps)[j]?
theorem agr_at {ls : List Str} {ps : List LT} {p m : Nat} (h : Agr ls ps p) (hm : m ≤ ps.length) (hp : 1 + 10 * m ≤ p) : At ls 0 (ps.take m) := by
  have hl : (ps.take m).length = m := by rw [List.length_take]; omega
  refine at_of _ 0 fun j hj => ?_
  rw [hl] at hj
  rw [show 1 + 10 * 0 + j = j + 1 by omega, h (j + 1) (by omega)]
  show (ps.flatMap triL ++ [wEnd])[j]? = _
  have e : ps.flatMap triL = (ps.take m).flatMap triL ++ (ps.drop m).flatMap triL := by rw [← List.flatMap_append, List.take_append_drop]
  rw [e, List.append_assoc, List.getElem?_append_left (by rw [flat_len, hl]; exact hj)]
theorem agr_ways {ls : List Str} {ps : List LT} {p : Nat} (h : Agr ls ps p) (hp : 1 ≤ p) : begP ls [("ways" : Str)] = .ok ls := by
  unfold begP
  rw [wAt_ok' (w := [("ways" : Str)]) (by rw [h 0 (by omega)]; exact wds_one wdWays)]
  exact if_pos rfl
theorem agr_loop {ls : List Str} {ps : List LT} {p m : Nat} (g : ∀ t ∈ ps, GdT t) (h : Agr ls ps p) (hm : m ≤ ps.length) (h8 : m ≤ 8) (hp : 1 + 10 * m ≤ p) : loopP ls 8 0 = match loopP ls (8 - m) m with
    | .error e => .error e
    | .ok (Ts, q) => .ok ((ps.take m).map wT ++ Ts, q) := by
  have hl : (ps.take m).length = m := by rw [List.length_take]; omega
  have := loop_pre (ls := ls) (ps.take m) (8 - m) 0 (fun t ht => g t (List.mem_of_mem_take ht)) (agr_at h hm hp)
  rw [hl, show 8 - m + m = 8 by omega, Nat.zero_add] at this
  exact this
theorem parse_end {ls : List Str} {ps : List LT} {m : Nat} (g : ∀ t ∈ ps, GdT t) (h : Agr ls ps (1 + 10 * m)) (hm : m ≤ ps.length) (h1 : 1 ≤ m) (h8 : m ≤ 8) (he : Bnd ls[1 + 10 * m]? = some [wEnd]) : parseP ls = if 1 + 10 * m + 1 < ls.length then .error (1 + 10 * m + 1) else .ok ((ps.take m).map wT) := by
  have hw := wAt_ok' he
  have hl : loopP ls (8 - m) m = .ok ([], m) := by
    cases q : 8 - m with
    | zero => rfl
    | succ k =>
      rw [loopP_s, hw]
      dsimp only
      rw [if_neg (by decide +kernel : ¬ [wEnd] = [("to" : Str)]), if_neg (by omega)]
  unfold parseP
  rw [agr_ways h (by omega)]
  dsimp only
  rw [agr_loop g h hm h8 (Nat.le_refl _), hl]
  dsimp only
  unfold finP
  rw [hw]
  dsimp only
  rw [if_pos (show [wEnd] = [("end" : Str)] from rfl), List.append_nil]
  by_cases z : 1 + 10 * m + 1 < ls.length
  · rw [if_pos z, if_pos z]
  · rw [if_neg z, if_neg z]
def badAt (p : Nat) (o : Option Str) : Prop := if p = 0 then Bnd o ≠ some [wWays] else if (p - 1) % 10 = 0 then Bnd o ≠ some [wTo] ∧ (Bnd o ≠ some [wEnd] ∨ p = 1) else bR ((p - 1) % 10) o
theorem parse_bad {ls : List Str} {ps : List LT} {p : Nat} (g : ∀ t ∈ ps, GdT t) (h : Agr ls ps p) (hp : p ≤ 10 * ps.length + 1) (h8 : p ≤ 81) (hb : badAt p ls[p]?) : parseP ls = .error p := by
  unfold badAt at hb
  by_cases h0 : p = 0
  · subst h0
    rw [if_pos rfl] at hb
    have : begP ls [("ways" : Str)] = .error 0 := by
      unfold begP
      rw [wAt_eq]
      cases q : Bnd ls[0]? with
      | none => rfl
      | some w =>
        rw [q] at hb
        dsimp only
        exact if_neg fun e => hb (by rw [e]; rfl)
    unfold parseP
    rw [this]
  · rw [if_neg h0] at hb
    have hm : (p - 1) / 10 ≤ ps.length := by omega
    have hm8 : (p - 1) / 10 ≤ 8 := by omega
    unfold parseP
    rw [agr_ways h (by omega)]
    dsimp only
    rw [agr_loop g h hm hm8 (by omega)]
    by_cases hr : (p - 1) % 10 = 0
    · rw [if_pos hr] at hb
      have ep : 1 + 10 * ((p - 1) / 10) = p := by omega
      generalize (p - 1) / 10 = m at *
      subst ep
      cases q : Bnd ls[1 + 10 * m]? with
      | none =>
        have hw : wAt ls (1 + 10 * m) = .error (1 + 10 * m) := wAt_no' q
        cases q8 : 8 - m with
        | zero =>
          rw [show loopP ls 0 m = .ok ([], m) from rfl]
          dsimp only
          unfold finP; rw [hw]
        | succ k => rw [loopP_s, hw]
      | some w =>
        have hw : wAt ls (1 + 10 * m) = .ok w := wAt_ok' q
        rw [q] at hb
        have b1 : w ≠ [("to" : Str)] := fun e => hb.1 (by rw [e]; rfl)
        have fin : m ≠ 0 → finP ls (1 + 10 * m) = .error (1 + 10 * m) := fun z => by
          unfold finP; rw [hw]
          dsimp only
          refine if_neg fun e => ?_
          rcases hb.2 with e2 | e2
          · exact e2 (by rw [e]; rfl)
          · omega
        cases q8 : 8 - m with
        | zero =>
          rw [show loopP ls 0 m = .ok ([], m) from rfl]
          dsimp only
          rw [fin (by omega)]
        | succ k =>
          rw [loopP_s, hw]
          dsimp only
          rw [if_neg b1]
          by_cases hz : m = 0
          · subst hz; rfl
          · rw [if_neg hz]
            dsimp only
            rw [fin hz]
    · rw [if_neg hr] at hb
      have hml : (p - 1) / 10 < ps.length := by omega
      have ep : p = 1 + 10 * ((p - 1) / 10) + (p - 1) % 10 := by omega
      have hr10 : (p - 1) % 10 < 10 := Nat.mod_lt _ (by decide)
      generalize (p - 1) / 10 = m at *
      generalize (p - 1) % 10 = r at *
      obtain ⟨k, q8⟩ : ∃ k, 8 - m = k + 1 := ⟨8 - m - 1, by omega⟩
      rw [q8]
      have line : ∀ j, j < 10 → (papL ps)[1 + 10 * m + j]? = (triL ps[m])[j]? := fun j hj => by
        have e : ps = ps.take m ++ ps[m] :: ps.drop (m + 1) := by rw [List.getElem_cons_drop, List.take_append_drop]
        show (wWays :: (ps.flatMap triL ++ [wEnd]))[1 + 10 * m + j]? = _
        rw [show 1 + 10 * m + j = (10 * m + j) + 1 by omega, List.getElem?_cons_succ]
        conv => lhs; rw [e]
        rw [List.flatMap_append, List.flatMap_cons, List.append_assoc, List.append_assoc]
        have hl : ((ps.take m).flatMap triL).length = 10 * m := by rw [flat_len, List.length_take]; congr 1; omega
        rw [List.getElem?_append_right (by rw [hl]; omega), hl, show 10 * m + j - 10 * m = j by omega, List.getElem?_append_left (by rw [triL_len]; exact hj)]
      have gt : GdT ps[m] := g _ (List.getElem_mem hml)
      have w1 : wAt ls (1 + 10 * m) = .ok [("to" : Str)] := wAt_ok' (by
        rw [h (1 + 10 * m) (by omega)]
        have := line 0 (by omega)
        rw [show 1 + 10 * m + 0 = 1 + 10 * m from rfl] at this
        rw [this]
        exact wds_one wdTo)
      have tb : rdTriple ls (1 + 10 * m + 1) = .error (1 + 10 * m + 1 + (r - 1)) := triple_bad gt (fun q hq hq2 => by
        rw [show 1 + 10 * m + 1 + (q - 1) = 1 + 10 * m + q by omega, h _ (by omega)]
        exact line q (by omega)) (by
        rw [show 1 + 10 * m + 1 + (r - 1) = p by omega]; exact hb)
      rw [loopP_s, w1]
      dsimp only
      rw [if_pos rfl, tb]
      dsimp only
      rw [show 1 + 10 * m + 1 + (r - 1) = p by omega]
end K92

/-! lines that are wrong everywhere; draws -/
namespace K92
open PySem PySem.Spec PyProof.Rows L2 Z
def six : List (List Str) := [[wWays], [wTo], [wEnd], [wP], [wC], [wL]]
def allBad (x : Str) : Bool := match wds x with
  | none => true
  | some w => !(six.contains w) && (headW w).isNone && (tailW w).isNone
theorem bR_all {r : Nat} {o : Option Str} (h0 : r ≠ 0) (h10 : r < 10) (h1 : Bnd o ≠ some [wP]) (h2 : Bnd o ≠ some [wC]) (h3 : Bnd o ≠ some [wL]) (h4 : bH o) (h5 : bT o) : bR r o :=
  match r, h0, h10 with
  | 1, _, _ => h1
  | 2, _, _ => h4
  | 3, _, _ => h5
  | 4, _, _ => h2
  | 5, _, _ => h4
  | 6, _, _ => h5
  | 7, _, _ => h3
  | 8, _, _ => h4
  | 9, _, _ => h5
  | 0, h, _ => absurd rfl h
  | n + 10, _, h => by omega
theorem bad_any {x : Str} (h : allBad x = true) {p : Nat} : badAt p (some x) := by
  have hp : (p - 1) % 10 < 10 := Nat.mod_lt _ (by decide)
  have hB : Bnd (some x) = wds x := rfl
  unfold allBad at h
  cases q : wds x with
  | none =>
    unfold badAt
    rw [hB, q]
    split
    · intro e; cases e
    · split
      · exact ⟨(fun e => by cases e), .inl fun e => by cases e⟩
      · rename_i h0 h1
        have nn : ∀ z, Bnd (some x) ≠ some z := fun z e => by rw [hB, q] at e; cases e
        exact bR_all h1 hp (nn _) (nn _) (nn _) (by unfold bH; rw [hB, q]; rfl) (by unfold bT; rw [hB, q]; rfl)
  | some w =>
    rw [q] at h
    have h : (!(six.contains w) && (headW w).isNone && (tailW w).isNone) = true := h
    rw [Bool.and_eq_true, Bool.and_eq_true, Bool.not_eq_true'] at h
    obtain ⟨⟨h1, h2⟩, h3⟩ := h
    have h2 : headW w = none := by simpa using h2
    have h3 : tailW w = none := by simpa using h3
    have n : ∀ z ∈ six, (some w : Option (List Str)) ≠ some z := fun z hz e => by
      have e : w = z := by cases e; rfl
      have h1 : ¬ (six.contains w = true) := by rw [h1]; simp
      exact h1 (by rw [e]; exact List.contains_iff_mem.mpr hz)
    unfold badAt
    rw [hB, q]
    split
    · exact n _ (by simp [six])
    · split
      · exact ⟨n _ (by simp [six]), .inl (n _ (by simp [six]))⟩
      · rename_i h0 h4
        have nn : ∀ z ∈ six, Bnd (some x) ≠ some z := fun z hz => by rw [hB, q]; exact n z hz
        exact bR_all h4 hp (nn _ (by simp [six])) (nn _ (by simp [six])) (nn _ (by simp [six])) (by unfold bH; rw [hB, q]; exact h2) (by unfold bT; rw [hB, q]; exact h3)
theorem bad_none {p : Nat} : badAt p none := by
  unfold badAt
  split
  · intro e; cases e
  · split
    · exact ⟨(fun e => by cases e), .inl fun e => by cases e⟩
    · rename_i h0 h1
      exact bR_all h1 (Nat.mod_lt (p - 1) (show 10 > 0 by decide)) (fun e => by cases e) (fun e => by cases e) (fun e => by cases e) rfl rfl
def wrong1 : List Str := ["", " end", "end ", "nonsense", "to 1", "price 1", "count count", "last -1", "head 01", "tail", "tail 1", "To"]
def wrong2 : List Str := ["tail 1/2/3", "head " ++ Txt.mul "1" 41, "head -" ++ Txt.mul "1" 40, "way", "paper", "to\t", "price\t", "office a"]
def wrongL : List Str := wrong1 ++ wrong2
theorem wrong_bad : ∀ x ∈ wrongL, allBad x = true := by decide +kernel
theorem wrong_len : ∀ x ∈ wrongL, x.length ≤ 1000 := by decide +kernel
theorem wrong_nl : ∀ x ∈ wrongL, 10 ∉ tl x := by decide +kernel
/-! ### draws -/
section
variable {J : Sto} {a b c d e x : D}
theorem q0 : ixW (some (.lst [a, b, c, d, e]) :: J) (.r 0) (.v (.int 0)) = some (.v a) := rfl
theorem q1 : ixW (some (.lst [a, b, c, d, e]) :: J) (.r 0) (.v (.int 1)) = some (.v b) := rfl
theorem q2 : ixW (some (.lst [a, b, c, d, e]) :: J) (.r 0) (.v (.int 2)) = some (.v c) := rfl
theorem q3 : ixW (some (.lst [a, b, c, d, e]) :: J) (.r 0) (.v (.int 3)) = some (.v d) := rfl
theorem q4 : ixW (some (.lst [a, b, c, d, e]) :: J) (.r 0) (.v (.int 4)) = some (.v e) := rfl
theorem u1 : putW (some (.lst [a, b, c, d, e]) :: J) (.r 0) (.v (.int 1)) (.v x) = some (some (.lst [a, x, c, d, e]) :: J) := rfl
theorem u2 : putW (some (.lst [a, b, c, d, e]) :: J) (.r 0) (.v (.int 2)) (.v x) = some (some (.lst [a, b, x, d, e]) :: J) := rfl
theorem u3 : putW (some (.lst [a, b, c, d, e]) :: J) (.r 0) (.v (.int 3)) (.v x) = some (some (.lst [a, b, c, x, e]) :: J) := rfl
theorem u4 : putW (some (.lst [a, b, c, d, e]) :: J) (.r 0) (.v (.int 4)) (.v x) = some (some (.lst [a, b, c, d, x]) :: J) := rfl
end
theorem mulOk_r {i j : Int} (h : Builtin.Int.intBits j ≤ 64) : mulOk i j = true := by
  unfold mulOk
  have : decide (Builtin.Int.intBits j > shortFactorBits) = false := decide_eq_false (by unfold shortFactorBits; omega)
  rw [this]; simp
theorem mo1 {i : Int} : mulOk i 48271 = true := mulOk_r (by decide +kernel)
theorem mo2 {i : Int} : mulOk i 69621 = true := mulOk_r (by decide +kernel)
theorem mo3 {i : Int} : mulOk i 31 = true := mulOk_r (by decide +kernel)
theorem mo4 {m : Int} (h0 : 0 ≤ m) (h : m < 2147483647) : mulOk m m = true := mulOk_r (PySem.intBits_le_iff.mpr (by omega))
theorem dr2 {a : D} {k v c lim : Int} {b : Bool} {o : Option W} {J : Sto} (hv : 0 ≤ v) (h1 : 1 ≤ lim) (h2 : lim < 1073741824) : ∃ r v' c', 0 ≤ r ∧ r < lim ∧ 0 ≤ v' ∧
    evSs G_law_draw (B_law_draw.drop 1) [some (.r 0), some (.v (.int lim)), o, none, none] (some (.lst [a, .int k, .int v, .int c, .bl b]) :: J) = .ok (.rt (.v (.int r))) (some (.lst [a, .int k, .int v', .int c', .bl b]) :: J) := by
  have hl0 : lim ≠ 0 := by omega
  have hl : lim.natAbs < 1073741824 := by omega
  unfold B_law_draw G_law_draw
  cases b with
  | true =>
    by_cases hz : v.fdiv lim = 0
    · refine ⟨v.fmod lim, v.fdiv lim, 0, Int.fmod_nonneg_of_pos v (by omega), Int.fmod_lt_of_pos v (by omega), by omega, ?_⟩
      simp [q0, q1, q2, q3, q4, u1, u2, u3, u4, vmod, vfdv, hl0, hl, hz]
    · refine ⟨v.fmod lim, v.fdiv lim, c - 1, Int.fmod_nonneg_of_pos v (by omega), Int.fmod_lt_of_pos v (by omega), Int.fdiv_nonneg hv (by omega), ?_⟩
      simp [q0, q1, q2, q3, q4, u1, u2, u3, u4, vmod, vfdv, hl0, hl, hz]
  | false =>
    have m1 := Int.fmod_nonneg_of_pos (v * 48271 + (c - 1) * 69621 + 7) (show (0 : Int) < 2147483647 by omega)
    have m2 := Int.fmod_lt_of_pos (v * 48271 + (c - 1) * 69621 + 7) (show (0 : Int) < 2147483647 by omega)
    have m3 := mo4 m1 m2
    generalize hm : (v * 48271 + (c - 1) * 69621 + 7).fmod 2147483647 = m at m1 m2 m3
    refine ⟨((m * m + v * 31 + (c - 1)).fmod 1000003).fmod lim, v, c - 1, Int.fmod_nonneg_of_pos _ (by omega), Int.fmod_lt_of_pos _ (by omega), hv, ?_⟩
    simp [q0, q1, q2, q3, q4, u1, u2, u3, u4, vmod, vmul, hl0, mo1, mo2, mo3, hm, m3]
def sx1 : Sx := .ifs (.cmp .eq (.idx (.loc 0) (.int 3)) (.int 0))
    [.ifs (.cmp .ge (.idx (.loc 0) (.int 1)) (.blt .len (.idx (.loc 0) (.int 0)) []))
    [.ret (.int 0)]
    [], .asg (.nm 2) (.idx (.idx (.loc 0) (.int 0)) (.idx (.loc 0) (.int 1))), .ifs (.cmp .lt (.loc 2) (.int 0))
    [.asg (.nm 2) (.bin .sub (.neg (.int 1)) (.loc 2))]
    [], .sput (.loc 0) (.int 1) (.bin .add (.idx (.loc 0) (.int 1)) (.int 1)), .sput (.loc 0) (.int 2) (.loc 2), .sput (.loc 0) (.int 4) (.cmp .ge (.loc 2) (.bin .pow (.int 10) (.int 18))), .sput (.loc 0) (.int 3) (.int 6), .ifs (.idx (.loc 0) (.int 4))
    [.sput (.loc 0) (.int 3) (.int 60)]
    []]
    []
/-- the law's state -/
structure Stt where
  ns : List Int
  k : Nat
  v : Int
  c : Int
  b : Bool
  hv : 0 ≤ v
def stL (s : Stt) : List D := [.lst (s.ns.map D.int), .int s.k, .int s.v, .int s.c, .bl s.b]
def SS (s : Stt) (J : Sto) : Sto := some (.lst (stL s)) :: J
theorem v_draw (s : Stt) (J : Sto) {lim : Int} (h1 : 1 ≤ lim) (h2 : lim < 1073741824) : ∃ (r : Int) (s' : Stt), 0 ≤ r ∧ r < lim ∧ F_law_draw [.r 0, .v (.int lim)] (SS s J) = .ok (.v (.int r)) (SS s' J) := by
  obtain ⟨ns, k, v, c, b, hv⟩ := s
  have two : ∀ (s : Sx) (r : List Sx) (en : WEn) (S : Sto), evSs G_law_draw (s :: r) en S = (evS G_law_draw s en S).bind fun o S1 => match o with | .nx e => evSs G_law_draw r e S1 | o => .ok o S1 := fun _ _ _ _ => rfl
  have hB : B_law_draw = sx1 :: B_law_draw.drop 1 := rfl
  rw [e_law_draw]
  have go : ∀ (k' : Nat) (v' c' : Int) (b' : Bool) (o : Option W), 0 ≤ v' → evS G_law_draw sx1 [some (.r 0), some (.v (.int lim)), none, none, none] (SS ⟨ns, k, v, c, b, hv⟩ J) = .ok (.nx [some (.r 0), some (.v (.int lim)), o, none, none]) (some (.lst [.lst (ns.map D.int), .int k', .int v', .int c', .bl b']) :: J) → ∃ (r : Int) (s' : Stt), 0 ≤ r ∧ r < lim ∧ (evSs G_law_draw B_law_draw [some (.r 0), some (.v (.int lim)), none, none, none] (SS ⟨ns, k, v, c, b, hv⟩ J)).out = .ok (.v (.int r)) (SS s' J) := by
    intro k' v' c' b' o hv' h
    obtain ⟨r, v2, c2, r1, r2, r3, r4⟩ := dr2 (a := .lst (ns.map D.int)) (k := k') (v := v') (c := c') (b := b') (o := o) (J := J) hv' h1 h2
    refine ⟨r, ⟨ns, k', v2, c2, b', r3⟩, r1, r2, ?_⟩
    rw [hB, two, h]
    simp only [Rs.bind_ok, r4]
    rfl
  by_cases hc : c = 0
  · subst hc
    by_cases hk : k < ns.length
    · have hk' : ¬ ((ns.length : Int) ≤ k) := by omega
      have hx : ∀ {S : Sto}, ixW S (.v (.lst (ns.map D.int))) (.v (.int (k : Int))) = some (.v (.int ns[k])) := fun {S} => ix_lst (by rw [List.getElem?_map, List.getElem?_eq_getElem hk]; rfl)
      generalize ns[k] = z at hx
      have e18 : vpow (.int 10) (.int 18) = some (.int 1000000000000000000) := by simp [vpow]
      have hl : ((ns.map D.int).length : Int) = ns.length := by rw [List.length_map]
      have ek : ((k : Int) + 1) = ((k + 1 : Nat) : Int) := by omega
      by_cases hz : z < 0
      · have hv' : 0 ≤ -1 - z := by omega
        by_cases hb : (1000000000000000000 : Int) ≤ -1 - z
        · refine go (k + 1) (-1 - z) 60 true (some (.v (.int (-1 - z)))) hv' ?_
          unfold sx1 G_law_draw SS stL
          simp [q0, q1, q2, q3, q4, u1, u2, u3, u4, hk', hx, hl, hz, vneg, e18, hb]
        · refine go (k + 1) (-1 - z) 6 false (some (.v (.int (-1 - z)))) hv' ?_
          unfold sx1 G_law_draw SS stL
          simp [q0, q1, q2, q3, q4, u1, u2, u3, u4, hk', hx, hl, hz, vneg, e18, hb]
      · have hv' : 0 ≤ z := by omega
        by_cases hb : (1000000000000000000 : Int) ≤ z
        · refine go (k + 1) z 60 true (some (.v (.int z))) hv' ?_
          unfold sx1 G_law_draw SS stL
          simp [q0, q1, q2, q3, q4, u1, u2, u3, u4, hk', hx, hl, hz, vneg, e18, hb]
        · refine go (k + 1) z 6 false (some (.v (.int z))) hv' ?_
          unfold sx1 G_law_draw SS stL
          simp [q0, q1, q2, q3, q4, u1, u2, u3, u4, hk', hx, hl, hz, vneg, e18, hb]
    · have hk' : ((ns.length : Int) ≤ k) := by omega
      refine ⟨0, ⟨ns, k, v, 0, b, hv⟩, by omega, by omega, ?_⟩
      unfold B_law_draw G_law_draw SS stL
      simp [q0, q1, q2, q3, q4, hk']
  · refine go k v c b none hv ?_
    unfold sx1 G_law_draw SS stL
    simp [q3, hc]
end K92

/-! drawn numbers, forms, papers -/
namespace K92
open PySem PySem.Spec PyProof.Rows L2 Z
theorem mulOk_l {i j : Int} (h : Builtin.Int.intBits i ≤ 64) : mulOk i j = true := by
  unfold mulOk
  have : decide (Builtin.Int.intBits i > shortFactorBits) = false := decide_eq_false (by unfold shortFactorBits; omega)
  rw [this]; simp
theorem v_number (s : Stt) (J : Sto) : ∃ (i : Int) (s' : Stt), i.natAbs < 10 ^ 38 ∧ F_law_number [.r 0] (SS s J) = .ok (.v (.int i)) (SS s' J) := by
  rw [e_law_number]
  unfold B_law_number G_law_number
  obtain ⟨k, s1, k1, k2, hk⟩ := v_draw s J (lim := 8) (by omega) (by omega)
  by_cases h5 : k < 5
  · obtain ⟨r, s2, r1, r2, hr⟩ := v_draw s1 J (lim := 9) (by omega) (by omega)
    refine ⟨r - 3, s2, Nat.lt_trans (show _ < 1000 by omega) (by decide), ?_⟩
    simp [callV, hk, h5, hr]
  · by_cases h7 : k < 7
    · obtain ⟨r, s2, r1, r2, hr⟩ := v_draw s1 J (lim := 241) (by omega) (by omega)
      refine ⟨r - 120, s2, Nat.lt_trans (show _ < 1000 by omega) (by decide), ?_⟩
      simp [callV, hk, h5, h7, hr]
    · obtain ⟨r, s2, r1, r2, hr⟩ := v_draw s1 J (lim := 2001) (by omega) (by omega)
      obtain ⟨q, s3, q1, q2, hq⟩ := v_draw s2 J (lim := 1000) (by omega) (by omega)
      have e24 : vpow (.int 10) (.int 24) = some (.int 1000000000000000000000000) := by simp [vpow]
      have mo : mulOk (r - 1000) 1000000000000000000000000 = true := mulOk_l (PySem.intBits_le_iff.mpr (by omega))
      refine ⟨(r - 1000) * 1000000000000000000000000 + q, s3, Nat.lt_of_lt_of_le (show _ < 10 ^ 30 by omega) (by decide), ?_⟩
      simp [callV, hk, h5, h7, hr, hq, e24, vmul, mo]
def Lng (i : Int) : Prop := Sml i ∧ Sml (i.natAbs : Int)
theorem v_long (s : Stt) (J : Sto) : ∃ (i : Int) (s' : Stt), Lng i ∧ F_law_long [.r 0] (SS s J) = .ok (.v (.int i)) (SS s' J) := by
  rw [e_law_long]
  unfold B_law_long G_law_long
  obtain ⟨k, s1, k1, k2, hk⟩ := v_draw s J (lim := 12) (by omega) (by omega)
  by_cases h0 : k = 0
  · obtain ⟨r, s2, r1, r2, hr⟩ := v_draw s1 J (lim := 9) (by omega) (by omega)
    have e : vpow (.int 10) (.int 39) = some (.int 1000000000000000000000000000000000000000) := by simp [vpow]
    refine ⟨1000000000000000000000000000000000000000 + r, s2, ⟨sml_pos (by omega) (by omega), sml_pos (by omega) (by omega)⟩, ?_⟩
    simp [callV, hk, h0, hr, e]
  · by_cases h1 : k = 1
    · obtain ⟨r, s2, r1, r2, hr⟩ := v_draw s1 J (lim := 9) (by omega) (by omega)
      have e : vpow (.int 10) (.int 38) = some (.int 100000000000000000000000000000000000000) := by simp [vpow]
      refine ⟨0 - 100000000000000000000000000000000000000 - r, s2, ⟨sml_of (by omega), sml_of (by omega)⟩, ?_⟩
      simp [callV, hk, h0, h1, hr, e]
    · obtain ⟨i, s2, hi, hr⟩ := v_number s1 J
      refine ⟨i, s2, ⟨sml_of (by omega), sml_of (by omega)⟩, ?_⟩
      simp [callV, hk, h0, h1, hr]
/-- a comprehension with draws -/
theorem comp_dr {tg : Tg} {te : WF W} {G : GV} {en : WEn} {J : Sto} {P : D → Prop} : ∀ (items : List D) (s : Stt), (∀ x ∈ items, ∃ e1, bindV tg (.v x) en = some e1 ∧ ∀ s, ∃ d s', P d ∧ te e1 (SS s J) = .ok (.v d) (SS s' J)) →
    ∃ ds s', (∀ d ∈ ds, P d) ∧ ds.length = items.length ∧ compV tg (evC G []) te en items (SS s J) = .ok ds (SS s' J)
  | [], s, _ => ⟨[], s, by simp, rfl, rfl⟩
  | x :: r, s, h => by
    obtain ⟨e1, b1, h1⟩ := h x (by simp)
    obtain ⟨d, s1, p1, t1⟩ := h1 s
    obtain ⟨ds, s2, p2, l2, t2⟩ := comp_dr (te := te) (G := G) (J := J) (P := P) r s1 fun z hz => h z (List.mem_cons_of_mem _ hz)
    refine ⟨d :: ds, s2, ?_, by rw [List.length_cons, l2, List.length_cons], ?_⟩
    · intro z hz
      rcases List.mem_cons.mp hz with e | hz
      · rw [e]; exact p1
      · exact p2 z hz
    · unfold compV
      rw [b1]
      simp only [evC_1, Rs.bind_ok, t1, t2]
theorem pull {α : Type} {g : α → D} {Q : α → Prop} : ∀ ds : List D, (∀ d ∈ ds, ∃ o, Q o ∧ d = g o) → ∃ os : List α, os.map g = ds ∧ ∀ o ∈ os, Q o
  | [], _ => ⟨[], rfl, by simp⟩
  | d :: r, h => by
    obtain ⟨o, q, e⟩ := h d (by simp)
    obtain ⟨os, e2, q2⟩ := pull r fun z hz => h z (List.mem_cons_of_mem _ hz)
    refine ⟨o :: os, by rw [List.map_cons, e2, e], ?_⟩
    intro z hz
    rcases List.mem_cons.mp hz with e | hz
    · rw [e]; exact q
    · exact q2 z hz
theorem it_rng {j : Int} (h0 : 0 ≤ j) (h : j ≤ 16777216) : itW .rng1 [.v (.int j)] = some (rngD 0 j.toNat) := if_pos ⟨by omega, h⟩
theorem rng_len (i : Int) (n : Nat) : (rngD i n).length = n := rngD_len i n
theorem ix01 {S : Sto} {x y : D} {b : Bool} : ixW S (.v (.lst [x, y])) (.v (.int (if b = true then 1 else 0))) = some (.v (if b = true then y else x)) := by cases b <;> rfl
theorem v_text_form (s : Stt) (J : Sto) : ∃ (f : LF) (s' : Stt), Gd f ∧ F_law_text_form [.r 0] (SS s J) = .ok (.v (lfD f)) (SS s' J) := by
  rw [e_law_text_form]
  unfold B_law_text_form G_law_text_form
  obtain ⟨k, s1, k1, k2, hk⟩ := v_draw s J (lim := 6) (by omega) (by omega)
  have c1 := comp_dr (tg := .nm 2) (G := ⟨[("_law_draw", 2, F_law_draw), ("_law_long", 1, F_law_long)], [], ["range", "int", "tuple"], false⟩) (J := J) (en := [some (.r 0), none, none, none]) (P := fun d => ∃ o : Option Int, (∀ i, o = some i → Sml i) ∧ d = optI o)
    (te := evE ⟨[("_law_draw", 2, F_law_draw), ("_law_long", 1, F_law_long)], [], ["range", "int", "tuple"], false⟩ (.idx (.lst false [.non, (.call 1 (.loc 0) [])]) (.blt .int (.cmp .gt (.call 0 (.loc 0) [(.int 4)]) (.int 0)) []))) (rngD 0 k.toNat) s1 (by
      intro x hx
      refine ⟨_, rfl, fun s => ?_⟩
      obtain ⟨i, s2, hi, hr⟩ := v_long s J
      obtain ⟨q, s3, q1, q2, hq⟩ := v_draw s2 J (lim := 4) (by omega) (by omega)
      by_cases hz : 0 < q
      · refine ⟨.int i, s3, ⟨some i, (fun j e => by cases e; exact hi.1), rfl⟩, ?_⟩
        simp [callV, hr, hq, hz]; rfl
      · refine ⟨.non, s3, ⟨none, (fun j e => nomatch e), rfl⟩, ?_⟩
        simp [callV, hr, hq, hz]; rfl)
  obtain ⟨ds, s2, p1, l1, t1⟩ := c1
  obtain ⟨k', s3, k1', k2', hk'⟩ := v_draw s2 J (lim := 4) (by omega) (by omega)
  have c2 := comp_dr (tg := .nm 2) (G := ⟨[("_law_draw", 2, F_law_draw), ("_law_long", 1, F_law_long)], [], ["range", "int", "tuple"], false⟩) (J := J) (en := [some (.r 0), some (.v (.lst ds)), none, none]) (P := fun d => ∃ o : Option (Int × Int), (∀ p, o = some p → Sml p.1 ∧ Sml p.2) ∧ d = tD o)
    (te := evE ⟨[("_law_draw", 2, F_law_draw), ("_law_long", 1, F_law_long)], [], ["range", "int", "tuple"], false⟩ (.idx (.lst false [(.tup [.non, (.int 0)]), (.tup [(.call 1 (.loc 0) []), (.call 1 (.loc 0) [])])]) (.blt .int (.cmp .gt (.call 0 (.loc 0) [(.int 4)]) (.int 0)) []))) (rngD 0 (1 + k').toNat) s3 (by
      intro x hx
      refine ⟨_, rfl, fun s => ?_⟩
      obtain ⟨i, s2, hi, hr⟩ := v_long s J
      obtain ⟨j, s3, hj, hr2⟩ := v_long s2 J
      obtain ⟨q, s4, q1, q2, hq⟩ := v_draw s3 J (lim := 4) (by omega) (by omega)
      by_cases hz : 0 < q
      · refine ⟨.tup [.int i, .int j], s4, ⟨some (i, j), (fun p e => by cases e; exact ⟨hi.1, hj.1⟩), rfl⟩, ?_⟩
        simp [callV, hr, hr2, hq, hz]; rfl
      · refine ⟨.tup [.non, .int 0], s4, ⟨none, (fun p e => nomatch e), rfl⟩, ?_⟩
        simp [callV, hr, hr2, hq, hz]; rfl)
  obtain ⟨es, s4, p2, l2, t2⟩ := c2
  obtain ⟨hs, eh, gh⟩ := pull ds p1
  obtain ⟨ts, et, gt⟩ := pull es p2
  rw [rng_len] at l1 l2
  have lh : hs.length = k.toNat := by rw [← l1, ← eh, List.length_map]
  have lt : ts.length = (1 + k').toNat := by rw [← l2, ← et, List.length_map]
  refine ⟨(hs, ts), s4, ⟨gh, by show hs.length ≤ 5; omega, gt, by show 1 ≤ ts.length; omega, by show ts.length ≤ 4; omega⟩, ?_⟩
  simp [callV, hk, it_rng k1 (show k ≤ 16777216 by omega)]
  rw [t1]
  simp [hk', it_rng (show 0 ≤ 1 + k' by omega) (show 1 + k' ≤ 16777216 by omega)]
  rw [t2]
  simp [lfD, eh, et]
end K92

/-! papers as lines -/
namespace K92
open PySem PySem.Spec PyProof.Rows L2 Z
theorem vadd_str {a b : Str} (h : a.length + b.length ≤ sizeLine) : vadd (.str a) (.str b) = some (.str (a ++ b)) := if_pos h
def sD (ws : List Str) : List D := ws.map D.str
theorem sml_small {i : Int} (h : Sml i) : i.natAbs < 10 ^ 40 := by
  unfold Sml at h
  rw [TL.len_tl, show TL.tl (dec i) = _ from tl_dec i] at h
  have hl : (TL.numL i.natAbs).length ≤ 40 := by
    split at h
    · rw [List.length_cons] at h; omega
    · exact h
  have := digitsVal_lt (TL.numL i.natAbs) 0 (TL.numL_digits _)
  have e : NumText.digitsVal (TL.numL i.natAbs) = i.natAbs := TL.numL_val _
  rw [← e]
  refine Nat.lt_of_lt_of_le (show NumText.digitsVal (TL.numL i.natAbs) < (0 + 1) * 10 ^ (TL.numL i.natAbs).length from this) ?_
  rw [Nat.zero_add, Nat.one_mul]
  exact Nat.pow_le_pow_right (by decide) hl
theorem str_int {i : Int} (h : Sml i) : strA M00 (.int i) = some (.str (dec i)) := if_pos (log_small (sml_small h))
theorem fmt_int {i : Int} (h : Sml i) : vfmt (.int i) = some (.str (dec i)) := if_pos (log_small (sml_small h))
def okO (o : Option Int) : Prop := ∀ i, o = some i → Sml i
def okP (o : Option (Int × Int)) : Prop := ∀ p, o = some p → Sml p.1 ∧ Sml p.2
theorem hw_len {o : Option Int} (h : okO o) : (hw o).length ≤ 40 := by
  cases o with
  | none => decide +kernel
  | some i => exact h i rfl
theorem len_app (x y : Str) : (x ++ y).length = x.length + y.length := by
  rw [TL.len_tl, TL.len_tl, TL.len_tl, TL.tl_append, List.length_append]
theorem tw_len {o : Option (Int × Int)} (h : okP o) : (tw o).length ≤ 81 := by
  cases o with
  | none => decide +kernel
  | some p =>
    obtain ⟨v, s⟩ := p
    have h1 : (dec v).length ≤ 40 := (h _ rfl).1
    have h2 : (dec s).length ≤ 40 := (h _ rfl).2
    show (dec v ++ "/" ++ dec s).length ≤ 81
    rw [len_app, len_app, show ("/" : Str).length = 1 by decide +kernel]
    omega
theorem v_law_word {S : Sto} {o : Option Int} (h : okO o) : F_law_word [.v (optI o)] S = .ok (.v (.str (hw o))) S := by
  rw [e_law_word]
  unfold B_law_word G_law_word
  cases o with
  | none => simp [optI]; rfl
  | some i => simp [optI, str_int (h i rfl)]; rfl
theorem v_optional_word {S : Sto} {o : Option Int} (h : okO o) : Foptional_word [.v (optI o), .v (.str "none")] S = .ok (.v (.str (hw o))) S := by
  rw [eoptional_word]
  unfold Boptional_word Goptional_word
  cases o with
  | none => simp [optI]; rfl
  | some i => simp [optI, str_int (h i rfl)]; rfl
theorem emp_app (x : Str) : Str.empty ++ x = x := by
  refine TL.ext_tl ?_
  rw [TL.tl_append]; rfl
theorem v_pair_word {S : Sto} {o : Option (Int × Int)} (h : okP o) : F_pair_word [.v (tD o)] S = .ok (.v (.str (tw o))) S := by
  rw [e_pair_word]
  unfold B_pair_word G_pair_word
  cases o with
  | none => simp [tD]; rfl
  | some p =>
    obtain ⟨v, s⟩ := p
    have h1 : (dec v).length ≤ 40 := (h _ rfl).1
    have h2 : (dec s).length ≤ 40 := (h _ rfl).2
    have s0 := sl1000
    have l1 : ("/" : Str).length = 1 := by decide +kernel
    have b1 : (Str.empty ++ dec v).length ≤ sizeLine := by rw [emp_app]; omega
    have b2 : (Str.empty ++ dec v ++ "/").length ≤ sizeLine := by rw [emp_app, len_app, l1]; omega
    have b3 : (Str.empty ++ dec v ++ "/" ++ dec s).length ≤ sizeLine := by rw [emp_app, len_app, len_app, l1]; omega
    simp only [tD, evSs_2, evSs_1, evS_1, evS_6, evE_13, evE_1, evE_28, evE_27, evE_5, evJ_2, evJ_1, evT_1, evE_2, getV_0, getV_s, lft_some, Rs.bind_ok, bindV_tp, setAllV_cons, setAllV_nil, setV2_s, setV2_0, co_is, nonW_non, nonW_int, if_true, rd1_some' rdW_i, fmt_int (h _ rfl).1, fmt_int (h _ rfl).2, lfv_some, jsV, if_pos b1, if_pos b2, if_pos b3, out_rt]
    rw [emp_app]; rfl
theorem join_fold : ∀ (ws : List Str) (h : Str), ws.foldl (fun (a w : Str) => a ++ (" " : Str) ++ w) h = Txt.join " " (h :: ws)
  | [], h => by rw [TL.join_eq]; rfl
  | w :: r, h => by
    rw [List.foldl_cons, join_fold r]
    refine TL.ext_tl ?_
    rw [show TL.tl (Txt.join " " ((h ++ " " ++ w) :: r)) = _ from tlj _ _, show TL.tl (Txt.join " " (h :: w :: r)) = _ from tlj _ _]
    cases r with
    | nil =>
      show tl (h ++ " " ++ w) = tl h ++ (tl " " ++ tl w)
      rw [show tl (h ++ " " ++ w) = tl (h ++ " ") ++ tl w from TL.tl_append _ _, show tl (h ++ " ") = tl h ++ tl " " from TL.tl_append _ _, List.append_assoc]
    | cons q r =>
      show tl (h ++ " " ++ w) ++ (tl " " ++ TL.joinL (tl " ") ((q :: r).map tl)) = tl h ++ (tl " " ++ (tl w ++ (tl " " ++ TL.joinL (tl " ") ((q :: r).map tl))))
      rw [show tl (h ++ " " ++ w) = tl (h ++ " ") ++ tl w from TL.tl_append _ _, show tl (h ++ " ") = tl h ++ tl " " from TL.tl_append _ _]
      simp only [List.append_assoc]
theorem l_sp : (" " : Str).length = 1 := by decide +kernel
theorem fold_len : ∀ (ws : List Str) (h : Str) (n : Nat), (∀ w ∈ ws, w.length ≤ n) → (ws.foldl (fun (a w : Str) => a ++ (" " : Str) ++ w) h).length ≤ h.length + ws.length * (n + 1)
  | [], h, n, _ => by simp
  | w :: r, h, n, hw => by
    rw [List.foldl_cons]
    have := fold_len r (h ++ " " ++ w) n fun z hz => hw z (List.mem_cons_of_mem _ hz)
    have hh := hw w (by simp)
    rw [len_app, len_app, l_sp] at this
    rw [List.length_cons, Nat.succ_mul]
    omega
theorem lineH_fold (f : LF) : lineH f = (f.1.map hw).foldl (fun (a w : Str) => a ++ (" " : Str) ++ w) "head" := (join_fold _ _).symm
theorem lineT_fold (f : LF) : lineT f = (f.2.map tw).foldl (fun (a w : Str) => a ++ (" " : Str) ++ w) "tail" := (join_fold _ _).symm
theorem l_head : ("head" : Str).length = 4 := by decide +kernel
theorem l_tail : ("tail" : Str).length = 4 := by decide +kernel
theorem lineH_len {f : LF} (g : Gd f) : (lineH f).length ≤ 500 := by
  rw [lineH_fold]
  have := fold_len (f.1.map hw) "head" 40 (by
    intro w hm
    obtain ⟨o, ho, rfl⟩ := List.mem_map.mp hm
    exact hw_len (g.h o ho))
  rw [List.length_map, l_head] at this
  have := g.hl
  omega
theorem lineT_len {f : LF} (g : Gd f) : (lineT f).length ≤ 500 := by
  rw [lineT_fold]
  have := fold_len (f.2.map tw) "tail" 81 (by
    intro w hm
    obtain ⟨o, ho, rfl⟩ := List.mem_map.mp hm
    exact tw_len (g.t o ho))
  rw [List.length_map, l_tail] at this
  have := g.tl
  omega
def bodyH : List Sx := [.asg (.nm 1) (.bin .add (.bin .add (.loc 1) (.str " ")) (.call 0 (.loc 2) []))]
theorem loopH {S : Sto} {x : W} {o3 o4 : Option W} : ∀ (os : List (Option Int)) (h : Str) (o2 : Option W), (∀ o ∈ os, okO o) → h.length + os.length * 41 ≤ 1000 → ∃ o2',
    turnsV (.nm 2) (evSs G_law_form_lines bodyH) (os.map optI) [some x, some (.v (.str h)), o2, o3, o4] S = .ok (.nx [some x, some (.v (.str ((os.map hw).foldl (fun (a w : Str) => a ++ (" " : Str) ++ w) h))), o2', o3, o4]) S
  | [], h, o2, _, _ => ⟨o2, rfl⟩
  | o :: r, h, o2, ok, hl => by
    have ho := ok o (by simp)
    have hh := hw_len ho
    rw [List.length_cons, Nat.succ_mul] at hl
    have s0 := sl1000
    obtain ⟨o2', ih⟩ := loopH (S := S) (x := x) (o3 := o3) (o4 := o4) r (h ++ " " ++ hw o) (some (.v (optI o))) (fun z hz => ok z (List.mem_cons_of_mem _ hz)) (by rw [len_app, len_app, l_sp]; omega)
    refine ⟨o2', ?_⟩
    rw [List.map_cons, List.map_cons, List.foldl_cons, ← ih]
    have a1 : vadd (.str h) (.str " ") = some (.str (h ++ " ")) := if_pos (by rw [l_sp]; omega)
    have a2 : vadd (.str (h ++ " ")) (.str (hw o)) = some (.str (h ++ " " ++ hw o)) := if_pos (by rw [len_app, l_sp]; omega)
    have b : evSs G_law_form_lines bodyH [some x, some (.v (.str h)), some (.v (optI o)), o3, o4] S = .ok (.nx [some x, some (.v (.str (h ++ " " ++ hw o))), some (.v (optI o)), o3, o4]) S := by
      unfold bodyH G_law_form_lines
      simp [callV, v_law_word ho, a1, a2]
    conv => lhs; unfold turnsV
    simp only [bindV_nm, setV2_s, setV2_0, b, Rs.bind_ok]
def bodyT : List Sx := [.asg (.nm 3) (.bin .add (.bin .add (.loc 3) (.str " ")) (.idx (.lst false [(.str "none"), (.bin .add (.bin .add (.call 0 (.loc 2) []) (.str "/")) (.blt .strI (.loc 4) []))]) (.blt .int (.cmp .isnot (.loc 2) .non) [])))]
theorem sml0 : Sml 0 := sml_of (by decide)
theorem loopT {S : Sto} {x : W} {o1 : Option W} : ∀ (os : List (Option (Int × Int))) (h : Str) (o2 o4 : Option W), (∀ o ∈ os, okP o) → h.length + os.length * 82 ≤ 1000 → ∃ o2' o4',
    turnsV (.tp [2, 4]) (evSs G_law_form_lines bodyT) (os.map tD) [some x, o1, o2, some (.v (.str h)), o4] S = .ok (.nx [some x, o1, o2', some (.v (.str ((os.map tw).foldl (fun (a w : Str) => a ++ (" " : Str) ++ w) h))), o4']) S
  | [], h, o2, o4, _, _ => ⟨o2, o4, rfl⟩
  | o :: r, h, o2, o4, ok, hl => by
    have ho := ok o (by simp)
    have hh := tw_len ho
    rw [List.length_cons, Nat.succ_mul] at hl
    have s0 := sl1000
    have a1 : vadd (.str h) (.str " ") = some (.str (h ++ " ")) := if_pos (by rw [l_sp]; omega)
    have a2 : vadd (.str (h ++ " ")) (.str (tw o)) = some (.str (h ++ " " ++ tw o)) := if_pos (by rw [len_app, l_sp]; omega)
    have step : ∃ p q, bindV (.tp [2, 4]) (.v (tD o)) [some x, o1, o2, some (.v (.str h)), o4] = some [some x, o1, some p, some (.v (.str h)), some q] ∧ evSs G_law_form_lines bodyT [some x, o1, some p, some (.v (.str h)), some q] S = .ok (.nx [some x, o1, some p, some (.v (.str (h ++ " " ++ tw o))), some q]) S := by
      cases o with
      | none =>
        refine ⟨.v .non, .v (.int 0), rfl, ?_⟩
        have e0 : ∀ {S}, F_law_word [.v .non] S = .ok (.v (.str "none")) S := fun {S} => v_law_word (o := none) (fun i e => nomatch e)
        have e1 : vadd (.str "none") (.str "/") = some (.str ("none" ++ "/")) := vadd_str (by decide +kernel)
        have e2 : vadd (.str ("none" ++ "/")) (.str (dec 0)) = some (.str ("none" ++ "/" ++ dec 0)) := vadd_str (by decide +kernel)
        have i0 : ∀ {x y : D} {S}, ixW S (.v (.lst [x, y])) (.v (.int 0)) = some (.v x) := fun {x y S} => ix_lst (i := 0) rfl
        have a2 : vadd (.str (h ++ " ")) (.str "none") = some (.str (h ++ " " ++ "none")) := a2
        unfold bodyT G_law_form_lines
        simp [callV, e0, e1, e2, str_int sml0, i0, a1, a2]; rfl
      | some p =>
        obtain ⟨v, s⟩ := p
        refine ⟨.v (.int v), .v (.int s), rfl, ?_⟩
        have h1 : (dec v).length ≤ 40 := (ho _ rfl).1
        have h2 : (dec s).length ≤ 40 := (ho _ rfl).2
        have l1 : ("/" : Str).length = 1 := by decide +kernel
        have e0 : ∀ {S}, F_law_word [.v (.int v)] S = .ok (.v (.str (dec v))) S := fun {S} => v_law_word (o := some v) (fun i e => by cases e; exact (ho _ rfl).1)
        have e1 : vadd (.str (dec v)) (.str "/") = some (.str (dec v ++ "/")) := if_pos (by rw [l1]; omega)
        have e2 : vadd (.str (dec v ++ "/")) (.str (dec s)) = some (.str (dec v ++ "/" ++ dec s)) := if_pos (by rw [len_app, l1]; omega)
        have i1 : ∀ {x y : D} {S}, ixW S (.v (.lst [x, y])) (.v (.int 1)) = some (.v y) := fun {x y S} => ix_lst (i := 1) rfl
        have a2 : vadd (.str (h ++ " ")) (.str (dec v ++ "/" ++ dec s)) = some (.str (h ++ " " ++ (dec v ++ "/" ++ dec s))) := a2
        unfold bodyT G_law_form_lines
        simp [callV, e0, e1, e2, str_int (ho _ rfl).2, i1, a1, a2]; rfl
    obtain ⟨p, q, b1, b2⟩ := step
    obtain ⟨o2', o4', ih⟩ := loopT (S := S) (x := x) (o1 := o1) r (h ++ " " ++ tw o) (some p) (some q) (fun z hz => ok z (List.mem_cons_of_mem _ hz)) (by rw [len_app, len_app, l_sp]; omega)
    refine ⟨o2', o4', ?_⟩
    rw [List.map_cons, List.map_cons, List.foldl_cons, ← ih]
    conv => lhs; unfold turnsV
    rw [b1]
    simp only [b2, Rs.bind_ok]
theorem v_law_form_lines {S : Sto} {f : LF} (g : Gd f) : F_law_form_lines [.v (lfD f)] S = .ok (.v (lns [lineH f, lineT f])) S := by
  rw [e_law_form_lines]
  have hB : B_law_form_lines = [.asg (.nm 1) (.str "head"), .fors (.nm 2) .seq [(.idx (.loc 0) (.int 0))] bodyH, .asg (.nm 3) (.str "tail"), .fors (.tp [2, 4]) .seq [(.idx (.loc 0) (.int 1))] bodyT, .ret (.lst false [(.loc 1), (.loc 3)])] := rfl
  have i0 : ∀ {S : Sto}, ixW S (.v (lfD f)) (.v (.int 0)) = some (.v (.tup (f.1.map optI))) := fun {S} => ix_tp (i := 0) rfl
  have i1 : ∀ {S : Sto}, ixW S (.v (lfD f)) (.v (.int 1)) = some (.v (.tup (f.2.map tD))) := fun {S} => ix_tp (i := 1) rfl
  obtain ⟨o2, h1⟩ := loopH (S := S) (x := .v (lfD f)) (o3 := none) (o4 := none) f.1 "head" none g.h (by rw [l_head]; have := g.hl; omega)
  rw [← lineH_fold] at h1
  obtain ⟨o2', o4', h2⟩ := loopT (S := S) (x := .v (lfD f)) (o1 := some (.v (.str (lineH f)))) f.2 "tail" o2 none g.t (by rw [l_tail]; have := g.tl; omega)
  rw [← lineT_fold] at h2
  rw [hB]
  simp [i0, h1, i1, h2]
  rfl
theorem v_form_lines {S : Sto} {f : LF} (g : Gd f) : Fform_lines [.v (lfD f)] S = .ok (.v (lns [lineH f, lineT f])) S := by
  have s0 := sl1000
  have i0 : ∀ {S : Sto}, ixW S (.v (lfD f)) (.v (.int 0)) = some (.v (.tup (f.1.map optI))) := fun {S} => ix_tp (i := 0) rfl
  have i1 : ∀ {S : Sto}, ixW S (.v (lfD f)) (.v (.int 1)) = some (.v (.tup (f.2.map tD))) := fun {S} => ix_tp (i := 1) rfl
  rw [eform_lines]
  unfold Bform_lines Gform_lines
  simp [i0]
  rw [compV_map (fun d => match d with | .int i => .str (dec i) | _ => .str "none") (f.1.map optI) (fun x hx => by
    obtain ⟨o, ho, rfl⟩ := List.mem_map.mp hx
    refine ⟨_, rfl, rfl, ?_⟩
    simp [callV, v_optional_word (g.h o ho)]
    cases o <;> rfl)]
  have e1 : (f.1.map optI).map (fun d => match d with | .int i => D.str (dec i) | _ => .str "none") = sD (f.1.map hw) := by
    unfold sD
    rw [List.map_map, List.map_map]
    refine List.map_congr_left fun o _ => ?_
    cases o <;> rfl
  rw [e1]
  have a1 : vadd (.lst [.str "head"]) (.lst (sD (f.1.map hw))) = some (lns (("head" : Str) :: f.1.map hw)) := if_pos (by
    unfold sD
    rw [List.length_map, List.length_map]
    have := g.hl
    show 1 + _ ≤ _
    omega)
  simp only [calm_ok, compR_ok, Rs.bind_ok, rd2_some' rdW_lst rdW_lst, bo_add, a1, lfv_some]
  simp [i1]
  rw [compV_map (fun d => match d with | .tp .t [.int v, .int s] => .str (dec v ++ "/" ++ dec s) | _ => .str "none") (f.2.map tD) (fun x hx => by
    obtain ⟨o, ho, rfl⟩ := List.mem_map.mp hx
    refine ⟨_, rfl, rfl, ?_⟩
    simp [callV, v_pair_word (g.t o ho)]
    cases o <;> rfl)]
  have e2 : (f.2.map tD).map (fun d => match d with | .tp .t [.int v, .int s] => D.str (dec v ++ "/" ++ dec s) | _ => .str "none") = sD (f.2.map tw) := by
    unfold sD
    rw [List.map_map, List.map_map]
    refine List.map_congr_left fun o _ => ?_
    cases o <;> rfl
  rw [e2]
  have a2 : vadd (.lst [.str "tail"]) (.lst (sD (f.2.map tw))) = some (lns (("tail" : Str) :: f.2.map tw)) := if_pos (by
    unfold sD
    rw [List.length_map, List.length_map]
    have := g.tl
    show 1 + _ ≤ _
    omega)
  simp only [calm_ok, compR_ok, Rs.bind_ok, rd2_some' rdW_lst rdW_lst, bo_add, a2, lfv_some]
  have sumH : ((("head" : Str) :: f.1.map hw).map (·.length)).sum ≤ 4 + 40 * f.1.length := by
    rw [List.map_cons, List.sum_cons, l_head]
    have : ∀ os : List (Option Int), (∀ o ∈ os, okO o) → ((os.map hw).map (·.length)).sum ≤ 40 * os.length := by
      intro os
      induction os with
      | nil => intro _; simp
      | cons o r ih =>
        intro h
        have := ih fun z hz => h z (List.mem_cons_of_mem _ hz)
        have := hw_len (h o (by simp))
        rw [List.map_cons, List.map_cons, List.sum_cons, List.length_cons]
        omega
    have := this f.1 g.h
    omega
  have sumT : ((("tail" : Str) :: f.2.map tw).map (·.length)).sum ≤ 4 + 81 * f.2.length := by
    rw [List.map_cons, List.sum_cons, l_tail]
    have : ∀ os : List (Option (Int × Int)), (∀ o ∈ os, okP o) → ((os.map tw).map (·.length)).sum ≤ 81 * os.length := by
      intro os
      induction os with
      | nil => intro _; simp
      | cons o r ih =>
        intro h
        have := ih fun z hz => h z (List.mem_cons_of_mem _ hz)
        have := tw_len (h o (by simp))
        rw [List.map_cons, List.map_cons, List.sum_cons, List.length_cons]
        omega
    have := this f.2 g.t
    omega
  have j1 : ∀ {S : Sto}, Mt.join.wo S (.v (.str " ")) [.v (lns (("head" : Str) :: f.1.map hw))] = .ok (.v (.str (lineH f))) S := fun {S} => wo_join (by
    rw [l_sp, List.length_cons, List.length_map]
    have := g.hl
    omega)
  have j2 : ∀ {S : Sto}, Mt.join.wo S (.v (.str " ")) [.v (lns (("tail" : Str) :: f.2.map tw))] = .ok (.v (.str (lineT f))) S := fun {S} => wo_join (by
    rw [l_sp, List.length_cons, List.length_map]
    have := g.tl
    omega)
  simp [j1, j2]
  rfl
end K92

/-! papers drawn, written -/
namespace K92
open PySem PySem.Spec PyProof.Rows L2 Z
def ltD (t : LT) : D := .tup [lfD t.1, lfD t.2.1, lfD t.2.2]
def lpD (ps : List LT) : D := .tup (ps.map ltD)
def fm (t : LT) : Nat → LF | 0 => t.1 | 1 => t.2.1 | _ => t.2.2
theorem ix_lt {S : Sto} {t : LT} {q : Nat} (h : q < 3) : ixW S (.v (ltD t)) (.v (.int q)) = some (.v (lfD (fm t q))) := by
  match q, h with
  | 0, _ => exact ix_tp (i := 0) rfl
  | 1, _ => exact ix_tp (i := 1) rfl
  | 2, _ => exact ix_tp (i := 2) rfl
theorem gd_fm {t : LT} (g : GdT t) {q : Nat} (h : q < 3) : Gd (fm t q) := by
  match q, h with
  | 0, _ => exact g.a
  | 1, _ => exact g.b
  | 2, _ => exact g.c
def nm3 : Nat → Str | 0 => wP | 1 => wC | _ => wL
/-! ### drawn -/
theorem getS_SS {s : Stt} {J : Sto} {o : Option VO} : getS (SS s (J ++ [o])) (J.length + 1) = o := by
  show getS (some (.lst (stL s)) :: (J ++ [o])) (J.length + 1) = o
  unfold getS
  simp
theorem setS_SS {s : Stt} {J : Sto} {o o' : Option VO} : setS (SS s (J ++ [o])) (J.length + 1) o' = SS s (J ++ [o']) := by
  show (some (.lst (stL s)) :: (J ++ [o])).set (J.length + 1) o' = _
  simp [SS]
def bodyPp : List Sx := [.expr (.mth .append (.loc 2) (.tup [(.call 0 (.loc 0) []), (.call 0 (.loc 0) []), (.call 0 (.loc 0) [])]) [])]
theorem turn_pp (s : Stt) (J : Sto) (c : W) (o3 : Option W) (ds : List D) (hd : ds.length ≤ 100) : ∃ (t : LT) (s' : Stt), GdT t ∧
    evSs G_law_paper bodyPp [some (.r 0), some c, some (.r (J.length + 1)), o3] (SS s (J ++ [some (.lst ds)])) = .ok (.nx [some (.r 0), some c, some (.r (J.length + 1)), o3]) (SS s' (J ++ [some (.lst (ds ++ [ltD t]))])) := by
  obtain ⟨f1, s1, g1, h1⟩ := v_text_form s (J ++ [some (.lst ds)])
  obtain ⟨f2, s2, g2, h2⟩ := v_text_form s1 (J ++ [some (.lst ds)])
  obtain ⟨f3, s3, g3, h3⟩ := v_text_form s2 (J ++ [some (.lst ds)])
  refine ⟨(f1, f2, f3), s3, ⟨g1, g2, g3⟩, ?_⟩
  have l : ds.length < sizeLine := Nat.lt_of_le_of_lt hd (by decide)
  have w : ∀ x, Mt.append.wo (SS s3 (J ++ [some (.lst ds)])) (.r (J.length + 1)) [.v x] = .ok (.v .non) (SS s3 (J ++ [some (.lst (ds ++ [x]))])) := fun x => by
    rw [wo_append getS_SS l, setS_SS]
  have p : ∀ f : LF, plnW [.v (lfD f)] = some [lfD f] := fun f => rfl
  have p3 : plnW [.v (lfD f1), .v (lfD f2), .v (lfD f3)] = some [lfD f1, lfD f2, lfD f3] := rfl
  unfold bodyPp G_law_paper
  simp only [evSs_2, evSs_1, evS_5, evE_22, evE_1, getV_0, getV_s, lft_some, Rs.bind_ok, tyW_app getS_SS, evE_14, evL_2, evL_1, evE_19, callV, nth_0, List.length_cons, List.length_nil, if_true, h1, h2, h3, p3, Nat.zero_add, Nat.reduceAdd, sl_3, w]
  rfl
theorem loop_pp (J : Sto) (c : W) : ∀ (items : List D) (s : Stt) (ds : List D) (o3 : Option W), ds.length + items.length ≤ 100 → (∀ d ∈ ds, ∃ t, GdT t ∧ d = ltD t) → ∃ (s' : Stt) (ds' : List D) (o3' : Option W), (∀ d ∈ ds', ∃ t, GdT t ∧ d = ltD t) ∧ ds'.length = ds.length + items.length ∧
    turnsV (.nm 3) (evSs G_law_paper bodyPp) items [some (.r 0), some c, some (.r (J.length + 1)), o3] (SS s (J ++ [some (.lst ds)])) = .ok (.nx [some (.r 0), some c, some (.r (J.length + 1)), o3']) (SS s' (J ++ [some (.lst ds')]))
  | [], s, ds, o3, _, h => ⟨s, ds, o3, h, rfl, rfl⟩
  | x :: r, s, ds, o3, hl, h => by
    rw [List.length_cons] at hl
    obtain ⟨t, s1, g, h1⟩ := turn_pp s J c (some (.v x)) ds (by omega)
    obtain ⟨s2, ds', o3', p, l, h2⟩ := loop_pp J c r s1 (ds ++ [ltD t]) (some (.v x)) (by rw [List.length_append, List.length_singleton]; omega) (by
      intro d hd
      rcases List.mem_append.mp hd with hd | hd
      · exact h d hd
      · exact ⟨t, g, List.mem_singleton.mp hd⟩)
    refine ⟨s2, ds', o3', p, by rw [l, List.length_append, List.length_singleton, List.length_cons]; omega, ?_⟩
    conv => lhs; unfold turnsV
    simp only [bindV_nm, setV2_s, setV2_0, h1, Rs.bind_ok, h2]
theorem v_law_paper (s : Stt) (J : Sto) {n : Int} (h1 : 0 ≤ n) (h2 : n ≤ 50) : ∃ (ps : List LT) (s' : Stt) (J' : Sto), (∀ t ∈ ps, GdT t) ∧ ps.length = n.toNat ∧ F_law_paper [.r 0, .v (.int n)] (SS s J) = .ok (.v (lpD ps)) (SS s' J') := by
  rw [e_law_paper]
  have hB : B_law_paper = [.asg (.nm 2) (.lst true []), .fors (.nm 3) .rng1 [(.loc 1)] bodyPp, .ret (.blt .tupT (.loc 2) [])] := rfl
  obtain ⟨s', ds', o3', p, l, h⟩ := loop_pp J (.v (.int n)) (rngD 0 n.toNat) s [] none (by rw [rng_len]; show 0 + _ ≤ _; omega) (by simp)
  obtain ⟨ps, e, g⟩ := pull ds' p
  refine ⟨ps, s', J ++ [some (.lst ds')], g, by rw [← List.length_map (f := ltD), e, l, rng_len]; simp, ?_⟩
  have e0 : SS s J ++ [some (.lst [])] = SS s (J ++ [some (.lst [])]) := rfl
  have e1 : (SS s J).length = J.length + 1 := rfl
  have e2 : rdW (SS s' (J ++ [some (.lst ds')])) (.r (J.length + 1)) = some (.lst ds') := by
    show (match getS (SS s' (J ++ [some (.lst ds')])) (J.length + 1) with | some (.lst ds) => some (D.lst ds) | _ => none) = _
    rw [getS_SS]
  rw [hB]
  simp [e0, e1, it_rng h1 (show n ≤ 16777216 by omega), h, e2, lpD, e]
/-! ### the law's lines -/
def nms : Ex := .lst false [(.str "price"), (.str "count"), (.str "last")]
def bodyI : List Sx := [.asg (.nm 1) (.addM (.bin .add (.loc 1) (.lst false [(.idx nms (.loc 3))])) (.call 0 (.idx (.loc 2) (.loc 3)) []))]
theorem ix_nms {S : Sto} {q : Nat} (h : q < 3) : ixW S (.v (.lst [.str "price", .str "count", .str "last"])) (.v (.int q)) = some (.v (.str (nm3 q))) := by
  match q, h with
  | 0, _ => exact ix_lst (i := 0) rfl
  | 1, _ => exact ix_lst (i := 1) rfl
  | 2, _ => exact ix_lst (i := 2) rfl
theorem vadd_sD {a b : List Str} (h : a.length + b.length ≤ sizeLine) : vadd (.lst (sD a)) (.lst (sD b)) = some (.lst (sD (a ++ b))) := by
  unfold sD
  have : vadd (.lst (a.map D.str)) (.lst (b.map D.str)) = some (.lst (a.map D.str ++ b.map D.str)) := if_pos (by rw [List.length_map, List.length_map]; exact h)
  rw [this, List.map_append]
theorem turn_I {T : Sto} {x : W} {t : LT} (g : GdT t) {q : Nat} (hq : q < 3) {acc : List Str} (ha : acc.length ≤ 1000) :
    evSs G_law_lines bodyI [some x, some (.r T.length), some (.v (ltD t)), some (.v (.int q))] (T ++ [some (.lst (sD acc))]) =
      .ok (.nx [some x, some (.r (T ++ [some (VO.lst (sD acc))]).length), some (.v (ltD t)), some (.v (.int q))]) ((T ++ [some (.lst (sD acc))]) ++ [some (.lst (sD (acc ++ [nm3 q, lineH (fm t q), lineT (fm t q)])))]) := by
  have s0 := sl1000
  have a1 : vadd (.lst (sD acc)) (.lst [.str (nm3 q)]) = some (.lst (sD (acc ++ [nm3 q]))) := vadd_sD (b := [nm3 q]) (by show acc.length + 1 ≤ _; omega)
  have r1 : ∀ {S : Sto} {ds : List D}, rdW S (.v (.lst ds)) = some (.lst ds) := rfl
  have l1 : (sD (acc ++ [nm3 q])).length + ([lineH (fm t q), lineT (fm t q)].map D.str).length ≤ sizeLine := by
    unfold sD
    rw [List.length_map, List.length_map, List.length_append]
    have s1 : 5000 ≤ sizeLine := by decide
    show acc.length + 1 + 2 ≤ _
    omega
  have a2 : ∀ S, addMV S (.v (.lst (sD (acc ++ [nm3 q])))) (.v (lns [lineH (fm t q), lineT (fm t q)])) = newW S (.lst (sD (acc ++ [nm3 q, lineH (fm t q), lineT (fm t q)]))) := by
    intro S
    show (if (sD (acc ++ [nm3 q])).length + ([lineH (fm t q), lineT (fm t q)].map D.str).length ≤ sizeLine then newW S (.lst (sD (acc ++ [nm3 q]) ++ [lineH (fm t q), lineT (fm t q)].map D.str)) else .no) = _
    rw [if_pos l1]
    unfold sD
    rw [← List.map_append, List.append_assoc]; rfl
  unfold bodyI G_law_lines nms
  simp only [evSs_2, evSs_1, evS_1, evE_7m, evE_7, evE_1, evE_15, evE_16, evE_5, evE_19, evL_2, evL_1, getV_0, getV_s, lft_some, Rs.bind_ok, plnW_cons, plnW_nil, List.length_cons, List.length_nil, Nat.zero_add, Nat.reduceAdd, sl_1, sl_3, if_true, ix_nms hq, rd2_some' rdW_mid rdW_lst, bo_add, a1, lfv_some, ix_lt hq, callV, nth_0, v_law_form_lines (gd_fm g hq), a2, newW_eq, bindV_nm, setV2_s, setV2_0]
def bodyO : List Sx := [.expr (.mth .append (.loc 1) (.str "to") []), .fors (.nm 3) .rng1 [(.int 3)] bodyI]
theorem turn_O {T : Sto} {x : W} {t : LT} {o3 : Option W} (g : GdT t) {acc : List Str} (ha : acc.length ≤ 900) : ∃ T' o3',
    evSs G_law_lines bodyO [some x, some (.r T.length), some (.v (ltD t)), o3] (T ++ [some (.lst (sD acc))]) =
      .ok (.nx [some x, some (.r (T ++ T').length), some (.v (ltD t)), o3']) ((T ++ T') ++ [some (.lst (sD (acc ++ triL t)))]) := by
  have s0 := sl1000
  have l0 : (sD acc).length < sizeLine := by unfold sD; rw [List.length_map]; omega
  have e0 : sD acc ++ [D.str "to"] = sD (acc ++ [wTo]) := by unfold sD; rw [List.map_append]; rfl
  have er : rngD 0 (3 : Int).toNat = [.int (0 : Nat), .int (1 : Nat), .int (2 : Nat)] := rfl
  have t0 := turn_I (T := T) (x := x) g (q := 0) (by omega) (acc := acc ++ [wTo]) (by rw [List.length_append, List.length_singleton]; omega)
  have t1 := turn_I (T := T ++ [some (.lst (sD (acc ++ [wTo])))]) (x := x) g (q := 1) (by omega) (acc := acc ++ [wTo] ++ [nm3 0, lineH (fm t 0), lineT (fm t 0)]) (by rw [List.length_append, List.length_append]; show acc.length + 1 + 3 ≤ _; omega)
  have t2 := turn_I (T := T ++ [some (.lst (sD (acc ++ [wTo])))] ++ [some (.lst (sD (acc ++ [wTo] ++ [nm3 0, lineH (fm t 0), lineT (fm t 0)])))]) (x := x) g (q := 2) (by omega) (acc := acc ++ [wTo] ++ [nm3 0, lineH (fm t 0), lineT (fm t 0)] ++ [nm3 1, lineH (fm t 1), lineT (fm t 1)]) (by rw [List.length_append, List.length_append, List.length_append]; show acc.length + 1 + 3 + 3 ≤ _; omega)
  refine ⟨[some (.lst (sD (acc ++ [wTo])))] ++ [some (.lst (sD (acc ++ [wTo] ++ [nm3 0, lineH (fm t 0), lineT (fm t 0)])))] ++ [some (.lst (sD (acc ++ [wTo] ++ [nm3 0, lineH (fm t 0), lineT (fm t 0)] ++ [nm3 1, lineH (fm t 1), lineT (fm t 1)])))], some (.v (.int (2 : Nat))), ?_⟩
  unfold bodyO
  simp only [evSs_2, evSs_1, evS_5, evE_22, evE_1, evE_5, evL_1, getV_0, getV_s, lft_some, Rs.bind_ok, ty_app_mid, wo_app_mid l0, e0, evS_9, evL_2, evE_4, it_rng (show (0 : Int) ≤ 3 by decide) (show (3 : Int) ≤ 16777216 by decide), er]
  have st : ∀ (q : Nat) (r : List D) (T : Sto) (o : Option W) (S : Sto), turnsV (.nm 3) (evSs G_law_lines bodyI) (.int (q : Nat) :: r) [some x, some (.r T.length), some (.v (ltD t)), o] S = (evSs G_law_lines bodyI [some x, some (.r T.length), some (.v (ltD t)), some (.v (.int (q : Nat)))] S).bind fun o S1 => match o with
      | .nx e => turnsV (.nm 3) (evSs G_law_lines bodyI) r e S1
      | .ct e => turnsV (.nm 3) (evSs G_law_lines bodyI) r e S1
      | .bk e => .ok (.nx e) S1
      | .rt w => .ok (.rt w) S1 := fun q r T o S => rfl
  rw [st 0, t0]
  simp only [Rs.bind_ok]
  rw [st 1, t1]
  simp only [Rs.bind_ok]
  rw [st 2, t2]
  simp only [Rs.bind_ok, turnsV_nil]
  simp only [List.append_assoc]
  rfl
theorem loop_O {x : W} : ∀ (ps : List LT) (T : Sto) (o2 o3 : Option W) (acc : List Str), (∀ t ∈ ps, GdT t) → acc.length + 10 * ps.length ≤ 900 → ∃ T' o2' o3',
    turnsV (.nm 2) (evSs G_law_lines bodyO) (ps.map ltD) [some x, some (.r T.length), o2, o3] (T ++ [some (.lst (sD acc))]) =
      .ok (.nx [some x, some (.r (T ++ T').length), o2', o3']) ((T ++ T') ++ [some (.lst (sD (acc ++ ps.flatMap triL)))])
  | [], T, o2, o3, acc, _, _ => ⟨[], o2, o3, by simp⟩
  | t :: r, T, o2, o3, acc, g, hl => by
    rw [List.length_cons] at hl
    obtain ⟨T1, o3', h1⟩ := turn_O (T := T) (x := x) (o3 := o3) (g t (by simp)) (acc := acc) (by omega)
    obtain ⟨T2, o2', o3'', h2⟩ := loop_O (x := x) r (T ++ T1) (some (.v (ltD t))) o3' (acc ++ triL t) (fun z hz => g z (List.mem_cons_of_mem _ hz)) (by rw [List.length_append, triL_len]; omega)
    refine ⟨T1 ++ T2, o2', o3'', ?_⟩
    rw [List.map_cons]
    conv => lhs; unfold turnsV
    simp only [bindV_nm, setV2_s, setV2_0, h1, Rs.bind_ok, h2]
    simp only [List.flatMap_cons, List.append_assoc]
theorem v_law_lines {S : Sto} {ps : List LT} (g : ∀ t ∈ ps, GdT t) (hl : ps.length ≤ 80) : ∃ J, F_law_lines [.v (lpD ps)] S = .ok (.v (lns (papL ps))) (S ++ J) := by
  have s0 := sl1000
  rw [e_law_lines]
  have hB : B_law_lines = [.asg (.nm 1) (.lst true [(.str "ways")]), .fors (.nm 2) .seq [(.loc 0)] bodyO, .ret (.bin .add (.loc 1) (.lst false [(.str "end")]))] := rfl
  obtain ⟨T', o2', o3', h⟩ := loop_O (x := .v (lpD ps)) ps S none none [wWays] g (by show 1 + _ ≤ _; omega)
  have h' : turnsV (.nm 2) (evSs G_law_lines bodyO) (ps.map ltD) [some (.v (lpD ps)), some (.r S.length), none, none] (S ++ [some (.lst [.str "ways"])]) = _ := h
  have ei : itW .seq [.v (lpD ps)] = some (ps.map ltD) := rfl
  have a : vadd (.lst (sD ([wWays] ++ ps.flatMap triL))) (.lst [.str "end"]) = some (.lst (sD ([wWays] ++ ps.flatMap triL ++ [wEnd]))) := vadd_sD (b := [wEnd]) (by
    rw [List.length_append, flat_len]
    show 1 + 10 * ps.length + 1 ≤ _
    omega)
  refine ⟨T' ++ [some (.lst (sD ([wWays] ++ ps.flatMap triL)))], ?_⟩
  rw [hB]
  simp only [evSs_2, evSs_1, evS_1, evE_15, evE_5, evL_2, evL_1, Rs.bind_ok, plnW_cons, plnW_nil, List.length_cons, List.length_nil, Nat.zero_add, sl_1, if_true, newW_eq, bindV_nm, setV2_s, setV2_0, evS_9, evE_1, getV_0, getV_s, lft_some, ei, h', evS_6, evE_7, rd2_some' rdW_mid rdW_lst, bo_add, a, lfv_some, out_rt]
  rw [List.append_assoc S T']
  rfl
end K92

/-! format_ways, reading by the law -/
namespace K92
open PySem PySem.Spec PyProof.Rows L2 Z
def GPs : D := .tp .s [.str "price", .str "count", .str "last"]
def bodyF1 : List Sx := [.expr (.mth .append (.loc 1) (.idx (.glo 0) (.loc 3)) []), .expr (.mth .extend (.loc 1) (.call 0 (.idx (.loc 2) (.loc 3)) []) [])]
def bodyF : List Sx := [.expr (.mth .append (.loc 1) (.str "to") []), .fors (.nm 3) .rng1 [(.blt .len (.glo 0) [])] bodyF1]
theorem ix_ps {S : Sto} {q : Nat} (h : q < 3) : ixW S (.v GPs) (.v (.int q)) = some (.v (.str (nm3 q))) := by
  match q, h with
  | 0, _ => exact ix_tp (i := 0) rfl
  | 1, _ => exact ix_tp (i := 1) rfl
  | 2, _ => exact ix_tp (i := 2) rfl
theorem gps (S : Sto) : cstV Gformat_ways 0 S = .ok (.v GPs) S := by unfold Gformat_ways GPs; simp [cstV]
theorem sD_snoc (a : List Str) (x : Str) : sD a ++ [D.str x] = sD (a ++ [x]) := by unfold sD; rw [List.map_append]; rfl
theorem sD_app (a b : List Str) : sD a ++ b.map D.str = sD (a ++ b) := by unfold sD; rw [List.map_append]
theorem sD_len (a : List Str) : (sD a).length = a.length := by unfold sD; rw [List.length_map]
theorem turn_F1 {S : Sto} {x : W} {t : LT} (g : GdT t) {q : Nat} (hq : q < 3) {acc : List Str} (ha : acc.length ≤ 1000) :
    evSs Gformat_ways bodyF1 [some x, some (.r S.length), some (.v (ltD t)), some (.v (.int q))] (S ++ [some (.lst (sD acc))]) =
      .ok (.nx [some x, some (.r S.length), some (.v (ltD t)), some (.v (.int q))]) (S ++ [some (.lst (sD (acc ++ [nm3 q, lineH (fm t q), lineT (fm t q)])))]) := by
  have s1 : 5000 ≤ sizeLine := by decide
  have l0 : (sD acc).length < sizeLine := by rw [sD_len]; omega
  have l1 : (sD (acc ++ [nm3 q])).length + ([lineH (fm t q), lineT (fm t q)].map D.str).length ≤ sizeLine := by
    rw [sD_len, List.length_append]
    show acc.length + 1 + 2 ≤ _
    omega
  have e1 : Mt.extend.wo (S ++ [some (.lst (sD (acc ++ [nm3 q])))]) (.r S.length) [.v (lns [lineH (fm t q), lineT (fm t q)])] = .ok (.v .non) (S ++ [some (.lst (sD (acc ++ [nm3 q, lineH (fm t q), lineT (fm t q)])))]) := by
    have := wo_ext_mid (S := S) (J := []) (ds := sD (acc ++ [nm3 q])) (es := [lineH (fm t q), lineT (fm t q)].map D.str) l1
    rw [sD_app, List.append_assoc] at this
    exact this
  have cf : ∀ r, callV Gformat_ways 0 r = r.bind fun ws S => if ws.length = 1 then Fform_lines ws S else .no := fun r => by unfold Gformat_ways; rfl
  unfold bodyF1
  simp only [evSs_2, evSs_1, evS_5, evE_22, evE_1, evE_6, evE_16, gps, evL_1, getV_0, getV_s, lft_some, Rs.bind_ok, ty_app_mid, ty_ext_mid, ix_ps hq, wo_app_mid l0, sD_snoc, evE_19, cf, ix_lt hq, List.length_cons, List.length_nil, Nat.zero_add, if_true, v_form_lines (gd_fm g hq), e1]
theorem turn_F {S : Sto} {x : W} {t : LT} {o3 : Option W} (g : GdT t) {acc : List Str} (ha : acc.length ≤ 900) : ∃ o3',
    evSs Gformat_ways bodyF [some x, some (.r S.length), some (.v (ltD t)), o3] (S ++ [some (.lst (sD acc))]) =
      .ok (.nx [some x, some (.r S.length), some (.v (ltD t)), o3']) (S ++ [some (.lst (sD (acc ++ triL t)))]) := by
  have s1 : 5000 ≤ sizeLine := by decide
  have l0 : (sD acc).length < sizeLine := by rw [sD_len]; omega
  have er : rngD 0 ((3 : Nat) : Int).toNat = [.int (0 : Nat), .int (1 : Nat), .int (2 : Nat)] := rfl
  have e0 : sD acc ++ [D.str "to"] = sD (acc ++ [wTo]) := sD_snoc acc wTo
  have t0 := turn_F1 (S := S) (x := x) g (q := 0) (by omega) (acc := acc ++ [wTo]) (by rw [List.length_append, List.length_singleton]; omega)
  have t1 := turn_F1 (S := S) (x := x) g (q := 1) (by omega) (acc := acc ++ [wTo] ++ [nm3 0, lineH (fm t 0), lineT (fm t 0)]) (by rw [List.length_append, List.length_append]; show acc.length + 1 + 3 ≤ _; omega)
  have t2 := turn_F1 (S := S) (x := x) g (q := 2) (by omega) (acc := acc ++ [wTo] ++ [nm3 0, lineH (fm t 0), lineT (fm t 0)] ++ [nm3 1, lineH (fm t 1), lineT (fm t 1)]) (by rw [List.length_append, List.length_append, List.length_append]; show acc.length + 1 + 3 + 3 ≤ _; omega)
  have st : ∀ (q : Nat) (r : List D) (o : Option W) (S' : Sto), turnsV (.nm 3) (evSs Gformat_ways bodyF1) (.int (q : Nat) :: r) [some x, some (.r S.length), some (.v (ltD t)), o] S' = (evSs Gformat_ways bodyF1 [some x, some (.r S.length), some (.v (ltD t)), some (.v (.int (q : Nat)))] S').bind fun o S1 => match o with
      | .nx e => turnsV (.nm 3) (evSs Gformat_ways bodyF1) r e S1
      | .ct e => turnsV (.nm 3) (evSs Gformat_ways bodyF1) r e S1
      | .bk e => .ok (.nx e) S1
      | .rt w => .ok (.rt w) S1 := fun q r o S => rfl
  have gl : lenA M00 GPs = some (.int ((3 : Nat) : Int)) := rfl
  have rg : ∀ S, rdW S (.v GPs) = some GPs := fun S => rfl
  refine ⟨some (.v (.int (2 : Nat))), ?_⟩
  unfold bodyF
  simp only [evSs_2, evSs_1, evS_5, evE_22, evE_1, evE_5, evL_1, getV_0, getV_s, lft_some, Rs.bind_ok, ty_app_mid, wo_app_mid l0, e0, evS_9, evL_2, evE_20, evE_6, gps, bt_len, rd1_some' (rg _), gl, lfv_some, it_rng (show (0 : Int) ≤ ((3 : Nat) : Int) by decide) (show ((3 : Nat) : Int) ≤ 16777216 by decide), er]
  rw [st 0, t0]
  simp only [Rs.bind_ok]
  rw [st 1, t1]
  simp only [Rs.bind_ok]
  rw [st 2, t2]
  simp only [Rs.bind_ok, turnsV_nil]
  simp only [List.append_assoc]
  rfl
theorem loop_F {S : Sto} {x : W} : ∀ (ps : List LT) (o2 o3 : Option W) (acc : List Str), (∀ t ∈ ps, GdT t) → acc.length + 10 * ps.length ≤ 900 → ∃ o2' o3',
    turnsV (.nm 2) (evSs Gformat_ways bodyF) (ps.map ltD) [some x, some (.r S.length), o2, o3] (S ++ [some (.lst (sD acc))]) =
      .ok (.nx [some x, some (.r S.length), o2', o3']) (S ++ [some (.lst (sD (acc ++ ps.flatMap triL)))])
  | [], o2, o3, acc, _, _ => ⟨o2, o3, by simp⟩
  | t :: r, o2, o3, acc, g, hl => by
    rw [List.length_cons] at hl
    obtain ⟨o3', h1⟩ := turn_F (S := S) (x := x) (o3 := o3) (g t (by simp)) (acc := acc) (by omega)
    obtain ⟨o2', o3'', h2⟩ := loop_F (S := S) (x := x) r (some (.v (ltD t))) o3' (acc ++ triL t) (fun z hz => g z (List.mem_cons_of_mem _ hz)) (by rw [List.length_append, triL_len]; omega)
    refine ⟨o2', o3'', ?_⟩
    rw [List.map_cons]
    conv => lhs; unfold turnsV
    simp only [bindV_nm, setV2_s, setV2_0, h1, Rs.bind_ok, h2]
    simp only [List.flatMap_cons, List.append_assoc]
/-! ### bounds of lines -/
/-- lines without a line's end, not too long -/
structure Ln (ls : List Str) : Prop where
  nl : ∀ l ∈ ls, 10 ∉ tl l
  each : ∀ l ∈ ls, l.length ≤ 1000
  len : ls.length ≤ 1000
theorem sum_le : ∀ (ls : List Str), (∀ l ∈ ls, l.length ≤ 1000) → (ls.map (·.length)).sum ≤ 1000 * ls.length
  | [], _ => by simp
  | x :: r, h => by
    have := sum_le r fun z hz => h z (List.mem_cons_of_mem _ hz)
    have := h x (by simp)
    rw [List.map_cons, List.sum_cons, List.length_cons]
    omega
theorem l_nl : ("\n" : Str).length = 1 := by decide +kernel
theorem Ln.join {S : Sto} {ls : List Str} (h : Ln ls) : Mt.join.wo S (.v (.str "\n")) [.v (lns ls)] = .ok (.v (.str (Txt.join "\n" ls))) S := wo_join (by
  have := sum_le ls h.each
  have := h.len
  rw [l_nl]; omega)
theorem joinL_le {T : List Nat} : ∀ (ps : List (List Nat)) (n : Nat), (∀ p ∈ ps, p.length ≤ n) → (TL.joinL T ps).length ≤ ps.length * (n + T.length)
  | [], n, _ => by simp [TL.joinL]
  | [p], n, h => by
    have := h p (by simp)
    show p.length ≤ 1 * _
    omega
  | p :: q :: r, n, h => by
    have := joinL_le (T := T) (q :: r) n fun z hz => h z (List.mem_cons_of_mem _ hz)
    have := h p (by simp)
    show (p ++ (T ++ TL.joinL T (q :: r))).length ≤ _
    rw [List.length_append, List.length_append, List.length_cons (a := p), Nat.succ_mul]
    omega
theorem Ln.short {ls : List Str} (h : Ln ls) : (Txt.join "\n" ls).length + 2 ≤ sizeLine := by
  have := joinL_le (T := [10]) (ls.map tl) 1000 (by
    intro p hp
    obtain ⟨l, hl, rfl⟩ := List.mem_map.mp hp
    have := h.each l hl
    rwa [TL.len_tl] at this)
  rw [TL.len_tl, show TL.tl (Txt.join "\n" ls) = _ from tlj _ _, tnl]
  rw [List.length_map] at this
  have h2 : ls.length * (1000 + [10].length) ≤ 1000 * 1001 := Nat.mul_le_mul h.len (Nat.le_refl _)
  have s1 : 1000 * 1001 + 2 ≤ sizeLine := by decide
  omega
def eff (ls : List Str) : List Str := if ls = [] then [""] else ls
theorem Ln.split {ls : List Str} (h : Ln ls) : Txt.split (Txt.join "\n" ls) "\n" = eff ls := by
  unfold eff
  by_cases e : ls = []
  · rw [if_pos e, e]; decide +kernel
  · rw [if_neg e]
    exact TL.split_join (S := []) tnl (kOf (by rw [tnl]; rfl)) e h.nl
theorem Ln.lok {ls : List Str} (h : Ln ls) : Lok (eff ls) := by
  unfold eff
  by_cases e : ls = []
  · rw [if_pos e]; exact ⟨by decide, by intro l hl; rw [List.mem_singleton.mp hl]; decide +kernel⟩
  · rw [if_neg e]; exact ⟨h.len, h.each⟩
theorem joinL_free {n : Nat} {T : List Nat} (hT : n ∉ T) {ps : List (List Nat)} (h : ∀ p ∈ ps, n ∉ p) : n ∉ TL.joinL T ps := fun hm => joinL_mem (P := fun c => c ≠ n) (fun c hc e => hT (e ▸ hc)) (fun p hp c hc e => h p hp (e ▸ hc)) n hm rfl
theorem wd_nl {w : Str} (h : Wd w) : 10 ∉ tl w := fun hm => by have := h.2 10 hm; omega
theorem nl_H (f : LF) : 10 ∉ tl (lineH f) := by
  unfold lineH
  rw [tlj, tsp]
  refine joinL_free (by decide) fun p hp => ?_
  obtain ⟨w, hw, rfl⟩ := List.mem_map.mp hp
  rcases List.mem_cons.mp hw with e | hw
  · rw [e]; decide +kernel
  · obtain ⟨o, _, rfl⟩ := List.mem_map.mp hw
    exact wd_nl (wd_hw o)
theorem nl_T (f : LF) : 10 ∉ tl (lineT f) := by
  unfold lineT
  rw [tlj, tsp]
  refine joinL_free (by decide) fun p hp => ?_
  obtain ⟨w, hw, rfl⟩ := List.mem_map.mp hp
  rcases List.mem_cons.mp hw with e | hw
  · rw [e]; decide +kernel
  · obtain ⟨o, _, rfl⟩ := List.mem_map.mp hw
    exact wd_nl (wd_tw o)
structure L1 (x : Str) : Prop where
  nl : 10 ∉ tl x
  len : x.length ≤ 1000
theorem l1_wd {w : Str} (h : Wd w) (hl : w.length ≤ 1000) : L1 w := ⟨wd_nl h, hl⟩
theorem tri_l1 {t : LT} (g : GdT t) : ∀ l ∈ triL t, L1 l := by
  have h1 : L1 wTo := l1_wd wdTo (by decide +kernel)
  have h2 : L1 wP := l1_wd wdP (by decide +kernel)
  have h3 : L1 wC := l1_wd wdC (by decide +kernel)
  have h4 : L1 wL := l1_wd wdL (by decide +kernel)
  have hh : ∀ f, Gd f → L1 (lineH f) := fun f g => ⟨nl_H f, Nat.le_trans (lineH_len g) (by decide)⟩
  have ht : ∀ f, Gd f → L1 (lineT f) := fun f g => ⟨nl_T f, Nat.le_trans (lineT_len g) (by decide)⟩
  intro l hl
  simp only [triL, List.mem_cons, List.not_mem_nil, or_false] at hl
  rcases hl with e | e | e | e | e | e | e | e | e | e <;> subst e
  · exact h1
  · exact h2
  · exact hh _ g.a
  · exact ht _ g.a
  · exact h3
  · exact hh _ g.b
  · exact ht _ g.b
  · exact h4
  · exact hh _ g.c
  · exact ht _ g.c
theorem pap_l1 {ps : List LT} (g : ∀ t ∈ ps, GdT t) : ∀ l ∈ papL ps, L1 l := by
  intro l hl
  rcases List.mem_cons.mp hl with e | hl
  · rw [e]; exact l1_wd wdWays (by decide +kernel)
  · rcases List.mem_append.mp hl with hl | hl
    · obtain ⟨t, ht, hl⟩ := List.mem_flatMap.mp hl
      exact tri_l1 (g t ht) l hl
    · rw [List.mem_singleton.mp hl]; exact l1_wd wdEnd (by decide +kernel)
theorem ln_of {ls : List Str} (h : ∀ l ∈ ls, L1 l) (hl : ls.length ≤ 1000) : Ln ls := ⟨fun l z => (h l z).nl, fun l z => (h l z).len, hl⟩
theorem v_format_ways {S : Sto} {ps : List LT} (g : ∀ t ∈ ps, GdT t) (hl : ps.length ≤ 80) : ∃ J, Fformat_ways [.v (lpD ps)] S = .ok (.v (.str (Txt.join "\n" (papL ps)))) (S ++ J) := by
  have s0 := sl1000
  rw [eformat_ways]
  have hB : Bformat_ways = [.asg (.nm 1) (.lst true [(.str "ways")]), .fors (.nm 2) .seq [(.loc 0)] bodyF, .ret (.mth .join (.str "\n") (.bin .add (.loc 1) (.lst false [(.str "end")])) [])] := rfl
  obtain ⟨o2', o3', h⟩ := loop_F (S := S) (x := .v (lpD ps)) ps none none [wWays] g (by show 1 + _ ≤ _; omega)
  have h' : turnsV (.nm 2) (evSs Gformat_ways bodyF) (ps.map ltD) [some (.v (lpD ps)), some (.r S.length), none, none] (S ++ [some (.lst [.str "ways"])]) = _ := h
  have ei : itW .seq [.v (lpD ps)] = some (ps.map ltD) := rfl
  have a : vadd (.lst (sD ([wWays] ++ ps.flatMap triL))) (.lst [.str "end"]) = some (lns (papL ps)) := vadd_sD (b := [wEnd]) (by
    rw [List.length_append, flat_len]
    show 1 + 10 * ps.length + 1 ≤ _
    omega)
  have n : Ln (papL ps) := ln_of (pap_l1 g) (by rw [papL_len]; omega)
  refine ⟨[some (.lst (sD ([wWays] ++ ps.flatMap triL)))], ?_⟩
  rw [hB]
  simp only [evSs_2, evSs_1, evS_1, evE_15, evE_5, evL_2, evL_1, Rs.bind_ok, plnW_cons, plnW_nil, List.length_cons, List.length_nil, Nat.zero_add, sl_1, if_true, newW_eq, bindV_nm, setV2_s, setV2_0, evS_9, evE_1, getV_0, getV_s, lft_some, ei, h', evS_6, evE_22, tyW_join, evE_7, rd2_some' rdW_mid rdW_lst, bo_add, a, lfv_some, n.join, out_rt]
/-! ### the law reads -/
def rdW2 (k : Pr (List Tr)) : D := match k with | .ok Ts => .tup [.str "read", papD Ts] | .error e => .tup [.str "refused", .int (e : Nat)]
theorem v_read_ways {S : Sto} {ls : List Str} (n : Ln ls) : ∃ J, F_law_read [.v (.str "ways"), .v (lns ls)] S = .ok (.v (rdW2 (parseP (eff ls)))) (S ++ J) := by
  obtain ⟨J, h⟩ := v_parse_ways (S := S) n.lok n.split n.short
  refine ⟨J, ?_⟩
  have cf : ∀ r, callV G_law_read 0 r = r.bind fun ws S => if ws.length = 1 then Fparse_ways ws S else .no := fun r => by unfold G_law_read; rfl
  have pl : ∀ Ts, plnW [.v (.str "read"), .v (papD Ts)] = some [.str "read", papD Ts] := fun Ts => rfl
  rw [e_law_read]
  unfold B_law_read
  simp only [evSs_2, evSs_1, evS_17, evS_8, evT_1, evE_1, evE_5, getV_0, getV_s, lft_some, Rs.bind_ok, co_eq, rd2_some' rdW_str rdW_str, veq_str, decide_true, evS_6, evE_14, evL_2, evL_1, evE_19, cf, evE_22, tyW_join, n.join, List.length_cons, List.length_nil, Nat.zero_add, if_true, h]
  cases parseP (eff ls) with
  | ok Ts => simp only [enc_ok, Rs.bind_ok, pl, List.length_cons, List.length_nil, Nat.zero_add, Nat.reduceAdd, sl_2, if_true, catchV_ok, out_rt]; rfl
  | error e => simp only [enc_er, Rs.bind_ex]; rfl
theorem v_refused_ways {S : Sto} {ls : List Str} (n : Ln ls) {e : Nat} {i : Int} (he : parseP (eff ls) = .error e) (hi : i = e) : ∃ J, F_law_refused [.v (.str "ways"), .v (lns ls), .v (.int i)] S = .ok (.v (.bl true)) (S ++ J) := by
  obtain ⟨J, h⟩ := v_read_ways (S := S) n
  rw [he] at h
  refine ⟨J, ?_⟩
  subst hi
  rw [e_law_refused]
  unfold B_law_refused G_law_refused
  have h' : F_law_read [.v (.str "ways"), .v (lns ls)] S = .ok (.v (.tup [.str "refused", .int e])) (S ++ J) := h
  simp [callV, h', isTy]
end K92

/-! wrong lines, the law on papers: its parts -/
namespace K92
open PySem PySem.Spec PyProof.Rows L2 Z
theorem eqv_self {d : D} (h : lay 60 d = true) : eqv d d = true := by
  rw [eqv_py]
  exact PySem.SeqAt.eqv_refl _ (lay_py 60 d h).1
theorem veq_self {d : D} (h : lay 60 d = true) : veq d d = some (.bl true) := by
  unfold veq veqOk
  rw [h, if_pos (by simp), eqv_self h]
theorem vne_self {d : D} (h : lay 60 d = true) : vne d d = some (.bl false) := by
  unfold vne veqOk
  rw [h, if_pos (by simp), eqv_self h]; rfl
theorem lay_lf (n : Nat) (f : LF) : lay (n + 3) (lfD f) = true := by
  show layL (n + 2) [.tup (f.1.map optI), .tup (f.2.map tD)] = true
  have h1 : layL (n + 1) (f.1.map optI) = true := by
    rw [layL_all, List.all_map, List.all_eq_true]
    intro o _
    cases o <;> rfl
  have h2 : layL (n + 1) (f.2.map tD) = true := by
    rw [layL_all, List.all_map, List.all_eq_true]
    intro o _
    cases o <;> rfl
  show (layL (n + 1) (f.1.map optI) && (layL (n + 1) (f.2.map tD) && true)) = true
  rw [h1, h2]; rfl
theorem lay_lt (n : Nat) (t : LT) : lay (n + 4) (ltD t) = true := by
  show (lay (n + 3) (lfD t.1) && (lay (n + 3) (lfD t.2.1) && (lay (n + 3) (lfD t.2.2) && true))) = true
  rw [lay_lf, lay_lf, lay_lf]; rfl
theorem lay_lp (n : Nat) (ps : List LT) : lay (n + 5) (lpD ps) = true := by
  show layL (n + 4) (ps.map ltD) = true
  rw [layL_all, List.all_map, List.all_eq_true]
  intro t _
  exact lay_lt n t
def rdOk (ps : List LT) : D := .tup [.str "read", lpD ps]
theorem lay_rd (ps : List LT) : lay 60 (rdOk ps) = true := by
  show (PyData.strOk "read" && (lay 59 (lpD ps) && true)) = true
  rw [lay_lp 54, show PyData.strOk "read" = true by decide +kernel]; rfl
theorem papD_map {ps : List LT} (g : ∀ t ∈ ps, GdT t) : papD (ps.map wT) = lpD ps := by
  unfold papD lpD
  rw [List.map_map]
  congr 1
  refine List.map_congr_left fun t ht => ?_
  show D.tup [formD (wF t.1), formD (wF t.2.1), formD (wF t.2.2)] = ltD t
  rw [formD_wF (g t ht).a, formD_wF (g t ht).b, formD_wF (g t ht).c]; rfl
/-! ### the own lines read -/
theorem agr_self {ps : List LT} (p : Nat) : Agr (papL ps) ps p := fun _ _ => rfl
theorem papL_end {ps : List LT} : (papL ps)[1 + 10 * ps.length]? = some wEnd := by
  unfold papL
  rw [show 1 + 10 * ps.length = 10 * ps.length + 1 by omega, List.getElem?_cons_succ, List.getElem?_append_right (by rw [flat_len]; exact Nat.le_refl _), flat_len, Nat.sub_self]
  rfl
theorem eff_ne {ls : List Str} (h : ls ≠ []) : eff ls = ls := if_neg h
theorem papL_ne {ps : List LT} : papL ps ≠ [] := by unfold papL; simp
theorem parse_own {ps : List LT} (g : ∀ t ∈ ps, GdT t) (h1 : 1 ≤ ps.length) (h8 : ps.length ≤ 8) : parseP (papL ps) = .ok (ps.map wT) := by
  rw [parse_end g (agr_self _) (Nat.le_refl _) h1 h8 (by rw [papL_end]; exact wds_one wdEnd), if_neg (by rw [papL_len]; omega), List.take_length]
theorem v_read_own {S : Sto} {ps : List LT} (g : ∀ t ∈ ps, GdT t) (h1 : 1 ≤ ps.length) (h8 : ps.length ≤ 8) : ∃ J, F_law_read [.v (.str "ways"), .v (lns (papL ps))] S = .ok (.v (rdOk ps)) (S ++ J) := by
  have n : Ln (papL ps) := ln_of (pap_l1 g) (by rw [papL_len]; omega)
  obtain ⟨J, h⟩ := v_read_ways (S := S) n
  rw [eff_ne papL_ne, parse_own g h1 h8] at h
  refine ⟨J, h.trans ?_⟩
  show Rs.ok (W.v (.tup [.str "read", papD (ps.map wT)])) (S ++ J) = _
  rw [papD_map g]; rfl
/-! ### a line cut, changed, more -/
def subL (ls : List Str) (p : Nat) (x : Str) : List Str := ls.take p ++ [x] ++ ls.drop (p + 1)
theorem sub_lt {ls : List Str} {p j : Nat} {x : Str} (hp : p ≤ ls.length) (h : j < p) : (subL ls p x)[j]? = ls[j]? := by
  unfold subL
  rw [List.append_assoc, List.getElem?_append_left (by rw [List.length_take]; omega), List.getElem?_take, if_pos h]
theorem sub_at {ls : List Str} {p : Nat} {x : Str} (hp : p ≤ ls.length) : (subL ls p x)[p]? = some x := by
  unfold subL
  have : (ls.take p).length = p := by rw [List.length_take]; omega
  rw [List.append_assoc, List.getElem?_append_right (by omega), this, Nat.sub_self]; rfl
theorem sub_mem {ls : List Str} {p : Nat} {x z : Str} (h : z ∈ subL ls p x) : z ∈ ls ∨ z = x := by
  unfold subL at h
  rcases List.mem_append.mp h with h | h
  · rcases List.mem_append.mp h with h | h
    · exact .inl (List.mem_of_mem_take h)
    · exact .inr (List.mem_singleton.mp h)
  · exact .inl (List.mem_of_mem_drop h)
theorem sub_len {ls : List Str} {p : Nat} {x : Str} (hp : p < ls.length) : (subL ls p x).length = ls.length := by
  unfold subL
  rw [List.length_append, List.length_append, List.length_take, List.length_drop, List.length_singleton]
  omega
theorem sub_ne {ls : List Str} {p : Nat} {x : Str} : subL ls p x ≠ [] := by unfold subL; simp
section
variable {ps : List LT} (g : ∀ t ∈ ps, GdT t) (h8 : ps.length ≤ 8)
include g h8
theorem ln_sub {p : Nat} {x : Str} (hp : p < (papL ps).length) (hx : L1 x) : Ln (subL (papL ps) p x) := ln_of (fun l hl => by
  rcases sub_mem hl with h | h
  · exact pap_l1 g l h
  · rw [h]; exact hx) (by rw [sub_len hp, papL_len]; omega)
theorem refused_sub {S : Sto} {p : Nat} {x : Str} {i : Int} (hp : p < (papL ps).length) (hx : L1 x) (hb : badAt p (some x)) (hi : i = p) : ∃ J, F_law_refused [.v (.str "ways"), .v (lns (subL (papL ps) p x)), .v (.int i)] S = .ok (.v (.bl true)) (S ++ J) := by
  have hl := hp
  rw [papL_len] at hl
  refine v_refused_ways (e := p) (ln_sub g h8 hp hx) ?_ hi
  rw [eff_ne sub_ne]
  refine parse_bad (ps := ps) g (fun j hj => sub_lt (by omega) hj) (by omega) (by omega) ?_
  rw [sub_at (by omega)]; exact hb
theorem refused_cut {S : Sto} {c : Nat} {i : Int} (hc : c < (papL ps).length) (hi : i = c) : ∃ J, F_law_refused [.v (.str "ways"), .v (lns ((papL ps).take c)), .v (.int i)] S = .ok (.v (.bl true)) (S ++ J) := by
  have hl := hc
  rw [papL_len] at hl
  refine v_refused_ways (e := c) (ln_of (fun l hl => pap_l1 g l (List.mem_of_mem_take hl)) (by rw [List.length_take]; omega)) ?_ hi
  by_cases h0 : c = 0
  · subst h0
    rw [List.take_zero]
    exact parse_bad (ps := []) (by simp) (fun j hj => by omega) (by omega) (by omega) (bad_any (x := "") (wrong_bad "" (by simp [wrongL, wrong1])))
  · have tl : ((papL ps).take c).length = c := by rw [List.length_take, papL_len]; omega
    have ne : (papL ps).take c ≠ [] := by intro e; rw [e] at tl; exact h0 tl.symm
    rw [eff_ne ne]
    refine parse_bad (ps := ps) g (fun j hj => by rw [List.getElem?_take, if_pos hj]) (by omega) (by omega) ?_
    rw [List.getElem?_eq_none (by omega)]
    exact bad_none
theorem refused_more {S : Sto} {i : Int} (h1 : 1 ≤ ps.length) (hi : i = (papL ps).length) : ∃ J, F_law_refused [.v (.str "ways"), .v (lns (papL ps ++ [wTo])), .v (.int i)] S = .ok (.v (.bl true)) (S ++ J) := by
  refine v_refused_ways (e := (papL ps).length) (ln_of (fun l hl => ?_) (by rw [List.length_append, papL_len]; show _ + 1 ≤ _; omega)) ?_ hi
  · rcases List.mem_append.mp hl with h | h
    · exact pap_l1 g l h
    · rw [List.mem_singleton.mp h]; exact l1_wd wdTo (by decide +kernel)
  · rw [eff_ne (by simp)]
    rw [parse_end (ps := ps) (m := ps.length) g (fun j hj => by rw [List.getElem?_append_left (by rw [papL_len]; omega)]) (Nat.le_refl _) h1 h8 (by
      rw [List.getElem?_append_left (by rw [papL_len]; omega), papL_end]; exact wds_one wdEnd), if_pos (by rw [List.length_append, papL_len]; show _ < _ + 1; omega), papL_len]
    rw [show 1 + 10 * ps.length + 1 = 10 * ps.length + 2 by omega]
theorem refused_end {S : Sto} {q : Nat} {i : Int} (hq : q < ps.length) (hi : i = if q = 0 then 1 else (1 + 10 * q + 1 : Nat)) : ∃ J, F_law_refused [.v (.str "ways"), .v (lns (subL (papL ps) (1 + 10 * q) wEnd)), .v (.int i)] S = .ok (.v (.bl true)) (S ++ J) := by
  have hl : 1 + 10 * q < (papL ps).length := by rw [papL_len]; omega
  have l1 : L1 wEnd := l1_wd wdEnd (by decide +kernel)
  have bE : Bnd (some wEnd) = some [wEnd] := wds_one wdEnd
  by_cases h0 : q = 0
  · subst h0
    refine refused_sub g h8 hl l1 ?_ (by rw [hi, if_pos rfl])
    unfold badAt
    rw [if_neg (by omega), if_pos (by decide), bE]
    exact ⟨by decide +kernel, .inr rfl⟩
  · refine v_refused_ways (e := 1 + 10 * q + 1) (ln_sub g h8 hl l1) ?_ (by rw [hi, if_neg h0])
    rw [eff_ne sub_ne, parse_end (ps := ps) (m := q) g (fun j hj => sub_lt (by omega) hj) (by omega) (by omega) (by omega) (by rw [sub_at (by omega)]; exact bE), if_pos (by rw [sub_len hl, papL_len]; omega)]
end
/-- a ninth -/
theorem parse_81 {ls : List Str} {ps : List LT} {w : List Str} (g : ∀ t ∈ ps, GdT t) (h : Agr ls ps 81) (hm : 8 ≤ ps.length) (hw : Bnd ls[81]? = some w) (he : w ≠ [wEnd]) : parseP ls = .error 81 := by
  unfold parseP
  rw [agr_ways h (by omega)]
  dsimp only
  rw [agr_loop (m := 8) g h hm (by omega) (by omega), show loopP ls (8 - 8) 8 = .ok ([], 8) from rfl]
  dsimp only
  unfold finP
  rw [show wAt ls (1 + 10 * 8) = .ok w from wAt_ok' hw]
  dsimp only
  rw [if_neg (show ¬ w = [("end" : Str)] from he)]
theorem getS_SS0 {s : Stt} {J : Sto} : SS s J ++ ([] : Sto) = SS s J := List.append_nil _
theorem SS_app {s : Stt} {J J' : Sto} : SS s J ++ J' = SS s (J ++ J') := rfl
theorem v_wrong (s : Stt) (J : Sto) : ∃ (x : Str) (s' : Stt), x ∈ wrongL ∧ F_law_wrong_line [.r 0] (SS s J) = .ok (.v (.str x)) (SS s' J) := by
  obtain ⟨q, s1, q1, q2, hq⟩ := v_draw s J (lim := 20) (by omega) (by omega)
  obtain ⟨k, rfl⟩ : ∃ k : Nat, q = k := ⟨q.toNat, by omega⟩
  have hk : k < wrongL.length := by
    have : wrongL.length = 20 := rfl
    omega
  refine ⟨wrongL[k], s1, List.getElem_mem hk, ?_⟩
  have e1 : vmul (.str "1") (.int 41) = some (.str (Txt.mul "1" 41)) := by unfold vmul; exact if_pos ⟨by decide, by decide, by decide +kernel⟩
  have e2 : vmul (.str "1") (.int 40) = some (.str (Txt.mul "1" 40)) := by unfold vmul; exact if_pos ⟨by decide, by decide, by decide +kernel⟩
  have e3 : vadd (.str "head ") (.str (Txt.mul "1" 41)) = some (.str ("head " ++ Txt.mul "1" 41)) := vadd_str (by decide +kernel)
  have e4 : vadd (.str "head -") (.str (Txt.mul "1" 40)) = some (.str ("head -" ++ Txt.mul "1" 40)) := vadd_str (by decide +kernel)
  have a : vadd (.lst (sD wrong1)) (.lst (sD wrong2)) = some (lns wrongL) := vadd_sD (by decide)
  have a' : vadd (.lst [.str "", .str " end", .str "end ", .str "nonsense", .str "to 1", .str "price 1", .str "count count", .str "last -1", .str "head 01", .str "tail", .str "tail 1", .str "To"]) (.lst [.str "tail 1/2/3", .str ("head " ++ Txt.mul "1" 41), .str ("head -" ++ Txt.mul "1" 40), .str "way", .str "paper", .str "to\t", .str "price\t", .str "office a"]) = some (lns wrongL) := a
  have i : ∀ S, ixW S (.v (lns wrongL)) (.v (.int (k : Nat))) = some (.v (.str wrongL[k])) := fun S => ix_lns (List.getElem?_eq_getElem hk)
  have ll : lenA M00 (lns wrongL) = some (.int 20) := len_lns
  rw [e_law_wrong_line]
  unfold B_law_wrong_line G_law_wrong_line
  simp [e1, e2, e3, e4, a', callV, ll, hq, i]
end K92

/-! the law on papers -/
namespace K92
open PySem PySem.Spec PyProof.Rows L2 Z
theorem cutD_to {α : Type} {xs : List α} (k : Nat) : Z.cutD xs none (some (k : Int)) = xs.take k := by
  unfold Z.cutD
  rw [HT.sIx_none, HT.sIx_nat, List.drop_zero, Nat.sub_zero]
  by_cases h : k ≤ xs.length
  · rw [Nat.min_eq_left h]
  · rw [Nat.min_eq_right (by omega), List.take_of_length_le (Nat.le_refl _), List.take_of_length_le (by omega)]
theorem cutD_from {α : Type} {xs : List α} (k : Nat) : Z.cutD xs (some (k : Int)) none = xs.drop k := by
  unfold Z.cutD
  rw [HT.sIx_none, HT.sIx_nat]
  by_cases h : k ≤ xs.length
  · rw [Nat.min_eq_left h]
    exact List.take_of_length_le (by rw [List.length_drop]; exact Nat.le_refl _)
  · rw [Nat.min_eq_right (by omega), List.drop_of_length_le (Nat.le_refl _), List.drop_of_length_le (by omega), List.take_nil]
theorem vsl_to {ls : List Str} (k : Nat) : vsl (lns ls) none (some (k : Int)) = some (lns (ls.take k)) := by
  show some (D.lst (Z.cutD (ls.map D.str) none (some (k : Int)))) = _
  rw [cutD_to, ← List.map_take]; rfl
theorem vsl_from {ls : List Str} (k : Nat) : vsl (lns ls) (some (k : Int)) none = some (lns (ls.drop k)) := by
  show some (D.lst (Z.cutD (ls.map D.str) (some (k : Int)) none)) = _
  rw [cutD_from, ← List.map_drop]; rfl
theorem vadd_lns {a b : List Str} (h : a.length + b.length ≤ sizeLine) : vadd (lns a) (lns b) = some (lns (a ++ b)) := vadd_sD h
def SUB (i : Nat) (e : Ex) : Ex := .bin .add (.bin .add (.sli (.loc 2) [] [(.loc i)]) (.lst false [e])) (.sli (.loc 2) [(.bin .add (.loc i) (.int 1))] [])
section
variable {G : GV} {en : WEn} {S : Sto} {ps : List LT}
theorem ev_sub {S' : Sto} {i p : Nat} {e : Ex} {x : Str} (h2 : getV en 2 = some (.v (lns (papL ps)))) (hi : getV en i = some (.v (.int (p : Nat)))) (he : evE G e en S = .ok (.v (.str x)) S') (hp : p < (papL ps).length) (h8 : ps.length ≤ 8) : evE G (SUB i e) en S = .ok (.v (lns (subL (papL ps) p x))) S' := by
  have s1 : 5000 ≤ sizeLine := by decide
  have hl := hp
  rw [papL_len] at hl
  have l1 : ((papL ps).take p).length + [x].length ≤ sizeLine := by rw [List.length_take]; show _ + 1 ≤ _; omega
  have a1 : vadd (lns ((papL ps).take p)) (.lst [.str x]) = some (lns ((papL ps).take p ++ [x])) := vadd_lns (b := [x]) l1
  have a2 : vadd (lns ((papL ps).take p ++ [x])) (lns ((papL ps).drop (p + 1))) = some (lns (subL (papL ps) p x)) := vadd_lns (by
    rw [List.length_append, List.length_take, List.length_drop, papL_len]; show _ + 1 + _ ≤ _; omega)
  have vf : vsl (lns (papL ps)) (some ((p : Int) + 1)) none = some (lns ((papL ps).drop (p + 1))) := vsl_from (p + 1)
  unfold SUB
  simp only [evE_7, evE_17, evE_1, evE_4, evE_15, evL_1, evL_2, evO_1, evO_2, h2, hi, lft_some, Rs.bind_ok, rd1_some' rdW_lns, vsl_to, lfv_some, he, plnW_cons, plnW_nil, List.length_cons, List.length_nil, Nat.zero_add, sl_1, if_true, rd2_some' rdW_lns rdW_lst, bo_add, a1, rd2_some' rdW_i rdW_i, vadd_int, vf, rd2_some' rdW_lns rdW_lns, a2]
end
def bodyW : List Sx := [.asg (.nm 7) (.call 3 (.loc 0) [(.loc 4)]), .ifs (.nt (.call 4 (.str "ways") [SUB 7 (.call 5 (.loc 0) []), (.loc 7)]))
    [.ret (.bl false)]
    []]
theorem cc0 (r : Rs (List W)) : callV G_law_paper_holds 0 r = r.bind fun ws S => if ws.length = 1 then F_law_lines ws S else .no := by unfold G_law_paper_holds; rfl
theorem cc1 (r : Rs (List W)) : callV G_law_paper_holds 1 r = r.bind fun ws S => if ws.length = 2 then F_law_read ws S else .no := by unfold G_law_paper_holds; rfl
theorem cc2 (r : Rs (List W)) : callV G_law_paper_holds 2 r = r.bind fun ws S => if ws.length = 1 then Fformat_ways ws S else .no := by unfold G_law_paper_holds; rfl
theorem cc3 (r : Rs (List W)) : callV G_law_paper_holds 3 r = r.bind fun ws S => if ws.length = 2 then F_law_draw ws S else .no := by unfold G_law_paper_holds; rfl
theorem cc4 (r : Rs (List W)) : callV G_law_paper_holds 4 r = r.bind fun ws S => if ws.length = 3 then F_law_refused ws S else .no := by unfold G_law_paper_holds; rfl
theorem cc5 (r : Rs (List W)) : callV G_law_paper_holds 5 r = r.bind fun ws S => if ws.length = 1 then F_law_wrong_line ws S else .no := by unfold G_law_paper_holds; rfl
theorem turn_W {ps : List LT} (g : ∀ t ∈ ps, GdT t) (h8 : ps.length ≤ 8) {s : Stt} {J : Sto} {o1 o3 o5 o6 o7 o8 o9 o10 o11 : Option W} : ∃ (s' : Stt) (J' : Sto) (o7' : Option W),
    evSs G_law_paper_holds bodyW [some (.r 0), o1, some (.v (lns (papL ps))), o3, some (.v (.int ((papL ps).length : Nat))), o5, o6, o7, o8, o9, o10, o11] (SS s J) =
      .ok (.nx [some (.r 0), o1, some (.v (lns (papL ps))), o3, some (.v (.int ((papL ps).length : Nat))), o5, o6, o7', o8, o9, o10, o11]) (SS s' J') := by
  have hl : (papL ps).length = 10 * ps.length + 2 := papL_len ps
  obtain ⟨r, s1, r1, r2, hr⟩ := v_draw s J (lim := ((papL ps).length : Nat)) (by omega) (by omega)
  obtain ⟨p, rfl⟩ : ∃ p : Nat, r = p := ⟨r.toNat, by omega⟩
  have hp : p < (papL ps).length := by omega
  obtain ⟨x, s2, hx, hw⟩ := v_wrong s1 J
  obtain ⟨J2, h2⟩ := refused_sub g h8 (S := SS s2 J) (i := p) hp ⟨wrong_nl x hx, wrong_len x hx⟩ (bad_any (wrong_bad x hx)) rfl
  have ew : evE G_law_paper_holds (.call 5 (.loc 0) []) [some (.r 0), o1, some (.v (lns (papL ps))), o3, some (.v (.int ((papL ps).length : Nat))), o5, o6, some (.v (.int p)), o8, o9, o10, o11] (SS s1 J) = .ok (.v (.str x)) (SS s2 J) := by
    simp only [evE_19, evE_1, evL_1, getV_0, lft_some, Rs.bind_ok, cc5, List.length_cons, List.length_nil, Nat.zero_add, if_true, hw]
  have es := ev_sub (en := [some (.r 0), o1, some (.v (lns (papL ps))), o3, some (.v (.int ((papL ps).length : Nat))), o5, o6, some (.v (.int p)), o8, o9, o10, o11]) rfl (i := 7) rfl ew hp h8
  refine ⟨s2, J ++ J2, some (.v (.int p)), ?_⟩
  unfold bodyW
  simp only [evSs_2, evSs_1, evS_1, evS_8, evT_4, evT_11, evE_19, evE_1, evE_5, evL_1, evL_2, getV_0, getV_s, lft_some, Rs.bind_ok, cc3, cc4, List.length_cons, List.length_nil, Nat.zero_add, Nat.reduceAdd, if_true, hr, bindV_nm, setV2_0, setV2_s, es, h2, truV_ok, truW_bl, Bool.not_true]
  rfl
theorem loop_W {ps : List LT} (g : ∀ t ∈ ps, GdT t) (h8 : ps.length ≤ 8) {o1 o3 o5 o8 o9 o10 o11 : Option W} : ∀ (items : List D) (s : Stt) (J : Sto) (o6 o7 : Option W), ∃ (s' : Stt) (J' : Sto) (o6' o7' : Option W),
    turnsV (.nm 6) (evSs G_law_paper_holds bodyW) items [some (.r 0), o1, some (.v (lns (papL ps))), o3, some (.v (.int ((papL ps).length : Nat))), o5, o6, o7, o8, o9, o10, o11] (SS s J) =
      .ok (.nx [some (.r 0), o1, some (.v (lns (papL ps))), o3, some (.v (.int ((papL ps).length : Nat))), o5, o6', o7', o8, o9, o10, o11]) (SS s' J')
  | [], s, J, o6, o7 => ⟨s, J, o6, o7, rfl⟩
  | x :: r, s, J, o6, o7 => by
    obtain ⟨s1, J1, o7', h1⟩ := turn_W g h8 (s := s) (J := J) (o1 := o1) (o3 := o3) (o5 := o5) (o6 := some (.v x)) (o7 := o7) (o8 := o8) (o9 := o9) (o10 := o10) (o11 := o11)
    obtain ⟨s2, J2, o6', o7'', h2⟩ := loop_W g h8 (o1 := o1) (o3 := o3) (o5 := o5) (o8 := o8) (o9 := o9) (o10 := o10) (o11 := o11) r s1 J1 (some (.v x)) o7'
    refine ⟨s2, J2, o6', o7'', ?_⟩
    conv => lhs; unfold turnsV
    simp only [bindV_nm, setV2_s, setV2_0, h1, Rs.bind_ok, h2]
def bodyX : List Sx := [.ifs (.nt (.call 4 (.str "ways") [SUB 8 (.loc 9), (.loc 8)]))
    [.ret (.bl false)]
    []]
theorem loop_X {ps : List LT} (g : ∀ t ∈ ps, GdT t) (h8 : ps.length ≤ 8) {s : Stt} {o1 o3 o4 o5 o6 o7 o10 o11 : Option W} : ∀ (xs : List (Nat × Str)) (J : Sto) (o8 o9 : Option W), (∀ x ∈ xs, x.1 < (papL ps).length ∧ L1 x.2 ∧ badAt x.1 (some x.2)) → ∃ (J' : Sto) (o8' o9' : Option W),
    turnsV (.tp [8, 9]) (evSs G_law_paper_holds bodyX) (xs.map fun x => D.tup [.int x.1, .str x.2]) [some (.r 0), o1, some (.v (lns (papL ps))), o3, o4, o5, o6, o7, o8, o9, o10, o11] (SS s J) =
      .ok (.nx [some (.r 0), o1, some (.v (lns (papL ps))), o3, o4, o5, o6, o7, o8', o9', o10, o11]) (SS s J')
  | [], J, o8, o9, _ => ⟨J, o8, o9, rfl⟩
  | x :: r, J, o8, o9, h => by
    obtain ⟨p, z⟩ := x
    obtain ⟨hp, hx, hb⟩ := h (p, z) (by simp)
    dsimp only at hp hx hb
    obtain ⟨J1, h1⟩ := refused_sub g h8 (S := SS s J) (i := p) hp hx hb rfl
    have es := ev_sub (G := G_law_paper_holds) (S := SS s J) (S' := SS s J) (e := .loc 9) (en := [some (.r 0), o1, some (.v (lns (papL ps))), o3, o4, o5, o6, o7, some (.v (.int p)), some (.v (.str z)), o10, o11]) rfl (i := 8) rfl rfl hp h8
    obtain ⟨J2, o8', o9', h2⟩ := loop_X g h8 (s := s) (o1 := o1) (o3 := o3) (o4 := o4) (o5 := o5) (o6 := o6) (o7 := o7) (o10 := o10) (o11 := o11) r (J ++ J1) (some (.v (.int p))) (some (.v (.str z))) fun y hy => h y (List.mem_cons_of_mem _ hy)
    refine ⟨J2, o8', o9', ?_⟩
    rw [List.map_cons]
    conv => lhs; unfold turnsV
    have b : evSs G_law_paper_holds bodyX [some (.r 0), o1, some (.v (lns (papL ps))), o3, o4, o5, o6, o7, some (.v (.int p)), some (.v (.str z)), o10, o11] (SS s J) = .ok (.nx [some (.r 0), o1, some (.v (lns (papL ps))), o3, o4, o5, o6, o7, some (.v (.int p)), some (.v (.str z)), o10, o11]) (SS s (J ++ J1)) := by
      unfold bodyX
      simp only [evSs_2, evSs_1, evS_8, evT_4, evT_11, evE_19, evE_1, evE_5, evL_1, evL_2, getV_0, getV_s, lft_some, Rs.bind_ok, cc4, List.length_cons, List.length_nil, Nat.zero_add, Nat.reduceAdd, if_true, es, h1, truV_ok, truW_bl, Bool.not_true]
      rfl
    simp only [bindV_tp, setAllV_cons, setAllV_nil, setV2_s, setV2_0, b, Rs.bind_ok, h2]
/-! the statements one by one -/

section
variable {ps : List LT} (g : ∀ t ∈ ps, GdT t) (h1 : 1 ≤ ps.length) (h8 : ps.length ≤ 8)
def En (ps : List LT) (a2 a3 a4 a5 a6 a7 a8 a9 a10 a11 : Option W) : WEn := [some (.r 0), some (.v (lpD ps)), a2, a3, a4, a5, a6, a7, a8, a9, a10, a11]
theorem len_ps {S : Sto} : rd1 S (.v (lpD ps)) (lenA M00) = some (.int (ps.length : Nat)) := by
  show some (D.int (ps.map ltD).length) = _
  rw [List.length_map]
theorem cut_ps (k : Nat) : vsl (lpD ps) none (some (k : Int)) = some (lpD (ps.take k)) := by
  show some (D.tup (Z.cutD (ps.map ltD) none (some (k : Int)))) = _
  rw [cutD_to, ← List.map_take]; rfl
include g h1 h8
theorem k0 {s : Stt} {J : Sto} : ∃ J', evS G_law_paper_holds (.asg (.nm 2) (.call 0 (.loc 1) [])) (En ps none none none none none none none none none none) (SS s J) = .ok (.nx (En ps (some (.v (lns (papL ps)))) none none none none none none none none none)) (SS s J') := by
  obtain ⟨J1, h⟩ := v_law_lines (S := SS s J) g (by omega)
  refine ⟨J ++ J1, ?_⟩
  unfold En
  simp only [evS_1, evE_19, evE_1, evL_1, getV_0, getV_s, lft_some, Rs.bind_ok, cc0, List.length_cons, List.length_nil, Nat.zero_add, if_true, h, bindV_nm, setV2_0, setV2_s]
  rfl
theorem k1 {s : Stt} {J : Sto} : ∃ J', evS G_law_paper_holds (.ifs (.cmp .ne (.call 1 (.str "ways") [(.loc 2)]) (.tup [(.str "read"), (.loc 1)])) [.ret (.bl false)] []) (En ps (some (.v (lns (papL ps)))) none none none none none none none none none) (SS s J) = .ok (.nx (En ps (some (.v (lns (papL ps)))) none none none none none none none none none)) (SS s J') := by
  obtain ⟨J1, h⟩ := v_read_own (S := SS s J) g h1 h8
  refine ⟨J ++ J1, ?_⟩
  have p : plnW [.v (.str "read"), .v (lpD ps)] = some [.str "read", lpD ps] := rfl
  have r : ∀ S, rdW S (.v (rdOk ps)) = some (rdOk ps) := fun S => rfl
  have e : (D.tup [.str "read", lpD ps]) = rdOk ps := rfl
  unfold En
  simp only [evS_8, evT_1, evE_19, evE_1, evE_5, evE_14, evL_1, evL_2, getV_0, getV_s, lft_some, Rs.bind_ok, cc1, List.length_cons, List.length_nil, Nat.zero_add, Nat.reduceAdd, if_true, h, p, sl_2, co_ne, e, rd2_some' (r _) (r _), vne_self (lay_rd ps), evSs_1]
  rfl
theorem k2 {s : Stt} {J : Sto} : ∃ J', evS G_law_paper_holds (.asg (.nm 3) (.call 2 (.loc 1) [])) (En ps (some (.v (lns (papL ps)))) none none none none none none none none none) (SS s J) = .ok (.nx (En ps (some (.v (lns (papL ps)))) (some (.v (.str (Txt.join "\n" (papL ps))))) none none none none none none none none)) (SS s J') := by
  obtain ⟨J1, h⟩ := v_format_ways (S := SS s J) g (by omega)
  refine ⟨J ++ J1, ?_⟩
  unfold En
  simp only [evS_1, evE_19, evE_1, evL_1, getV_0, getV_s, lft_some, Rs.bind_ok, cc2, List.length_cons, List.length_nil, Nat.zero_add, if_true, h, bindV_nm, setV2_0, setV2_s]
  rfl
theorem k3 {S : Sto} : evS G_law_paper_holds (.ifs (.bol false [(.nt (.isi .tstr (.loc 3))), (.cmp .ne (.loc 3) (.mth .join (.str "\n") (.loc 2) []))]) [.ret (.bl false)] []) (En ps (some (.v (lns (papL ps)))) (some (.v (.str (Txt.join "\n" (papL ps))))) none none none none none none none none) S = .ok (.nx (En ps (some (.v (lns (papL ps)))) (some (.v (.str (Txt.join "\n" (papL ps))))) none none none none none none none none)) S := by
  have n : Ln (papL ps) := ln_of (pap_l1 g) (by rw [papL_len]; omega)
  unfold En
  simp [isTy, n.join]
theorem k4 {S : Sto} {a3 : Option W} : evS G_law_paper_holds (.asg (.nm 4) (.blt .len (.loc 2) [])) (En ps (some (.v (lns (papL ps)))) a3 none none none none none none none none) S = .ok (.nx (En ps (some (.v (lns (papL ps)))) a3 (some (.v (.int ((papL ps).length : Nat)))) none none none none none none none)) S := by
  unfold En
  simp
theorem k5 {s : Stt} {J : Sto} {a3 : Option W} : ∃ (c : Nat) (s' : Stt), c < (papL ps).length ∧ evS G_law_paper_holds (.asg (.nm 5) (.call 3 (.loc 0) [(.loc 4)])) (En ps (some (.v (lns (papL ps)))) a3 (some (.v (.int ((papL ps).length : Nat)))) none none none none none none none) (SS s J) = .ok (.nx (En ps (some (.v (lns (papL ps)))) a3 (some (.v (.int ((papL ps).length : Nat)))) (some (.v (.int c))) none none none none none none)) (SS s' J) := by
  have hl : (papL ps).length = 10 * ps.length + 2 := papL_len ps
  obtain ⟨r, s1, r1, r2, hr⟩ := v_draw s J (lim := ((papL ps).length : Nat)) (by omega) (by omega)
  obtain ⟨p, rfl⟩ : ∃ p : Nat, r = p := ⟨r.toNat, by omega⟩
  refine ⟨p, s1, by omega, ?_⟩
  unfold En
  simp only [evS_1, evE_19, evE_1, evL_1, evL_2, getV_0, getV_s, lft_some, Rs.bind_ok, cc3, List.length_cons, List.length_nil, Nat.zero_add, Nat.reduceAdd, if_true, hr, bindV_nm, setV2_0, setV2_s]
theorem k6 {s : Stt} {J : Sto} {a3 : Option W} {c : Nat} (hc : c < (papL ps).length) : ∃ J', evS G_law_paper_holds (.ifs (.bol false [(.nt (.call 4 (.str "ways") [(.sli (.loc 2) [] [(.loc 5)]), (.loc 5)])), (.nt (.call 4 (.str "ways") [(.bin .add (.loc 2) (.lst false [(.str "to")])), (.loc 4)]))]) [.ret (.bl false)] []) (En ps (some (.v (lns (papL ps)))) a3 (some (.v (.int ((papL ps).length : Nat)))) (some (.v (.int c))) none none none none none none) (SS s J) = .ok (.nx (En ps (some (.v (lns (papL ps)))) a3 (some (.v (.int ((papL ps).length : Nat)))) (some (.v (.int c))) none none none none none none)) (SS s J') := by
  have hl : (papL ps).length = 10 * ps.length + 2 := papL_len ps
  have s1 : 5000 ≤ sizeLine := by decide
  obtain ⟨J1, hh1⟩ := refused_cut g h8 (S := SS s J) (i := c) hc rfl
  obtain ⟨J2, hh2⟩ := refused_more g h8 (S := SS s (J ++ J1)) (i := ((papL ps).length : Nat)) h1 rfl
  have a : vadd (lns (papL ps)) (.lst [.str "to"]) = some (lns (papL ps ++ [wTo])) := vadd_lns (b := [wTo]) (by show _ + 1 ≤ _; omega)
  refine ⟨J ++ J1 ++ J2, ?_⟩
  have e1 : SS s J ++ J1 = SS s (J ++ J1) := rfl
  unfold En
  simp only [evS_8, evT_3, evB_4, evB_2, evT_4, evT_11, evE_19, evE_1, evE_5, evE_7, evE_15, evE_17, evO_1, evO_2, evL_1, evL_2, getV_0, getV_s, lft_some, Rs.bind_ok, cc4, List.length_cons, List.length_nil, Nat.zero_add, Nat.reduceAdd, if_true, rd1_some' rdW_lns, vsl_to, lfv_some, hh1, truV_ok, truW_bl, Bool.not_true, e1, plnW_cons, plnW_nil, sl_1, rd2_some' rdW_lns rdW_lst, bo_add, a, hh2, evSs_1]
  rfl
theorem k7 {s : Stt} {J : Sto} {a3 a5 : Option W} : ∃ (s' : Stt) (J' : Sto) (a6 a7 : Option W), evS G_law_paper_holds (.fors (.nm 6) .rng1 [(.int 3)] bodyW) (En ps (some (.v (lns (papL ps)))) a3 (some (.v (.int ((papL ps).length : Nat)))) a5 none none none none none none) (SS s J) = .ok (.nx (En ps (some (.v (lns (papL ps)))) a3 (some (.v (.int ((papL ps).length : Nat)))) a5 a6 a7 none none none none)) (SS s' J') := by
  obtain ⟨s', J', a6, a7, h⟩ := loop_W g h8 (o1 := some (.v (lpD ps))) (o3 := a3) (o5 := a5) (o8 := none) (o9 := none) (o10 := none) (o11 := none) (rngD 0 (3 : Int).toNat) s J none none
  refine ⟨s', J', a6, a7, ?_⟩
  unfold En
  simp only [evS_9, evL_1, evL_2, evE_4, Rs.bind_ok, it_rng (show (0 : Int) ≤ 3 by decide) (show (3 : Int) ≤ 16777216 by decide), h]
theorem k8 {s : Stt} {J : Sto} {a3 a4 a5 a6 a7 : Option W} : ∃ (q : Nat) (s' : Stt), q < ps.length ∧ evS G_law_paper_holds (.asg (.nm 7) (.bin .add (.int 1) (.bin .mul (.int 10) (.call 3 (.loc 0) [(.blt .len (.loc 1) [])])))) (En ps (some (.v (lns (papL ps)))) a3 a4 a5 a6 a7 none none none none) (SS s J) = .ok (.nx (En ps (some (.v (lns (papL ps)))) a3 a4 a5 a6 (some (.v (.int ((1 + 10 * q : Nat) : Int)))) none none none none)) (SS s' J) := by
  obtain ⟨r, s1, r1, r2, hr⟩ := v_draw s J (lim := (ps.length : Nat)) (by omega) (by omega)
  obtain ⟨q, rfl⟩ : ∃ q : Nat, r = q := ⟨r.toNat, by omega⟩
  have m : vmul (.int 10) (.int (q : Nat)) = some (.int (10 * q)) := by
    unfold vmul
    exact if_pos (mulOk_l (by decide +kernel))
  refine ⟨q, s1, by omega, ?_⟩
  unfold En
  simp only [evS_1, evE_7, evE_4, evE_19, evE_1, evE_20, evL_1, evL_2, getV_0, getV_s, lft_some, Rs.bind_ok, bt_len, len_ps, lfv_some, cc3, List.length_cons, List.length_nil, Nat.zero_add, Nat.reduceAdd, if_true, hr, rd2_some' rdW_i rdW_i, bo_mul, bo_add, m, vadd_int, bindV_nm, setV2_0, setV2_s]
  rfl
end
end K92

/-! the law on papers: the rest -/
namespace K92
open PySem PySem.Spec PyProof.Rows L2 Z
def w10 : Str := "tail 1/0"
theorem bnd_C : Bnd (some wC) = some [wC] := wds_one wdC
theorem bnd_L : Bnd (some wL) = some [wL] := wds_one wdL
theorem bnd_To : Bnd (some wTo) = some [wTo] := wds_one wdTo
theorem bnd_E : Bnd (some wEnd) = some [wEnd] := wds_one wdEnd
theorem r_of {q a : Nat} (h : a < 10) : (1 + 10 * q + a - 1) % 10 = a := by omega
theorem badAt_r {q a : Nat} {o : Option Str} (h0 : a ≠ 0) (h : a < 10) (hb : bR a o) : badAt (1 + 10 * q + a) o := by
  unfold badAt
  rw [if_neg (by omega), r_of h, if_neg h0]
  exact hb
theorem six_ok {ps : List LT} {q : Nat} (hq : q < ps.length) : ∀ x ∈ ([(1 + 10 * q + 1, wC), (1 + 10 * q + 4, wL), (1 + 10 * q + 7, wTo), (1 + 10 * q + 2, w10), (1 + 10 * q + 3, wEnd), (1 + 10 * q + 4, wEnd)] : List (Nat × Str)), x.1 < (papL ps).length ∧ L1 x.2 ∧ badAt x.1 (some x.2) := by
  have hl : (papL ps).length = 10 * ps.length + 2 := papL_len ps
  have lC : L1 wC := l1_wd wdC (by decide +kernel)
  have lL : L1 wL := l1_wd wdL (by decide +kernel)
  have lT : L1 wTo := l1_wd wdTo (by decide +kernel)
  have lE : L1 wEnd := l1_wd wdEnd (by decide +kernel)
  have l10 : L1 w10 := ⟨by decide +kernel, by decide +kernel⟩
  intro x hx
  simp only [List.mem_cons, List.not_mem_nil, or_false] at hx
  rcases hx with e | e | e | e | e | e <;> subst e <;> dsimp only
  · exact ⟨by omega, lC, badAt_r (by decide) (by decide) (show Bnd (some wC) ≠ some [wP] by rw [bnd_C]; decide +kernel)⟩
  · exact ⟨by omega, lL, badAt_r (by decide) (by decide) (show Bnd (some wL) ≠ some [wC] by rw [bnd_L]; decide +kernel)⟩
  · exact ⟨by omega, lT, badAt_r (by decide) (by decide) (show Bnd (some wTo) ≠ some [wL] by rw [bnd_To]; decide +kernel)⟩
  · refine ⟨by omega, l10, badAt_r (by decide) (by decide) (show bH (some w10) from ?_)⟩
    show (wds w10).bind headW = none
    decide +kernel
  · refine ⟨by omega, lE, badAt_r (by decide) (by decide) (show bT (some wEnd) from ?_)⟩
    show (wds wEnd).bind tailW = none
    decide +kernel
  · exact ⟨by omega, lE, badAt_r (by decide) (by decide) (show Bnd (some wEnd) ≠ some [wC] by rw [bnd_E]; decide +kernel)⟩
def due (q : Nat) : Nat := if q = 0 then 1 else 1 + 10 * q + 1
def lst6 : Ex := .lst false [(.tup [(.bin .add (.loc 7) (.int 1)), (.str "count")]), (.tup [(.bin .add (.loc 7) (.int 4)), (.str "last")]), (.tup [(.bin .add (.loc 7) (.int 7)), (.str "to")]), (.tup [(.bin .add (.loc 7) (.int 2)), (.str "tail 1/0")]), (.tup [(.bin .add (.loc 7) (.int 3)), (.str "end")]), (.tup [(.bin .add (.loc 7) (.int 4)), (.str "end")])]
section
variable {ps : List LT} (g : ∀ t ∈ ps, GdT t) (h1 : 1 ≤ ps.length) (h8 : ps.length ≤ 8)
include g h1 h8
theorem k9 {s : Stt} {J : Sto} {a3 a4 a5 a6 : Option W} {q : Nat} (hq : q < ps.length) : ∃ (J' : Sto) (a8 a9 : Option W), evS G_law_paper_holds (.fors (.tp [8, 9]) .seq [lst6] bodyX) (En ps (some (.v (lns (papL ps)))) a3 a4 a5 a6 (some (.v (.int ((1 + 10 * q : Nat) : Int)))) none none none none) (SS s J) = .ok (.nx (En ps (some (.v (lns (papL ps)))) a3 a4 a5 a6 (some (.v (.int ((1 + 10 * q : Nat) : Int)))) a8 a9 none none)) (SS s J') := by
  obtain ⟨J', a8, a9, h⟩ := loop_X g h8 (s := s) (o1 := some (.v (lpD ps))) (o3 := a3) (o4 := a4) (o5 := a5) (o6 := a6) (o7 := some (.v (.int ((1 + 10 * q : Nat) : Int)))) (o10 := none) (o11 := none) _ J none none (six_ok hq)
  refine ⟨J', a8, a9, ?_⟩
  refine Eq.trans ?_ h
  unfold En lst6
  simp
  rfl
theorem k10 {S : Sto} {a3 a4 a5 a6 a8 a9 : Option W} {q : Nat} : evS G_law_paper_holds (.asg (.nm 10) (.idx (.lst false [(.bin .add (.loc 7) (.int 1)), (.loc 7)]) (.blt .int (.cmp .eq (.loc 7) (.int 1)) []))) (En ps (some (.v (lns (papL ps)))) a3 a4 a5 a6 (some (.v (.int ((1 + 10 * q : Nat) : Int)))) a8 a9 none none) S = .ok (.nx (En ps (some (.v (lns (papL ps)))) a3 a4 a5 a6 (some (.v (.int ((1 + 10 * q : Nat) : Int)))) a8 a9 (some (.v (.int (due q : Nat)))) none)) S := by
  have i0 : ∀ {x y : D} {S}, ixW S (.v (.lst [x, y])) (.v (.int 0)) = some (.v x) := fun {x y S} => ix_lst (i := 0) rfl
  have i1 : ∀ {x y : D} {S}, ixW S (.v (.lst [x, y])) (.v (.int 1)) = some (.v y) := fun {x y S} => ix_lst (i := 1) rfl
  unfold En
  by_cases h : q = 0
  · subst h
    simp [i1]
    rfl
  · have h' : ¬ (1 + 10 * (q : Int) = 1) := by omega
    simp [h, h', i0, due]
theorem k11 {s : Stt} {J : Sto} {a3 a4 a5 a6 a8 a9 : Option W} {q : Nat} (hq : q < ps.length) : ∃ J', evS G_law_paper_holds (.ifs (.nt (.call 4 (.str "ways") [SUB 7 (.str "end"), (.loc 10)])) [.ret (.bl false)] []) (En ps (some (.v (lns (papL ps)))) a3 a4 a5 a6 (some (.v (.int ((1 + 10 * q : Nat) : Int)))) a8 a9 (some (.v (.int (due q : Nat)))) none) (SS s J) = .ok (.nx (En ps (some (.v (lns (papL ps)))) a3 a4 a5 a6 (some (.v (.int ((1 + 10 * q : Nat) : Int)))) a8 a9 (some (.v (.int (due q : Nat)))) none)) (SS s J') := by
  obtain ⟨J1, h⟩ : ∃ J1, F_law_refused [.v (.str "ways"), .v (lns (subL (papL ps) (1 + 10 * q) wEnd)), .v (.int (due q : Nat))] (SS s J) = .ok (.v (.bl true)) (SS s J ++ J1) := refused_end g h8 (S := SS s J) (q := q) hq rfl
  have es := ev_sub (G := G_law_paper_holds) (S := SS s J) (S' := SS s J) (e := .str "end") (x := wEnd) (en := En ps (some (.v (lns (papL ps)))) a3 a4 a5 a6 (some (.v (.int ((1 + 10 * q : Nat) : Int)))) a8 a9 (some (.v (.int (due q : Nat)))) none) rfl (i := 7) (p := 1 + 10 * q) rfl rfl (by rw [papL_len]; omega) h8
  refine ⟨J ++ J1, ?_⟩
  have e10 : getV (En ps (some (.v (lns (papL ps)))) a3 a4 a5 a6 (some (.v (.int ((1 + 10 * q : Nat) : Int)))) a8 a9 (some (.v (.int (due q : Nat)))) none) 10 = some (.v (.int (due q : Nat))) := rfl
  simp only [evS_8, evT_4, evT_11, evE_19, evE_1, evE_5, evL_1, evL_2, lft_some, Rs.bind_ok, cc4, List.length_cons, List.length_nil, Nat.zero_add, Nat.reduceAdd, if_true, es, e10, h, truV_ok, truW_bl, Bool.not_true, evSs_1]
  rfl
end
theorem many_eq (t : LT) (n : Nat) : [wWays] ++ (List.replicate n (triL t)).flatten ++ [wEnd] = papL (List.replicate n t) := by
  unfold papL
  rw [List.flatMap_replicate]
  rfl
theorem ten {t : LT} : vsl (lns (papL [t])) (some 1) (some 11) = some (lns (triL t)) := by
  have e : lns (papL [t]) = .lst (.str wWays :: ((triL t).map D.str ++ [.str wEnd])) := rfl
  rw [e]; rfl
theorem mulL {t : LT} : vmul (lns (triL t)) (.int 9) = some (.lst (sD (List.replicate 9 (triL t)).flatten)) := rfl
theorem gd_rep {t : LT} (g : GdT t) (n : Nat) : ∀ z ∈ List.replicate n t, GdT z := fun z hz => by rw [List.eq_of_mem_replicate hz]; exact g
def many (t : LT) : List Str := papL (List.replicate 9 t)
theorem many_len (t : LT) : (many t).length = 92 := by unfold many; rw [papL_len, List.length_replicate]
theorem many_81 (t : LT) : (many t)[81]? = some wTo := rfl
theorem many_cut (t : LT) : (many t).take 81 ++ [wEnd] = papL (List.replicate 8 t) := rfl
section
variable {ps : List LT} {t : LT} {r : List LT} (e : ps = t :: r) (gt : GdT t)
include e gt
theorem k12 {s : Stt} {J : Sto} {a2 a3 a4 a5 a6 a7 a8 a9 a10 : Option W} : ∃ J', evS G_law_paper_holds (.asg (.nm 11) (.bin .add (.bin .add (.lst false [(.str "ways")]) (.bin .mul (.sli (.call 0 (.sli (.loc 1) [] [(.int 1)]) []) [(.int 1)] [(.int 11)]) (.int 9))) (.lst false [(.str "end")]))) (En ps a2 a3 a4 a5 a6 a7 a8 a9 a10 none) (SS s J) = .ok (.nx (En ps a2 a3 a4 a5 a6 a7 a8 a9 a10 (some (.v (lns (many t)))))) (SS s J') := by
  have c1 : vsl (lpD ps) none (some 1) = some (lpD [t]) := by rw [e]; exact cut_ps (ps := t :: r) 1
  obtain ⟨J1, h⟩ := v_law_lines (S := SS s J) (ps := [t]) (by intro z hz; rw [List.mem_singleton.mp hz]; exact gt) (by show 1 ≤ 80; decide)
  have a1 : vadd (.lst [.str "ways"]) (.lst (sD (List.replicate 9 (triL t)).flatten)) = some (.lst (sD ([wWays] ++ (List.replicate 9 (triL t)).flatten))) := vadd_sD (a := [wWays]) (by
    have : (List.replicate 9 (triL t)).flatten.length = 90 := rfl
    rw [this]; decide)
  have a2' : vadd (.lst (sD ([wWays] ++ (List.replicate 9 (triL t)).flatten))) (.lst [.str "end"]) = some (.lst (sD ([wWays] ++ (List.replicate 9 (triL t)).flatten ++ [wEnd]))) := vadd_sD (b := [wEnd]) (by
    have : ([wWays] ++ (List.replicate 9 (triL t)).flatten).length = 91 := rfl
    rw [this]; decide)
  have rp : ∀ S, rdW S (.v (lpD ps)) = some (lpD ps) := fun S => rfl
  refine ⟨J ++ J1, ?_⟩
  unfold En
  simp only [evS_1, evE_7, evE_15, evE_5, evE_17, evE_19, evE_1, evE_4, evL_1, evL_2, evO_1, evO_2, getV_0, getV_s, lft_some, Rs.bind_ok, plnW_cons, plnW_nil, List.length_cons, List.length_nil, Nat.zero_add, sl_1, if_true, rd1_some' (rp _), c1, lfv_some, cc0, h, rd1_some' rdW_lns, ten, rd2_some' rdW_lns rdW_i, bo_mul, mulL, rd2_some' rdW_lst rdW_lst, bo_add, a1, a2', bindV_nm, setV2_0, setV2_s]
  rw [many_eq]
  rfl
theorem k13 {s : Stt} {J : Sto} {a2 a3 a4 a5 a6 a7 a8 a9 a10 : Option W} : ∃ J', evS G_law_paper_holds (.ifs (.nt (.call 4 (.str "ways") [(.loc 11), (.int 81)])) [.ret (.bl false)] []) (En ps a2 a3 a4 a5 a6 a7 a8 a9 a10 (some (.v (lns (many t))))) (SS s J) = .ok (.nx (En ps a2 a3 a4 a5 a6 a7 a8 a9 a10 (some (.v (lns (many t)))))) (SS s J') := by
  have gm := gd_rep gt 9
  obtain ⟨J1, h⟩ := v_refused_ways (S := SS s J) (ls := many t) (e := 81) (i := 81) (ln_of (pap_l1 gm) (by rw [many_len]; decide)) (by
    rw [show many t = papL (List.replicate 9 t) from rfl, eff_ne papL_ne]
    exact parse_81 (ps := List.replicate 9 t) (w := [wTo]) gm (agr_self _) (by rw [List.length_replicate]; decide) (by rw [show papL (List.replicate 9 t) = many t from rfl, many_81]; exact bnd_To) (by decide +kernel)) rfl
  refine ⟨J ++ J1, ?_⟩
  unfold En
  simp only [evS_8, evT_4, evT_11, evE_19, evE_1, evE_5, evE_4, evL_1, evL_2, getV_0, getV_s, lft_some, Rs.bind_ok, cc4, List.length_cons, List.length_nil, Nat.zero_add, Nat.reduceAdd, if_true, h, truV_ok, truW_bl, Bool.not_true, evSs_1]
  rfl
theorem k14 {s : Stt} {J : Sto} {a2 a3 a4 a5 a6 a7 a8 a9 a10 : Option W} : ∃ J', evS G_law_paper_holds (.ret (.bol true [(.cmp .eq (.call 1 (.str "ways") [(.bin .add (.sli (.loc 11) [] [(.int 81)]) (.lst false [(.str "end")]))]) (.tup [(.str "read"), (.bin .mul (.sli (.loc 1) [] [(.int 1)]) (.int 8))])), (.call 4 (.str "ways") [(.lst false [(.str "ways"), (.str "end")]), (.int 1)])])) (En ps a2 a3 a4 a5 a6 a7 a8 a9 a10 (some (.v (lns (many t))))) (SS s J) = .ok (.rt (.v (.bl true))) (SS s J') := by
  have g8 := gd_rep gt 8
  have c1 : vsl (lpD ps) none (some 1) = some (lpD [t]) := by rw [e]; exact cut_ps (ps := t :: r) 1
  have m8 : vmul (lpD [t]) (.int 8) = some (lpD (List.replicate 8 t)) := by
    show (if [ltD t] ≠ [] ∧ (2 : Int) ≤ 8 ∧ (8 : Int) ≤ 1000 ∧ [ltD t].length ≤ 1000 then some (D.tup (List.replicate (8 : Int).toNat [ltD t]).flatten) else none) = _
    rw [if_pos ⟨by simp, by decide, by decide, by show 1 ≤ 1000; decide⟩]; rfl
  obtain ⟨J1, h1⟩ := v_read_own (S := SS s J) g8 (by rw [List.length_replicate]; decide) (by rw [List.length_replicate]; decide)
  obtain ⟨J2, h2⟩ := v_refused_ways (S := SS s (J ++ J1)) (ls := [wWays, wEnd]) (e := 1) (i := 1) (ln_of (by
    intro l hl
    simp only [List.mem_cons, List.not_mem_nil, or_false] at hl
    rcases hl with e | e <;> subst e
    · exact l1_wd wdWays (by decide +kernel)
    · exact l1_wd wdEnd (by decide +kernel)) (by decide)) (by
    rw [eff_ne (by simp)]
    refine parse_bad (ps := []) (by simp) (fun j hj => rfl) (by decide) (by decide) ?_
    show badAt 1 (some wEnd)
    unfold badAt
    rw [if_neg (by decide), if_pos (by decide), bnd_E]
    exact ⟨by decide +kernel, .inr rfl⟩) rfl
  have v81 : vsl (lns (many t)) none (some 81) = some (lns ((many t).take 81)) := vsl_to 81
  have aa : vadd (lns ((many t).take 81)) (.lst [.str "end"]) = some (lns (papL (List.replicate 8 t))) := by
    rw [← many_cut]
    exact vadd_lns (b := [wEnd]) (by
      have : ((many t).take 81).length = 81 := rfl
      rw [this]; decide)
  have rp : ∀ S, rdW S (.v (lpD ps)) = some (lpD ps) := fun S => rfl
  have rp2 : ∀ S, rdW S (.v (lpD [t])) = some (lpD [t]) := fun S => rfl
  have rr : ∀ S, rdW S (.v (rdOk (List.replicate 8 t))) = some (rdOk (List.replicate 8 t)) := fun S => rfl
  have p : plnW [.v (.str "read"), .v (lpD (List.replicate 8 t))] = some [.str "read", lpD (List.replicate 8 t)] := rfl
  have p2 : plnW [.v (.str "ways"), .v (.str "end")] = some [.str wWays, .str wEnd] := rfl
  have ee : (D.tup [.str "read", lpD (List.replicate 8 t)]) = rdOk (List.replicate 8 t) := rfl
  have e1 : SS s J ++ J1 = SS s (J ++ J1) := rfl
  have h2' : F_law_refused [.v (.str "ways"), .v (.lst [.str "ways", .str "end"]), .v (.int 1)] (SS s (J ++ J1)) = _ := h2
  refine ⟨J ++ J1 ++ J2, ?_⟩
  unfold En
  simp only [evS_6, evE_11, evV_3, evV_2, evE_9, evE_19, evE_1, evE_5, evE_4, evE_7, evE_17, evE_15, evE_14, evL_1, evL_2, evO_1, evO_2, getV_0, getV_s, lft_some, Rs.bind_ok, rd1_some' rdW_lns, v81, lfv_some, plnW_cons, plnW_nil, List.length_cons, List.length_nil, Nat.zero_add, Nat.reduceAdd, sl_1, sl_2, if_true, rd2_some' rdW_lns rdW_lst, bo_add, aa, cc1, h1, rd1_some' (rp _), c1, rd2_some' (rp2 _) rdW_i, bo_mul, m8, ee, co_eq, rd2_some' (rr _) (rr _), veq_self (lay_rd _), blW_bl, cc4, e1, h2']
  rfl
end
theorem v_paper_holds {ps : List LT} (g : ∀ t ∈ ps, GdT t) (h1 : 1 ≤ ps.length) (h8 : ps.length ≤ 8) (s : Stt) (J : Sto) : ∃ (s' : Stt) (J' : Sto), F_law_paper_holds [.r 0, .v (lpD ps)] (SS s J) = .ok (.v (.bl true)) (SS s' J') := by
  obtain ⟨t, r, e⟩ : ∃ t r, ps = t :: r := by
    cases ps with
    | nil => exact absurd h1 (by simp)
    | cons t r => exact ⟨t, r, rfl⟩
  have gt : GdT t := g t (by rw [e]; simp)
  obtain ⟨J0, x0⟩ := k0 g h1 h8 (s := s) (J := J)
  obtain ⟨J1, x1⟩ := k1 g h1 h8 (s := s) (J := J0)
  obtain ⟨J2, x2⟩ := k2 g h1 h8 (s := s) (J := J1)
  have x3 := k3 g h1 h8 (S := SS s J2)
  have x4 := k4 g h1 h8 (S := SS s J2) (a3 := some (.v (.str (Txt.join "\n" (papL ps)))))
  obtain ⟨c, s5, hc, x5⟩ := k5 g h1 h8 (s := s) (J := J2) (a3 := some (.v (.str (Txt.join "\n" (papL ps)))))
  obtain ⟨J6, x6⟩ := k6 g h1 h8 (s := s5) (J := J2) (a3 := some (.v (.str (Txt.join "\n" (papL ps))))) hc
  obtain ⟨s7, J7, a6, a7, x7⟩ := k7 g h1 h8 (s := s5) (J := J6) (a3 := some (.v (.str (Txt.join "\n" (papL ps))))) (a5 := some (.v (.int c)))
  obtain ⟨q, s8, hq, x8⟩ := k8 g h1 h8 (s := s7) (J := J7) (a3 := some (.v (.str (Txt.join "\n" (papL ps))))) (a4 := some (.v (.int ((papL ps).length : Nat)))) (a5 := some (.v (.int c))) (a6 := a6) (a7 := a7)
  obtain ⟨J9, a8, a9, x9⟩ := k9 g h1 h8 (s := s8) (J := J7) (a3 := some (.v (.str (Txt.join "\n" (papL ps))))) (a4 := some (.v (.int ((papL ps).length : Nat)))) (a5 := some (.v (.int c))) (a6 := a6) hq
  have x10 := k10 g h1 h8 (S := SS s8 J9) (a3 := some (.v (.str (Txt.join "\n" (papL ps))))) (a4 := some (.v (.int ((papL ps).length : Nat)))) (a5 := some (.v (.int c))) (a6 := a6) (a8 := a8) (a9 := a9) (q := q)
  obtain ⟨J11, x11⟩ := k11 g h1 h8 (s := s8) (J := J9) (a3 := some (.v (.str (Txt.join "\n" (papL ps))))) (a4 := some (.v (.int ((papL ps).length : Nat)))) (a5 := some (.v (.int c))) (a6 := a6) (a8 := a8) (a9 := a9) hq
  obtain ⟨J12, x12⟩ := k12 e gt (s := s8) (J := J11) (a2 := some (.v (lns (papL ps)))) (a3 := some (.v (.str (Txt.join "\n" (papL ps))))) (a4 := some (.v (.int ((papL ps).length : Nat)))) (a5 := some (.v (.int c))) (a6 := a6) (a7 := some (.v (.int ((1 + 10 * q : Nat) : Int)))) (a8 := a8) (a9 := a9) (a10 := some (.v (.int (due q : Nat))))
  obtain ⟨J13, x13⟩ := k13 e gt (s := s8) (J := J12) (a2 := some (.v (lns (papL ps)))) (a3 := some (.v (.str (Txt.join "\n" (papL ps))))) (a4 := some (.v (.int ((papL ps).length : Nat)))) (a5 := some (.v (.int c))) (a6 := a6) (a7 := some (.v (.int ((1 + 10 * q : Nat) : Int)))) (a8 := a8) (a9 := a9) (a10 := some (.v (.int (due q : Nat))))
  obtain ⟨J14, x14⟩ := k14 e gt (s := s8) (J := J13) (a2 := some (.v (lns (papL ps)))) (a3 := some (.v (.str (Txt.join "\n" (papL ps))))) (a4 := some (.v (.int ((papL ps).length : Nat)))) (a5 := some (.v (.int c))) (a6 := a6) (a7 := some (.v (.int ((1 + 10 * q : Nat) : Int)))) (a8 := a8) (a9 := a9) (a10 := some (.v (.int (due q : Nat))))
  refine ⟨s8, J14, ?_⟩
  rw [e_law_paper_holds]
  have nx : ∀ (st : Sx) (rest : List Sx) (en en' : WEn) (S S' : Sto), evS G_law_paper_holds st en S = .ok (.nx en') S' → evSs G_law_paper_holds (st :: rest) en S = evSs G_law_paper_holds rest en' S' := by
    intro st rest en en' S S' h
    rw [evSs_2, h]; rfl
  have hB : B_law_paper_holds = [(.asg (.nm 2) (.call 0 (.loc 1) [])), (.ifs (.cmp .ne (.call 1 (.str "ways") [(.loc 2)]) (.tup [(.str "read"), (.loc 1)])) [.ret (.bl false)] []), (.asg (.nm 3) (.call 2 (.loc 1) [])), (.ifs (.bol false [(.nt (.isi .tstr (.loc 3))), (.cmp .ne (.loc 3) (.mth .join (.str "\n") (.loc 2) []))]) [.ret (.bl false)] []), (.asg (.nm 4) (.blt .len (.loc 2) [])), (.asg (.nm 5) (.call 3 (.loc 0) [(.loc 4)])), (.ifs (.bol false [(.nt (.call 4 (.str "ways") [(.sli (.loc 2) [] [(.loc 5)]), (.loc 5)])), (.nt (.call 4 (.str "ways") [(.bin .add (.loc 2) (.lst false [(.str "to")])), (.loc 4)]))]) [.ret (.bl false)] []), (.fors (.nm 6) .rng1 [(.int 3)] bodyW), (.asg (.nm 7) (.bin .add (.int 1) (.bin .mul (.int 10) (.call 3 (.loc 0) [(.blt .len (.loc 1) [])])))), (.fors (.tp [8, 9]) .seq [lst6] bodyX), (.asg (.nm 10) (.idx (.lst false [(.bin .add (.loc 7) (.int 1)), (.loc 7)]) (.blt .int (.cmp .eq (.loc 7) (.int 1)) []))), (.ifs (.nt (.call 4 (.str "ways") [SUB 7 (.str "end"), (.loc 10)])) [.ret (.bl false)] []), (.asg (.nm 11) (.bin .add (.bin .add (.lst false [(.str "ways")]) (.bin .mul (.sli (.call 0 (.sli (.loc 1) [] [(.int 1)]) []) [(.int 1)] [(.int 11)]) (.int 9))) (.lst false [(.str "end")]))), (.ifs (.nt (.call 4 (.str "ways") [(.loc 11), (.int 81)])) [.ret (.bl false)] []), (.ret (.bol true [(.cmp .eq (.call 1 (.str "ways") [(.bin .add (.sli (.loc 11) [] [(.int 81)]) (.lst false [(.str "end")]))]) (.tup [(.str "read"), (.bin .mul (.sli (.loc 1) [] [(.int 1)]) (.int 8))])), (.call 4 (.str "ways") [(.lst false [(.str "ways"), (.str "end")]), (.int 1)])]))] := rfl
  rw [hB]
  show (evSs G_law_paper_holds _ (En ps none none none none none none none none none none) (SS s J)).out = _
  rw [nx _ _ _ _ _ _ x0, nx _ _ _ _ _ _ x1, nx _ _ _ _ _ _ x2, nx _ _ _ _ _ _ x3, nx _ _ _ _ _ _ x4, nx _ _ _ _ _ _ x5, nx _ _ _ _ _ _ x6, nx _ _ _ _ _ _ x7, nx _ _ _ _ _ _ x8, nx _ _ _ _ _ _ x9, nx _ _ _ _ _ _ x10, nx _ _ _ _ _ _ x11, nx _ _ _ _ _ _ x12, nx _ _ _ _ _ _ x13, evSs_2, x14]
  rfl
end K92

/-! names, claims drawn -/
namespace K92
open PySem PySem.Spec PyProof.Rows L2 Z
def abc : Str := "abcdefghijklmnopqrstuvwxyz"
theorem abc_tl : tl abc = List.range' 97 26 := by decide +kernel
theorem ix_abc {S : Sto} {k : Nat} (h : k < 26) : ixW S (.v (.str abc)) (.v (.int (k : Nat))) = some (.v (.str ⟨#[97 + k]⟩)) := by
  have hl : abc.length ≤ sizeLine := by decide +kernel
  have e : atI abc.cps.toList ((k : Nat) : Int) = some (97 + k) := by
    rw [show abc.cps.toList = List.range' 97 26 from abc_tl, atI_get (by rw [List.length_range']; exact h)]
    rw [List.getElem?_range' h]; simp
  unfold ixW
  simp only [plW_int, if_pos hl, e]
def azS (x : Str) : Prop := rngS 97 122 x = true
theorem az_app {x : Str} {k : Nat} (h : azS x) (hk : k < 26) : azS (x ++ ⟨#[97 + k]⟩) := by
  unfold azS rngS at *
  rw [show tl (x ++ ⟨#[97 + k]⟩) = tl x ++ tl (⟨#[97 + k]⟩ : Str) from TL.tl_append _ _, List.all_append, h, Bool.true_and]
  show (decide (97 ≤ 97 + k) && decide (97 + k ≤ 122) && true) = true
  rw [decide_eq_true (by omega), decide_eq_true (by omega)]; rfl
def bodyN : List Sx := [.asg (.nm 3) (.bin .add (.loc 3) (.idx (.loc 1) (.call 0 (.loc 0) [(.int 26)])))]
theorem loop_N {o2 : Option W} (J : Sto) : ∀ (items : List D) (s : Stt) (x : Str) (o4 : Option W), azS x → x.length + items.length ≤ 100 → ∃ (s' : Stt) (x' : Str) (o4' : Option W), azS x' ∧ x'.length = x.length + items.length ∧
    turnsV (.nm 4) (evSs G_law_name bodyN) items [some (.r 0), some (.v (.str abc)), o2, some (.v (.str x)), o4] (SS s J) = .ok (.nx [some (.r 0), some (.v (.str abc)), o2, some (.v (.str x')), o4']) (SS s' J)
  | [], s, x, o4, h, _ => ⟨s, x, o4, h, rfl, rfl⟩
  | y :: r, s, x, o4, h, hl => by
    rw [List.length_cons] at hl
    obtain ⟨q, s1, q1, q2, hq⟩ := v_draw s J (lim := 26) (by omega) (by omega)
    obtain ⟨k, rfl⟩ : ∃ k : Nat, q = k := ⟨q.toNat, by omega⟩
    have l1 : (⟨#[97 + k]⟩ : Str).length = 1 := rfl
    have s0 := sl1000
    have a : vadd (.str x) (.str ⟨#[97 + k]⟩) = some (.str (x ++ ⟨#[97 + k]⟩)) := vadd_str (by rw [l1]; omega)
    obtain ⟨s2, x', o4', z1, z2, z3⟩ := loop_N J (o2 := o2) r s1 (x ++ ⟨#[97 + k]⟩) (some (.v y)) (az_app h (by omega)) (by rw [len_app, l1]; omega)
    refine ⟨s2, x', o4', z1, by rw [z2, len_app, l1, List.length_cons]; omega, ?_⟩
    conv => lhs; unfold turnsV
    have b : evSs G_law_name bodyN [some (.r 0), some (.v (.str abc)), o2, some (.v (.str x)), some (.v y)] (SS s J) = .ok (.nx [some (.r 0), some (.v (.str abc)), o2, some (.v (.str (x ++ ⟨#[97 + k]⟩))), some (.v y)]) (SS s1 J) := by
      unfold bodyN G_law_name
      simp [callV, hq, ix_abc (show k < 26 by omega), a]
    simp only [bindV_nm, setV2_s, setV2_0, b, Rs.bind_ok, z3]
theorem ix2 {S : Sto} {x y : D} {q : Int} (h0 : 0 ≤ q) (h : q < 2) : ixW S (.v (.lst [x, y])) (.v (.int q)) = some (.v (if q = 0 then x else y)) := by
  by_cases e : q = 0
  · subst e; exact ix_lst (i := 0) rfl
  · have : q = 1 := by omega
    subst this; exact ix_lst (i := 1) rfl
theorem v_law_name (s : Stt) (J : Sto) : ∃ (x : Str) (s' : Stt), lowS x = true ∧ F_law_name [.r 0] (SS s J) = .ok (.v (.str x)) (SS s' J) := by
  rw [e_law_name]
  have hB : B_law_name = [.asg (.nm 1) (.str "abcdefghijklmnopqrstuvwxyz"), .asg (.nm 2) (.bin .add (.int 1) (.idx (.lst false [(.call 0 (.loc 0) [(.int 3)]), (.call 0 (.loc 0) [(.int 12)])]) (.call 0 (.loc 0) [(.int 2)]))), .asg (.nm 3) (.str ""), .fors (.nm 4) .rng1 [(.loc 2)] bodyN, .ret (.loc 3)] := rfl
  obtain ⟨a, s1, a1, a2, ha⟩ := v_draw s J (lim := 3) (by omega) (by omega)
  obtain ⟨b, s2, b1, b2, hb⟩ := v_draw s1 J (lim := 12) (by omega) (by omega)
  obtain ⟨c, s3, c1, c2, hc⟩ := v_draw s2 J (lim := 2) (by omega) (by omega)
  have key : ∃ n : Int, 0 ≤ n ∧ n < 12 ∧ ∀ S : Sto, ixW S (.v (.lst [.int a, .int b])) (.v (.int c)) = some (.v (.int n)) := by
    by_cases e : c = 0
    · exact ⟨a, by omega, by omega, fun S => by rw [ix2 c1 c2, if_pos e]⟩
    · exact ⟨b, by omega, by omega, fun S => by rw [ix2 c1 c2, if_neg e]⟩
  obtain ⟨n, n0, n1, hn⟩ := key
  obtain ⟨s4, x, o4', z1, z2, z3⟩ := loop_N J (o2 := some (.v (.int (1 + n)))) (rngD 0 (1 + n).toNat) s3 "" none (by show rngS 97 122 "" = true; decide +kernel) (by rw [rng_len, show ("" : Str).length = 0 by decide +kernel]; omega)
  rw [rng_len, show ("" : Str).length = 0 by decide +kernel] at z2
  refine ⟨x, s4, ?_, ?_⟩
  · unfold lowS
    rw [decide_eq_true (by omega), decide_eq_true (by omega), show rngS 97 122 x = true from z1]; rfl
  · have cf : ∀ r, callV G_law_name 0 r = r.bind fun ws S => if ws.length = 2 then F_law_draw ws S else .no := fun r => by unfold G_law_name; rfl
    have z3' : turnsV (.nm 4) (evSs G_law_name bodyN) (rngD 0 (1 + n).toNat) [some (.r 0), some (.v (.str "abcdefghijklmnopqrstuvwxyz")), some (.v (.int (1 + n))), some (.v (.str "")), none] (SS s3 J) = _ := z3
    rw [hB]
    simp only [evSs_2, evSs_1, evS_1, evS_9, evS_6, evE_5, evE_7, evE_4, evE_16, evE_15, evE_19, evE_1, evL_1, evL_2, getV_0, getV_s, lft_some, Rs.bind_ok, cf, List.length_cons, List.length_nil, Nat.zero_add, Nat.reduceAdd, if_true, ha, hb, hc, plnW_cons, plnW_nil, sl_2, hn, rd2_some' rdW_i rdW_i, bo_add, vadd_int, lfv_some, bindV_nm, setV2_0, setV2_s, it_rng (show 0 ≤ 1 + n by omega) (show 1 + n ≤ 16777216 by omega), z3', out_rt]
/-! ### claims -/
def nm8 : List Str := ["claim", "end", "nearer", "none", "over", "reached", "ways", "within"]
theorem nm8_low : ∀ x ∈ nm8, lowS x = true := by decide +kernel
def wd4 : List Str := ["reached", "nearer", "over", "within"]
/-- a claim, with its last member and that's word -/
structure Clm where
  v : Str
  a : Str
  b : Str
  ld : D
  lw : Str
  c : Cl
structure GdC (x : Clm) : Prop where
  v4 : x.v ∈ wd4
  la : lowS x.a = true
  lb : lowS x.b = true
  pl : pln x.ld = true
  ly : lay 59 x.ld = true
  sw : strA M00 x.ld = some (.str x.lw)
  ww : Wd x.lw
  wl : x.lw.length ≤ 40
  cl : clLast x.v x.a x.b x.lw = some x.c
  cd : clD x.c = .tup [.str x.v, .str x.a, .str x.b, x.ld]
def clmD (x : Clm) : D := .tup [.str x.v, .str x.a, .str x.b, x.ld]
theorem low_len {x : Str} (h : lowS x = true) : 1 ≤ x.length ∧ x.length ≤ 12 := by
  unfold lowS at h
  rw [Bool.and_eq_true, Bool.and_eq_true] at h
  exact ⟨of_decide_eq_true h.1.1, of_decide_eq_true h.1.2⟩
theorem low_wd {x : Str} (h : lowS x = true) : Wd x := by
  have hl := low_len h
  unfold lowS at h
  rw [Bool.and_eq_true] at h
  have h := h.2
  refine ⟨?_, ?_⟩
  · intro e
    have : x.length = 0 := by rw [e]; decide +kernel
    omega
  · intro c hc
    have := List.all_eq_true.mp h c hc
    simp only [Bool.and_eq_true, decide_eq_true_eq] at this
    omega
theorem low_ok {x : Str} (h : Wd x) : okS x := okS_of fun c hc => by have := h.2 c hc; omega
theorem in2L {S : Sto} {v : Str} (h : okS v) : inW S (.v (.str v)) (.v (.lst [.str "nearer", .str "over"])) = some (isS4 v) := by
  show (if inOk (.str v) [.str "nearer", .str "over"] = true then some (([.str "nearer", .str "over"] : List D).any fun z => eqv z (.str v)) else none) = _
  rw [if_pos (by unfold inOk; simp only [layL, lay]; rw [show PyData.strOk v = true from h]; decide +kernel)]
  show some (((("nearer" : Str) == v) || ((("over" : Str) == v) || false))) = _
  have key : ∀ a : Str, (a == v) = decide (v = a) := by
    intro a
    by_cases e : v = a
    · subst e; simp
    · rw [decide_eq_false e]; simpa using fun z => e z.symm
  simp only [key]
  unfold isS4
  cases decide (v = ("nearer" : Str)) <;> cases decide (v = ("over" : Str)) <;> rfl
theorem wd4_low : ∀ x ∈ wd4, lowS x = true := by decide +kernel
theorem wd4_s : ∀ x ∈ wd4, isS4 x = !isN4 x := by decide +kernel
theorem v_law_claim (s : Stt) (J : Sto) : ∃ (x : Clm) (s' : Stt), GdC x ∧ F_law_claim [.r 0] (SS s J) = .ok (.v (clmD x)) (SS s' J) := by
  rw [e_law_claim]
  have c0 : ∀ r, callV G_law_claim 0 r = r.bind fun ws S => if ws.length = 1 then F_law_name ws S else .no := fun r => by unfold G_law_claim; rfl
  have c1 : ∀ r, callV G_law_claim 1 r = r.bind fun ws S => if ws.length = 2 then F_law_draw ws S else .no := fun r => by unfold G_law_claim; rfl
  have c2 : ∀ r, callV G_law_claim 2 r = r.bind fun ws S => if ws.length = 1 then F_law_long ws S else .no := fun r => by unfold G_law_claim; rfl
  have cm := comp_dr (tg := .nm 3) (G := G_law_claim) (J := J) (en := [some (.r 0), some (.v (lns nm8)), none, none, none]) (P := fun d => ∃ o : Str, lowS o = true ∧ d = .str o)
    (te := evE G_law_claim (.idx (.lst false [(.call 0 (.loc 0) []), (.idx (.loc 1) (.call 1 (.loc 0) [(.int 8)]))]) (.call 1 (.loc 0) [(.int 2)]))) (rngD 0 (3 : Int).toNat) s (by
      intro x hx
      refine ⟨_, rfl, fun s => ?_⟩
      obtain ⟨n, s1, hn, hr⟩ := v_law_name s J
      obtain ⟨q, s2, q1, q2, hq⟩ := v_draw s1 J (lim := 8) (by omega) (by omega)
      obtain ⟨k, rfl⟩ : ∃ k : Nat, q = k := ⟨q.toNat, by omega⟩
      obtain ⟨c, s3, c1', c2', hc⟩ := v_draw s2 J (lim := 2) (by omega) (by omega)
      have hk : k < nm8.length := by
        have : nm8.length = 8 := rfl
        omega
      have ik : ∀ S, ixW S (.v (lns nm8)) (.v (.int (k : Nat))) = some (.v (.str nm8[k])) := fun S => ix_lns (List.getElem?_eq_getElem hk)
      refine ⟨if c = 0 then .str n else .str nm8[k], s3, ?_, ?_⟩
      · by_cases e : c = 0
        · rw [if_pos e]; exact ⟨n, hn, rfl⟩
        · rw [if_neg e]; exact ⟨_, nm8_low _ (List.getElem_mem hk), rfl⟩
      · simp only [setV2_s, setV2_0, evE_16, evE_15, evE_19, evE_1, evE_4, evL_1, evL_2, getV_0, getV_s, lft_some, Rs.bind_ok, c0, c1, List.length_cons, List.length_nil, Nat.zero_add, Nat.reduceAdd, if_true, hr, hq, ik, plnW_cons, plnW_nil, sl_2, hc, ix2 c1' c2'])
  obtain ⟨ds, s1, p1, l1, t1⟩ := cm
  obtain ⟨os, eo, go⟩ := pull ds p1
  rw [rng_len] at l1
  have lo : os.length = 3 := by rw [← List.length_map (f := D.str), eo, l1]; rfl
  obtain ⟨q, s2, q1, q2, hq⟩ := v_draw s1 J (lim := 4) (by omega) (by omega)
  obtain ⟨k, rfl⟩ : ∃ k : Nat, q = k := ⟨q.toNat, by omega⟩
  have hk : k < wd4.length := by
    have : wd4.length = 4 := rfl
    omega
  have i4 : ∀ S, ixW S (.v (lns wd4)) (.v (.int (k : Nat))) = some (.v (.str wd4[k])) := fun S => ix_lns (List.getElem?_eq_getElem hk)
  have hv : wd4[k] ∈ wd4 := List.getElem_mem hk
  generalize wd4[k] = v at i4 hv
  have ov : okS v := low_ok (low_wd (wd4_low v hv))
  have i4' : ∀ S, ixW S (.v (.lst [.str "reached", .str "nearer", .str "over", .str "within"])) (.v (.int (k : Nat))) = some (.v (.str v)) := i4
  have t1' : compV (.nm 3) (evC G_law_claim []) (evE G_law_claim (.idx (.lst false [(.call 0 (.loc 0) []), (.idx (.loc 1) (.call 1 (.loc 0) [(.int 8)]))]) (.call 1 (.loc 0) [(.int 2)]))) [some (.r 0), some (.v (.lst [.str "claim", .str "end", .str "nearer", .str "none", .str "over", .str "reached", .str "ways", .str "within"])), none, none, none] (rngD 0 3) (SS s J) = .ok ds (SS s1 J) := t1
  have ir : itW .rng1 [.v (.int 3)] = some (rngD 0 3) := it_rng (show (0 : Int) ≤ 3 by decide) (show (3 : Int) ≤ 16777216 by decide)
  match os, lo, eo, go with
  | [a, b, c], _, eo, go =>
    have eo : ds = [.str a, .str b, .str c] := eo.symm
    subst eo
    have ha := go a (by simp)
    have hb := go b (by simp)
    have hc := go c (by simp)
    have p0 : ∀ S, ixW S (.v (.lst [.str a, .str b, .str c])) (.v (.int 0)) = some (.v (.str a)) := fun S => ix_lst (i := 0) rfl
    have p1 : ∀ S, ixW S (.v (.lst [.str a, .str b, .str c])) (.v (.int 1)) = some (.v (.str b)) := fun S => ix_lst (i := 1) rfl
    have p2 : ∀ S, ixW S (.v (.lst [.str a, .str b, .str c])) (.v (.int 2)) = some (.v (.str c)) := fun S => ix_lst (i := 2) rfl
    cases hs : isS4 v with
    | true =>
      have hn : isN4 v = false := by have := wd4_s v hv; rw [hs] at this; simpa using this.symm
      refine ⟨⟨v, a, b, .str c, c, .s v a b c⟩, s2, ⟨hv, ha, hb, rfl, (low_ok (low_wd hc)), ?_, low_wd hc, by have := low_len hc; show c.length ≤ 40; omega, ?_, rfl⟩, ?_⟩
      · have := low_len hc
        have s0 := sl1000
        exact rfl
      · unfold clLast
        rw [hn, hs]
        simp [ha, hb, hc]
      · unfold B_law_claim
        simp [ir, t1', c1, hq, i4', in2L ov, hs, p0, p1, p2, clmD]
    | false =>
      have hn : isN4 v = true := by have := wd4_s v hv; rw [hs] at this; simpa using this.symm
      obtain ⟨i, s3, hi, hr⟩ := v_long s2 J
      have ab : absA M00 (.int i) = some (.int (i.natAbs : Nat)) := by show some (D.int (if i < 0 then -i else i)) = _; congr 2; omega
      refine ⟨⟨v, a, b, .int (i.natAbs : Nat), dec (i.natAbs : Nat), .n v a b (i.natAbs : Nat)⟩, s3, ⟨hv, ha, hb, rfl, rfl, str_int hi.2, wd_dec _, hi.2, ?_, rfl⟩, ?_⟩
      · unfold clLast
        rw [hn, num_dec hi.2]
        simp [ha, hb]
      · unfold B_law_claim
        simp [ir, t1', c1, hq, i4', in2L ov, hs, p0, p1, c2, hr, ab, clmD]
end K92

/-! claims written and read -/
namespace K92
open PySem PySem.Spec PyProof.Rows L2 Z
theorem claimW5 (c v a b l : Str) : claimW [c, v, a, b, l] = if c = "claim" then clLast v a b l else none := rfl
theorem sapp (a b c : Str) : (a ++ b) ++ c = a ++ (b ++ c) := TL.ext_tl (by rw [TL.tl_append, TL.tl_append, TL.tl_append, TL.tl_append, List.append_assoc])
theorem app_emp (a : Str) : a ++ ("" : Str) = a := TL.ext_tl (by rw [TL.tl_append, show TL.tl ("" : Str) = [] by decide +kernel, List.append_nil])
theorem e_claim : ("claim " : Str) = "claim" ++ " " := by decide +kernel
def shS (x : Clm) : Str := "claim " ++ x.v ++ " " ++ x.a ++ " " ++ x.b
def liS (x : Clm) : Str := shS x ++ " " ++ x.lw
theorem join5 (c v a b w : Str) : Txt.join " " [c, v, a, b, w] = c ++ " " ++ v ++ " " ++ a ++ " " ++ b ++ " " ++ w := (join_fold [v, a, b, w] c).symm
theorem join4 (c v a b : Str) : Txt.join " " [c, v, a, b] = c ++ " " ++ v ++ " " ++ a ++ " " ++ b := (join_fold [v, a, b] c).symm
theorem join6 (c v a b w u : Str) : Txt.join " " [c, v, a, b, w, u] = c ++ " " ++ v ++ " " ++ a ++ " " ++ b ++ " " ++ w ++ " " ++ u := (join_fold [v, a, b, w, u] c).symm
theorem liS_eq (x : Clm) : liS x = Txt.join " " ["claim", x.v, x.a, x.b, x.lw] := by
  rw [join5]; unfold liS shS; rw [e_claim]
theorem shS_eq (x : Clm) : shS x = Txt.join " " ["claim", x.v, x.a, x.b] := by
  rw [join4]; unfold shS; rw [e_claim]
def cW : Str := "claim"
theorem wd_cl : Wd "claim" := wd_lit (l := [99, 108, 97, 105, 109]) (by decide +kernel) (by simp) (by decide)
section
variable {x : Clm} (g : GdC x)
include g
theorem wd_v : Wd x.v := low_wd (wd4_low _ g.v4)
theorem wd_a : Wd x.a := low_wd g.la
theorem wd_b : Wd x.b := low_wd g.lb
theorem wds5 {w : Str} (hw : Wd w) : wds (shS x ++ " " ++ w) = some [("claim" : Str), x.v, x.a, x.b, w] := by
  have e : shS x ++ " " ++ w = Txt.join " " ["claim", x.v, x.a, x.b, w] := by rw [join5]; unfold shS; rw [e_claim]
  rw [e]
  exact wds_join (by simp) (by
    intro z hz
    simp only [List.mem_cons, List.not_mem_nil, or_false] at hz
    rcases hz with e | e | e | e | e <;> subst e
    · exact wd_cl
    · exact wd_v g
    · exact wd_a g
    · exact wd_b g
    · exact hw)
theorem wds_li : wds (liS x) = some [("claim" : Str), x.v, x.a, x.b, x.lw] := wds5 g g.ww
theorem pc_ok : prC [liS x, wEnd] = .ok x.c := by
  unfold prC
  rw [show wAt [liS x, wEnd] 0 = .ok [("claim" : Str), x.v, x.a, x.b, x.lw] from wAt_ok' (ls := [liS x, wEnd]) (i := 0) (wds_li g)]
  dsimp only
  have : claimW [("claim" : Str), x.v, x.a, x.b, x.lw] = some x.c := by rw [claimW5, if_pos rfl]; exact g.cl
  rw [this]
  dsimp only
  unfold finP
  rw [show wAt [liS x, wEnd] 1 = .ok [wEnd] from wAt_ok' (ls := [liS x, wEnd]) (i := 1) bnd_E]
  rfl
end
def badC (y : Str) : Prop := (wds y).bind claimW = none
theorem pc_bad {y : Str} {r : List Str} (h : badC y) : prC (y :: r) = .error 0 := by
  unfold prC
  unfold badC at h
  rw [wAt_eq]
  have e : Bnd (y :: r)[0]? = wds y := rfl
  rw [e]
  cases q : wds y with
  | none => rfl
  | some w =>
    rw [q] at h
    have h : claimW w = none := h
    dsimp only
    rw [h]
theorem pc_fin {x : Clm} (g : GdC x) {r : List Str} {e : Nat} (h : finP (liS x :: r) 1 = .error e) : prC (liS x :: r) = .error e := by
  unfold prC
  rw [show wAt (liS x :: r) 0 = .ok [("claim" : Str), x.v, x.a, x.b, x.lw] from wAt_ok' (ls := liS x :: r) (i := 0) (wds_li g)]
  dsimp only
  have : claimW [("claim" : Str), x.v, x.a, x.b, x.lw] = some x.c := by rw [claimW5, if_pos rfl]; exact g.cl
  rw [this]
  dsimp only
  rw [h]
/-! the law reads claims -/
def rdC (k : Pr Cl) : D := match k with | .ok c => .tup [.str "read", clD c] | .error e => .tup [.str "refused", .int (e : Nat)]
theorem v_read_claim {S : Sto} {ls : List Str} (n : Ln ls) : F_law_read [.v (.str "claim"), .v (lns ls)] S = .ok (.v (rdC (prC (eff ls)))) S := by
  have h := v_claim (S := S) n.lok n.split n.short
  have cf : ∀ r, callV G_law_read 1 r = r.bind fun ws S => if ws.length = 1 then Fparse_way_claim ws S else .no := fun r => by unfold G_law_read; rfl
  have pl : ∀ c, plnW [.v (.str "read"), .v (clD c)] = some [.str "read", clD c] := fun c => by cases c <;> rfl
  have ne : decide (("claim" : Str) = "ways") = false := by decide +kernel
  rw [e_law_read]
  unfold B_law_read
  simp only [evSs_2, evSs_1, evS_17, evS_8, evT_1, evE_1, evE_5, getV_0, getV_s, lft_some, Rs.bind_ok, co_eq, rd2_some' rdW_str rdW_str, veq_str, ne, evS_6, evE_14, evL_2, evL_1, evE_19, cf, evE_22, tyW_join, n.join, List.length_cons, List.length_nil, Nat.zero_add, if_true, h]
  cases prC (eff ls) with
  | ok c => simp only [enc_ok, Rs.bind_ok, pl, List.length_cons, List.length_nil, Nat.zero_add, Nat.reduceAdd, sl_2, if_true, catchV_ok, out_rt]; rfl
  | error e => simp only [enc_er, Rs.bind_ex]; rfl
theorem v_refused_claim {S : Sto} {ls : List Str} (n : Ln ls) (h0 : ls ≠ []) {e : Nat} {i : Int} (he : prC ls = .error e) (hi : i = e) : F_law_refused [.v (.str "claim"), .v (lns ls), .v (.int i)] S = .ok (.v (.bl true)) S := by
  have h := v_read_claim (S := S) n
  rw [eff_ne h0, he] at h
  subst hi
  rw [e_law_refused]
  unfold B_law_refused G_law_refused
  have h' : F_law_read [.v (.str "claim"), .v (lns ls)] S = .ok (.v (.tup [.str "refused", .int e])) S := h
  simp [callV, h', isTy]
/-! format -/
theorem nl_join {ws : List Str} (h : ∀ w ∈ ws, Wd w) : 10 ∉ tl (Txt.join " " ws) := by
  rw [tlj, tsp]
  refine joinL_free (by decide) fun p hp => ?_
  obtain ⟨w, hw, rfl⟩ := List.mem_map.mp hp
  exact wd_nl (h w hw)
theorem l_cl : ("claim " : Str).length = 6 := by decide +kernel
section
variable {x : Clm} (g : GdC x)
include g
theorem sh_len : (shS x).length ≤ 44 := by
  have h1 := low_len (wd4_low _ g.v4)
  have h2 := low_len g.la
  have h3 := low_len g.lb
  unfold shS
  rw [len_app, len_app, len_app, len_app, len_app, l_sp, l_cl]
  omega
theorem li_len : (liS x).length ≤ 85 := by
  have := sh_len g
  have := g.wl
  unfold liS
  rw [len_app, len_app, l_sp]
  omega
theorem li_l1 : L1 (liS x) := ⟨by
  rw [liS_eq]
  refine nl_join ?_
  intro z hz
  simp only [List.mem_cons, List.not_mem_nil, or_false] at hz
  rcases hz with e | e | e | e | e <;> subst e
  · exact wd_cl
  · exact wd_v g
  · exact wd_a g
  · exact wd_b g
  · exact g.ww, by have := li_len g; omega⟩
theorem v_format_claim {S : Sto} : Fformat_way_claim [.v (clmD x)] S = .ok (.v (.str (liS x ++ "\nend"))) S := by
  have h1 := low_len (wd4_low _ g.v4)
  have h2 := low_len g.la
  have h3 := low_len g.lb
  have h4 := g.wl
  have ov : okS x.v := low_ok (wd_v g)
  have s0 := sl1000
  have st : ∀ y : Str, y.length ≤ 1000 → strA M00 (.str y) = some (.str y) := fun y hy => by
    first | rfl | exact if_pos (by omega)
  have rl : ∀ S, rdW S (.v x.ld) = some x.ld := fun S => rdW_pl g.pl
  rw [eformat_way_claim]
  have ei : itW .seq [.v (clmD x)] = some [.str x.v, .str x.a, .str x.b, x.ld] := rfl
  have cp : compV (.nm 1) (evC Gformat_way_claim []) (evE Gformat_way_claim (.blt .strI (.loc 1) [])) [some (.v (clmD x)), none] [.str x.v, .str x.a, .str x.b, x.ld] S = .ok [.str x.v, .str x.a, .str x.b, .str x.lw] S := by
    simp [compV, st x.v (by omega), st x.a (by omega), st x.b (by omega), rl, g.sw]
  have a : vadd (.lst [.str "claim"]) (.lst [.str x.v, .str x.a, .str x.b, .str x.lw]) = some (lns ["claim", x.v, x.a, x.b, x.lw]) := vadd_lns (a := ["claim"]) (b := [x.v, x.a, x.b, x.lw]) (by show 1 + 4 ≤ _; omega)
  have j1 : Mt.join.wo S (.v (.str " ")) [.v (lns ["claim", x.v, x.a, x.b, x.lw])] = .ok (.v (.str (liS x))) S := by
    rw [liS_eq]
    refine wo_join ?_
    simp only [List.map_cons, List.map_nil, List.sum_cons, List.sum_nil, List.length_cons, List.length_nil, l_sp, show ("claim" : Str).length = 5 by decide +kernel]
    omega
  have n : Ln [liS x, wEnd] := ln_of (by
    intro l hl
    simp only [List.mem_cons, List.not_mem_nil, or_false] at hl
    rcases hl with e | e <;> subst e
    · exact li_l1 g
    · exact l1_wd wdEnd (by decide +kernel)) (by show 2 ≤ 1000; decide)
  have j2 := n.join (S := S)
  have e2 : Txt.join "\n" [liS x, wEnd] = liS x ++ "\nend" := by
    rw [TL.join_eq]
    show liS x ++ "\n" ++ wEnd = _
    rw [sapp]; congr 1
  rw [e2] at j2
  have j2' : Mt.join.wo S (.v (.str "\n")) [.v (.lst [.str (liS x), .str "end"])] = .ok (.v (.str (liS x ++ "\nend"))) S := j2
  unfold Bformat_way_claim
  simp only [evSs_2, evSs_1, evS_6, evE_22, evE_5, evE_15, evE_7, evE_23, evE_1, evL_1, evL_2, getV_0, lft_some, Rs.bind_ok, tyW_join, plnW_cons, plnW_nil, List.length_cons, List.length_nil, Nat.zero_add, Nat.reduceAdd, sl_1, sl_2, if_true, ei, List.map_cons, List.map_nil, wipeV_cons, wipeV_nil, wipeV1_s, wipeV1_0, cp, calm_ok, compR_ok, rd2_some' rdW_lst rdW_lst, bo_add, a, lfv_some, j1, j2', out_rt]
end
end K92

/-! wrong claims -/
namespace K92
open PySem PySem.Spec PyProof.Rows L2 Z
theorem badC_of {y : Str} {w : List Str} (h : wds y = some w) (h2 : claimW w = none) : badC y := by
  unfold badC; rw [h]; exact h2
theorem cutS_from {x : Str} (k : Nat) : tl (cutS x (some (k : Int)) none) = (tl x).drop k := by
  unfold cutS
  show ((x.cps.toList.drop (HT.sIx x.length 0 (some (k : Int)))).take (HT.sIx x.length x.length none - HT.sIx x.length 0 (some (k : Int)))) = _
  rw [HT.sIx_none, HT.sIx_nat]
  have e : x.cps.toList.length = x.length := by simp [Str.length]
  by_cases h : k ≤ x.length
  · rw [Nat.min_eq_left h]
    exact List.take_of_length_le (by rw [List.length_drop, e]; exact Nat.le_refl _)
  · rw [Nat.min_eq_right (by omega), List.drop_of_length_le (by rw [e]; exact Nat.le_refl _), List.take_nil]
    exact (List.drop_of_length_le (by rw [show (tl x).length = x.length from e]; omega)).symm
theorem cut_app {p r : Str} {k : Nat} (h : p.length = k) : cutS (p ++ r) (some (k : Int)) none = r := by
  refine TL.ext_tl ?_
  rw [show TL.tl (cutS (p ++ r) (some (k : Int)) none) = _ from cutS_from k, show tl (p ++ r) = tl p ++ tl r from TL.tl_append p r]
  have : (tl p).length = k := by rw [← h, TL.len_tl]
  rw [← this, List.drop_left]
theorem e_cap : lowS "A" = false := by decide +kernel
theorem e_3 : lowS "3" = false := by decide +kernel
theorem cl_bad_a {v a b l : Str} (h : lowS a = false) : clLast v a b l = none := by
  unfold clLast
  rw [h]
  split
  · split <;> simp
  · simp
theorem cl_bad_b {v a b l : Str} (h : lowS b = false) : clLast v a b l = none := by
  unfold clLast
  rw [h]
  split
  · split <;> simp
  · simp
def negO (o : Option Int) : Bool := match o with | some k => decide (k < 0) | none => true
theorem cl_bad_n {v a b l : Str} (hv : isN4 v = true) (h : negO (num l) = true) : clLast v a b l = none := by
  unfold clLast
  rw [hv, if_pos rfl]
  cases q : num l with
  | none => rfl
  | some k =>
    rw [q] at h
    have : k < 0 := of_decide_eq_true h
    dsimp only
    rw [if_neg (fun z => by omega)]
theorem cl_bad_s {v a b l : Str} (hv : isN4 v = false) (h : lowS l = false) : clLast v a b l = none := by
  unfold clLast
  rw [hv, h]
  simp
def oN : List Str := ["-1", "01", Txt.mul "1" 41, "none", "a1"]
def oS : List Str := ["1", "A", "caf_", "a1", "abcdefghijklm"]
def wdB (x : Str) : Bool := !decide (x = "") && (tl x).all fun c => decide (33 ≤ c) && decide (c ≤ 126)
theorem wd_of {x : Str} (h : wdB x = true) : Wd x := by
  unfold wdB at h
  rw [Bool.and_eq_true] at h
  refine ⟨by simpa using h.1, fun c hc => ?_⟩
  have := List.all_eq_true.mp h.2 c hc
  simpa using this
theorem oN_w : ∀ o ∈ oN, wdB o = true ∧ negO (num o) = true ∧ o.length ≤ 50 := by decide +kernel
theorem oS_w : ∀ o ∈ oS, wdB o = true ∧ lowS o = false ∧ o.length ≤ 50 := by decide +kernel
theorem wd_A : Wd "A" := wd_of (by decide +kernel)
theorem wd_3 : Wd "3" := wd_of (by decide +kernel)
theorem wd_aa : Wd "a" := wd_of (by decide +kernel)
theorem wd_CC : Wd "Claim" := wd_of (by decide +kernel)
section
variable {x : Clm} (g : GdC x)
include g
theorem wordsW {c a b w : Str} (hc : Wd c) (ha : Wd a) (hb : Wd b) (hw : Wd w) : wds (c ++ " " ++ x.v ++ " " ++ a ++ " " ++ b ++ " " ++ w) = some [c, x.v, a, b, w] := by
  rw [← join5]
  exact wds_join (by simp) (by
    intro z hz
    simp only [List.mem_cons, List.not_mem_nil, or_false] at hz
    rcases hz with e | e | e | e | e <;> subst e
    · exact hc
    · exact wd_v g
    · exact ha
    · exact hb
    · exact hw)
theorem y1 : badC (shS x) := by
  refine badC_of (w := ["claim", x.v, x.a, x.b]) ?_ rfl
  rw [shS_eq]
  exact wds_join (by simp) (by
    intro z hz
    simp only [List.mem_cons, List.not_mem_nil, or_false] at hz
    rcases hz with e | e | e | e <;> subst e
    · exact wd_cl
    · exact wd_v g
    · exact wd_a g
    · exact wd_b g)
theorem y2 : badC (liS x ++ " a") := by
  refine badC_of (w := ["claim", x.v, x.a, x.b, x.lw, "a"]) ?_ rfl
  have e : liS x ++ " a" = Txt.join " " ["claim", x.v, x.a, x.b, x.lw, "a"] := by
    rw [join6, ← join5 "claim" x.v x.a x.b x.lw, ← liS_eq, sapp, show (" " : Str) ++ "a" = " a" by decide +kernel]
  rw [e]
  exact wds_join (by simp) (by
    intro z hz
    simp only [List.mem_cons, List.not_mem_nil, or_false] at hz
    rcases hz with e | e | e | e | e | e <;> subst e
    · exact wd_cl
    · exact wd_v g
    · exact wd_a g
    · exact wd_b g
    · exact g.ww
    · exact wd_aa)
theorem y3 : badC (liS x ++ " ") := by
  have e : liS x ++ " " = Txt.join " " ["claim", x.v, x.a, x.b, x.lw, ""] := by
    rw [join6, ← join5 "claim" x.v x.a x.b x.lw, ← liS_eq, app_emp]
  have hs : Txt.split (Txt.join " " ["claim", x.v, x.a, x.b, x.lw, ""]) " " = [("claim" : Str), x.v, x.a, x.b, x.lw, ""] := TL.split_join (S := []) tsp (kOf (by rw [tsp]; rfl)) (by simp) (by
    have nw : ∀ {w : Str}, Wd w → 32 ∉ TL.tl w := fun h hm => by have := h.2 32 hm; omega
    intro z hz
    simp only [List.mem_cons, List.not_mem_nil, or_false] at hz
    rcases hz with e | e | e | e | e | e <;> subst e
    · exact nw wd_cl
    · exact nw (wd_v g)
    · exact nw (wd_a g)
    · exact nw (wd_b g)
    · exact nw g.ww
    · decide +kernel)
  unfold badC wds
  rw [e, hs]
  split
  · rw [if_pos (by simp)]; rfl
  · rfl
theorem li5 : liS x = "claim" ++ (" " ++ x.v ++ " " ++ x.a ++ " " ++ x.b ++ " " ++ x.lw) := by
  unfold liS shS
  rw [e_claim]
  simp only [sapp]
theorem cut5 : cutS (liS x) (some 5) none = " " ++ x.v ++ " " ++ x.a ++ " " ++ x.b ++ " " ++ x.lw := by
  rw [li5 g]
  exact cut_app (k := 5) (by decide +kernel)
theorem y4 : badC ("Claim" ++ (" " ++ x.v ++ " " ++ x.a ++ " " ++ x.b ++ " " ++ x.lw)) := by
  have e : "Claim" ++ (" " ++ x.v ++ " " ++ x.a ++ " " ++ x.b ++ " " ++ x.lw) = ("Claim" : Str) ++ " " ++ x.v ++ " " ++ x.a ++ " " ++ x.b ++ " " ++ x.lw := by simp only [sapp]
  rw [e]
  refine badC_of (wordsW g wd_CC (wd_a g) (wd_b g) g.ww) ?_
  rw [claimW5, if_neg (by decide +kernel)]
theorem cutL : cutS (liS x) (some ((shS x).length : Nat)) none = " " ++ x.lw := by
  have : liS x = shS x ++ (" " ++ x.lw) := by unfold liS; rw [sapp]
  rw [this]
  exact cut_app rfl
theorem y8 {o : Str} (w : Wd o) (h : clLast x.v x.a x.b o = none) : badC (shS x ++ (" " ++ o)) := by
  rw [← sapp]
  refine badC_of (wds5 g w) ?_
  rw [claimW5, if_pos rfl, h]
theorem y9 : badC ("claim " ++ x.v ++ " A " ++ x.b ++ (" " ++ x.lw)) := by
  have e : "claim " ++ x.v ++ " A " ++ x.b ++ (" " ++ x.lw) = ("claim" : Str) ++ " " ++ x.v ++ " " ++ "A" ++ " " ++ x.b ++ " " ++ x.lw := by
    rw [e_claim, show (" A " : Str) = " " ++ ("A" ++ " ") by decide +kernel]
    simp only [sapp]
  rw [e]
  refine badC_of (wordsW g wd_cl wd_A (wd_b g) g.ww) ?_
  rw [claimW5, if_pos rfl, cl_bad_a e_cap]
theorem y10 : badC ("claim " ++ x.v ++ " " ++ x.a ++ " 3" ++ (" " ++ x.lw)) := by
  have e : "claim " ++ x.v ++ " " ++ x.a ++ " 3" ++ (" " ++ x.lw) = ("claim" : Str) ++ " " ++ x.v ++ " " ++ x.a ++ " " ++ "3" ++ " " ++ x.lw := by
    rw [e_claim, show (" 3" : Str) = " " ++ "3" by decide +kernel]
    simp only [sapp]
  rw [e]
  refine badC_of (wordsW g wd_cl (wd_a g) wd_3 g.ww) ?_
  rw [claimW5, if_pos rfl, cl_bad_b e_3]
end
theorem y5 : badC "claim least a b c" := by show (wds _).bind claimW = none; decide +kernel
theorem y6 : badC "" := by show (wds _).bind claimW = none; decide +kernel
theorem y7 : badC "claim" := by show (wds _).bind claimW = none; decide +kernel
end K92

/-! the law on claims -/
namespace K92
open PySem PySem.Spec PyProof.Rows L2 Z
theorem dc0 (r : Rs (List W)) : callV G_law_claim_holds 0 r = r.bind fun ws S => if ws.length = 2 then F_law_read ws S else .no := by unfold G_law_claim_holds; rfl
theorem dc1 (r : Rs (List W)) : callV G_law_claim_holds 1 r = r.bind fun ws S => if ws.length = 1 then Fformat_way_claim ws S else .no := by unfold G_law_claim_holds; rfl
theorem dc2 (r : Rs (List W)) : callV G_law_claim_holds 2 r = r.bind fun ws S => if ws.length = 2 then F_law_draw ws S else .no := by unfold G_law_claim_holds; rfl
theorem dc3 (r : Rs (List W)) : callV G_law_claim_holds 3 r = r.bind fun ws S => if ws.length = 3 then F_law_refused ws S else .no := by unfold G_law_claim_holds; rfl
def EC (x : Clm) (a2 a3 a4 a5 a6 a7 a8 a9 : Option W) : WEn := [some (.r 0), some (.v (clmD x)), a2, a3, a4, a5, a6, a7, a8, a9]
theorem vs {a b : Str} (ha : a.length ≤ 1000) (hb : b.length ≤ 1000) : vadd (.str a) (.str b) = some (.str (a ++ b)) := vadd_str (Nat.le_trans (Nat.add_le_add ha hb) (by decide))
def bodyR : List Sx := [.ifs (.nt (.call 3 (.str "claim") [(.lst false [(.loc 7), (.str "end")]), (.int 0)])) [.ret (.bl false)] []]
def bodyQ : List Sx := [.ifs (.nt (.call 3 (.str "claim") [(.loc 8), (.loc 9)])) [.ret (.bl false)] []]
theorem l1_end : L1 wEnd := l1_wd wdEnd (by decide +kernel)
theorem turn_R {x : Clm} {a2 a3 a4 a5 a6 a8 a9 : Option W} {y : Str} {S : Sto} (hy : L1 y) (hb : badC y) : evSs G_law_claim_holds bodyR (EC x a2 a3 a4 a5 a6 (some (.v (.str y))) a8 a9) S = .ok (.nx (EC x a2 a3 a4 a5 a6 (some (.v (.str y))) a8 a9)) S := by
  have n : Ln [y, wEnd] := ln_of (by
    intro l hl
    simp only [List.mem_cons, List.not_mem_nil, or_false] at hl
    rcases hl with e | e <;> subst e
    · exact hy
    · exact l1_end) (by show 2 ≤ 1000; decide)
  have h := v_refused_claim (S := S) (e := 0) (i := 0) n (by simp) (pc_bad hb) rfl
  have h' : F_law_refused [.v (.str "claim"), .v (.lst [.str y, .str "end"]), .v (.int 0)] S = _ := h
  unfold bodyR EC
  simp only [evSs_2, evSs_1, evS_8, evT_4, evT_11, evE_19, evE_1, evE_5, evE_4, evE_15, evL_1, evL_2, getV_0, getV_s, lft_some, Rs.bind_ok, dc3, plnW_cons, plnW_nil, List.length_cons, List.length_nil, Nat.zero_add, Nat.reduceAdd, sl_2, if_true, h', truV_ok, truW_bl, Bool.not_true]
theorem loop_R {x : Clm} {a2 a3 a4 a5 a6 a8 a9 : Option W} {S : Sto} : ∀ (ys : List Str) (a7 : Option W), (∀ y ∈ ys, L1 y ∧ badC y) → ∃ a7', turnsV (.nm 7) (evSs G_law_claim_holds bodyR) (ys.map D.str) (EC x a2 a3 a4 a5 a6 a7 a8 a9) S = .ok (.nx (EC x a2 a3 a4 a5 a6 a7' a8 a9)) S
  | [], a7, _ => ⟨a7, rfl⟩
  | y :: r, a7, h => by
    obtain ⟨a7', ih⟩ := loop_R (x := x) (a2 := a2) (a3 := a3) (a4 := a4) (a5 := a5) (a6 := a6) (a8 := a8) (a9 := a9) (S := S) r (some (.v (.str y))) fun z hz => h z (List.mem_cons_of_mem _ hz)
    refine ⟨a7', ?_⟩
    rw [List.map_cons]
    conv => lhs; unfold turnsV
    have b : bindV (.nm 7) (.v (.str y)) (EC x a2 a3 a4 a5 a6 a7 a8 a9) = some (EC x a2 a3 a4 a5 a6 (some (.v (.str y))) a8 a9) := rfl
    rw [b]
    dsimp only
    rw [turn_R (h y (by simp)).1 (h y (by simp)).2]
    simp only [Rs.bind_ok]
    exact ih
theorem turn_Q {x : Clm} {a2 a3 a4 a5 a6 a7 : Option W} {ls : List Str} {e : Nat} {S : Sto} (n : Ln ls) (h0 : ls ≠ []) (he : prC ls = .error e) : evSs G_law_claim_holds bodyQ (EC x a2 a3 a4 a5 a6 a7 (some (.v (lns ls))) (some (.v (.int (e : Nat))))) S = .ok (.nx (EC x a2 a3 a4 a5 a6 a7 (some (.v (lns ls))) (some (.v (.int (e : Nat)))))) S := by
  have h := v_refused_claim (S := S) (i := (e : Nat)) n h0 he rfl
  unfold bodyQ EC
  simp only [evSs_2, evSs_1, evS_8, evT_4, evT_11, evE_19, evE_1, evE_5, evL_1, evL_2, getV_0, getV_s, lft_some, Rs.bind_ok, dc3, List.length_cons, List.length_nil, Nat.zero_add, Nat.reduceAdd, if_true, h, truV_ok, truW_bl, Bool.not_true]
theorem loop_Q {x : Clm} {a2 a3 a4 a5 a6 a7 : Option W} {S : Sto} : ∀ (ys : List (List Str × Nat)) (a8 a9 : Option W), (∀ y ∈ ys, Ln y.1 ∧ y.1 ≠ [] ∧ prC y.1 = .error y.2) → ∃ a8' a9', turnsV (.tp [8, 9]) (evSs G_law_claim_holds bodyQ) (ys.map fun y => D.tup [lns y.1, .int (y.2 : Nat)]) (EC x a2 a3 a4 a5 a6 a7 a8 a9) S = .ok (.nx (EC x a2 a3 a4 a5 a6 a7 a8' a9')) S
  | [], a8, a9, _ => ⟨a8, a9, rfl⟩
  | y :: r, a8, a9, h => by
    obtain ⟨l, e⟩ := y
    obtain ⟨n, h0, he⟩ := h (l, e) (by simp)
    dsimp only at n h0 he
    obtain ⟨a8', a9', ih⟩ := loop_Q (x := x) (a2 := a2) (a3 := a3) (a4 := a4) (a5 := a5) (a6 := a6) (a7 := a7) (S := S) r (some (.v (lns l))) (some (.v (.int (e : Nat)))) fun z hz => h z (List.mem_cons_of_mem _ hz)
    refine ⟨a8', a9', ?_⟩
    rw [List.map_cons]
    conv => lhs; unfold turnsV
    have b : bindV (.tp [8, 9]) (.v (D.tup [lns l, .int (e : Nat)])) (EC x a2 a3 a4 a5 a6 a7 a8 a9) = some (EC x a2 a3 a4 a5 a6 a7 (some (.v (lns l))) (some (.v (.int (e : Nat))))) := rfl
    dsimp only
    rw [b]
    dsimp only
    rw [turn_Q n h0 he]
    simp only [Rs.bind_ok]
    exact ih
def rest (x : Clm) : Str := " " ++ x.lw
def tail5 (x : Clm) : Str := " " ++ x.v ++ " " ++ x.a ++ " " ++ x.b ++ " " ++ x.lw
def wr8 (x : Clm) (o : Str) : List Str := [shS x, liS x ++ " a", liS x ++ " ", "Claim" ++ tail5 x, "claim least a b c", "", "claim", shS x ++ (" " ++ o)]
def wr2 (x : Clm) : List Str := ["claim " ++ x.v ++ " A " ++ x.b ++ rest x, "claim " ++ x.v ++ " " ++ x.a ++ " 3" ++ rest x]
theorem nl_app {a b : Str} (ha : 10 ∉ tl a) (hb : 10 ∉ tl b) : 10 ∉ tl (a ++ b) := by
  rw [show tl (a ++ b) = tl a ++ tl b from TL.tl_append a b]
  intro h
  rcases List.mem_append.mp h with h | h
  · exact ha h
  · exact hb h
theorem nl_sp : 10 ∉ tl (" " : Str) := by rw [tsp]; decide
section
variable {x : Clm} (g : GdC x)
include g
theorem nlv : 10 ∉ tl x.v := wd_nl (wd_v g)
theorem nla : 10 ∉ tl x.a := wd_nl (wd_a g)
theorem nlb : 10 ∉ tl x.b := wd_nl (wd_b g)
theorem nlw : 10 ∉ tl x.lw := wd_nl g.ww
theorem nlS : 10 ∉ tl (shS x) := nl_app (nl_app (nl_app (nl_app (nl_app (by decide +kernel) (nlv g)) nl_sp) (nla g)) nl_sp) (nlb g)
theorem nlL : 10 ∉ tl (liS x) := (li_l1 g).nl
theorem lens : x.v.length ≤ 12 ∧ x.a.length ≤ 12 ∧ x.b.length ≤ 12 ∧ x.lw.length ≤ 40 ∧ (shS x).length ≤ 44 ∧ (liS x).length ≤ 85 := ⟨(low_len (wd4_low _ g.v4)).2, (low_len g.la).2, (low_len g.lb).2, g.wl, sh_len g, li_len g⟩
theorem wr_ok {o : Str} (w : Wd o) (h : clLast x.v x.a x.b o = none) (hl : o.length ≤ 50) : ∀ y ∈ wr8 x o ++ wr2 x, L1 y ∧ badC y := by
  obtain ⟨l1, l2, l3, l4, l5, l6⟩ := lens g
  have na : (" a" : Str).length = 2 := by decide +kernel
  have nC : ("Claim" : Str).length = 5 := by decide +kernel
  have nA : (" A " : Str).length = 3 := by decide +kernel
  have n3 : (" 3" : Str).length = 2 := by decide +kernel
  intro y hy
  simp only [wr8, wr2, List.mem_append, List.mem_cons, List.not_mem_nil, or_false] at hy
  rcases hy with (e | e | e | e | e | e | e | e) | (e | e) <;> subst e
  · exact ⟨⟨nlS g, by omega⟩, y1 g⟩
  · exact ⟨⟨nl_app (nlL g) (by decide +kernel), by rw [len_app, na]; omega⟩, y2 g⟩
  · exact ⟨⟨nl_app (nlL g) nl_sp, by rw [len_app, l_sp]; omega⟩, y3 g⟩
  · refine ⟨⟨nl_app (by decide +kernel) (nl_app (nl_app (nl_app (nl_app (nl_app (nl_app (nl_app nl_sp (nlv g)) nl_sp) (nla g)) nl_sp) (nlb g)) nl_sp) (nlw g)), ?_⟩, y4 g⟩
    unfold tail5
    simp only [len_app, l_sp, nC]; omega
  · exact ⟨⟨by decide +kernel, by decide +kernel⟩, y5⟩
  · exact ⟨⟨by decide +kernel, by decide +kernel⟩, y6⟩
  · exact ⟨⟨by decide +kernel, by decide +kernel⟩, y7⟩
  · exact ⟨⟨nl_app (nlS g) (nl_app nl_sp (wd_nl w)), by simp only [len_app, l_sp]; omega⟩, y8 g w h⟩
  · refine ⟨⟨nl_app (nl_app (nl_app (nl_app (by decide +kernel) (nlv g)) (by decide +kernel)) (nlb g)) (nl_app nl_sp (nlw g)), ?_⟩, y9 g⟩
    unfold rest
    simp only [len_app, l_sp, l_cl, nA]; omega
  · refine ⟨⟨nl_app (nl_app (nl_app (nl_app (nl_app (by decide +kernel) (nlv g)) nl_sp) (nla g)) (by decide +kernel)) (nl_app nl_sp (nlw g)), ?_⟩, y10 g⟩
    unfold rest
    simp only [len_app, l_sp, l_cl, n3]; omega
def fiv (x : Clm) : List (List Str × Nat) := [([liS x], 1), ([liS x, ""], 1), ([liS x, liS x], 1), ([liS x, wEnd, wEnd], 2), ([liS x, "end "], 1)]
theorem fiv_ok : ∀ y ∈ fiv x, Ln y.1 ∧ y.1 ≠ [] ∧ prC y.1 = .error y.2 := by
  have l0 : L1 "" := ⟨by decide +kernel, by decide +kernel⟩
  have l9 : L1 "end " := ⟨by decide +kernel, by decide +kernel⟩
  have lL := li_l1 g
  intro y hy
  simp only [fiv, List.mem_cons, List.not_mem_nil, or_false] at hy
  rcases hy with e | e | e | e | e <;> subst e <;> dsimp only
  · refine ⟨ln_of (by intro l hl; rw [List.mem_singleton.mp hl]; exact lL) (by show 1 ≤ 1000; decide), by simp, pc_fin g ?_⟩
    unfold finP
    rw [show wAt [liS x] 1 = .error 1 from rfl]
  · refine ⟨ln_of (by intro l hl; simp only [List.mem_cons, List.not_mem_nil, or_false] at hl; rcases hl with e | e <;> subst e; exact lL; exact l0) (by show 2 ≤ 1000; decide), by simp, pc_fin g ?_⟩
    unfold finP
    rw [show wAt [liS x, ""] 1 = .error 1 from wAt_no' (ls := [liS x, ""]) (i := 1) (show wds "" = none by decide +kernel)]
  · refine ⟨ln_of (by intro l hl; simp only [List.mem_cons, List.not_mem_nil, or_false] at hl; rcases hl with e | e <;> subst e; exact lL; exact lL) (by show 2 ≤ 1000; decide), by simp, pc_fin g ?_⟩
    unfold finP
    rw [show wAt [liS x, liS x] 1 = .ok [("claim" : Str), x.v, x.a, x.b, x.lw] from wAt_ok' (ls := [liS x, liS x]) (i := 1) (wds_li g)]
    dsimp only
    rw [if_neg (by intro e; cases e)]
  · refine ⟨ln_of (by intro l hl; simp only [List.mem_cons, List.not_mem_nil, or_false] at hl; rcases hl with e | e | e <;> subst e; exact lL; exact l1_end; exact l1_end) (by show 3 ≤ 1000; decide), by simp, pc_fin g ?_⟩
    unfold finP
    rw [show wAt [liS x, wEnd, wEnd] 1 = .ok [wEnd] from wAt_ok' (ls := [liS x, wEnd, wEnd]) (i := 1) bnd_E]
    rfl
  · refine ⟨ln_of (by intro l hl; simp only [List.mem_cons, List.not_mem_nil, or_false] at hl; rcases hl with e | e <;> subst e; exact lL; exact l9) (by show 2 ≤ 1000; decide), by simp, pc_fin g ?_⟩
    unfold finP
    rw [show wAt [liS x, "end "] 1 = .error 1 from wAt_no' (ls := [liS x, "end "]) (i := 1) (show wds "end " = none by decide +kernel)]
end
end K92

/-! the law on claims: its statements -/
namespace K92
open PySem PySem.Spec PyProof.Rows L2 Z
def rdK (x : Clm) : D := .tup [.str "read", clmD x]
def oNs : List Str := [" -1", " 01", " " ++ Txt.mul "1" 41, " none", " a1"]
def oSs : List Str := [" 1", " A", " caf_", " a1", " abcdefghijklm"]
theorem oNs_eq : oNs = oN.map fun (o : Str) => (" " : Str) ++ o := by decide +kernel
theorem oSs_eq : oSs = oS.map fun (o : Str) => (" " : Str) ++ o := by decide +kernel
section
variable {x : Clm} (g : GdC x)
include g
theorem lay_k : lay 60 (rdK x) = true := by
  have ov : okS x.v := low_ok (wd_v g)
  have oa : okS x.a := low_ok (wd_a g)
  have ob : okS x.b := low_ok (wd_b g)
  have h1 : lay 58 x.ld = true := by
    have := g.ly
    have p := g.pl
    cases h : x.ld with
    | non => simp [lay]
    | bl _ => simp [lay]
    | int _ => simp [lay]
    | str y => rw [h] at this; simpa [lay] using this
    | _ => have s := g.sw; rw [h] at s; first | (cases s; done) | (rw [h] at this; cases this)
  show (PyData.strOk "read" && ((lay 58 (.str x.v) && (lay 58 (.str x.a) && (lay 58 (.str x.b) && (lay 58 x.ld && true)))) && true)) = true
  simp only [lay, h1, show PyData.strOk x.v = true from ov, show PyData.strOk x.a = true from oa, show PyData.strOk x.b = true from ob, show PyData.strOk "read" = true by decide +kernel]
  rfl
theorem j0 {S : Sto} {q : Nat} {z : Str} (h : ([x.v, x.a, x.b] : List Str)[q]? = some z) : ixW S (.v (clmD x)) (.v (.int (q : Nat))) = some (.v (.str z)) := by
  match q, h with
  | 0, h => cases h; exact ix_tp (i := 0) rfl
  | 1, h => cases h; exact ix_tp (i := 1) rfl
  | 2, h => cases h; exact ix_tp (i := 2) rfl
theorem i0 {S : Sto} : ixW S (.v (clmD x)) (.v (.int 0)) = some (.v (.str x.v)) := ix_tp (i := 0) rfl
theorem i1 {S : Sto} : ixW S (.v (clmD x)) (.v (.int 1)) = some (.v (.str x.a)) := ix_tp (i := 1) rfl
theorem i2 {S : Sto} : ixW S (.v (clmD x)) (.v (.int 2)) = some (.v (.str x.b)) := ix_tp (i := 2) rfl
theorem i3 {S : Sto} : ixW S (.v (clmD x)) (.v (.int 3)) = some (.v x.ld) := ix_tp (i := 3) rfl
theorem rl {S : Sto} : rdW S (.v x.ld) = some x.ld := rdW_pl g.pl
theorem m0 {S : Sto} : evS G_law_claim_holds (.asg (.nm 2) (.bin .add (.bin .add (.bin .add (.bin .add (.bin .add (.bin .add (.bin .add (.str "claim ") (.idx (.loc 1) (.int 0))) (.str " ")) (.idx (.loc 1) (.int 1))) (.str " ")) (.idx (.loc 1) (.int 2))) (.str " ")) (.blt .strI (.idx (.loc 1) (.int 3)) []))) (EC x none none none none none none none none) S = .ok (.nx (EC x (some (.v (.str (liS x)))) none none none none none none none)) S := by
  obtain ⟨l1, l2, l3, l4, l5, l6⟩ := lens g
  have a1 := vs (a := "claim ") (b := x.v) (by rw [l_cl]; decide) (by omega)
  have a2 := vs (a := "claim " ++ x.v) (b := " ") (by rw [len_app, l_cl]; omega) (by rw [l_sp]; decide)
  have a3 := vs (a := "claim " ++ x.v ++ " ") (b := x.a) (by simp only [len_app, l_cl, l_sp]; omega) (by omega)
  have a4 := vs (a := "claim " ++ x.v ++ " " ++ x.a) (b := " ") (by simp only [len_app, l_cl, l_sp]; omega) (by rw [l_sp]; decide)
  have a5 : vadd (.str ("claim " ++ x.v ++ " " ++ x.a ++ " ")) (.str x.b) = some (.str (shS x)) := vs (a := "claim " ++ x.v ++ " " ++ x.a ++ " ") (b := x.b) (by simp only [len_app, l_cl, l_sp]; omega) (by omega)
  have a6 := vs (a := shS x) (b := " ") (by omega) (by rw [l_sp]; decide)
  have a7 : vadd (.str (shS x ++ " ")) (.str x.lw) = some (.str (liS x)) := vs (a := shS x ++ " ") (b := x.lw) (by simp only [len_app, l_sp]; omega) (by omega)
  unfold EC
  simp [i0 g, i1 g, i2 g, i3 g, a1, a2, a3, a4, a5, a6, a7, rl g, g.sw]
theorem m1 {S : Sto} : evS G_law_claim_holds (.ifs (.cmp .ne (.call 0 (.str "claim") [(.lst false [(.loc 2), (.str "end")])]) (.tup [(.str "read"), (.loc 1)])) [.ret (.bl false)] []) (EC x (some (.v (.str (liS x)))) none none none none none none none) S = .ok (.nx (EC x (some (.v (.str (liS x)))) none none none none none none none)) S := by
  have n : Ln [liS x, wEnd] := ln_of (by
    intro l hl
    simp only [List.mem_cons, List.not_mem_nil, or_false] at hl
    rcases hl with e | e <;> subst e
    · exact li_l1 g
    · exact l1_end) (by show 2 ≤ 1000; decide)
  have h := v_read_claim (S := S) n
  rw [eff_ne (by simp), pc_ok g] at h
  have e : rdC (.ok x.c) = rdK x := by show D.tup [.str "read", clD x.c] = _; rw [g.cd]; rfl
  rw [e] at h
  have h' : F_law_read [.v (.str "claim"), .v (.lst [.str (liS x), .str "end"])] S = _ := h
  have p : plnW [.v (.str "read"), .v (clmD x)] = some [.str "read", clmD x] := rfl
  have r : ∀ S, rdW S (.v (rdK x)) = some (rdK x) := fun S => rfl
  have ee : (D.tup [.str "read", clmD x]) = rdK x := rfl
  unfold EC
  simp only [evS_8, evT_1, evE_19, evE_1, evE_5, evE_14, evE_15, evL_1, evL_2, getV_0, getV_s, lft_some, Rs.bind_ok, dc0, plnW_cons, plnW_nil, List.length_cons, List.length_nil, Nat.zero_add, Nat.reduceAdd, sl_2, if_true, h', co_ne]
  have p' : plnW (W.v (clmD x) :: []) = some [clmD x] := rfl
  first
    | (simp only [p', ee, rd2_some' (r _) (r _), vne_self (lay_k g), lft_some, Rs.bind_ok, evSs_1, List.length_cons, List.length_nil, Nat.zero_add, Nat.reduceAdd, sl_2, if_true]; done)
    | (simp only [clmD, plnW_cons, plnW_nil, List.length_cons, List.length_nil, Nat.zero_add, Nat.reduceAdd, sl_2, if_true, Rs.bind_ok]
       rw [show (D.tup [.str "read", .tup [.str x.v, .str x.a, .str x.b, x.ld]]) = rdK x from rfl, rd2_some' (r _) (r _), vne_self (lay_k g)]
       rfl)
theorem m2 {S : Sto} : evS G_law_claim_holds (.asg (.nm 3) (.call 1 (.loc 1) [])) (EC x (some (.v (.str (liS x)))) none none none none none none none) S = .ok (.nx (EC x (some (.v (.str (liS x)))) (some (.v (.str (liS x ++ "\nend")))) none none none none none none)) S := by
  unfold EC
  simp [dc1, v_format_claim g]
theorem m3 {S : Sto} {a3 a4 a5 a6 a7 a8 a9 : Option W} : evS G_law_claim_holds (.ifs (.bol false [(.nt (.isi .tstr (.loc 3))), (.cmp .ne (.loc 3) (.bin .add (.loc 2) (.str "\nend")))]) [.ret (.bl false)] []) (EC x (some (.v (.str (liS x)))) (some (.v (.str (liS x ++ "\nend")))) a4 a5 a6 a7 a8 a9) S = .ok (.nx (EC x (some (.v (.str (liS x)))) (some (.v (.str (liS x ++ "\nend")))) a4 a5 a6 a7 a8 a9)) S := by
  obtain ⟨l1, l2, l3, l4, l5, l6⟩ := lens g
  have a := vs (a := liS x) (b := "\nend") (by omega) (by decide +kernel)
  unfold EC
  simp [isTy, a]
theorem m4 {S : Sto} {a2 a3 a4 a5 a6 a7 a8 a9 : Option W} : evS G_law_claim_holds (.asg (.nm 4) (.bin .add (.bin .add (.bin .add (.bin .add (.bin .add (.str "claim ") (.idx (.loc 1) (.int 0))) (.str " ")) (.idx (.loc 1) (.int 1))) (.str " ")) (.idx (.loc 1) (.int 2)))) (EC x a2 a3 a4 a5 a6 a7 a8 a9) S = .ok (.nx (EC x a2 a3 (some (.v (.str (shS x)))) a5 a6 a7 a8 a9)) S := by
  obtain ⟨l1, l2, l3, l4, l5, l6⟩ := lens g
  have a1 := vs (a := "claim ") (b := x.v) (by rw [l_cl]; decide) (by omega)
  have a2 := vs (a := "claim " ++ x.v) (b := " ") (by rw [len_app, l_cl]; omega) (by rw [l_sp]; decide)
  have a3 := vs (a := "claim " ++ x.v ++ " ") (b := x.a) (by simp only [len_app, l_cl, l_sp]; omega) (by omega)
  have a4 := vs (a := "claim " ++ x.v ++ " " ++ x.a) (b := " ") (by simp only [len_app, l_cl, l_sp]; omega) (by rw [l_sp]; decide)
  have a5 : vadd (.str ("claim " ++ x.v ++ " " ++ x.a ++ " ")) (.str x.b) = some (.str (shS x)) := vs (a := "claim " ++ x.v ++ " " ++ x.a ++ " ") (b := x.b) (by simp only [len_app, l_cl, l_sp]; omega) (by omega)
  unfold EC
  simp [i0 g, i1 g, i2 g, a1, a2, a3, a4, a5]
theorem m5 (s : Stt) (J : Sto) {a2 a3 a4 a5 a6 a7 a8 a9 : Option W} : ∃ (o : Str) (s' : Stt), o ∈ oN ∧ evS G_law_claim_holds (.asg (.nm 5) (.idx (.lst false [(.str " -1"), (.str " 01"), (.bin .add (.str " ") (.bin .mul (.str "1") (.int 41))), (.str " none"), (.str " a1")]) (.call 2 (.loc 0) [(.int 5)]))) (EC x a2 a3 a4 a5 a6 a7 a8 a9) (SS s J) = .ok (.nx (EC x a2 a3 a4 (some (.v (.str (" " ++ o)))) a6 a7 a8 a9)) (SS s' J) := by
  obtain ⟨q, s1, q1, q2, hq⟩ := v_draw s J (lim := 5) (by omega) (by omega)
  obtain ⟨k, rfl⟩ : ∃ k : Nat, q = k := ⟨q.toNat, by omega⟩
  have hk : k < oN.length := by have : oN.length = 5 := rfl
                                omega
  refine ⟨oN[k], s1, List.getElem_mem hk, ?_⟩
  have e1 : vmul (.str "1") (.int 41) = some (.str (Txt.mul "1" 41)) := by unfold vmul; exact if_pos ⟨by decide, by decide, by decide +kernel⟩
  have e2 : vadd (.str " ") (.str (Txt.mul "1" 41)) = some (.str (" " ++ Txt.mul "1" 41)) := vadd_str (by decide +kernel)
  have ik : ∀ S, ixW S (.v (lns oNs)) (.v (.int (k : Nat))) = some (.v (.str (" " ++ oN[k]))) := fun S => ix_lns (by rw [oNs_eq, List.getElem?_map, List.getElem?_eq_getElem hk]; rfl)
  have ik' : ∀ S, ixW S (.v (.lst [.str " -1", .str " 01", .str (" " ++ Txt.mul "1" 41), .str " none", .str " a1"])) (.v (.int (k : Nat))) = some (.v (.str (" " ++ oN[k]))) := ik
  unfold EC
  simp only [evS_1, evE_16, evE_15, evE_5, evE_7, evE_4, evE_19, evE_1, evL_1, evL_2, getV_0, lft_some, Rs.bind_ok, rd2_some' rdW_str rdW_i, bo_mul, e1, lfv_some, rd2_some' rdW_str rdW_str, bo_add, e2, plnW_cons, plnW_nil, List.length_cons, List.length_nil, Nat.zero_add, Nat.reduceAdd, sl_5, if_true, dc2, hq, ik', bindV_nm, setV2_0, setV2_s]
theorem m6 (s : Stt) (J : Sto) {a2 a3 a4 a6 a7 a8 a9 : Option W} {o : Str} (ho : o ∈ oN) : ∃ (o' : Str) (s' : Stt), Wd o' ∧ clLast x.v x.a x.b o' = none ∧ o'.length ≤ 50 ∧ evS G_law_claim_holds (.ifs (.cmp .isin (.idx (.loc 1) (.int 0)) (.lst false [(.str "nearer"), (.str "over")]))
    [.asg (.nm 5) (.idx (.lst false [(.str " 1"), (.str " A"), (.str " caf_"), (.str " a1"), (.str " abcdefghijklm")]) (.call 2 (.loc 0) [(.int 5)]))]
    []) (EC x a2 a3 a4 (some (.v (.str (" " ++ o)))) a6 a7 a8 a9) (SS s J) = .ok (.nx (EC x a2 a3 a4 (some (.v (.str (" " ++ o')))) a6 a7 a8 a9)) (SS s' J) := by
  have ov : okS x.v := low_ok (wd_v g)
  cases hs : isS4 x.v with
  | false =>
    have hn : isN4 x.v = true := by have := wd4_s _ g.v4; rw [hs] at this; simpa using this.symm
    obtain ⟨h1, h2, h3⟩ := oN_w o ho
    refine ⟨o, s, wd_of h1, cl_bad_n hn h2, h3, ?_⟩
    unfold EC
    simp [i0 g, in2L ov, hs]
  | true =>
    have hn : isN4 x.v = false := by have := wd4_s _ g.v4; rw [hs] at this; simpa using this.symm
    obtain ⟨q, s1, q1, q2, hq⟩ := v_draw s J (lim := 5) (by omega) (by omega)
    obtain ⟨k, rfl⟩ : ∃ k : Nat, q = k := ⟨q.toNat, by omega⟩
    have hk : k < oS.length := by have : oS.length = 5 := rfl
                                  omega
    obtain ⟨h1, h2, h3⟩ := oS_w oS[k] (List.getElem_mem hk)
    refine ⟨oS[k], s1, wd_of h1, cl_bad_s hn h2, h3, ?_⟩
    have ik : ∀ S, ixW S (.v (lns oSs)) (.v (.int (k : Nat))) = some (.v (.str (" " ++ oS[k]))) := fun S => ix_lns (by rw [oSs_eq, List.getElem?_map, List.getElem?_eq_getElem hk]; rfl)
    have ik' : ∀ S, ixW S (.v (.lst [.str " 1", .str " A", .str " caf_", .str " a1", .str " abcdefghijklm"])) (.v (.int (k : Nat))) = some (.v (.str (" " ++ oS[k]))) := ik
    unfold EC
    simp only [evS_8, evT_1, evE_16, evE_15, evE_5, evE_4, evE_1, evL_1, evL_2, getV_0, getV_s, lft_some, Rs.bind_ok, i0 g, plnW_cons, plnW_nil, List.length_cons, List.length_nil, Nat.zero_add, Nat.reduceAdd, sl_2, sl_5, if_true, co_in, in2L ov, hs, blO_some, evSs_2, evSs_1, evS_1, evE_19, dc2, hq, ik', bindV_nm, setV2_0, setV2_s]
theorem m7 {S : Sto} {a3 a6 a7 a8 a9 : Option W} {o : Str} (ho : o.length ≤ 50) : evS G_law_claim_holds (.asg (.nm 6) (.lst false [(.loc 4), (.bin .add (.loc 2) (.str " a")), (.bin .add (.loc 2) (.str " ")), (.bin .add (.str "Claim") (.sli (.loc 2) [(.int 5)] [])), (.str "claim least a b c"), (.str ""), (.str "claim"), (.bin .add (.loc 4) (.loc 5))])) (EC x (some (.v (.str (liS x)))) a3 (some (.v (.str (shS x)))) (some (.v (.str (" " ++ o)))) a6 a7 a8 a9) S = .ok (.nx (EC x (some (.v (.str (liS x)))) a3 (some (.v (.str (shS x)))) (some (.v (.str (" " ++ o)))) (some (.v (lns (wr8 x o)))) a7 a8 a9)) S := by
  obtain ⟨l1, l2, l3, l4, l5, l6⟩ := lens g
  have a1 := vs (a := liS x) (b := " a") (by omega) (by decide +kernel)
  have a2 := vs (a := liS x) (b := " ") (by omega) (by decide +kernel)
  have s0 := sl1000
  have c5 : vsl (.str (liS x)) (some 5) none = some (.str (tail5 x)) := by
    show (if (liS x).length ≤ sizeLine then some (D.str (cutS (liS x) (some 5) none)) else none) = _
    rw [if_pos (by omega), cut5 g]; rfl
  have a3 := vs (a := "Claim") (b := tail5 x) (by decide +kernel) (by unfold tail5; simp only [len_app, l_sp]; omega)
  have a4 := vs (a := shS x) (b := " " ++ o) (by omega) (by simp only [len_app, l_sp]; omega)
  have e : D.lst [.str (shS x), .str (liS x ++ " a"), .str (liS x ++ " "), .str ("Claim" ++ tail5 x), .str "claim least a b c", .str "", .str "claim", .str (shS x ++ (" " ++ o))] = lns (wr8 x o) := rfl
  unfold EC
  simp only [evS_1, evE_15, evE_7, evE_17, evE_1, evE_4, evE_5, evO_1, evO_2, evL_1, evL_2, getV_0, getV_s, lft_some, Rs.bind_ok, rd2_some' rdW_str rdW_str, bo_add, a1, a2, rd1_some' rdW_str, c5, a3, a4, lfv_some, plnW_cons, plnW_nil, List.length_cons, List.length_nil, Nat.zero_add, Nat.reduceAdd, sl_8, if_true, e, bindV_nm, setV2_0, setV2_s]
theorem m8 {S : Sto} {a3 a5 a7 a8 a9 : Option W} {o : Str} : evS G_law_claim_holds (.asg (.nm 6) (.bin .add (.loc 6) (.lst false [(.bin .add (.bin .add (.bin .add (.bin .add (.str "claim ") (.idx (.loc 1) (.int 0))) (.str " A ")) (.idx (.loc 1) (.int 2))) (.sli (.loc 2) [(.blt .len (.loc 4) [])] [])), (.bin .add (.bin .add (.bin .add (.bin .add (.bin .add (.str "claim ") (.idx (.loc 1) (.int 0))) (.str " ")) (.idx (.loc 1) (.int 1))) (.str " 3")) (.sli (.loc 2) [(.blt .len (.loc 4) [])] []))]))) (EC x (some (.v (.str (liS x)))) a3 (some (.v (.str (shS x)))) a5 (some (.v (lns (wr8 x o)))) a7 a8 a9) S = .ok (.nx (EC x (some (.v (.str (liS x)))) a3 (some (.v (.str (shS x)))) a5 (some (.v (lns (wr8 x o ++ wr2 x)))) a7 a8 a9)) S := by
  obtain ⟨l1, l2, l3, l4, l5, l6⟩ := lens g
  have s0 := sl1000
  have nA : (" A " : Str).length = 3 := by decide +kernel
  have n3 : (" 3" : Str).length = 2 := by decide +kernel
  have ln : ∀ S, rd1 S (.v (.str (shS x))) (lenA M00) = some (.int ((shS x).length : Nat)) := fun S => if_pos (by omega)
  have cR : vsl (.str (liS x)) (some ((shS x).length : Nat)) none = some (.str (rest x)) := by
    show (if (liS x).length ≤ sizeLine then some (D.str (cutS (liS x) (some ((shS x).length : Nat)) none)) else none) = _
    rw [if_pos (by omega), cutL g]; rfl
  have lr : (rest x).length ≤ 41 := by unfold rest; simp only [len_app, l_sp]; omega
  have a1 := vs (a := "claim ") (b := x.v) (by rw [l_cl]; decide) (by omega)
  have b1 := vs (a := "claim " ++ x.v) (b := " A ") (by simp only [len_app, l_cl]; omega) (by rw [nA]; decide)
  have b2 := vs (a := "claim " ++ x.v ++ " A ") (b := x.b) (by simp only [len_app, l_cl, nA]; omega) (by omega)
  have b3 := vs (a := "claim " ++ x.v ++ " A " ++ x.b) (b := rest x) (by simp only [len_app, l_cl, nA]; omega) (by omega)
  have a2 := vs (a := "claim " ++ x.v) (b := " ") (by rw [len_app, l_cl]; omega) (by rw [l_sp]; decide)
  have a3 := vs (a := "claim " ++ x.v ++ " ") (b := x.a) (by simp only [len_app, l_cl, l_sp]; omega) (by omega)
  have a4 := vs (a := "claim " ++ x.v ++ " " ++ x.a) (b := " 3") (by simp only [len_app, l_cl, l_sp]; omega) (by rw [n3]; decide)
  have a5 := vs (a := "claim " ++ x.v ++ " " ++ x.a ++ " 3") (b := rest x) (by simp only [len_app, l_cl, l_sp, n3]; omega) (by omega)
  have av : vadd (lns (wr8 x o)) (.lst [.str ("claim " ++ x.v ++ " A " ++ x.b ++ rest x), .str ("claim " ++ x.v ++ " " ++ x.a ++ " 3" ++ rest x)]) = some (lns (wr8 x o ++ wr2 x)) := vadd_lns (b := wr2 x) (by show 8 + 2 ≤ _; omega)
  unfold EC
  simp only [evS_1, evE_15, evE_7, evE_16, evE_17, evE_20, evE_1, evE_4, evE_5, evO_1, evO_2, evL_1, evL_2, getV_0, getV_s, lft_some, Rs.bind_ok, i0 g, i1 g, i2 g, rd2_some' rdW_str rdW_str, bo_add, a1, a2, a3, a4, a5, b1, b2, b3, bt_len, ln, rd1_some' rdW_str, cR, lfv_some, plnW_cons, plnW_nil, List.length_cons, List.length_nil, Nat.zero_add, Nat.reduceAdd, sl_2, if_true, rd2_some' rdW_lns rdW_lst, av, bindV_nm, setV2_0, setV2_s]
theorem m9 {S : Sto} {a2 a3 a4 a5 a8 a9 : Option W} {o : Str} (w : Wd o) (h : clLast x.v x.a x.b o = none) (hl : o.length ≤ 50) : ∃ a7, evS G_law_claim_holds (.fors (.nm 7) .seq [(.loc 6)] bodyR) (EC x a2 a3 a4 a5 (some (.v (lns (wr8 x o ++ wr2 x)))) none a8 a9) S = .ok (.nx (EC x a2 a3 a4 a5 (some (.v (lns (wr8 x o ++ wr2 x)))) a7 a8 a9)) S := by
  obtain ⟨a7, h⟩ := loop_R (x := x) (a2 := a2) (a3 := a3) (a4 := a4) (a5 := a5) (a6 := some (.v (lns (wr8 x o ++ wr2 x)))) (a8 := a8) (a9 := a9) (S := S) (wr8 x o ++ wr2 x) none (wr_ok g w h hl)
  refine ⟨a7, ?_⟩
  have e : getV (EC x a2 a3 a4 a5 (some (.v (lns (wr8 x o ++ wr2 x)))) none a8 a9) 6 = some (.v (lns (wr8 x o ++ wr2 x))) := rfl
  simp only [evS_9, evL_1, evL_2, evE_1, e, lft_some, Rs.bind_ok, itW_lns, h]
theorem m10 {S : Sto} {a3 a4 a5 a6 a7 : Option W} : ∃ a8 a9, evS G_law_claim_holds (.fors (.tp [8, 9]) .seq [(.lst false [(.tup [(.lst false [(.loc 2)]), (.int 1)]), (.tup [(.lst false [(.loc 2), (.str "")]), (.int 1)]), (.tup [(.lst false [(.loc 2), (.loc 2)]), (.int 1)]), (.tup [(.lst false [(.loc 2), (.str "end"), (.str "end")]), (.int 2)]), (.tup [(.lst false [(.loc 2), (.str "end ")]), (.int 1)])])] bodyQ) (EC x (some (.v (.str (liS x)))) a3 a4 a5 a6 a7 none none) S = .ok (.nx (EC x (some (.v (.str (liS x)))) a3 a4 a5 a6 a7 a8 a9)) S := by
  obtain ⟨a8, a9, h⟩ := loop_Q (x := x) (a2 := some (.v (.str (liS x)))) (a3 := a3) (a4 := a4) (a5 := a5) (a6 := a6) (a7 := a7) (S := S) (fiv x) none none (fiv_ok g)
  refine ⟨a8, a9, Eq.trans ?_ h⟩
  have e : getV (EC x (some (.v (.str (liS x)))) a3 a4 a5 a6 a7 none none) 2 = some (.v (.str (liS x))) := rfl
  simp only [evS_9, evE_15, evE_14, evL_1, evL_2, evE_1, evE_5, evE_4, e, lft_some, Rs.bind_ok, plnW_cons, plnW_nil, List.length_cons, List.length_nil, Nat.zero_add, Nat.reduceAdd, sl_1, sl_2, sl_3, sl_5, if_true, itW_lst]
  rfl
end
theorem v_claim_holds {x : Clm} (g : GdC x) (s : Stt) (J : Sto) : ∃ (s' : Stt), F_law_claim_holds [.r 0, .v (clmD x)] (SS s J) = .ok (.v (.bl true)) (SS s' J) := by
  have x0 := m0 g (S := SS s J)
  have x1 := m1 g (S := SS s J)
  have x2 := m2 g (S := SS s J)
  have x3 := m3 g (S := SS s J) (a3 := none) (a4 := none) (a5 := none) (a6 := none) (a7 := none) (a8 := none) (a9 := none)
  have x4 := m4 g (S := SS s J) (a2 := some (.v (.str (liS x)))) (a3 := some (.v (.str (liS x ++ "\nend")))) (a4 := none) (a5 := none) (a6 := none) (a7 := none) (a8 := none) (a9 := none)
  obtain ⟨o, s5, ho, x5⟩ := m5 g s J (a2 := some (.v (.str (liS x)))) (a3 := some (.v (.str (liS x ++ "\nend")))) (a4 := some (.v (.str (shS x)))) (a5 := none) (a6 := none) (a7 := none) (a8 := none) (a9 := none)
  obtain ⟨o', s6, w1, w2, w3, x6⟩ := m6 g s5 J (a2 := some (.v (.str (liS x)))) (a3 := some (.v (.str (liS x ++ "\nend")))) (a4 := some (.v (.str (shS x)))) (a6 := none) (a7 := none) (a8 := none) (a9 := none) ho
  have x7 := m7 g (S := SS s6 J) (a3 := some (.v (.str (liS x ++ "\nend")))) (a6 := none) (a7 := none) (a8 := none) (a9 := none) w3
  have x8 := m8 g (S := SS s6 J) (a3 := some (.v (.str (liS x ++ "\nend")))) (a5 := some (.v (.str (" " ++ o')))) (a7 := none) (a8 := none) (a9 := none) (o := o')
  obtain ⟨a7, x9⟩ := m9 g (S := SS s6 J) (a2 := some (.v (.str (liS x)))) (a3 := some (.v (.str (liS x ++ "\nend")))) (a4 := some (.v (.str (shS x)))) (a5 := some (.v (.str (" " ++ o')))) (a8 := none) (a9 := none) w1 w2 w3
  obtain ⟨a8, a9, x10⟩ := m10 g (S := SS s6 J) (a3 := some (.v (.str (liS x ++ "\nend")))) (a4 := some (.v (.str (shS x)))) (a5 := some (.v (.str (" " ++ o')))) (a6 := some (.v (lns (wr8 x o' ++ wr2 x)))) (a7 := a7)
  refine ⟨s6, ?_⟩
  have nx : ∀ (st : Sx) (rest : List Sx) (en en' : WEn) (S S' : Sto), evS G_law_claim_holds st en S = .ok (.nx en') S' → evSs G_law_claim_holds (st :: rest) en S = evSs G_law_claim_holds rest en' S' := by
    intro st rest en en' S S' h
    rw [evSs_2, h]; rfl
  rw [e_law_claim_holds]
  show (evSs G_law_claim_holds B_law_claim_holds (EC x none none none none none none none none) (SS s J)).out = _
  unfold B_law_claim_holds
  rw [nx _ _ _ _ _ _ x0, nx _ _ _ _ _ _ x1, nx _ _ _ _ _ _ x2, nx _ _ _ _ _ _ x3, nx _ _ _ _ _ _ x4, nx _ _ _ _ _ _ x5, nx _ _ _ _ _ _ x6, nx _ _ _ _ _ _ x7, nx _ _ _ _ _ _ x8]
  have x9' := nx _ [.fors (.tp [8, 9]) .seq [(.lst false [(.tup [(.lst false [(.loc 2)]), (.int 1)]), (.tup [(.lst false [(.loc 2), (.str "")]), (.int 1)]), (.tup [(.lst false [(.loc 2), (.loc 2)]), (.int 1)]), (.tup [(.lst false [(.loc 2), (.str "end"), (.str "end")]), (.int 2)]), (.tup [(.lst false [(.loc 2), (.str "end ")]), (.int 1)])])] bodyQ, .ret (.bl true)] _ _ _ _ x9
  refine (congrArg Rs.out x9').trans ?_
  rw [nx _ _ _ _ _ _ x10]
  rfl
end K92

/-! the law -/
namespace K92
open PySem PySem.Spec PyProof.Rows L2 Z
theorem lc0 (r : Rs (List W)) : callV Glaw 0 r = r.bind fun ws S => if ws.length = 1 then F_law_state ws S else .no := by unfold Glaw; rfl
theorem lc1 (r : Rs (List W)) : callV Glaw 1 r = r.bind fun ws S => if ws.length = 2 then F_law_paper ws S else .no := by unfold Glaw; rfl
theorem lc2 (r : Rs (List W)) : callV Glaw 2 r = r.bind fun ws S => if ws.length = 2 then F_law_draw ws S else .no := by unfold Glaw; rfl
theorem lc3 (r : Rs (List W)) : callV Glaw 3 r = r.bind fun ws S => if ws.length = 2 then F_law_paper_holds ws S else .no := by unfold Glaw; rfl
theorem lc4 (r : Rs (List W)) : callV Glaw 4 r = r.bind fun ws S => if ws.length = 2 then F_law_claim_holds ws S else .no := by unfold Glaw; rfl
theorem lc5 (r : Rs (List W)) : callV Glaw 5 r = r.bind fun ws S => if ws.length = 1 then F_law_claim ws S else .no := by unfold Glaw; rfl
theorem lc6 (r : Rs (List W)) : callV Glaw 6 r = r.bind fun ws S => if ws.length = 3 then F_law_refused ws S else .no := by unfold Glaw; rfl
theorem v_law_state (ns : List Int) : F_law_state [.v (.flst (ns.map D.int))] [] = .ok (.r 0) (SS ⟨ns, 0, 0, 0, false, by decide⟩ []) := by
  rw [e_law_state]
  unfold B_law_state G_law_state
  have hl : lstW [] (.v (.flst (ns.map D.int))) = some (ns.map D.int) := rfl
  simp [hl]
  rfl
def bodyL : List Sx := [.ifs (.nt (.call 4 (.loc 1) [(.call 5 (.loc 1) [])])) [.ret (.bl false)] []]
theorem loop_L {o0 o2 : Option W} (J : Sto) : ∀ (items : List D) (s : Stt) (o3 : Option W), ∃ (s' : Stt) (o3' : Option W), turnsV (.nm 3) (evSs Glaw bodyL) items [o0, some (.r 0), o2, o3] (SS s J) = .ok (.nx [o0, some (.r 0), o2, o3']) (SS s' J)
  | [], s, o3 => ⟨s, o3, rfl⟩
  | y :: r, s, o3 => by
    obtain ⟨x, s1, g, h1⟩ := v_law_claim s J
    obtain ⟨s2, h2⟩ := v_claim_holds g s1 J
    obtain ⟨s3, o3', h3⟩ := loop_L J (o0 := o0) (o2 := o2) r s2 (some (.v y))
    refine ⟨s3, o3', ?_⟩
    have b : evSs Glaw bodyL [o0, some (.r 0), o2, some (.v y)] (SS s J) = .ok (.nx [o0, some (.r 0), o2, some (.v y)]) (SS s2 J) := by
      unfold bodyL
      simp only [evSs_2, evSs_1, evS_8, evT_4, evT_11, evE_19, evE_1, evL_1, evL_2, getV_0, getV_s, lft_some, Rs.bind_ok, lc4, lc5, List.length_cons, List.length_nil, Nat.zero_add, Nat.reduceAdd, if_true, h1, h2, truV_ok, truW_bl, Bool.not_true]
    conv => lhs; unfold turnsV
    simp only [bindV_nm, setV2_s, setV2_0, b, Rs.bind_ok, h3]
theorem v_law (ns : List Int) : ∃ S', Flaw [.v (.flst (ns.map D.int))] [] = .ok (.v (.bl true)) S' := by
  obtain ⟨a, s1, a1, a2, ha⟩ := v_draw ⟨ns, 0, 0, 0, false, by decide⟩ [] (lim := 3) (by omega) (by omega)
  obtain ⟨b, s2, b1, b2, hb⟩ := v_draw s1 [] (lim := 8) (by omega) (by omega)
  obtain ⟨c, s3, c1, c2, hc⟩ := v_draw s2 [] (lim := 2) (by omega) (by omega)
  have key : ∃ n : Int, 1 ≤ n ∧ n ≤ 8 ∧ ∀ S : Sto, ixW S (.v (.lst [.int (1 + a), .int (1 + b)])) (.v (.int c)) = some (.v (.int n)) := by
    by_cases e : c = 0
    · exact ⟨1 + a, by omega, by omega, fun S => by rw [ix2 c1 c2, if_pos e]⟩
    · exact ⟨1 + b, by omega, by omega, fun S => by rw [ix2 c1 c2, if_neg e]⟩
  obtain ⟨n, n1, n8, hn⟩ := key
  obtain ⟨ps, s4, J4, g, lp, h4⟩ := v_law_paper s3 [] (n := n) (by omega) (by omega)
  obtain ⟨s5, J5, h5⟩ := v_paper_holds g (by omega) (by omega) s4 J4
  obtain ⟨s6, o3, h6⟩ := loop_L J5 (o0 := some (.v (.flst (ns.map D.int)))) (o2 := some (.v (lpD ps))) (rngD 0 4) s5 none
  have l0 : L1 "" := ⟨by decide +kernel, by decide +kernel⟩
  have n0 : Ln [("" : Str)] := ln_of (by intro l hl; rw [List.mem_singleton.mp hl]; exact l0) (by show 1 ≤ 1000; decide)
  obtain ⟨J7, h7⟩ := v_refused_ways (S := SS s6 J5) (ls := [("" : Str)]) (e := 0) (i := 0) n0 (by
    rw [eff_ne (by simp)]
    exact parse_bad (ps := []) (by simp) (fun j hj => by omega) (by omega) (by omega) (bad_any (x := "") (wrong_bad "" (by simp [wrongL, wrong1])))) rfl
  have h7' : F_law_refused [.v (.str "ways"), .v (.lst [.str ""]), .v (.int 0)] (SS s6 J5) = _ := h7
  have h8 := v_refused_claim (S := SS s6 J5 ++ J7) (ls := [("" : Str)]) (e := 0) (i := 0) n0 (by simp) (pc_bad y6) rfl
  have h8' : F_law_refused [.v (.str "claim"), .v (.lst [.str ""]), .v (.int 0)] (SS s6 J5 ++ J7) = _ := h8
  have ir : itW .rng1 [.v (.int 4)] = some (rngD 0 4) := it_rng (show (0 : Int) ≤ 4 by decide) (show (4 : Int) ≤ 16777216 by decide)
  have hB : Blaw = [.asg (.nm 1) (.call 0 (.loc 0) []), .asg (.nm 2) (.call 1 (.loc 1) [(.idx (.lst false [(.bin .add (.int 1) (.call 2 (.loc 1) [(.int 3)])), (.bin .add (.int 1) (.call 2 (.loc 1) [(.int 8)]))]) (.call 2 (.loc 1) [(.int 2)]))]), .ifs (.nt (.call 3 (.loc 1) [(.loc 2)]))
    [.ret (.bl false)]
    [], .fors (.nm 3) .rng1 [(.int 4)] bodyL, .ret (.bol true [(.call 6 (.str "ways") [(.lst false [(.str "")]), (.int 0)]), (.call 6 (.str "claim") [(.lst false [(.str "")]), (.int 0)])])] := rfl
  refine ⟨SS s6 J5 ++ J7, ?_⟩
  rw [elaw, hB]
  simp only [evSs_2, evSs_1, evS_1, evS_8, evS_9, evS_6, evT_4, evT_11, evE_19, evE_1, evE_4, evE_5, evE_7, evE_11, evE_15, evE_16, evV_3, evV_2, evL_1, evL_2, getV_0, getV_s, lft_some, Rs.bind_ok, lc0, lc1, lc2, lc3, lc6, List.length_cons, List.length_nil, Nat.zero_add, Nat.reduceAdd, if_true, v_law_state, bindV_nm, setV2_0, setV2_s, ha, hb, hc, rd2_some' rdW_i rdW_i, bo_add, vadd_int, lfv_some, plnW_cons, plnW_nil, sl_1, sl_2, hn, h4, h5, truV_ok, truW_bl, Bool.not_true, ir, h6, h7', blW_bl, h8', out_rt]
theorem lawHolds (ns : List Int) (h : ns.length ≤ 63) : spV Flaw [.flst (ns.map D.int)] M00 (fun v _ => v = .bl true) noX := by
  obtain ⟨S', h⟩ := v_law ns
  exact lawV h
end K92

namespace K92
open PySem PySem.Spec PyProof.Rows L2 Z

structure FA (K : PySem.W.Frag) : Prop where
  dis_integer : DF K "is_integer" sis_integer
  dis_name : DF K "is_name" sis_name
  dis_figures : DF K "is_figures" sis_figures
  dis_bound : DF K "is_bound" sis_bound
  d_is_pair : DF K "_is_pair" s_is_pair
  dform_fault : DF K "form_fault" sform_fault
  dwords_of : DF K "words_of" swords_of
  dinteger_of : DF K "integer_of" sinteger_of
  doptional_of : DF K "optional_of" soptional_of
  doptional_word : DF K "optional_word" soptional_word
  dwords_at : DF K "words_at" swords_at
  dbegin : DF K "begin" sbegin
  dfinish : DF K "finish" sfinish
  d_pair_word : DF K "_pair_word" s_pair_word
  dform_lines : DF K "form_lines" sform_lines
  d_pair_of : DF K "_pair_of" s_pair_of
  dread_form : DF K "read_form" sread_form
  dformat_ways : DF K "format_ways" sformat_ways
  d_read_triple : DF K "_read_triple" s_read_triple
  dparse_ways : DF K "parse_ways" sparse_ways
  dformat_way_claim : DF K "format_way_claim" sformat_way_claim
  dparse_way_claim : DF K "parse_way_claim" sparse_way_claim
  d_law_state : DF K "_law_state" s_law_state
  d_law_draw : DF K "_law_draw" s_law_draw
  d_law_number : DF K "_law_number" s_law_number
  d_law_name : DF K "_law_name" s_law_name
  d_law_word : DF K "_law_word" s_law_word
  d_law_form_lines : DF K "_law_form_lines" s_law_form_lines
  d_law_long : DF K "_law_long" s_law_long
  d_law_text_form : DF K "_law_text_form" s_law_text_form
  d_law_paper : DF K "_law_paper" s_law_paper
  d_law_lines : DF K "_law_lines" s_law_lines
  d_law_read : DF K "_law_read" s_law_read
  d_law_refused : DF K "_law_refused" s_law_refused
  d_law_wrong_line : DF K "_law_wrong_line" s_law_wrong_line
  d_law_paper_holds : DF K "_law_paper_holds" s_law_paper_holds
  d_law_claim : DF K "_law_claim" s_law_claim
  d_law_claim_holds : DF K "_law_claim_holds" s_law_claim_holds
  dlaw : DF K "law" slaw
  cMAX_HEAD : DC K "MAX_HEAD" (D.int 4000)
  cMAX_OFFICES : DC K "MAX_OFFICES" (D.int 8)
  cMAX_PERIOD : DC K "MAX_PERIOD" (D.int 1000)
  cMAX_SIGNS : DC K "MAX_SIGNS" (D.int 40)
  cPARTS : DC K "PARTS" (D.tp .s [D.str "price", D.str "count", D.str "last"])
  babs : DB K "abs"
  ball : DB K "all"
  bbool : DB K "bool"
  bint : DB K "int"
  bisinstance : DB K "isinstance"
  blen : DB K "len"
  blist : DB K "list"
  brange : DB K "range"
  bstr : DB K "str"
  btuple : DB K "tuple"
  err : DE K
section
variable {P : Program} {w : World} {K : PySem.W.Frag} {mg : Str → Option Value} {base h : Heap}
theorem ois_integer : scopeOk Nis_integer ["value"] (defScope sis_integer) = true := by decide +kernel
theorem tis_integer : chkSs (gtOf Gis_integer) Nis_integer (defScope sis_integer) Bis_integer (defBody sis_integer) = true := by decide +kernel
theorem cis_integer (X : K.In h) (g : h.Ns mainGlobals mg) (A : FA K) : Cal P w K mg base (XRof K) 1 "is_integer" 1 (spV Fis_integer) :=
  cal_mk (G := gtOf Gis_integer) X g A.dis_integer ois_integer rfl (fun _ _ _ _ _ _ us hl => match us, hl with | [_], _ => rfl) .nil .nil (.cons (A.bisinstance) (.cons (A.bint) (.cons (A.bbool) .nil))) (fun z => absurd z (by decide +kernel)) tis_integer (fun ds M Q E _ h => pV Gis_integer 1 Bis_integer ds M Q E h)
theorem ois_name : scopeOk Nis_name ["value"] (defScope sis_name) = true := by decide +kernel
theorem tis_name : chkSs (gtOf Gis_name) Nis_name (defScope sis_name) Bis_name (defBody sis_name) = true := by decide +kernel
theorem cis_name (X : K.In h) (g : h.Ns mainGlobals mg) (A : FA K) : Cal P w K mg base (XRof K) 1 "is_name" 1 (spV Fis_name) :=
  cal_mk (G := gtOf Gis_name) X g A.dis_name ois_name rfl (fun _ _ _ _ _ _ us hl => match us, hl with | [_], _ => rfl) .nil .nil (.cons (A.bisinstance) (.cons (A.bstr) (.cons (A.blen) (.cons (A.ball) .nil)))) (fun z => absurd z (by decide +kernel)) tis_name (fun ds M Q E _ h => pV Gis_name 2 Bis_name ds M Q E h)
theorem ois_figures : scopeOk Nis_figures ["text"] (defScope sis_figures) = true := by decide +kernel
theorem tis_figures : chkSs (gtOf Gis_figures) Nis_figures (defScope sis_figures) Bis_figures (defBody sis_figures) = true := by decide +kernel
theorem cis_figures (X : K.In h) (g : h.Ns mainGlobals mg) (A : FA K) : Cal P w K mg base (XRof K) 1 "is_figures" 1 (spV Fis_figures) :=
  cal_mk (G := gtOf Gis_figures) X g A.dis_figures ois_figures rfl (fun _ _ _ _ _ _ us hl => match us, hl with | [_], _ => rfl) .nil .nil (.cons (A.ball) .nil) (fun z => absurd z (by decide +kernel)) tis_figures (fun ds M Q E _ h => pV Gis_figures 2 Bis_figures ds M Q E h)
theorem ois_bound : scopeOk Nis_bound ["value"] (defScope sis_bound) = true := by decide +kernel
theorem tis_bound : chkSs (gtOf Gis_bound) Nis_bound (defScope sis_bound) Bis_bound (defBody sis_bound) = true := by decide +kernel
theorem cis_bound (X : K.In h) (g : h.Ns mainGlobals mg) (A : FA K) : Cal P w K mg base (XRof K) 2 "is_bound" 1 (spV Fis_bound) :=
  cal_mk (G := gtOf Gis_bound) X g A.dis_bound ois_bound rfl (fun _ _ _ _ _ _ us hl => match us, hl with | [_], _ => rfl) (.cons ((cis_integer X g A).mono (by decide)) .nil) .nil .nil (fun z => absurd z (by decide +kernel)) tis_bound (fun ds M Q E _ h => pV Gis_bound 1 Bis_bound ds M Q E h)
theorem o_is_pair : scopeOk N_is_pair ["pair"] (defScope s_is_pair) = true := by decide +kernel
theorem t_is_pair : chkSs (gtOf G_is_pair) N_is_pair (defScope s_is_pair) B_is_pair (defBody s_is_pair) = true := by decide +kernel
theorem c_is_pair (X : K.In h) (g : h.Ns mainGlobals mg) (A : FA K) : Cal P w K mg base (XRof K) 2 "_is_pair" 1 (spV F_is_pair) :=
  cal_mk (G := gtOf G_is_pair) X g A.d_is_pair o_is_pair rfl (fun _ _ _ _ _ _ us hl => match us, hl with | [_], _ => rfl) (.cons ((cis_integer X g A).mono (by decide)) .nil) .nil (.cons (A.bisinstance) (.cons (A.btuple) (.cons (A.blen) .nil))) (fun z => absurd z (by decide +kernel)) t_is_pair (fun ds M Q E _ h => pV G_is_pair 3 B_is_pair ds M Q E h)
theorem oform_fault : scopeOk Nform_fault ["form"] (defScope sform_fault) = true := by decide +kernel
theorem tform_fault : chkSs (gtOf Gform_fault) Nform_fault (defScope sform_fault) Bform_fault (defBody sform_fault) = true := by decide +kernel
theorem cform_fault (X : K.In h) (g : h.Ns mainGlobals mg) (A : FA K) : Cal P w K mg base (XRof K) 3 "form_fault" 1 (spV Fform_fault) :=
  cal_mk (G := gtOf Gform_fault) X g A.dform_fault oform_fault rfl (fun _ _ _ _ _ _ us hl => match us, hl with | [_], _ => rfl) (.cons ((cis_bound X g A).mono (by decide)) (.cons ((c_is_pair X g A).mono (by decide)) .nil)) (.cons (A.cMAX_HEAD) (.cons (A.cMAX_PERIOD) .nil)) (.cons (A.bisinstance) (.cons (A.btuple) (.cons (A.blen) (.cons (A.ball) .nil)))) (fun z => absurd z (by decide +kernel)) tform_fault (fun ds M Q E _ h => pV Gform_fault 5 Bform_fault ds M Q E h)
theorem owords_of : scopeOk Nwords_of ["line"] (defScope swords_of) = true := by decide +kernel
theorem twords_of : chkSs (gtOf Gwords_of) Nwords_of (defScope swords_of) Bwords_of (defBody swords_of) = true := by decide +kernel
theorem cwords_of (X : K.In h) (g : h.Ns mainGlobals mg) (A : FA K) : Cal P w K mg base (XRof K) 1 "words_of" 1 (spV Fwords_of) :=
  cal_mk (G := gtOf Gwords_of) X g A.dwords_of owords_of rfl (fun _ _ _ _ _ _ us hl => match us, hl with | [_], _ => rfl) .nil .nil (.cons (A.ball) .nil) (fun z => absurd z (by decide +kernel)) twords_of (fun ds M Q E _ h => pV Gwords_of 3 Bwords_of ds M Q E h)
theorem ointeger_of : scopeOk Ninteger_of ["word"] (defScope sinteger_of) = true := by decide +kernel
theorem tinteger_of : chkSs (gtOf Ginteger_of) Ninteger_of (defScope sinteger_of) Binteger_of (defBody sinteger_of) = true := by decide +kernel
theorem cinteger_of (X : K.In h) (g : h.Ns mainGlobals mg) (A : FA K) : Cal P w K mg base (XRof K) 2 "integer_of" 1 (spV Finteger_of) :=
  cal_mk (G := gtOf Ginteger_of) X g A.dinteger_of ointeger_of rfl (fun _ _ _ _ _ _ us hl => match us, hl with | [_], _ => rfl) (.cons ((cis_figures X g A).mono (by decide)) .nil) (.cons (A.cMAX_SIGNS) .nil) (.cons (A.blen) (.cons (A.bstr) (.cons (A.bint) .nil))) (fun z => absurd z (by decide +kernel)) tinteger_of (fun ds M Q E _ h => pV Ginteger_of 2 Binteger_of ds M Q E h)
theorem ooptional_of : scopeOk Noptional_of ["word", "none"] (defScope soptional_of) = true := by decide +kernel
theorem toptional_of : chkSs (gtOf Goptional_of) Noptional_of (defScope soptional_of) Boptional_of (defBody soptional_of) = true := by decide +kernel
theorem coptional_of (X : K.In h) (g : h.Ns mainGlobals mg) (A : FA K) : Cal P w K mg base (XRof K) 3 "optional_of" 2 (spV Foptional_of) :=
  cal_mk (G := gtOf Goptional_of) X g A.doptional_of ooptional_of rfl (fun _ _ _ _ _ _ us hl => match us, hl with | [_, _], _ => rfl) (.cons ((cinteger_of X g A).mono (by decide)) .nil) .nil .nil (fun z => absurd z (by decide +kernel)) toptional_of (fun ds M Q E _ h => pV Goptional_of 3 Boptional_of ds M Q E h)
theorem ooptional_word : scopeOk Noptional_word ["number", "none"] (defScope soptional_word) = true := by decide +kernel
theorem toptional_word : chkSs (gtOf Goptional_word) Noptional_word (defScope soptional_word) Boptional_word (defBody soptional_word) = true := by decide +kernel
theorem coptional_word (X : K.In h) (g : h.Ns mainGlobals mg) (A : FA K) : Cal P w K mg base (XRof K) 1 "optional_word" 2 (spV Foptional_word) :=
  cal_mk (G := gtOf Goptional_word) X g A.doptional_word ooptional_word rfl (fun _ _ _ _ _ _ us hl => match us, hl with | [_, _], _ => rfl) .nil .nil (.cons (A.bstr) .nil) (fun z => absurd z (by decide +kernel)) toptional_word (fun ds M Q E _ h => pV Goptional_word 2 Boptional_word ds M Q E h)
theorem owords_at : scopeOk Nwords_at ["lines", "at"] (defScope swords_at) = true := by decide +kernel
theorem twords_at : chkSs (gtOf Gwords_at) Nwords_at (defScope swords_at) Bwords_at (defBody swords_at) = true := by decide +kernel
theorem cwords_at (X : K.In h) (g : h.Ns mainGlobals mg) (A : FA K) : Cal P w K mg base (XRof K) 2 "words_at" 2 (spV Fwords_at) :=
  cal_mk (G := gtOf Gwords_at) X g A.dwords_at owords_at rfl (fun _ _ _ _ _ _ us hl => match us, hl with | [_, _], _ => rfl) (.cons ((cwords_of X g A).mono (by decide)) .nil) .nil (.cons (A.blen) .nil) (fun _ => ⟨A.err, rfl⟩) twords_at (fun ds M Q E _ h => pV Gwords_at 3 Bwords_at ds M Q E h)
theorem obegin : scopeOk Nbegin ["text", "first"] (defScope sbegin) = true := by decide +kernel
theorem tbegin : chkSs (gtOf Gbegin) Nbegin (defScope sbegin) Bbegin (defBody sbegin) = true := by decide +kernel
theorem cbegin (X : K.In h) (g : h.Ns mainGlobals mg) (A : FA K) : Cal P w K mg base (XRof K) 3 "begin" 2 (spV Fbegin) :=
  cal_mk (G := gtOf Gbegin) X g A.dbegin obegin rfl (fun _ _ _ _ _ _ us hl => match us, hl with | [_, _], _ => rfl) (.cons ((cwords_at X g A).mono (by decide)) .nil) .nil .nil (fun _ => ⟨A.err, rfl⟩) tbegin (fun ds M Q E _ h => pV Gbegin 3 Bbegin ds M Q E h)
theorem ofinish : scopeOk Nfinish ["lines", "at"] (defScope sfinish) = true := by decide +kernel
theorem tfinish : chkSs (gtOf Gfinish) Nfinish (defScope sfinish) Bfinish (defBody sfinish) = true := by decide +kernel
theorem cfinish (X : K.In h) (g : h.Ns mainGlobals mg) (A : FA K) : Cal P w K mg base (XRof K) 3 "finish" 2 (spV Ffinish) :=
  cal_mk (G := gtOf Gfinish) X g A.dfinish ofinish rfl (fun _ _ _ _ _ _ us hl => match us, hl with | [_, _], _ => rfl) (.cons ((cwords_at X g A).mono (by decide)) .nil) .nil (.cons (A.blen) .nil) (fun _ => ⟨A.err, rfl⟩) tfinish (fun ds M Q E _ h => pV Gfinish 2 Bfinish ds M Q E h)
theorem o_pair_word : scopeOk N_pair_word ["pair"] (defScope s_pair_word) = true := by decide +kernel
theorem t_pair_word : chkSs (gtOf G_pair_word) N_pair_word (defScope s_pair_word) B_pair_word (defBody s_pair_word) = true := by decide +kernel
theorem c_pair_word (X : K.In h) (g : h.Ns mainGlobals mg) (A : FA K) : Cal P w K mg base (XRof K) 1 "_pair_word" 1 (spV F_pair_word) :=
  cal_mk (G := gtOf G_pair_word) X g A.d_pair_word o_pair_word rfl (fun _ _ _ _ _ _ us hl => match us, hl with | [_], _ => rfl) .nil .nil .nil (fun z => absurd z (by decide +kernel)) t_pair_word (fun ds M Q E _ h => pV G_pair_word 3 B_pair_word ds M Q E h)
theorem oform_lines : scopeOk Nform_lines ["form"] (defScope sform_lines) = true := by decide +kernel
theorem tform_lines : chkSs (gtOf Gform_lines) Nform_lines (defScope sform_lines) Bform_lines (defBody sform_lines) = true := by decide +kernel
theorem cform_lines (X : K.In h) (g : h.Ns mainGlobals mg) (A : FA K) : Cal P w K mg base (XRof K) 2 "form_lines" 1 (spV Fform_lines) :=
  cal_mk (G := gtOf Gform_lines) X g A.dform_lines oform_lines rfl (fun _ _ _ _ _ _ us hl => match us, hl with | [_], _ => rfl) (.cons ((coptional_word X g A).mono (by decide)) (.cons ((c_pair_word X g A).mono (by decide)) .nil)) .nil .nil (fun z => absurd z (by decide +kernel)) tform_lines (fun ds M Q E _ h => pV Gform_lines 5 Bform_lines ds M Q E h)
theorem o_pair_of : scopeOk N_pair_of ["word"] (defScope s_pair_of) = true := by decide +kernel
theorem t_pair_of : chkSs (gtOf G_pair_of) N_pair_of (defScope s_pair_of) B_pair_of (defBody s_pair_of) = true := by decide +kernel
theorem c_pair_of (X : K.In h) (g : h.Ns mainGlobals mg) (A : FA K) : Cal P w K mg base (XRof K) 3 "_pair_of" 1 (spV F_pair_of) :=
  cal_mk (G := gtOf G_pair_of) X g A.d_pair_of o_pair_of rfl (fun _ _ _ _ _ _ us hl => match us, hl with | [_], _ => rfl) (.cons ((cinteger_of X g A).mono (by decide)) .nil) .nil (.cons (A.blen) .nil) (fun z => absurd z (by decide +kernel)) t_pair_of (fun ds M Q E _ h => pV G_pair_of 4 B_pair_of ds M Q E h)
theorem oread_form : scopeOk Nread_form ["lines", "at"] (defScope sread_form) = true := by decide +kernel
theorem tread_form : chkSs (gtOf Gread_form) Nread_form (defScope sread_form) Bread_form (defBody sread_form) = true := by decide +kernel
theorem cread_form (X : K.In h) (g : h.Ns mainGlobals mg) (A : FA K) : Cal P w K mg base (XRof K) 4 "read_form" 2 (spV Fread_form) :=
  cal_mk (G := gtOf Gread_form) X g A.dread_form oread_form rfl (fun _ _ _ _ _ _ us hl => match us, hl with | [_, _], _ => rfl) (.cons ((cwords_at X g A).mono (by decide)) (.cons ((coptional_of X g A).mono (by decide)) (.cons ((cform_fault X g A).mono (by decide)) (.cons ((c_pair_of X g A).mono (by decide)) .nil)))) .nil (.cons (A.btuple) .nil) (fun _ => ⟨A.err, rfl⟩) tread_form (fun ds M Q E _ h => pV Gread_form 6 Bread_form ds M Q E h)
theorem oformat_ways : scopeOk Nformat_ways ["paper"] (defScope sformat_ways) = true := by decide +kernel
theorem tformat_ways : chkSs (gtOf Gformat_ways) Nformat_ways (defScope sformat_ways) Bformat_ways (defBody sformat_ways) = true := by decide +kernel
theorem cformat_ways (X : K.In h) (g : h.Ns mainGlobals mg) (A : FA K) : Cal P w K mg base (XRof K) 3 "format_ways" 1 (spV Fformat_ways) :=
  cal_mk (G := gtOf Gformat_ways) X g A.dformat_ways oformat_ways rfl (fun _ _ _ _ _ _ us hl => match us, hl with | [_], _ => rfl) (.cons ((cform_lines X g A).mono (by decide)) .nil) (.cons (A.cPARTS) .nil) (.cons (A.brange) (.cons (A.blen) .nil)) (fun z => absurd z (by decide +kernel)) tformat_ways (fun ds M Q E _ h => pV Gformat_ways 4 Bformat_ways ds M Q E h)
theorem o_read_triple : scopeOk N_read_triple ["lines", "at"] (defScope s_read_triple) = true := by decide +kernel
theorem t_read_triple : chkSs (gtOf G_read_triple) N_read_triple (defScope s_read_triple) B_read_triple (defBody s_read_triple) = true := by decide +kernel
theorem c_read_triple (X : K.In h) (g : h.Ns mainGlobals mg) (A : FA K) : Cal P w K mg base (XRof K) 5 "_read_triple" 2 (spV F_read_triple) :=
  cal_mk (G := gtOf G_read_triple) X g A.d_read_triple o_read_triple rfl (fun _ _ _ _ _ _ us hl => match us, hl with | [_, _], _ => rfl) (.cons ((cwords_at X g A).mono (by decide)) (.cons ((cread_form X g A).mono (by decide)) .nil)) (.cons (A.cPARTS) .nil) (.cons (A.btuple) .nil) (fun _ => ⟨A.err, rfl⟩) t_read_triple (fun ds M Q E _ h => pV G_read_triple 4 B_read_triple ds M Q E h)
theorem oparse_ways : scopeOk Nparse_ways ["text"] (defScope sparse_ways) = true := by decide +kernel
theorem tparse_ways : chkSs (gtOf Gparse_ways) Nparse_ways (defScope sparse_ways) Bparse_ways (defBody sparse_ways) = true := by decide +kernel
theorem cparse_ways (X : K.In h) (g : h.Ns mainGlobals mg) (A : FA K) : Cal P w K mg base (XRof K) 6 "parse_ways" 1 (spV Fparse_ways) :=
  cal_mk (G := gtOf Gparse_ways) X g A.dparse_ways oparse_ways rfl (fun _ _ _ _ _ _ us hl => match us, hl with | [_], _ => rfl) (.cons ((cbegin X g A).mono (by decide)) (.cons ((cwords_at X g A).mono (by decide)) (.cons ((c_read_triple X g A).mono (by decide)) (.cons ((cfinish X g A).mono (by decide)) .nil)))) (.cons (A.cMAX_OFFICES) (.cons (A.cPARTS) .nil)) (.cons (A.blen) (.cons (A.btuple) .nil)) (fun _ => ⟨A.err, rfl⟩) tparse_ways (fun ds M Q E _ h => pV Gparse_ways 4 Bparse_ways ds M Q E h)
theorem oformat_way_claim : scopeOk Nformat_way_claim ["claim"] (defScope sformat_way_claim) = true := by decide +kernel
theorem tformat_way_claim : chkSs (gtOf Gformat_way_claim) Nformat_way_claim (defScope sformat_way_claim) Bformat_way_claim (defBody sformat_way_claim) = true := by decide +kernel
theorem cformat_way_claim (X : K.In h) (g : h.Ns mainGlobals mg) (A : FA K) : Cal P w K mg base (XRof K) 1 "format_way_claim" 1 (spV Fformat_way_claim) :=
  cal_mk (G := gtOf Gformat_way_claim) X g A.dformat_way_claim oformat_way_claim rfl (fun _ _ _ _ _ _ us hl => match us, hl with | [_], _ => rfl) .nil .nil (.cons (A.bstr) .nil) (fun z => absurd z (by decide +kernel)) tformat_way_claim (fun ds M Q E _ h => pV Gformat_way_claim 2 Bformat_way_claim ds M Q E h)
theorem oparse_way_claim : scopeOk Nparse_way_claim ["text"] (defScope sparse_way_claim) = true := by decide +kernel
theorem tparse_way_claim : chkSs (gtOf Gparse_way_claim) Nparse_way_claim (defScope sparse_way_claim) Bparse_way_claim (defBody sparse_way_claim) = true := by decide +kernel
theorem cparse_way_claim (X : K.In h) (g : h.Ns mainGlobals mg) (A : FA K) : Cal P w K mg base (XRof K) 4 "parse_way_claim" 1 (spV Fparse_way_claim) :=
  cal_mk (G := gtOf Gparse_way_claim) X g A.dparse_way_claim oparse_way_claim rfl (fun _ _ _ _ _ _ us hl => match us, hl with | [_], _ => rfl) (.cons ((cwords_at X g A).mono (by decide)) (.cons ((cinteger_of X g A).mono (by decide)) (.cons ((cis_integer X g A).mono (by decide)) (.cons ((cis_name X g A).mono (by decide)) (.cons ((cfinish X g A).mono (by decide)) .nil))))) .nil (.cons (A.blen) (.cons (A.ball) (.cons (A.bisinstance) (.cons (A.bstr) .nil)))) (fun _ => ⟨A.err, rfl⟩) tparse_way_claim (fun ds M Q E _ h => pV Gparse_way_claim 5 Bparse_way_claim ds M Q E h)
theorem o_law_state : scopeOk N_law_state ["script"] (defScope s_law_state) = true := by decide +kernel
theorem t_law_state : chkSs (gtOf G_law_state) N_law_state (defScope s_law_state) B_law_state (defBody s_law_state) = true := by decide +kernel
theorem c_law_state (X : K.In h) (g : h.Ns mainGlobals mg) (A : FA K) : Cal P w K mg base (XRof K) 1 "_law_state" 1 (spV F_law_state) :=
  cal_mk (G := gtOf G_law_state) X g A.d_law_state o_law_state rfl (fun _ _ _ _ _ _ us hl => match us, hl with | [_], _ => rfl) .nil .nil (.cons (A.blist) .nil) (fun z => absurd z (by decide +kernel)) t_law_state (fun ds M Q E _ h => pV G_law_state 1 B_law_state ds M Q E h)
theorem o_law_draw : scopeOk N_law_draw ["state", "limit"] (defScope s_law_draw) = true := by decide +kernel
theorem t_law_draw : chkSs (gtOf G_law_draw) N_law_draw (defScope s_law_draw) B_law_draw (defBody s_law_draw) = true := by decide +kernel
theorem c_law_draw (X : K.In h) (g : h.Ns mainGlobals mg) (A : FA K) : Cal P w K mg base (XRof K) 1 "_law_draw" 2 (spV F_law_draw) :=
  cal_mk (G := gtOf G_law_draw) X g A.d_law_draw o_law_draw rfl (fun _ _ _ _ _ _ us hl => match us, hl with | [_, _], _ => rfl) .nil .nil (.cons (A.blen) (.cons (A.bint) .nil)) (fun z => absurd z (by decide +kernel)) t_law_draw (fun ds M Q E _ h => pV G_law_draw 5 B_law_draw ds M Q E h)
theorem o_law_number : scopeOk N_law_number ["state"] (defScope s_law_number) = true := by decide +kernel
theorem t_law_number : chkSs (gtOf G_law_number) N_law_number (defScope s_law_number) B_law_number (defBody s_law_number) = true := by decide +kernel
theorem c_law_number (X : K.In h) (g : h.Ns mainGlobals mg) (A : FA K) : Cal P w K mg base (XRof K) 2 "_law_number" 1 (spV F_law_number) :=
  cal_mk (G := gtOf G_law_number) X g A.d_law_number o_law_number rfl (fun _ _ _ _ _ _ us hl => match us, hl with | [_], _ => rfl) (.cons ((c_law_draw X g A).mono (by decide)) .nil) .nil .nil (fun z => absurd z (by decide +kernel)) t_law_number (fun ds M Q E _ h => pV G_law_number 2 B_law_number ds M Q E h)
theorem o_law_name : scopeOk N_law_name ["state"] (defScope s_law_name) = true := by decide +kernel
theorem t_law_name : chkSs (gtOf G_law_name) N_law_name (defScope s_law_name) B_law_name (defBody s_law_name) = true := by decide +kernel
theorem c_law_name (X : K.In h) (g : h.Ns mainGlobals mg) (A : FA K) : Cal P w K mg base (XRof K) 2 "_law_name" 1 (spV F_law_name) :=
  cal_mk (G := gtOf G_law_name) X g A.d_law_name o_law_name rfl (fun _ _ _ _ _ _ us hl => match us, hl with | [_], _ => rfl) (.cons ((c_law_draw X g A).mono (by decide)) .nil) .nil (.cons (A.brange) .nil) (fun z => absurd z (by decide +kernel)) t_law_name (fun ds M Q E _ h => pV G_law_name 5 B_law_name ds M Q E h)
theorem o_law_word : scopeOk N_law_word ["value"] (defScope s_law_word) = true := by decide +kernel
theorem t_law_word : chkSs (gtOf G_law_word) N_law_word (defScope s_law_word) B_law_word (defBody s_law_word) = true := by decide +kernel
theorem c_law_word (X : K.In h) (g : h.Ns mainGlobals mg) (A : FA K) : Cal P w K mg base (XRof K) 1 "_law_word" 1 (spV F_law_word) :=
  cal_mk (G := gtOf G_law_word) X g A.d_law_word o_law_word rfl (fun _ _ _ _ _ _ us hl => match us, hl with | [_], _ => rfl) .nil .nil (.cons (A.bstr) .nil) (fun z => absurd z (by decide +kernel)) t_law_word (fun ds M Q E _ h => pV G_law_word 1 B_law_word ds M Q E h)
theorem o_law_form_lines : scopeOk N_law_form_lines ["form"] (defScope s_law_form_lines) = true := by decide +kernel
theorem t_law_form_lines : chkSs (gtOf G_law_form_lines) N_law_form_lines (defScope s_law_form_lines) B_law_form_lines (defBody s_law_form_lines) = true := by decide +kernel
theorem c_law_form_lines (X : K.In h) (g : h.Ns mainGlobals mg) (A : FA K) : Cal P w K mg base (XRof K) 2 "_law_form_lines" 1 (spV F_law_form_lines) :=
  cal_mk (G := gtOf G_law_form_lines) X g A.d_law_form_lines o_law_form_lines rfl (fun _ _ _ _ _ _ us hl => match us, hl with | [_], _ => rfl) (.cons ((c_law_word X g A).mono (by decide)) .nil) .nil (.cons (A.bstr) (.cons (A.bint) .nil)) (fun z => absurd z (by decide +kernel)) t_law_form_lines (fun ds M Q E _ h => pV G_law_form_lines 5 B_law_form_lines ds M Q E h)
theorem o_law_long : scopeOk N_law_long ["state"] (defScope s_law_long) = true := by decide +kernel
theorem t_law_long : chkSs (gtOf G_law_long) N_law_long (defScope s_law_long) B_law_long (defBody s_law_long) = true := by decide +kernel
theorem c_law_long (X : K.In h) (g : h.Ns mainGlobals mg) (A : FA K) : Cal P w K mg base (XRof K) 3 "_law_long" 1 (spV F_law_long) :=
  cal_mk (G := gtOf G_law_long) X g A.d_law_long o_law_long rfl (fun _ _ _ _ _ _ us hl => match us, hl with | [_], _ => rfl) (.cons ((c_law_draw X g A).mono (by decide)) (.cons ((c_law_number X g A).mono (by decide)) .nil)) .nil .nil (fun z => absurd z (by decide +kernel)) t_law_long (fun ds M Q E _ h => pV G_law_long 2 B_law_long ds M Q E h)
theorem o_law_text_form : scopeOk N_law_text_form ["state"] (defScope s_law_text_form) = true := by decide +kernel
theorem t_law_text_form : chkSs (gtOf G_law_text_form) N_law_text_form (defScope s_law_text_form) B_law_text_form (defBody s_law_text_form) = true := by decide +kernel
theorem c_law_text_form (X : K.In h) (g : h.Ns mainGlobals mg) (A : FA K) : Cal P w K mg base (XRof K) 4 "_law_text_form" 1 (spV F_law_text_form) :=
  cal_mk (G := gtOf G_law_text_form) X g A.d_law_text_form o_law_text_form rfl (fun _ _ _ _ _ _ us hl => match us, hl with | [_], _ => rfl) (.cons ((c_law_draw X g A).mono (by decide)) (.cons ((c_law_long X g A).mono (by decide)) .nil)) .nil (.cons (A.brange) (.cons (A.bint) (.cons (A.btuple) .nil))) (fun z => absurd z (by decide +kernel)) t_law_text_form (fun ds M Q E _ h => pV G_law_text_form 4 B_law_text_form ds M Q E h)
theorem o_law_paper : scopeOk N_law_paper ["state", "count"] (defScope s_law_paper) = true := by decide +kernel
theorem t_law_paper : chkSs (gtOf G_law_paper) N_law_paper (defScope s_law_paper) B_law_paper (defBody s_law_paper) = true := by decide +kernel
theorem c_law_paper (X : K.In h) (g : h.Ns mainGlobals mg) (A : FA K) : Cal P w K mg base (XRof K) 5 "_law_paper" 2 (spV F_law_paper) :=
  cal_mk (G := gtOf G_law_paper) X g A.d_law_paper o_law_paper rfl (fun _ _ _ _ _ _ us hl => match us, hl with | [_, _], _ => rfl) (.cons ((c_law_text_form X g A).mono (by decide)) .nil) .nil (.cons (A.brange) (.cons (A.btuple) .nil)) (fun z => absurd z (by decide +kernel)) t_law_paper (fun ds M Q E _ h => pV G_law_paper 4 B_law_paper ds M Q E h)
theorem o_law_lines : scopeOk N_law_lines ["paper"] (defScope s_law_lines) = true := by decide +kernel
theorem t_law_lines : chkSs (gtOf G_law_lines) N_law_lines (defScope s_law_lines) B_law_lines (defBody s_law_lines) = true := by decide +kernel
theorem c_law_lines (X : K.In h) (g : h.Ns mainGlobals mg) (A : FA K) : Cal P w K mg base (XRof K) 3 "_law_lines" 1 (spV F_law_lines) :=
  cal_mk (G := gtOf G_law_lines) X g A.d_law_lines o_law_lines rfl (fun _ _ _ _ _ _ us hl => match us, hl with | [_], _ => rfl) (.cons ((c_law_form_lines X g A).mono (by decide)) .nil) .nil (.cons (A.brange) .nil) (fun z => absurd z (by decide +kernel)) t_law_lines (fun ds M Q E _ h => pV G_law_lines 4 B_law_lines ds M Q E h)
theorem o_law_read : scopeOk N_law_read ["word", "lines"] (defScope s_law_read) = true := by decide +kernel
theorem t_law_read : chkSs (gtOf G_law_read) N_law_read (defScope s_law_read) B_law_read (defBody s_law_read) = true := by decide +kernel
theorem c_law_read (X : K.In h) (g : h.Ns mainGlobals mg) (A : FA K) : Cal P w K mg base (XRof K) 7 "_law_read" 2 (spV F_law_read) :=
  cal_mk (G := gtOf G_law_read) X g A.d_law_read o_law_read rfl (fun _ _ _ _ _ _ us hl => match us, hl with | [_, _], _ => rfl) (.cons ((cparse_ways X g A).mono (by decide)) (.cons ((cparse_way_claim X g A).mono (by decide)) .nil)) .nil .nil (fun _ => ⟨A.err, rfl⟩) t_law_read (fun ds M Q E _ h => pV G_law_read 3 B_law_read ds M Q E h)
theorem o_law_refused : scopeOk N_law_refused ["word", "lines", "due"] (defScope s_law_refused) = true := by decide +kernel
theorem t_law_refused : chkSs (gtOf G_law_refused) N_law_refused (defScope s_law_refused) B_law_refused (defBody s_law_refused) = true := by decide +kernel
theorem c_law_refused (X : K.In h) (g : h.Ns mainGlobals mg) (A : FA K) : Cal P w K mg base (XRof K) 8 "_law_refused" 3 (spV F_law_refused) :=
  cal_mk (G := gtOf G_law_refused) X g A.d_law_refused o_law_refused rfl (fun _ _ _ _ _ _ us hl => match us, hl with | [_, _, _], _ => rfl) (.cons ((c_law_read X g A).mono (by decide)) .nil) .nil (.cons (A.bisinstance) (.cons (A.bint) (.cons (A.bbool) .nil))) (fun z => absurd z (by decide +kernel)) t_law_refused (fun ds M Q E _ h => pV G_law_refused 5 B_law_refused ds M Q E h)
theorem o_law_wrong_line : scopeOk N_law_wrong_line ["state"] (defScope s_law_wrong_line) = true := by decide +kernel
theorem t_law_wrong_line : chkSs (gtOf G_law_wrong_line) N_law_wrong_line (defScope s_law_wrong_line) B_law_wrong_line (defBody s_law_wrong_line) = true := by decide +kernel
theorem c_law_wrong_line (X : K.In h) (g : h.Ns mainGlobals mg) (A : FA K) : Cal P w K mg base (XRof K) 2 "_law_wrong_line" 1 (spV F_law_wrong_line) :=
  cal_mk (G := gtOf G_law_wrong_line) X g A.d_law_wrong_line o_law_wrong_line rfl (fun _ _ _ _ _ _ us hl => match us, hl with | [_], _ => rfl) (.cons ((c_law_draw X g A).mono (by decide)) .nil) .nil (.cons (A.blen) .nil) (fun z => absurd z (by decide +kernel)) t_law_wrong_line (fun ds M Q E _ h => pV G_law_wrong_line 2 B_law_wrong_line ds M Q E h)
theorem o_law_paper_holds : scopeOk N_law_paper_holds ["state", "paper"] (defScope s_law_paper_holds) = true := by decide +kernel
theorem t_law_paper_holds : chkSs (gtOf G_law_paper_holds) N_law_paper_holds (defScope s_law_paper_holds) B_law_paper_holds (defBody s_law_paper_holds) = true := by decide +kernel
theorem c_law_paper_holds (X : K.In h) (g : h.Ns mainGlobals mg) (A : FA K) : Cal P w K mg base (XRof K) 9 "_law_paper_holds" 2 (spV F_law_paper_holds) :=
  cal_mk (G := gtOf G_law_paper_holds) X g A.d_law_paper_holds o_law_paper_holds rfl (fun _ _ _ _ _ _ us hl => match us, hl with | [_, _], _ => rfl) (.cons ((c_law_lines X g A).mono (by decide)) (.cons ((c_law_read X g A).mono (by decide)) (.cons ((cformat_ways X g A).mono (by decide)) (.cons ((c_law_draw X g A).mono (by decide)) (.cons ((c_law_refused X g A).mono (by decide)) (.cons ((c_law_wrong_line X g A).mono (by decide)) .nil)))))) .nil (.cons (A.bisinstance) (.cons (A.bstr) (.cons (A.blen) (.cons (A.brange) (.cons (A.bint) .nil))))) (fun z => absurd z (by decide +kernel)) t_law_paper_holds (fun ds M Q E _ h => pV G_law_paper_holds 12 B_law_paper_holds ds M Q E h)
theorem o_law_claim : scopeOk N_law_claim ["state"] (defScope s_law_claim) = true := by decide +kernel
theorem t_law_claim : chkSs (gtOf G_law_claim) N_law_claim (defScope s_law_claim) B_law_claim (defBody s_law_claim) = true := by decide +kernel
theorem c_law_claim (X : K.In h) (g : h.Ns mainGlobals mg) (A : FA K) : Cal P w K mg base (XRof K) 4 "_law_claim" 1 (spV F_law_claim) :=
  cal_mk (G := gtOf G_law_claim) X g A.d_law_claim o_law_claim rfl (fun _ _ _ _ _ _ us hl => match us, hl with | [_], _ => rfl) (.cons ((c_law_name X g A).mono (by decide)) (.cons ((c_law_draw X g A).mono (by decide)) (.cons ((c_law_long X g A).mono (by decide)) .nil))) .nil (.cons (A.brange) (.cons (A.babs) .nil)) (fun z => absurd z (by decide +kernel)) t_law_claim (fun ds M Q E _ h => pV G_law_claim 5 B_law_claim ds M Q E h)
theorem o_law_claim_holds : scopeOk N_law_claim_holds ["state", "claim"] (defScope s_law_claim_holds) = true := by decide +kernel
theorem t_law_claim_holds : chkSs (gtOf G_law_claim_holds) N_law_claim_holds (defScope s_law_claim_holds) B_law_claim_holds (defBody s_law_claim_holds) = true := by decide +kernel
theorem c_law_claim_holds (X : K.In h) (g : h.Ns mainGlobals mg) (A : FA K) : Cal P w K mg base (XRof K) 9 "_law_claim_holds" 2 (spV F_law_claim_holds) :=
  cal_mk (G := gtOf G_law_claim_holds) X g A.d_law_claim_holds o_law_claim_holds rfl (fun _ _ _ _ _ _ us hl => match us, hl with | [_, _], _ => rfl) (.cons ((c_law_read X g A).mono (by decide)) (.cons ((cformat_way_claim X g A).mono (by decide)) (.cons ((c_law_draw X g A).mono (by decide)) (.cons ((c_law_refused X g A).mono (by decide)) .nil)))) .nil (.cons (A.bstr) (.cons (A.bisinstance) (.cons (A.blen) .nil))) (fun z => absurd z (by decide +kernel)) t_law_claim_holds (fun ds M Q E _ h => pV G_law_claim_holds 10 B_law_claim_holds ds M Q E h)
theorem olaw : scopeOk Nlaw ["script"] (defScope slaw) = true := by decide +kernel
theorem tlaw : chkSs (gtOf Glaw) Nlaw (defScope slaw) Blaw (defBody slaw) = true := by decide +kernel
theorem claw (X : K.In h) (g : h.Ns mainGlobals mg) (A : FA K) {f : Addr} {fd : FuncData} (F : Fun K "law" "law" slaw f fd) : FnOk P w K mg base (L2.CX P w) 10 f fd ["script"] (liftSp K (XRof K) 1 (spV Flaw)) :=
  law_mk (G := gtOf Glaw) X g F olaw rfl (.cons ((c_law_state X g A).mono (by decide)) (.cons ((c_law_paper X g A).mono (by decide)) (.cons ((c_law_draw X g A).mono (by decide)) (.cons ((c_law_paper_holds X g A).mono (by decide)) (.cons ((c_law_claim_holds X g A).mono (by decide)) (.cons ((c_law_claim X g A).mono (by decide)) (.cons ((c_law_refused X g A).mono (by decide)) .nil))))))) .nil (.cons (A.brange) .nil) (fun z => absurd z (by decide +kernel)) tlaw (fun ds M Q E _ h => pV Glaw 4 Blaw ds M Q E h)
end
theorem law_end2 {FAx : PySem.W.Frag → Prop} {l : PySem.W.OpenLaw} {n k : Nat} {q : Program} {loose : List Str} {XP : (Str → Option Value) → Heap → Prop} {YP : World → Heap → Prop} {d : DefRec} {K : Params → PySem.W.Frag} {sp : Sp3} {st : Stmt}
    (hd : d.name = "law") (hn : l.most = some n) (hn2 : n ≤ sizeLine) (hdf : d.params.defaults = []) (hr : Room k callerA) (hY : ∀ (w : World) (h : Heap), YP w h → (K w.params).In h)
    (hb : ∀ (s : Shared) (u kV doc pm : Value) (an : Option Addr) (cdv ct : Value), BindsTo s (PySem.W.fnOf "law" "law" (defArgs st) (defBody st) (defScope st) .none kV doc pm an cdv ct) ⟨[u], []⟩ [("script", u)])
    (dd : ∀ K, FAx K → DF K "law" st)
    (C : ∀ (w : World) (mg : Str → Option Value) (base h : Heap), (K w.params).In h → h.Ns mainGlobals mg → FAx (K w.params) → ∀ f fd, Fun (K w.params) "law" "law" st f fd → FnOk l.prog w (K w.params) mg base (L2.CX l.prog w) k f fd ["script"] (liftSp (K w.params) (XRof (K w.params)) 1 sp))
    (hsp : ∀ ns : List Int, ns.length ≤ n → sp [.flst (ns.map D.int)] M00 (fun v _ => v = .bl true) noX) (A : ∀ w : World, FAx (K w.params)) : PySem.W.WalkO q loose XP YP l.row.toRowW d [] (fun f vs => PySem.call f vs) :=
  law_end (XR := fun w => XRof (K w.params)) hd hn hn2 hdf hr hY hb (fun w => dd _ (A w)) (fun w mg base h KX G f fd F => C w mg base h KX G (A w) f fd F) hsp
end K92
open PySem PySem.W PyProof.Rows
set_option maxHeartbeats 0 in
theorem PySem.Challenge.cw_letterways_k92_whole_texts_of_ways_and_t_holds : PySem.Challenge.rw_letterways_k92_whole_texts_of_ways_and_t.Holds :=
  by
  w_on; o_law; k_head; (case hw => w_witness2)
  k_fill
  refine' K92.law_end2 (FAx := K92.FA) (l := PySem.Challenge.rw_letterways_k92_whole_texts_of_ways_and_t) (n := 63) (k := 10) (sp := Z.spV K92.Flaw) (st := K92.slaw) rfl rfl (by decide) rfl ⟨rfl, by decide, by decide⟩ (fun w h Y => PySem.W.kIn_of Y) (fun _ _ _ _ _ _ _ _ => .of_eq rfl) (fun _ A => A.dlaw) (fun w mg base h KX G A f fd F => K92.claw KX G A F) (fun ns hl => K92.lawHolds ns hl) ?A
  case A =>
    intro w
    refine' K92.FA.mk ?dis_integer ?dis_name ?dis_figures ?dis_bound ?d_is_pair ?dform_fault ?dwords_of ?dinteger_of ?doptional_of ?doptional_word ?dwords_at ?dbegin ?dfinish ?d_pair_word ?dform_lines ?d_pair_of ?dread_form ?dformat_ways ?d_read_triple ?dparse_ways ?dformat_way_claim ?dparse_way_claim ?d_law_state ?d_law_draw ?d_law_number ?d_law_name ?d_law_word ?d_law_form_lines ?d_law_long ?d_law_text_form ?d_law_paper ?d_law_lines ?d_law_read ?d_law_refused ?d_law_wrong_line ?d_law_paper_holds ?d_law_claim ?d_law_claim_holds ?dlaw ?cMAX_HEAD ?cMAX_OFFICES ?cMAX_PERIOD ?cMAX_SIGNS ?cPARTS ?babs ?ball ?bbool ?bint ?bisinstance ?blen ?blist ?brange ?bstr ?btuple ?err
    case dis_integer => (refine' Z.DF.mk ?a ?l ?c ?k; (case a => k_is); (case l => k_is); (case c => k_is); (case k => k_is))
    case dis_name => (refine' Z.DF.mk ?a ?l ?c ?k; (case a => k_is); (case l => k_is); (case c => k_is); (case k => k_is))
    case dis_figures => (refine' Z.DF.mk ?a ?l ?c ?k; (case a => k_is); (case l => k_is); (case c => k_is); (case k => k_is))
    case dis_bound => (refine' Z.DF.mk ?a ?l ?c ?k; (case a => k_is); (case l => k_is); (case c => k_is); (case k => k_is))
    case d_is_pair => (refine' Z.DF.mk ?a ?l ?c ?k; (case a => k_is); (case l => k_is); (case c => k_is); (case k => k_is))
    case dform_fault => (refine' Z.DF.mk ?a ?l ?c ?k; (case a => k_is); (case l => k_is); (case c => k_is); (case k => k_is))
    case dwords_of => (refine' Z.DF.mk ?a ?l ?c ?k; (case a => k_is); (case l => k_is); (case c => k_is); (case k => k_is))
    case dinteger_of => (refine' Z.DF.mk ?a ?l ?c ?k; (case a => k_is); (case l => k_is); (case c => k_is); (case k => k_is))
    case doptional_of => (refine' Z.DF.mk ?a ?l ?c ?k; (case a => k_is); (case l => k_is); (case c => k_is); (case k => k_is))
    case doptional_word => (refine' Z.DF.mk ?a ?l ?c ?k; (case a => k_is); (case l => k_is); (case c => k_is); (case k => k_is))
    case dwords_at => (refine' Z.DF.mk ?a ?l ?c ?k; (case a => k_is); (case l => k_is); (case c => k_is); (case k => k_is))
    case dbegin => (refine' Z.DF.mk ?a ?l ?c ?k; (case a => k_is); (case l => k_is); (case c => k_is); (case k => k_is))
    case dfinish => (refine' Z.DF.mk ?a ?l ?c ?k; (case a => k_is); (case l => k_is); (case c => k_is); (case k => k_is))
    case d_pair_word => (refine' Z.DF.mk ?a ?l ?c ?k; (case a => k_is); (case l => k_is); (case c => k_is); (case k => k_is))
    case dform_lines => (refine' Z.DF.mk ?a ?l ?c ?k; (case a => k_is); (case l => k_is); (case c => k_is); (case k => k_is))
    case d_pair_of => (refine' Z.DF.mk ?a ?l ?c ?k; (case a => k_is); (case l => k_is); (case c => k_is); (case k => k_is))
    case dread_form => (refine' Z.DF.mk ?a ?l ?c ?k; (case a => k_is); (case l => k_is); (case c => k_is); (case k => k_is))
    case dformat_ways => (refine' Z.DF.mk ?a ?l ?c ?k; (case a => k_is); (case l => k_is); (case c => k_is); (case k => k_is))
    case d_read_triple => (refine' Z.DF.mk ?a ?l ?c ?k; (case a => k_is); (case l => k_is); (case c => k_is); (case k => k_is))
    case dparse_ways => (refine' Z.DF.mk ?a ?l ?c ?k; (case a => k_is); (case l => k_is); (case c => k_is); (case k => k_is))
    case dformat_way_claim => (refine' Z.DF.mk ?a ?l ?c ?k; (case a => k_is); (case l => k_is); (case c => k_is); (case k => k_is))
    case dparse_way_claim => (refine' Z.DF.mk ?a ?l ?c ?k; (case a => k_is); (case l => k_is); (case c => k_is); (case k => k_is))
    case d_law_state => (refine' Z.DF.mk ?a ?l ?c ?k; (case a => k_is); (case l => k_is); (case c => k_is); (case k => k_is))
    case d_law_draw => (refine' Z.DF.mk ?a ?l ?c ?k; (case a => k_is); (case l => k_is); (case c => k_is); (case k => k_is))
    case d_law_number => (refine' Z.DF.mk ?a ?l ?c ?k; (case a => k_is); (case l => k_is); (case c => k_is); (case k => k_is))
    case d_law_name => (refine' Z.DF.mk ?a ?l ?c ?k; (case a => k_is); (case l => k_is); (case c => k_is); (case k => k_is))
    case d_law_word => (refine' Z.DF.mk ?a ?l ?c ?k; (case a => k_is); (case l => k_is); (case c => k_is); (case k => k_is))
    case d_law_form_lines => (refine' Z.DF.mk ?a ?l ?c ?k; (case a => k_is); (case l => k_is); (case c => k_is); (case k => k_is))
    case d_law_long => (refine' Z.DF.mk ?a ?l ?c ?k; (case a => k_is); (case l => k_is); (case c => k_is); (case k => k_is))
    case d_law_text_form => (refine' Z.DF.mk ?a ?l ?c ?k; (case a => k_is); (case l => k_is); (case c => k_is); (case k => k_is))
    case d_law_paper => (refine' Z.DF.mk ?a ?l ?c ?k; (case a => k_is); (case l => k_is); (case c => k_is); (case k => k_is))
    case d_law_lines => (refine' Z.DF.mk ?a ?l ?c ?k; (case a => k_is); (case l => k_is); (case c => k_is); (case k => k_is))
    case d_law_read => (refine' Z.DF.mk ?a ?l ?c ?k; (case a => k_is); (case l => k_is); (case c => k_is); (case k => k_is))
    case d_law_refused => (refine' Z.DF.mk ?a ?l ?c ?k; (case a => k_is); (case l => k_is); (case c => k_is); (case k => k_is))
    case d_law_wrong_line => (refine' Z.DF.mk ?a ?l ?c ?k; (case a => k_is); (case l => k_is); (case c => k_is); (case k => k_is))
    case d_law_paper_holds => (refine' Z.DF.mk ?a ?l ?c ?k; (case a => k_is); (case l => k_is); (case c => k_is); (case k => k_is))
    case d_law_claim => (refine' Z.DF.mk ?a ?l ?c ?k; (case a => k_is); (case l => k_is); (case c => k_is); (case k => k_is))
    case d_law_claim_holds => (refine' Z.DF.mk ?a ?l ?c ?k; (case a => k_is); (case l => k_is); (case c => k_is); (case k => k_is))
    case dlaw => (refine' Z.DF.mk ?a ?l ?c ?k; (case a => k_is); (case l => k_is); (case c => k_is); (case k => k_is))
    case cMAX_HEAD => (refine' Z.DC.int ?h ?r; (case h => k_is); (case r => exact ⟨_, rfl⟩))
    case cMAX_OFFICES => (refine' Z.DC.int ?h ?r; (case h => k_is); (case r => exact ⟨_, rfl⟩))
    case cMAX_PERIOD => (refine' Z.DC.int ?h ?r; (case h => k_is); (case r => exact ⟨_, rfl⟩))
    case cMAX_SIGNS => (refine' Z.DC.int ?h ?r; (case h => k_is); (case r => exact ⟨_, rfl⟩))
    case cPARTS => (refine' Z.DC.tup ?h ?l ?r; (case h => k_is); (case l => k_is); (case r => exact ⟨_, _, rfl, ⟨_, _, rfl, ⟨_, _, rfl, rfl⟩⟩⟩))
    case babs => (show PySem.W.nsIn _ _ _ = some none; k_is)
    case ball => (show PySem.W.nsIn _ _ _ = some none; k_is)
    case bbool => (show PySem.W.nsIn _ _ _ = some none; k_is)
    case bint => (show PySem.W.nsIn _ _ _ = some none; k_is)
    case bisinstance => (show PySem.W.nsIn _ _ _ = some none; k_is)
    case blen => (show PySem.W.nsIn _ _ _ = some none; k_is)
    case blist => (show PySem.W.nsIn _ _ _ = some none; k_is)
    case brange => (show PySem.W.nsIn _ _ _ = some none; k_is)
    case bstr => (show PySem.W.nsIn _ _ _ = some none; k_is)
    case btuple => (show PySem.W.nsIn _ _ _ = some none; k_is)
    case err => (refine' Z.DE.mk ?aC ?xL ?sa ?ga ?gg ?nb ?a1 ?t1 ?l1 ?c1 ?kC ?eC ?tC ?hC ?iC ?sC; (case aC => k_is); (case xL => k_is); (case sa => k_is); (case ga => k_is); (case gg => k_is); (case nb => k_is); (case a1 => k_is); (case t1 => k_is); (case l1 => k_is); (case c1 => k_is); (case kC => k_is); (case eC => k_is); (case tC => k_is); (case hC => k_is); (case iC => k_is); (case sC => first | rfl | k_is))

