import PyProof.Rows.All
import HandS.ForMost
import HandS.ForExc
import HandS.TupAny
import HandS.TupMul
import HandS.IsInst
import HandS.Deep
import HandS.Wide
import HandS.Style
import KE.DataCmp
import PyProof.StrBlock2
import KE.DataMinMax
import HandS.RaiseMore
import HandS.Text
import KE.SortCalls
import HandS.Conv
import HandS.More
import HandS.Small
import HandS.SetKeys
import HandS.Strs
import HandS.ForSpec
import Open.SpecLaws
import KE.OsGo
import HandS.TupSets
import HandS.FStr
import KE.IntTextLaws
import KE.IntBitsLaws
import PySem.Challenge.RW_letterways_k85_ways_of_one_letter
set_option Elab.async false
set_option linter.all false
set_option maxRecDepth 100000
set_option maxHeartbeats 2000000
namespace Z
open PySem PySem.Spec PyProof.Rows L2

/-- how a tuple stands: made and tracked; of the written part; made and known to its object -/
inductive TK where
  | t | s | k
  deriving DecidableEq, Inhabited
/-- data: tuples and frozen lists and dicts by their content, mutable things by their address -/
inductive D where
  | non
  | bl (b : Bool)
  | int (i : Int)
  | str (x : Str)
  | ref (a : Addr)
  | tp (k : TK) (ds : List D)
  | lst (ds : List D)
  | flst (ds : List D)
  | dK (ks : List Key) (ds : List D)
  | dT (ks : List (List Key)) (ds : List D)
  deriving Inhabited
abbrev D.tup (ds : List D) : D := .tp .t ds
/-- a mutable thing -/
inductive MO where
  | lst (ds : List D)
  | dK (kvs : List (Key × D))
  | dT (kvs : List (List Key × D))
  | ins (C : Addr) (fs : List (Str × D))
abbrev MH := Addr → Option MO
def up (M : MH) (a : Addr) (o : MO) : MH := fun b => if b = a then some o else M b
def er (M : MH) (a : Addr) : MH := fun b => if b = a then none else M b
@[simp] theorem up_same {M : MH} {a : Addr} {o : MO} : up M a o a = some o := by unfold up; rw [if_pos rfl]
theorem up_ne {M : MH} {a b : Addr} {o : MO} (h : b ≠ a) : up M a o b = M b := by unfold up; rw [if_neg h]
@[simp] theorem up_up {M : MH} {a : Addr} {o u : MO} : up (up M a o) a u = up M a u := by
  funext b; unfold up; split <;> rfl
theorem er_up {M : MH} {a : Addr} {o : MO} (h : M a = none) : er (up M a o) a = M := by
  funext b; unfold er up
  by_cases e : b = a
  · rw [if_pos e, e, h]
  · rw [if_neg e, if_neg e]

section
variable (K : PySem.W.Frag)
/-- a tuple, a list of the written part -/
def StT (a : Addr) (xs : List V) : Prop :=
  ∃ (o : Obj) (its : Array Value) (n : Nat), K.lookup a = some o ∧ o.cls = .type "tuple" ∧ o.data = .seq its n ∧ its.size ≤ sizeLine ∧ Vals xs its.toList
def TupR (M : MH) (H : Hp) (a : Addr) (vs : List V) : TK → Prop
  | .t => M a = none ∧ H a = some (.tup vs)
  | .s => StT K a vs
  | .k => ∃ o, M a = none ∧ H a = some (.frz o (.tup vs)) ∧ o.dict = none
/-- a list that stays: the script's, or one of the written part -/
def FlR (M : MH) (H : Hp) (a : Addr) (vs : List V) : Prop :=
  (∃ o, M a = none ∧ H a = some (.frz o (.lst vs))) ∨
    ∃ (o : Obj) (its : Array Value) (n : Nat), K.lookup a = some o ∧ o.cls = .type "list" ∧ o.dict = none ∧ o.data = .seq its n ∧ its.size ≤ sizeLine ∧ Vals vs its.toList
mutual
def Rp (M : MH) (H : Hp) : D → V → Prop
  | .non, v => v = .non
  | .bl b, v => v = .bl b
  | .int i, v => v = .int i
  | .str x, v => v = .str x
  | .ref a, v => v = .ref a
  | .tp k ds, v => ∃ a vs, v = .ref a ∧ TupR K M H a vs k ∧ RpL M H ds vs
  | .lst ds, v => ∃ a vs, v = .ref a ∧ M a = none ∧ H a = some (.lst vs) ∧ RpL M H ds vs
  | .flst ds, v => ∃ a vs, v = .ref a ∧ FlR K M H a vs ∧ RpL M H ds vs
  | .dK ks ds, v => ∃ a vs, v = .ref a ∧ M a = none ∧ Rd H a (.dK (ks.zip vs)) ∧ ks.length = ds.length ∧ RpL M H ds vs
  | .dT ks ds, v => ∃ a vs, v = .ref a ∧ M a = none ∧ Rd H a (.dT (ks.zip vs)) ∧ ks.length = ds.length ∧ RpL M H ds vs
def RpL (M : MH) (H : Hp) : List D → List V → Prop
  | [], vs => vs = []
  | d :: ds, vs => ∃ v r, vs = v :: r ∧ Rp M H d v ∧ RpL M H ds r
end
/-- nothing that stands unmarked is touched -/
def Ev (M : MH) (H : Hp) (M' : MH) (H' : Hp) : Prop := ∀ a o, H a = some o → M a = none → H' a = some o ∧ M' a = none
theorem Ev.refl (M : MH) (H : Hp) : Ev M H M H := fun _ _ h m => ⟨h, m⟩
theorem Ev.trans {M M1 M2 : MH} {H H1 H2 : Hp} (a : Ev M H M1 H1) (b : Ev M1 H1 M2 H2) : Ev M H M2 H2 := fun c o h m =>
  let ⟨h1, m1⟩ := a c o h m
  b c o h1 m1
variable {K}
theorem TupR.ev {M M' : MH} {H H' : Hp} (e : Ev M H M' H') {a : Addr} {vs : List V} {k : TK} (r : TupR K M H a vs k) : TupR K M' H' a vs k := by
  cases k with
  | t =>
    obtain ⟨g1, g2⟩ := e a _ r.2 r.1
    exact ⟨g2, g1⟩
  | s => exact r
  | k =>
    obtain ⟨o, h1, h2, h3⟩ := r
    obtain ⟨g1, g2⟩ := e a _ h2 h1
    exact ⟨o, g2, g1, h3⟩
theorem FlR.ev {M M' : MH} {H H' : Hp} (e : Ev M H M' H') {a : Addr} {vs : List V} (r : FlR K M H a vs) : FlR K M' H' a vs := by
  rcases r with ⟨o, h1, h2⟩ | r
  · obtain ⟨g1, g2⟩ := e a _ h2 h1
    exact .inl ⟨o, g2, g1⟩
  · exact .inr r
theorem FlR.sq {M : MH} {H : Hp} {a : Addr} {vs : List V} (r : FlR K M H a vs) : SqL K H a vs := by
  rcases r with ⟨o, h1, h2⟩ | r
  · exact .inl (.inr ⟨o, h2⟩)
  · exact .inr r
theorem TupR.sq {M : MH} {H : Hp} {a : Addr} {vs : List V} {k : TK} (r : TupR K M H a vs k) : SqT K H a vs := by
  cases k with
  | t => exact .inl (.inl r.2)
  | s => exact .inr r
  | k =>
    obtain ⟨o, h1, h2, h3⟩ := r
    exact .inl (.inr ⟨o, h2⟩)
theorem Rd.ev {M M' : MH} {H H' : Hp} (e : Ev M H M' H') {a : Addr} {u : HO} (m : M a = none) (r : Rd H a u) : Rd H' a u ∧ M' a = none := by
  rcases r with h | ⟨o, h⟩
  · obtain ⟨g1, g2⟩ := e a _ h m
    exact ⟨.inl g1, g2⟩
  · obtain ⟨g1, g2⟩ := e a _ h m
    exact ⟨.inr ⟨o, g1⟩, g2⟩
mutual
theorem Rp.ev {M M' : MH} {H H' : Hp} (e : Ev M H M' H') : ∀ (d : D) (v : V), Rp K M H d v → Rp K M' H' d v
  | .non, _, h => h
  | .bl _, _, h => h
  | .int _, _, h => h
  | .str _, _, h => h
  | .ref _, _, h => h
  | .tp k ds, v, h => by
    obtain ⟨a, vs, h1, h2, h3⟩ := h
    exact ⟨a, vs, h1, h2.ev e, RpL.ev e ds vs h3⟩
  | .lst ds, v, h => by
    obtain ⟨a, vs, h1, h2, h3, h4⟩ := h
    obtain ⟨g1, g2⟩ := e a _ h3 h2
    exact ⟨a, vs, h1, g2, g1, RpL.ev e ds vs h4⟩
  | .flst ds, v, h => by
    obtain ⟨a, vs, h1, h2, h3⟩ := h
    exact ⟨a, vs, h1, h2.ev e, RpL.ev e ds vs h3⟩
  | .dK ks ds, v, h => by
    obtain ⟨a, vs, h1, h2, h3, h4, h5⟩ := h
    obtain ⟨g1, g2⟩ := Rd.ev e h2 h3
    exact ⟨a, vs, h1, g2, g1, h4, RpL.ev e ds vs h5⟩
  | .dT ks ds, v, h => by
    obtain ⟨a, vs, h1, h2, h3, h4, h5⟩ := h
    obtain ⟨g1, g2⟩ := Rd.ev e h2 h3
    exact ⟨a, vs, h1, g2, g1, h4, RpL.ev e ds vs h5⟩
theorem RpL.ev {M M' : MH} {H H' : Hp} (e : Ev M H M' H') : ∀ (ds : List D) (vs : List V), RpL K M H ds vs → RpL K M' H' ds vs
  | [], _, h => h
  | d :: ds, vs, h => by
    obtain ⟨v, r, h1, h2, h3⟩ := h
    exact ⟨v, r, h1, Rp.ev e d v h2, RpL.ev e ds r h3⟩
end
theorem RpL.length {M : MH} {H : Hp} : ∀ {ds : List D} {vs : List V}, RpL K M H ds vs → vs.length = ds.length
  | [], _, h => by
    have h : _ = [] := h
    subst h; rfl
  | d :: ds, vs, h => by
    obtain ⟨v, r, h1, h2, h3⟩ := h
    subst h1
    simp only [List.length_cons, RpL.length h3]
theorem RpL.get {M : MH} {H : Hp} : ∀ {ds : List D} {vs : List V} {i : Nat} {d : D}, RpL K M H ds vs → ds[i]? = some d → ∃ v, vs[i]? = some v ∧ Rp K M H d v
  | [], _, _, _, _, e => by simp at e
  | d :: ds, vs, 0, d', h, e => by
    obtain ⟨v, r, h1, h2, h3⟩ := h
    subst h1
    have e' : d = d' := by simpa using e
    subst e'
    exact ⟨v, rfl, h2⟩
  | d :: ds, vs, i + 1, d', h, e => by
    obtain ⟨v, r, h1, h2, h3⟩ := h
    subst h1
    obtain ⟨w, e1, e2⟩ := RpL.get (i := i) h3 (by simpa using e)
    exact ⟨w, by simpa using e1, e2⟩
theorem RpL.get' {M : MH} {H : Hp} {ds : List D} {vs : List V} {i : Nat} {v : V} (h : RpL K M H ds vs) (e : vs[i]? = some v) : ∃ d, ds[i]? = some d ∧ Rp K M H d v := by
  have hl := h.length
  obtain ⟨h1, h2⟩ := List.getElem?_eq_some_iff.mp e
  have h3 : i < ds.length := by omega
  obtain ⟨w, e1, e2⟩ := h.get (List.getElem?_eq_getElem h3)
  rw [e] at e1
  cases e1
  exact ⟨_, List.getElem?_eq_getElem h3, e2⟩
theorem RpL.append {M : MH} {H : Hp} : ∀ {ds es : List D} {vs ws : List V}, RpL K M H ds vs → RpL K M H es ws → RpL K M H (ds ++ es) (vs ++ ws)
  | [], _, _, _, h, g => by
    have h : _ = [] := h
    subst h; exact g
  | d :: ds, es, vs, ws, h, g => by
    obtain ⟨v, r, h1, h2, h3⟩ := h
    subst h1
    exact ⟨v, r ++ ws, rfl, h2, RpL.append h3 g⟩
theorem RpL.take {M : MH} {H : Hp} : ∀ (n : Nat) {ds : List D} {vs : List V}, RpL K M H ds vs → RpL K M H (ds.take n) (vs.take n)
  | 0, _, _, _ => by simp [RpL]
  | n + 1, [], _, h => by
    have h : _ = [] := h
    subst h; simp [RpL]
  | n + 1, d :: ds, vs, h => by
    obtain ⟨v, r, h1, h2, h3⟩ := h
    subst h1
    exact ⟨v, r.take n, rfl, h2, RpL.take n h3⟩
theorem RpL.drop {M : MH} {H : Hp} : ∀ (n : Nat) {ds : List D} {vs : List V}, RpL K M H ds vs → RpL K M H (ds.drop n) (vs.drop n)
  | 0, _, _, h => h
  | n + 1, [], _, h => by
    have h : _ = [] := h
    subst h; simp [RpL]
  | n + 1, d :: ds, vs, h => by
    obtain ⟨v, r, h1, h2, h3⟩ := h
    subst h1
    exact RpL.drop n h3
theorem RpL.set {M : MH} {H : Hp} {d : D} {v : V} (hd : Rp K M H d v) : ∀ (i : Nat) {ds : List D} {vs : List V}, RpL K M H ds vs → RpL K M H (ds.set i d) (vs.set i v)
  | _, [], _, h => by
    have h : _ = [] := h
    subst h; simp [RpL]
  | 0, d' :: ds, vs, h => by
    obtain ⟨w, r, h1, h2, h3⟩ := h
    subst h1
    exact ⟨v, r, rfl, hd, h3⟩
  | i + 1, d' :: ds, vs, h => by
    obtain ⟨w, r, h1, h2, h3⟩ := h
    subst h1
    exact ⟨w, r.set i v, rfl, h2, RpL.set hd i h3⟩
theorem RpL.reverse {M : MH} {H : Hp} : ∀ {ds : List D} {vs : List V}, RpL K M H ds vs → RpL K M H ds.reverse vs.reverse
  | [], _, h => by
    have h : _ = [] := h
    subst h; exact rfl
  | d :: ds, vs, h => by
    obtain ⟨w, r, h1, h2, h3⟩ := h
    subst h1
    rw [List.reverse_cons, List.reverse_cons]
    exact RpL.append (RpL.reverse h3) ⟨w, [], rfl, h2, rfl⟩
theorem RpL.one {M : MH} {H : Hp} {d : D} {v : V} (h : Rp K M H d v) : RpL K M H [d] [v] := ⟨v, [], rfl, h, rfl⟩
end
end Z

namespace Z
open PySem PySem.Spec PyProof.Rows L2

section
variable (K : PySem.W.Frag)
def OR (M : MH) (H : Hp) (a : Addr) : MO → Prop
  | .lst ds => ∃ vs, H a = some (.lst vs) ∧ RpL K M H ds vs
  | .dK kvs => ∃ vs, H a = some (.dK ((kvs.map (·.1)).zip vs)) ∧ RpL K M H (kvs.map (·.2)) vs
  | .dT kvs => ∃ vs, H a = some (.dT ((kvs.map (·.1)).zip vs)) ∧ RpL K M H (kvs.map (·.2)) vs
  | .ins C fs => ∃ dx vs, H a = some (.ins C dx ((fs.map (·.1)).zip vs)) ∧ RpL K M H (fs.map (·.2)) vs
def RM (M : MH) (H : Hp) : Prop := ∀ a o, M a = some o → OR K M H a o
variable {K}
theorem OR.has {M : MH} {H : Hp} {a : Addr} {o : MO} (h : OR K M H a o) : ∃ u, H a = some u := by
  cases o with
  | lst ds => obtain ⟨vs, h, _⟩ := h; exact ⟨_, h⟩
  | dK ds => obtain ⟨vs, h, _⟩ := h; exact ⟨_, h⟩
  | dT ds => obtain ⟨vs, h, _⟩ := h; exact ⟨_, h⟩
  | ins C fs => obtain ⟨dx, vs, h, _⟩ := h; exact ⟨_, h⟩
theorem OR.ev {M M' : MH} {H H' : Hp} (e : Ev M H M' H') {a : Addr} {o : MO} (he : H' a = H a) (h : OR K M H a o) : OR K M' H' a o := by
  cases o with
  | lst ds => obtain ⟨vs, h, r⟩ := h; exact ⟨vs, he.trans h, RpL.ev e _ _ r⟩
  | dK ds => obtain ⟨vs, h, r⟩ := h; exact ⟨vs, he.trans h, RpL.ev e _ _ r⟩
  | dT ds => obtain ⟨vs, h, r⟩ := h; exact ⟨vs, he.trans h, RpL.ev e _ _ r⟩
  | ins C fs => obtain ⟨dx, vs, h, r⟩ := h; exact ⟨dx, vs, he.trans h, RpL.ev e _ _ r⟩
theorem RM.free {M : MH} {H : Hp} (h : RM K M H) {p : Addr} (e : H p = none) : M p = none := by
  cases q : M p with
  | none => rfl
  | some o =>
    obtain ⟨u, z⟩ := (h p o q).has
    rw [e] at z; cases z
/-- a new thing, unmarked -/
theorem Ev.new {M : MH} {H : Hp} {p : Addr} {u : HO} (e : H p = none) : Ev M H M (upd H p u) := fun a o h m =>
  ⟨by rw [upd_ne (ne_of_none h e)]; exact h, m⟩
theorem RM.new {M : MH} {H : Hp} {p : Addr} {u : HO} (h : RM K M H) (e : H p = none) : RM K M (upd H p u) := fun a o q => by
  obtain ⟨v, z⟩ := (h a o q).has
  exact (h a o q).ev (Ev.new e) (by rw [upd_ne (ne_of_none z e)])
/-- a new thing, marked -/
theorem Ev.newM {M : MH} {H : Hp} {p : Addr} {u : HO} {o : MO} (e : H p = none) : Ev M H (up M p o) (upd H p u) := fun a w h m =>
  ⟨by rw [upd_ne (ne_of_none h e)]; exact h, by rw [up_ne (ne_of_none h e)]; exact m⟩
theorem RM.newM {M : MH} {H : Hp} {p : Addr} {u : HO} {o : MO} (h : RM K M H) (e : H p = none) (n : OR K (up M p o) (upd H p u) p o) : RM K (up M p o) (upd H p u) := fun a w q => by
  by_cases z : a = p
  · subst z
    rw [up_same] at q
    cases q
    exact n
  · rw [up_ne z] at q
    exact (h a w q).ev (Ev.newM e) (upd_ne z)
/-- a marked thing is written -/
theorem Ev.wr {M : MH} {H : Hp} {p : Addr} {u : HO} {o o' : MO} (e : M p = some o') : Ev M H (up M p o) (upd H p u) := fun a w h m => by
  have z : a ≠ p := fun z => by subst z; rw [e] at m; cases m
  exact ⟨by rw [upd_ne z]; exact h, by rw [up_ne z]; exact m⟩
theorem RM.wr {M : MH} {H : Hp} {p : Addr} {u : HO} {o o' : MO} (h : RM K M H) (e : M p = some o') (n : OR K (up M p o) (upd H p u) p o) : RM K (up M p o) (upd H p u) := fun a w q => by
  by_cases z : a = p
  · subst z
    rw [up_same] at q
    cases q
    exact n
  · rw [up_ne z] at q
    exact (h a w q).ev (Ev.wr e) (upd_ne z)
/-- a marked thing is forgotten -/
def Sub (M' M : MH) : Prop := ∀ a o, M' a = some o → M a = some o
theorem Sub.refl (M : MH) : Sub M M := fun _ _ h => h
theorem Sub.trans {A B C : MH} (h : Sub A B) (g : Sub B C) : Sub A C := fun a o q => g a o (h a o q)
theorem Ev.sub {M M' : MH} {H : Hp} (s : Sub M' M) : Ev M H M' H := fun a o h m => ⟨h, by
  cases q : M' a with
  | none => rfl
  | some w => rw [s a w q] at m; cases m⟩
theorem RM.sub {M M' : MH} {H : Hp} (h : RM K M H) (s : Sub M' M) : RM K M' H := fun a o q => (h a o (s a o q)).ev (Ev.sub s) rfl
theorem er_none {M : MH} {p : Addr} : er M p p = none := by unfold er; rw [if_pos rfl]
theorem Sub.er {M : MH} {p : Addr} : Sub (er M p) M := fun a o q => by
  unfold Z.er at q
  by_cases z : a = p
  · rw [if_pos z] at q; cases q
  · rw [if_neg z] at q; exact q
theorem Sub.up {M : MH} {p : Addr} {o : MO} (h : M p = .none) : Sub M (up M p o) := fun a w q => by
  rw [up_ne (fun z => by subst z; rw [h] at q; cases q)]; exact q
end

/-! ### slots -/
abbrev En := List (Option D)
def getE : En → Nat → Option D
  | [], _ => none
  | x :: _, 0 => x
  | _ :: r, n + 1 => getE r n
def setE : En → Nat → D → En
  | [], _, _ => []
  | _ :: r, 0, d => some d :: r
  | x :: r, n + 1, d => x :: setE r n d
def wipeE1 : En → Nat → En
  | [], _ => []
  | _ :: r, 0 => none :: r
  | x :: r, n + 1 => x :: wipeE1 r n
def wipeE : En → List Nat → En
  | e, [] => e
  | e, v :: vs => wipeE1 (wipeE e vs) v
theorem getE_eq : ∀ (e : En) (i : Nat), getE e i = (e[i]?).join
  | [], i => by simp [getE]
  | x :: r, 0 => by cases x <;> simp [getE]
  | x :: r, n + 1 => by
    show getE r n = _
    rw [getE_eq r n]; simp
theorem setE_eq : ∀ (e : En) (i : Nat) (d : D), setE e i d = e.set i (some d)
  | [], i, d => by simp [setE]
  | x :: r, 0, d => by simp [setE]
  | x :: r, n + 1, d => by
    show x :: setE r n d = _
    rw [setE_eq r n d]; simp
theorem wipeE1_eq : ∀ (e : En) (i : Nat), wipeE1 e i = e.set i none
  | [], i => by simp [wipeE1]
  | x :: r, 0 => by simp [wipeE1]
  | x :: r, n + 1 => by
    show x :: wipeE1 r n = _
    rw [wipeE1_eq r n]; simp
section
variable (K : PySem.W.Frag)
structure RS (M : MH) (H : Hp) (e : En) (σ : L2.St) : Prop where
  len : e.length = σ.length
  get : ∀ i d, getE e i = some d → ∃ v, σ[i]? = some (some v) ∧ Rp K M H d v
variable {K}
theorem RS.ev {M M' : MH} {H H' : Hp} (v : Ev M H M' H') {e : En} {σ : L2.St} (r : RS K M H e σ) : RS K M' H' e σ :=
  ⟨r.len, fun i d h => let ⟨w, h1, h2⟩ := r.get i d h; ⟨w, h1, Rp.ev v d w h2⟩⟩
theorem RS.set {M : MH} {H : Hp} {e : En} {σ : L2.St} (r : RS K M H e σ) (i : Nat) {d : D} {v : V} (h : Rp K M H d v) : RS K M H (setE e i d) (σ.set i (some v)) := by
  refine ⟨by rw [setE_eq, List.length_set, List.length_set]; exact r.len, fun j d' hj => ?_⟩
  rw [getE_eq, setE_eq] at hj
  by_cases z : j = i
  · subst z
    by_cases hl : j < e.length
    · rw [List.getElem?_set_self hl] at hj
      have hj : d = d' := by simpa using hj
      subst hj
      exact ⟨v, List.getElem?_set_self (by rw [← r.len]; exact hl), h⟩
    · rw [List.getElem?_eq_none (by rw [List.length_set]; omega)] at hj
      cases hj
  · rw [List.getElem?_set_ne (Ne.symm z)] at hj
    obtain ⟨w, h1, h2⟩ := r.get j d' (by rw [getE_eq]; exact hj)
    exact ⟨w, by rw [List.getElem?_set_ne (Ne.symm z)]; exact h1, h2⟩
theorem RS.wipe1 {M : MH} {H : Hp} {e : En} {σ : L2.St} (r : RS K M H e σ) (i : Nat) : RS K M H (wipeE1 e i) (σ.set i none) := by
  refine ⟨by rw [wipeE1_eq, List.length_set, List.length_set]; exact r.len, fun j d' hj => ?_⟩
  rw [getE_eq, wipeE1_eq] at hj
  by_cases z : j = i
  · subst z
    by_cases hl : j < e.length
    · rw [List.getElem?_set_self hl] at hj
      cases hj
    · rw [List.getElem?_eq_none (by rw [List.length_set]; omega)] at hj
      cases hj
  · rw [List.getElem?_set_ne (Ne.symm z)] at hj
    obtain ⟨w, h1, h2⟩ := r.get j d' (by rw [getE_eq]; exact hj)
    exact ⟨w, by rw [List.getElem?_set_ne (Ne.symm z)]; exact h1, h2⟩
theorem RS.wipe {M : MH} {H : Hp} {e : En} {σ : L2.St} (r : RS K M H e σ) : ∀ vs : List Nat, RS K M H (wipeE e vs) (wipe σ vs)
  | [] => r
  | v :: vs => (RS.wipe r vs).wipe1 v
end

/-! ### lifted readings -/
abbrev Q3 := D → MH → Prop
abbrev T3 := En → MH → Q3 → Prop
abbrev TB3 := En → MH → (Bool → MH → Prop) → Prop
abbrev TL3 := En → MH → (List D → MH → Prop) → Prop
abbrev O1 := D → MH → Q3 → Prop
abbrev O2 := D → D → MH → Q3 → Prop
abbrev OL := List D → MH → Q3 → Prop
section
variable (K : PySem.W.Frag) (M0 : MH) (H0 : Hp)
/-- what is wanted of data is what is wanted of values -/
def Cv (M : MH) (H : Hp) (Q3 : Q3) (Q : VK) : Prop := ∀ d M' v H', Q3 d M' → Rp K M' H' d v → RM K M' H' → Ev M H M' H' → Q v H'
def CvB (M : MH) (H : Hp) (Q3 : Bool → MH → Prop) (Q : Bool → Hp → Prop) : Prop := ∀ b M' H', Q3 b M' → RM K M' H' → Ev M H M' H' → Q b H'
def CvL (M : MH) (H : Hp) (Q3 : List D → MH → Prop) (Q : List V → Hp → Prop) : Prop := ∀ ds M' vs H', Q3 ds M' → RpL K M' H' ds vs → RM K M' H' → Ev M H M' H' → Q vs H'
def LE (t : T3) : TE := fun σ H Q => ∃ e M Q3, RS K M H e σ ∧ RM K M H ∧ Ev M0 H0 M H ∧ t e M Q3 ∧ Cv K M H Q3 Q
def LT (t : TB3) : TT := fun σ H Q => ∃ e M Q3, RS K M H e σ ∧ RM K M H ∧ Ev M0 H0 M H ∧ t e M Q3 ∧ CvB K M H Q3 Q
def LA (t : TL3) : TA := fun σ H Q => ∃ e M Q3, RS K M H e σ ∧ RM K M H ∧ Ev M0 H0 M H ∧ t e M Q3 ∧ CvL K M H Q3 Q
def LO1 (o : O1) : V → Hp → VK → Prop := fun x H Q => ∃ d M Q3, Rp K M H d x ∧ RM K M H ∧ o d M Q3 ∧ Cv K M H Q3 Q
def LO2 (o : O2) : R2 := fun x y H Q => ∃ d1 d2 M Q3, Rp K M H d1 x ∧ Rp K M H d2 y ∧ RM K M H ∧ o d1 d2 M Q3 ∧ Cv K M H Q3 Q
def LOL (o : OL) : List V → Hp → VK → Prop := fun xs H Q => ∃ ds M Q3, RpL K M H ds xs ∧ RM K M H ∧ o ds M Q3 ∧ Cv K M H Q3 Q
variable {K M0 H0}
theorem Cv.from {M M1 : MH} {H H1 : Hp} {Q3 : Q3} {Q : VK} (c : Cv K M H Q3 Q) (e : Ev M H M1 H1) : Cv K M1 H1 Q3 Q := fun d M' v H' q r m e' => c d M' v H' q r m (e.trans e')
theorem CvB.from {M M1 : MH} {H H1 : Hp} {Q3 : Bool → MH → Prop} {Q : Bool → Hp → Prop} (c : CvB K M H Q3 Q) (e : Ev M H M1 H1) : CvB K M1 H1 Q3 Q := fun d M' H' q m e' => c d M' H' q m (e.trans e')
theorem CvL.from {M M1 : MH} {H H1 : Hp} {Q3 : List D → MH → Prop} {Q : List V → Hp → Prop} (c : CvL K M H Q3 Q) (e : Ev M H M1 H1) : CvL K M1 H1 Q3 Q := fun d M' v H' q r m e' => c d M' v H' q r m (e.trans e')
theorem Cv.now {M : MH} {H : Hp} {Q3 : Q3} {Q : VK} (c : Cv K M H Q3 Q) {d : D} {v : V} (m : RM K M H) (q : Q3 d M) (r : Rp K M H d v) : Q v H := c d M v H q r m (Ev.refl M H)
theorem _root_.L2.PE.imp {X : Cx} {e : Expr} {t t' : TE} (h : PE X e t) (f : ∀ σ H Q, t' σ H Q → t σ H Q) : PE X e t' := ⟨fun pins s σ H Q I q => h.run pins s σ H Q I (f _ _ _ q)⟩
theorem _root_.L2.PT.imp {X : Cx} {e : Expr} {t t' : TT} (h : PT X e t) (f : ∀ σ H Q, t' σ H Q → t σ H Q) : PT X e t' := ⟨fun pins s σ H Q I q => h.run pins s σ H Q I (f _ _ _ q)⟩
theorem _root_.L2.PW.imp {X : Cx} {e : Expr} {t t' : TT} (h : PW X e t) (f : ∀ σ H Q, t' σ H Q → t σ H Q) : PW X e t' := ⟨fun w pins s σ H Q I q => h.run w pins s σ H Q I (f _ _ _ q)⟩
theorem _root_.L2.PA.imp {X : Cx} {es : List Expr} {t t' : TA} (h : PA X es t) (f : ∀ σ H Q, t' σ H Q → t σ H Q) : PA X es t' := ⟨fun pos pins s σ H Q I q => h.run pos pins s σ H Q I (f _ _ _ q)⟩
theorem _root_.L2.PS.imp {X : Cx} {st : Stmt} {t t' : TS} (h : PS X st t) (f : ∀ D σ H, t' D σ H → t D σ H) : PS X st t' := ⟨fun pins s σ H D I q => h.run pins s σ H D I (f _ _ _ q)⟩
theorem _root_.L2.PSs.imp {X : Cx} {st : List Stmt} {t t' : TS} (h : PSs X st t) (f : ∀ D σ H, t' D σ H → t D σ H) : PSs X st t' := ⟨fun pins s σ H D I q => h.run pins s σ H D I (f _ _ _ q)⟩
theorem _root_.L2.PI.imp {X : Cx} {tg it : Expr} {t t' : TI} (h : PI X tg it t) (f : ∀ σ H R, t' σ H R → t σ H R) : PI X tg it t' := ⟨fun pins s σ H R I q => h.run pins s σ H R I (f _ _ _ q)⟩
theorem oimp {X : Cx} {f : Value → Value → Sem Value} {r r' : R2} (h : OpR X f r) (g : ∀ x y H Q, r' x y H Q → r x y H Q) : OpR X f r' := fun pins s σ H x y v u Q I rx ry q => h pins s σ H x y v u Q I rx ry (g _ _ _ _ q)
theorem uimp {X : Cx} {f : Value → Sem Value} {r r' : V → Hp → VK → Prop} (h : UnR X f r) (g : ∀ x H Q, r' x H Q → r x H Q) : UnR X f r' := fun pins s σ H x v Q I rx q => h pins s σ H x v Q I rx (g _ _ _ q)
theorem cimp {X : Cx} {f : Value} {r r' : List V → Hp → VK → Prop} (h : CallR X f r) (g : ∀ x H Q, r' x H Q → r x H Q) : CallR X f r' := fun pins s σ H x v Q I rx q => h pins s σ H x v Q I rx (g _ _ _ q)

/-! #### sequencing -/
/-- one part, then something -/
theorem LE.then {t : T3} {σ : L2.St} {e : En} {M : MH} {H : Hp} {P : Q3} {Q : VK} (rs : RS K M H e σ) (rm : RM K M H) (ev : Ev M0 H0 M H) (h : t e M P)
    (f : ∀ d M1 v H1, P d M1 → Rp K M1 H1 d v → RS K M1 H1 e σ → RM K M1 H1 → Ev M0 H0 M1 H1 → Ev M H M1 H1 → Q v H1) : LE K M0 H0 t σ H Q :=
  ⟨e, M, P, rs, rm, ev, h, fun d M1 v H1 q r m e1 => f d M1 v H1 q r (rs.ev e1) m (ev.trans e1) e1⟩
theorem LT.then {t : TB3} {σ : L2.St} {e : En} {M : MH} {H : Hp} {P : Bool → MH → Prop} {Q : Bool → Hp → Prop} (rs : RS K M H e σ) (rm : RM K M H) (ev : Ev M0 H0 M H) (h : t e M P)
    (f : ∀ d M1 H1, P d M1 → RS K M1 H1 e σ → RM K M1 H1 → Ev M0 H0 M1 H1 → Ev M H M1 H1 → Q d H1) : LT K M0 H0 t σ H Q :=
  ⟨e, M, P, rs, rm, ev, h, fun d M1 H1 q m e1 => f d M1 H1 q (rs.ev e1) m (ev.trans e1) e1⟩
theorem LA.then {t : TL3} {σ : L2.St} {e : En} {M : MH} {H : Hp} {P : List D → MH → Prop} {Q : List V → Hp → Prop} (rs : RS K M H e σ) (rm : RM K M H) (ev : Ev M0 H0 M H) (h : t e M P)
    (f : ∀ d M1 v H1, P d M1 → RpL K M1 H1 d v → RS K M1 H1 e σ → RM K M1 H1 → Ev M0 H0 M1 H1 → Ev M H M1 H1 → Q v H1) : LA K M0 H0 t σ H Q :=
  ⟨e, M, P, rs, rm, ev, h, fun d M1 v H1 q r m e1 => f d M1 v H1 q r (rs.ev e1) m (ev.trans e1) e1⟩

/-! #### names, constants -/
def loc3 (i : Nat) : T3 := fun e M Q => match getE e i with | some d => Q d M | none => False
def con3 (d : D) : T3 := fun _ M Q => Q d M
section
variable {X : Cx}
theorem z_loc {e : Expr} {i : Nat} (h : PE X e (tVar i)) : PE X e (LE K M0 H0 (loc3 i)) := h.imp fun σ H Q ⟨en, M, P, rs, rm, ev, t, c⟩ => by
  unfold loc3 at t
  cases q : getE en i with
  | none => rw [q] at t; exact t.elim
  | some d =>
    rw [q] at t
    obtain ⟨v, h1, h2⟩ := rs.get i d q
    exact ⟨v, h1, c.now rm t h2⟩
theorem z_con {e : Expr} {d : D} {v : V} (h : PE X e (tC v)) (r : ∀ M H, Rp K M H d v) : PE X e (LE K M0 H0 (con3 d)) := h.imp fun σ H Q ⟨en, M, P, rs, rm, ev, t, c⟩ => c.now rm t (r M H)
/-! #### operators -/
def op2 (o : O2) (ta tb : T3) : T3 := fun e M Q => ta e M fun x M1 => tb e M1 fun y M2 => o x y M2 Q
def op1 (o : O1) (ta : T3) : T3 := fun e M Q => ta e M fun x M1 => o x M1 Q
theorem lo2 {o : O2} {ta tb : T3} {σ : L2.St} {H : Hp} {Q : VK} (h : LE K M0 H0 (op2 o ta tb) σ H Q) : tOp (LO2 K o) (LE K M0 H0 ta) (LE K M0 H0 tb) σ H Q := by
  obtain ⟨en, M, P, rs, rm, ev, t, c⟩ := h
  exact LE.then rs rm ev t fun x M1 v1 H1 t1 r1 rs1 rm1 ev1 e1 => LE.then rs1 rm1 ev1 t1 fun y M2 v2 H2 t2 r2 rs2 rm2 ev2 e2 =>
    ⟨x, y, M2, P, Rp.ev e2 _ _ r1, r2, rm2, t2, c.from (e1.trans e2)⟩
theorem lo1 {o : O1} {ta : T3} {σ : L2.St} {H : Hp} {Q : VK} (h : LE K M0 H0 (op1 o ta) σ H Q) : tUn (LO1 K o) (LE K M0 H0 ta) σ H Q := by
  obtain ⟨en, M, P, rs, rm, ev, t, c⟩ := h
  exact LE.then rs rm ev t fun x M1 v1 H1 t1 r1 rs1 rm1 ev1 e1 => ⟨x, M1, P, r1, rm1, t1, c.from e1⟩
variable {a b : Expr} {ta tb : T3} {pos : Pos}
theorem z_op {op : Operator} {o : O2} (ho : OpR X (binaryOp op) (LO2 K o)) (ha : PE X a (LE K M0 H0 ta)) (hb : PE X b (LE K M0 H0 tb)) : PE X (.BinOp a op b pos) (LE K M0 H0 (op2 o ta tb)) :=
  (pe_op ho ha hb).imp fun _ _ _ h => lo2 h
theorem z_un {op : UnaryOp} {o : O1} (ho : UnR X (unaryOp op) (LO1 K o)) (ha : PE X a (LE K M0 H0 ta)) : PE X (.UnaryOp op a pos) (LE K M0 H0 (op1 o ta)) :=
  (pe_un ho ha).imp fun _ _ _ h => lo1 h
theorem z_cmp {op : CmpOp} {o : O2} (ho : OpR X (compareOp op) (LO2 K o)) (ha : PE X a (LE K M0 H0 ta)) (hb : PE X b (LE K M0 H0 tb)) (hm : behindInMarks op b = false) : PE X (.Compare a [op] [b] pos) (LE K M0 H0 (op2 o ta tb)) :=
  (pe_cmpR ho ha hb hm).imp fun _ _ _ h => lo2 h
/-- a value that is a bool, as a test -/
def tst (t : T3) : TB3 := fun e M Q => t e M fun d M1 => match d with | .bl b => Q b M1 | _ => False
theorem lt_of {t : T3} {σ : L2.St} {H : Hp} {Q : Bool → Hp → Prop} (h : LT K M0 H0 (tst t) σ H Q) : LE K M0 H0 t σ H fun x H1 => ∃ k, x = .bl k ∧ Q k H1 := by
  obtain ⟨en, M, P, rs, rm, ev, t, c⟩ := h
  refine LE.then rs rm ev t fun x M1 v1 H1 t1 r1 rs1 rm1 ev1 e1 => ?_
  cases x with
  | bl b => exact ⟨b, r1, c b M1 H1 t1 rm1 e1⟩
  | _ => exact t1.elim
theorem z_tcmp {op : CmpOp} {o : O2} (ho : OpR X (compareOp op) (LO2 K o)) (ha : PE X a (LE K M0 H0 ta)) (hb : PE X b (LE K M0 H0 tb)) (hm : behindInMarks op b = false) : PT X (.Compare a [op] [b] pos) (LT K M0 H0 (tst (op2 o ta tb))) :=
  (pt_cmpR ho ha hb hm).imp fun _ _ _ h => by
    have h := lt_of h
    obtain ⟨en, M, P, rs, rm, ev, t, c⟩ := h
    exact lo2 ⟨en, M, P, rs, rm, ev, t, c⟩
/-! #### a op1 b op2 c -/
def chain3 (o o' : O2) (ta tb tc : T3) : T3 := fun e M Q => ta e M fun x M1 => tb e M1 fun y M2 => o x y M2 fun z M3 => match z with
  | .bl true => tc e M3 fun w M4 => o' y w M4 Q
  | .bl false => Q (.bl false) M3
  | _ => False
theorem lchain {o o' : O2} {ta tb tc : T3} {σ : L2.St} {H : Hp} {Q : VK} (h : LE K M0 H0 (chain3 o o' ta tb tc) σ H Q) : tChain (LO2 K o) (LO2 K o') (LE K M0 H0 ta) (LE K M0 H0 tb) (LE K M0 H0 tc) σ H Q := by
  obtain ⟨en, M, P, rs, rm, ev, t, c⟩ := h
  refine LE.then rs rm ev t fun x M1 v1 H1 t1 r1 rs1 rm1 ev1 e1 => LE.then rs1 rm1 ev1 t1 fun y M2 v2 H2 t2 r2 rs2 rm2 ev2 e2 => ?_
  refine ⟨x, y, M2, _, Rp.ev e2 _ _ r1, r2, rm2, t2, fun z M3 v3 H3 t3 r3 rm3 e3 => ?_⟩
  cases z with
  | bl k =>
    refine ⟨k, r3, ?_⟩
    cases k with
    | true =>
      rw [if_pos rfl]
      exact LE.then (rs2.ev e3) rm3 (ev2.trans e3) t3 fun w M4 v4 H4 t4 r4 rs4 rm4 ev4 e4 => ⟨y, w, M4, P, Rp.ev (e3.trans e4) _ _ r2, r4, rm4, t4, c.from (e1.trans (e2.trans (e3.trans e4)))⟩
    | false =>
      rw [if_neg Bool.false_ne_true]
      exact c (.bl false) M3 _ H3 t3 rfl rm3 (e1.trans (e2.trans e3))
  | _ => exact t3.elim
theorem z_chain {op op' : CmpOp} {o o' : O2} {tc : T3} {c : Expr} (ho : OpR X (compareOp op) (LO2 K o)) (ho' : OpR X (compareOp op') (LO2 K o')) (ha : PE X a (LE K M0 H0 ta)) (hb : PE X b (LE K M0 H0 tb)) (hc : PE X c (LE K M0 H0 tc))
    (hm : lastMarks [op, op'] [b, c] = false) : PE X (.Compare a [op, op'] [b, c] pos) (LE K M0 H0 (chain3 o o' ta tb tc)) := (pe_chain ho ho' ha hb hc hm).imp fun _ _ _ h => lchain h
theorem z_tchain {op op' : CmpOp} {o o' : O2} {tc : T3} {c : Expr} (ho : OpR X (compareOp op) (LO2 K o)) (ho' : OpR X (compareOp op') (LO2 K o')) (ha : PE X a (LE K M0 H0 ta)) (hb : PE X b (LE K M0 H0 tb)) (hc : PE X c (LE K M0 H0 tc))
    (hm : lastMarks [op, op'] [b, c] = false) : PT X (.Compare a [op, op'] [b, c] pos) (LT K M0 H0 (tst (chain3 o o' ta tb tc))) := (pt_chain ho ho' ha hb hc hm).imp fun _ _ _ h => lchain (lt_of h)

/-! #### and, or, not, if as values of any kind come later; here as tests and as bools -/
def and3 (t u : TB3) : TB3 := fun e M Q => t e M fun b M1 => match b with | true => u e M1 Q | false => Q false M1
def or3 (t u : TB3) : TB3 := fun e M Q => t e M fun b M1 => match b with | true => Q true M1 | false => u e M1 Q
def not3 (t : TB3) : TB3 := fun e M Q => t e M fun b M1 => Q (!b) M1
def ite3 (t : TB3) (a b : T3) : T3 := fun e M Q => t e M fun c M1 => match c with | true => a e M1 Q | false => b e M1 Q
def andV3 (t u : T3) : T3 := fun e M Q => t e M fun d M1 => match d with | .bl true => u e M1 Q | .bl false => Q (.bl false) M1 | _ => False
def orV3 (t u : T3) : T3 := fun e M Q => t e M fun d M1 => match d with | .bl true => Q (.bl true) M1 | .bl false => u e M1 Q | _ => False
def notV3 (t : T3) : T3 := fun e M Q => t e M fun d M1 => match d with | .bl b => Q (.bl (!b)) M1 | _ => False
variable {tA tB : TB3} {rest : List Expr}
theorem z_wand (ha : PT X a (LT K M0 H0 tA)) (hb : PW X (.BoolOp .And (b :: rest) pos) (LT K M0 H0 tB)) : PW X (.BoolOp .And (a :: b :: rest) pos) (LT K M0 H0 (and3 tA tB)) :=
  (pw_and ha hb).imp fun σ H Q ⟨en, M, P, rs, rm, ev, t, c⟩ => LT.then rs rm ev t fun d M1 H1 t1 rs1 rm1 ev1 e1 => by
    cases d with
    | true => rw [if_pos rfl]; exact ⟨en, M1, P, rs1, rm1, ev1, t1, c.from e1⟩
    | false => rw [if_neg Bool.false_ne_true]; exact c false M1 H1 t1 rm1 e1
theorem z_wor (ha : PT X a (LT K M0 H0 tA)) (hb : PW X (.BoolOp .Or (b :: rest) pos) (LT K M0 H0 tB)) : PW X (.BoolOp .Or (a :: b :: rest) pos) (LT K M0 H0 (or3 tA tB)) :=
  (pw_or ha hb).imp fun σ H Q ⟨en, M, P, rs, rm, ev, t, c⟩ => LT.then rs rm ev t fun d M1 H1 t1 rs1 rm1 ev1 e1 => by
    cases d with
    | true => rw [if_pos rfl]; exact c true M1 H1 t1 rm1 e1
    | false => rw [if_neg Bool.false_ne_true]; exact ⟨en, M1, P, rs1, rm1, ev1, t1, c.from e1⟩
theorem z_wand1 (ha : PT X a (LT K M0 H0 tA)) : PW X (.BoolOp .And [a] pos) (LT K M0 H0 tA) := pw_and1 ha
theorem z_wor1 (ha : PT X a (LT K M0 H0 tA)) : PW X (.BoolOp .Or [a] pos) (LT K M0 H0 tA) := pw_or1 ha
theorem z_not (ha : PT X a (LT K M0 H0 tA)) : PT X (.UnaryOp .Not a pos) (LT K M0 H0 (not3 tA)) :=
  (pt_not ha).imp fun σ H Q ⟨en, M, P, rs, rm, ev, t, c⟩ => LT.then rs rm ev t fun d M1 H1 t1 rs1 rm1 ev1 e1 => c (!d) M1 H1 t1 rm1 e1
theorem z_ite {c : Expr} (hc : PT X c (LT K M0 H0 tA)) (ha : PE X a (LE K M0 H0 ta)) (hb : PE X b (LE K M0 H0 tb)) : PE X (.IfExp c a b pos) (LE K M0 H0 (ite3 tA ta tb)) :=
  (pe_ifExp hc ha hb).imp fun σ H Q ⟨en, M, P, rs, rm, ev, t, c⟩ => LT.then rs rm ev t fun d M1 H1 t1 rs1 rm1 ev1 e1 => by
    cases d with
    | true => rw [if_pos rfl]; exact ⟨en, M1, P, rs1, rm1, ev1, t1, c.from e1⟩
    | false => rw [if_neg Bool.false_ne_true]; exact ⟨en, M1, P, rs1, rm1, ev1, t1, c.from e1⟩
theorem z_vand (ha : PE X a (LE K M0 H0 ta)) (hb : PE X (.BoolOp .And (b :: rest) pos) (LE K M0 H0 tb)) : PE X (.BoolOp .And (a :: b :: rest) pos) (LE K M0 H0 (andV3 ta tb)) :=
  (pe_and ha hb).imp fun σ H Q ⟨en, M, P, rs, rm, ev, t, c⟩ => LE.then rs rm ev t fun d M1 v1 H1 t1 r1 rs1 rm1 ev1 e1 => by
    cases d with
    | bl k =>
      refine ⟨k, r1, ?_⟩
      cases k with
      | true => rw [if_pos rfl]; exact ⟨en, M1, P, rs1, rm1, ev1, t1, c.from e1⟩
      | false => rw [if_neg Bool.false_ne_true]; exact c (.bl false) M1 _ H1 t1 rfl rm1 e1
    | _ => exact t1.elim
theorem z_vor (ha : PE X a (LE K M0 H0 ta)) (hb : PE X (.BoolOp .Or (b :: rest) pos) (LE K M0 H0 tb)) : PE X (.BoolOp .Or (a :: b :: rest) pos) (LE K M0 H0 (orV3 ta tb)) :=
  (pe_or ha hb).imp fun σ H Q ⟨en, M, P, rs, rm, ev, t, c⟩ => LE.then rs rm ev t fun d M1 v1 H1 t1 r1 rs1 rm1 ev1 e1 => by
    cases d with
    | bl k =>
      refine ⟨k, r1, ?_⟩
      cases k with
      | true => rw [if_pos rfl]; exact c (.bl true) M1 _ H1 t1 rfl rm1 e1
      | false => rw [if_neg Bool.false_ne_true]; exact ⟨en, M1, P, rs1, rm1, ev1, t1, c.from e1⟩
    | _ => exact t1.elim
theorem z_vnot (ha : PE X a (LE K M0 H0 ta)) : PE X (.UnaryOp .Not a pos) (LE K M0 H0 (notV3 ta)) :=
  (pe_not ha).imp fun σ H Q ⟨en, M, P, rs, rm, ev, t, c⟩ => LE.then rs rm ev t fun d M1 v1 H1 t1 r1 rs1 rm1 ev1 e1 => by
    cases d with
    | bl k => exact ⟨k, r1, c (.bl (!k)) M1 _ H1 t1 rfl rm1 e1⟩
    | _ => exact t1.elim
/-! #### argument lists, displays -/
def nil3 : TL3 := fun _ M Q => Q [] M
def cons3 (t : T3) (u : TL3) : TL3 := fun e M Q => t e M fun d M1 => u e M1 fun ds M2 => Q (d :: ds) M2
variable {es : List Expr} {tl : TL3}
theorem z_nil : PA X [] (LA K M0 H0 nil3) := pa_nil.imp fun σ H Q ⟨en, M, P, rs, rm, ev, t, c⟩ => c [] M [] H t rfl rm (Ev.refl _ _)
theorem z_cons (ha : PE X a (LE K M0 H0 ta)) (hr : PA X es (LA K M0 H0 tl)) (hs : starEach (a :: es) X.env = (false, eval a X.env) :: starEach es X.env) : PA X (a :: es) (LA K M0 H0 (cons3 ta tl)) :=
  (pa_cons ha hr hs).imp fun σ H Q ⟨en, M, P, rs, rm, ev, t, c⟩ => LE.then rs rm ev t fun d M1 v1 H1 t1 r1 rs1 rm1 ev1 e1 =>
    LA.then rs1 rm1 ev1 t1 fun ds M2 vs H2 t2 r2 rs2 rm2 ev2 e2 => c (d :: ds) M2 (v1 :: vs) H2 t2 ⟨v1, vs, rfl, Rp.ev e2 _ _ r1, r2⟩ rm2 (e1.trans e2)
def tup3 (t : TL3) : T3 := fun e M Q => t e M fun ds M1 => ds.length ≤ sizeLine ∧ Q (.tup ds) M1
def lst3 (t : TL3) : T3 := fun e M Q => t e M fun ds M1 => ds.length ≤ sizeLine ∧ Q (.lst ds) M1
def lstM3 (t : TL3) : T3 := fun e M Q => t e M fun ds M1 => ds.length ≤ sizeLine ∧ ∀ p, M1 p = none → Q (.ref p) (up M1 p (.lst ds))
theorem Rp.tupNew {M : MH} {H : Hp} {p : Addr} {ds : List D} {vs : List V} (rm : RM K M H) (hp : H p = none) (r : RpL K M H ds vs) : Rp K M (upd H p (.tup vs)) (.tup ds) (.ref p) :=
  ⟨p, vs, rfl, ⟨rm.free hp, upd_same⟩, RpL.ev (Ev.new hp) _ _ r⟩
theorem Rp.lstNew {M : MH} {H : Hp} {p : Addr} {ds : List D} {vs : List V} (rm : RM K M H) (hp : H p = none) (r : RpL K M H ds vs) : Rp K M (upd H p (.lst vs)) (.lst ds) (.ref p) :=
  ⟨p, vs, rfl, rm.free hp, upd_same, RpL.ev (Ev.new hp) _ _ r⟩
theorem RM.lstNew {M : MH} {H : Hp} {p : Addr} {ds : List D} {vs : List V} (rm : RM K M H) (hp : H p = none) (r : RpL K M H ds vs) : RM K (up M p (.lst ds)) (upd H p (.lst vs)) :=
  rm.newM hp ⟨vs, upd_same, RpL.ev (Ev.newM hp) _ _ r⟩
theorem z_tup {k : Nat} (h : PA X es (LA K M0 H0 tl)) : PE X (.Tuple es k pos) (LE K M0 H0 (tup3 tl)) :=
  (pe_tup h).imp fun σ H Q ⟨en, M, P, rs, rm, ev, t, c⟩ => LA.then rs rm ev t fun ds M1 vs H1 ⟨hl, t1⟩ r1 rs1 rm1 ev1 e1 =>
    ⟨by rw [r1.length]; exact hl, fun p hp => c (.tup ds) M1 (.ref p) _ t1 (Rp.tupNew rm1 hp r1) (rm1.new hp) (e1.trans (Ev.new hp))⟩
theorem pe_tupF {t : TA} {k : Nat} (h : PA X es t) : PE X (.Tuple es k pos) (fun σ H Q => t σ H fun xs H1 => xs.length ≤ sizeLine ∧ ∀ b ob, H1 b = none → ob.dict = none → Q (.ref b) (upd H1 b (.frz ob (.tup xs)))) := by
  refine ⟨fun pins s σ H Q I q0 => ?_⟩
  refine wpAny_Tuple_spliced (thn (h.run pos pins s σ H _ I q0) fun us s2 ⟨xs, H2, I2, rel, sz, q2⟩ => ⟨by have := rel.length; omega, ?_⟩)
  have fr : H2 s2.heap.objs.size = none := I2.hok.fresh (Nat.le_refl _)
  have at_ := Heap.get?_push_size s2.heap (o := { cls := .type "tuple", data := .seq us.toArray 0 }) rfl
  have new := I2.laid (t' := s2.toks) (o := .frz { cls := .type "tuple", data := .seq us.toArray 0 } (.tup xs)) (fun b u e => Heap.get?_push_of_some _ e) (Nat.le_refl _) ⟨at_, sz, us, rel, ⟨_, at_, rfl, _, rfl⟩⟩
  exact ⟨.ref s2.heap.objs.size, _, new, rfl, q2 _ _ fr rfl⟩
/-- a tuple whose object is known -/
def tupF3 (t : TL3) : T3 := fun e M Q => t e M fun ds M1 => ds.length ≤ sizeLine ∧ Q (.tp .k ds) M1
theorem z_tupF {k : Nat} (h : PA X es (LA K M0 H0 tl)) : PE X (.Tuple es k pos) (LE K M0 H0 (tupF3 tl)) :=
  (pe_tupF h).imp fun σ H Q ⟨en, M, P, rs, rm, ev, t, c⟩ => LA.then rs rm ev t fun ds M1 vs H1 ⟨hl, t1⟩ r1 rs1 rm1 ev1 e1 =>
    ⟨by rw [r1.length]; exact hl, fun p ob hp hd => c (.tp .k ds) M1 (.ref p) _ t1 ⟨p, vs, rfl, ⟨ob, rm1.free hp, upd_same, hd⟩, RpL.ev (Ev.new hp) _ _ r1⟩ (rm1.new hp) (e1.trans (Ev.new hp))⟩
theorem z_lst (h : PA X es (LA K M0 H0 tl)) : PE X (.List es pos) (LE K M0 H0 (lst3 tl)) :=
  (pe_lst h).imp fun σ H Q ⟨en, M, P, rs, rm, ev, t, c⟩ => LA.then rs rm ev t fun ds M1 vs H1 ⟨hl, t1⟩ r1 rs1 rm1 ev1 e1 =>
    ⟨by rw [r1.length]; exact hl, fun p hp => c (.lst ds) M1 (.ref p) _ t1 (Rp.lstNew rm1 hp r1) (rm1.new hp) (e1.trans (Ev.new hp))⟩
theorem z_lstM (h : PA X es (LA K M0 H0 tl)) : PE X (.List es pos) (LE K M0 H0 (lstM3 tl)) :=
  (pe_lst h).imp fun σ H Q ⟨en, M, P, rs, rm, ev, t, c⟩ => LA.then rs rm ev t fun ds M1 vs H1 ⟨hl, t1⟩ r1 rs1 rm1 ev1 e1 =>
    ⟨by rw [r1.length]; exact hl, fun p hp => c (.ref p) _ (.ref p) _ (t1 p (rm1.free hp)) rfl (rm1.lstNew hp r1) (e1.trans (Ev.newM hp))⟩
end
end
end Z

namespace Z
open PySem PySem.Spec PyProof.Rows L2

/-! ### reading -/
def asT : D → Option (List D)
  | .tp _ ds => some ds
  | _ => none
def asL (M : MH) : D → Option (List D)
  | .lst ds => some ds
  | .flst ds => some ds
  | .ref a => match M a with | some (.lst ds) => some ds | _ => none
  | _ => none
/-- a list that may be anything but the script -/
def exL (M : MH) : D → Option (List D)
  | .lst ds => some ds
  | .ref a => match M a with | some (.lst ds) => some ds | _ => none
  | _ => none
/-- a tracked list by its content -/
def rdL (M : MH) : D → D
  | .ref a => match M a with | some (.lst ds) => .lst ds | _ => .ref a
  | d => d
mutual
def toPy : D → PyData
  | .non => .none
  | .bl b => .bool b
  | .int i => .int i
  | .str x => .str x
  | .tp _ ds => .tuple (toPyL ds)
  | .lst ds => .list (toPyL ds)
  | .flst _ => .dict []
  | .ref _ => .dict []
  | .dK _ _ => .dict []
  | .dT _ _ => .dict []
def toPyL : List D → List PyData
  | [] => []
  | d :: ds => toPy d :: toPyL ds
end
mutual
/-- ==, by data -/
def eqv : D → D → Bool
  | .non, .non => true
  | .bl a, .bl b => a == b
  | .bl a, .int j => (if a then 1 else 0) == j
  | .int i, .bl b => i == (if b then 1 else 0)
  | .int i, .int j => i == j
  | .str x, .str y => x == y
  | .tp _ xs, .tp _ ys => eqvL xs ys
  | .lst xs, .lst ys => eqvL xs ys
  | _, _ => false
def eqvL : List D → List D → Bool
  | [], [] => true
  | x :: xs, y :: ys => eqv x y && eqvL xs ys
  | _, _ => false
end
mutual
theorem eqv_py : ∀ x y : D, eqv x y = PyData.eqv (toPy x) (toPy y)
  | .tp _ xs, y => by cases y <;> simp only [eqv, toPy, PyData.eqv] <;> exact eqvL_py xs _
  | .lst xs, y => by cases y <;> simp only [eqv, toPy, PyData.eqv] <;> exact eqvL_py xs _
  | .non, y => by cases y <;> simp only [eqv, toPy, PyData.eqv]
  | .bl _, y => by cases y <;> simp only [eqv, toPy, PyData.eqv]
  | .int _, y => by cases y <;> simp only [eqv, toPy, PyData.eqv]
  | .str _, y => by cases y <;> simp only [eqv, toPy, PyData.eqv]
  | .ref _, y => by cases y <;> simp only [eqv, toPy, PyData.eqv]
  | .flst _, y => by cases y <;> simp only [eqv, toPy, PyData.eqv]
  | .dK _ _, y => by cases y <;> simp only [eqv, toPy, PyData.eqv]
  | .dT _ _, y => by cases y <;> simp only [eqv, toPy, PyData.eqv]
theorem eqvL_py : ∀ xs ys : List D, eqvL xs ys = PyData.eqvAll (toPyL xs) (toPyL ys)
  | [], [] => by simp only [eqvL, toPyL, PyData.eqvAll]
  | [], _ :: _ => by simp only [eqvL, toPyL, PyData.eqvAll]
  | _ :: _, [] => by simp only [eqvL, toPyL, PyData.eqvAll]
  | x :: xs, y :: ys => by simp only [eqvL, toPyL, PyData.eqvAll, eqv_py x y, eqvL_py xs ys]
end
mutual
/-- plain data of a depth below n whose texts are texts -/
def lay : Nat → D → Bool
  | _, .non => true
  | _, .bl _ => true
  | _, .int _ => true
  | _, .str x => PyData.strOk x
  | n + 1, .tp _ ds => layL n ds
  | n + 1, .lst ds => layL n ds
  | _, _ => false
def layL : Nat → List D → Bool
  | _, [] => true
  | n, d :: ds => lay n d && layL n ds
end
theorem layL_all (n : Nat) : ∀ ds : List D, layL n ds = ds.all (lay n)
  | [] => by simp [layL]
  | d :: ds => by rw [layL, layL_all n ds]; simp
mutual
theorem lay_py : ∀ (n : Nat) (d : D), lay n d = true → (toPy d).canLay0 = true ∧ (toPy d).depth ≤ n
  | _, .non, _ => by simp [toPy, PyData.canLay0, PyData.depth]
  | _, .bl _, _ => by simp [toPy, PyData.canLay0, PyData.depth]
  | _, .int _, _ => by simp [toPy, PyData.canLay0, PyData.depth]
  | n, .str x, h => by
    have h' : PyData.strOk x = true := by cases n <;> simpa [lay] using h
    simp [toPy, PyData.canLay0, PyData.depth, h']
  | n + 1, .tp _ ds, h => by
    obtain ⟨h1, h2⟩ := layL_py n ds (by simpa [lay] using h)
    simp only [toPy, PyData.canLay0, PyData.depth]
    exact ⟨h1, by omega⟩
  | n + 1, .lst ds, h => by
    obtain ⟨h1, h2⟩ := layL_py n ds (by simpa [lay] using h)
    simp only [toPy, PyData.canLay0, PyData.depth]
    exact ⟨h1, by omega⟩
  | 0, .tp _ _, h => by simp [lay] at h
  | 0, .lst _, h => by simp [lay] at h
  | n, .ref _, h => by cases n <;> simp [lay] at h
  | n, .flst _, h => by cases n <;> simp [lay] at h
  | n, .dK _ _, h => by cases n <;> simp [lay] at h
  | n, .dT _ _, h => by cases n <;> simp [lay] at h
theorem layL_py : ∀ (n : Nat) (ds : List D), layL n ds = true → PyData.canLayAll0 (toPyL ds) = true ∧ PyData.depthAll (toPyL ds) ≤ n
  | _, [], _ => by simp [toPyL, PyData.canLayAll0, PyData.depthAll]
  | n, d :: ds, h => by
    rw [layL, Bool.and_eq_true] at h
    obtain ⟨h1, h2⟩ := lay_py n d h.1
    obtain ⟨g1, g2⟩ := layL_py n ds h.2
    simp only [toPyL, PyData.canLayAll0, PyData.depthAll, h1, g1, Bool.and_self, true_and]
    omega
end
mutual
/-- plain data of a depth at most n -/
def pd : Nat → D → Bool
  | _, .non => true
  | _, .bl _ => true
  | _, .int _ => true
  | _, .str _ => true
  | n + 1, .tp _ ds => pdL n ds
  | n + 1, .lst ds => pdL n ds
  | _, _ => false
def pdL : Nat → List D → Bool
  | _, [] => true
  | n, d :: ds => pd n d && pdL n ds
end
mutual
theorem pd_lay : ∀ (n : Nat) (d : D), lay n d = true → pd n d = true
  | n, .non, _ => by cases n <;> rfl
  | n, .bl _, _ => by cases n <;> rfl
  | n, .int _, _ => by cases n <;> rfl
  | n, .str _, _ => by cases n <;> rfl
  | n + 1, .tp _ ds, h => by
    simp only [lay] at h
    simp only [pd]
    exact pdL_lay n ds h
  | n + 1, .lst ds, h => by
    simp only [lay] at h
    simp only [pd]
    exact pdL_lay n ds h
  | 0, .tp _ _, h => by simp [lay] at h
  | 0, .lst _, h => by simp [lay] at h
  | n, .flst _, h => by cases n <;> simp [lay] at h
  | n, .ref _, h => by cases n <;> simp [lay] at h
  | n, .dK _ _, h => by cases n <;> simp [lay] at h
  | n, .dT _ _, h => by cases n <;> simp [lay] at h
theorem pdL_lay : ∀ (n : Nat) (ds : List D), layL n ds = true → pdL n ds = true
  | _, [], _ => rfl
  | n, d :: ds, h => by
    rw [layL, Bool.and_eq_true] at h
    rw [pdL, pd_lay n d h.1, pdL_lay n ds h.2]; rfl
end
mutual
theorem pd_depth : ∀ (n : Nat) (d : D), pd n d = true → (toPy d).depth ≤ n
  | n, .non, _ => by simp [toPy, PyData.depth]
  | n, .bl _, _ => by simp [toPy, PyData.depth]
  | n, .int _, _ => by simp [toPy, PyData.depth]
  | n, .str _, _ => by simp [toPy, PyData.depth]
  | n + 1, .tp _ ds, h => by
    have := pdL_depth n ds (by simpa [pd] using h)
    simp only [toPy, PyData.depth]; omega
  | n + 1, .lst ds, h => by
    have := pdL_depth n ds (by simpa [pd] using h)
    simp only [toPy, PyData.depth]; omega
  | 0, .tp _ _, h => by simp [pd] at h
  | 0, .lst _, h => by simp [pd] at h
  | n, .flst _, h => by cases n <;> simp [pd] at h
  | n, .ref _, h => by cases n <;> simp [pd] at h
  | n, .dK _ _, h => by cases n <;> simp [pd] at h
  | n, .dT _ _, h => by cases n <;> simp [pd] at h
theorem pdL_depth : ∀ (n : Nat) (ds : List D), pdL n ds = true → PyData.depthAll (toPyL ds) ≤ n
  | _, [], _ => by simp [toPyL, PyData.depthAll]
  | n, d :: ds, h => by
    rw [pdL, Bool.and_eq_true] at h
    have h1 := pd_depth n d h.1
    have h2 := pdL_depth n ds h.2
    simp only [toPyL, PyData.depthAll]; omega
end
theorem shaped_of_lay {d : D} (h : lay 60 d = true) : SeqAt.shaped (toPy d) = true := by
  obtain ⟨h1, h2⟩ := lay_py 60 d h
  unfold SeqAt.shaped
  rw [h1, decide_eq_true (by omega)]; rfl
/-! ### order -/
mutual
def ltD : D → D → Bool
  | .bl a, .bl b => decide (b2i a < b2i b)
  | .int i, .int j => decide (i < j)
  | .str x, .str y => decide (x.cps.toList < y.cps.toList)
  | .tp _ xs, .tp _ ys => ltL xs ys
  | .lst xs, .lst ys => ltL xs ys
  | _, _ => false
def ltL : List D → List D → Bool
  | x :: xs, y :: ys => if eqv x y = true then ltL xs ys else ltD x y
  | [], _ :: _ => true
  | _, _ => false
end
mutual
def likeD : D → D → Bool
  | .non, .non => true
  | .bl _, .bl _ => true
  | .int _, .int _ => true
  | .str _, .str _ => true
  | .tp _ xs, .tp _ ys => likeL xs ys
  | .lst xs, .lst ys => likeL xs ys
  | _, _ => false
def likeL : List D → List D → Bool
  | x :: xs, y :: ys => likeD x y && likeL xs ys
  | _, _ => true
end
mutual
theorem like_py : ∀ x y : D, likeD x y = true → PySem.W.alike (toPy x) (toPy y) = true
  | .tp _ xs, y, h => by cases y <;> simp only [likeD, Bool.false_eq_true] at h <;> simp only [toPy, PySem.W.alike] <;> exact likeL_py xs _ h
  | .lst xs, y, h => by cases y <;> simp only [likeD, Bool.false_eq_true] at h <;> simp only [toPy, PySem.W.alike] <;> exact likeL_py xs _ h
  | .non, y, h => by cases y <;> simp only [likeD, Bool.false_eq_true] at h <;> simp only [toPy, PySem.W.alike]
  | .bl _, y, h => by cases y <;> simp only [likeD, Bool.false_eq_true] at h <;> simp only [toPy, PySem.W.alike]
  | .int _, y, h => by cases y <;> simp only [likeD, Bool.false_eq_true] at h <;> simp only [toPy, PySem.W.alike]
  | .str _, y, h => by cases y <;> simp only [likeD, Bool.false_eq_true] at h <;> simp only [toPy, PySem.W.alike]
  | .ref _, y, h => by cases y <;> simp only [likeD, Bool.false_eq_true] at h
  | .flst _, y, h => by cases y <;> simp only [likeD, Bool.false_eq_true] at h
  | .dK _ _, y, h => by cases y <;> simp only [likeD, Bool.false_eq_true] at h
  | .dT _ _, y, h => by cases y <;> simp only [likeD, Bool.false_eq_true] at h
theorem likeL_py : ∀ xs ys : List D, likeL xs ys = true → PySem.W.alikeAll (toPyL xs) (toPyL ys) = true
  | [], ys, _ => by cases ys <;> simp only [toPyL, PySem.W.alikeAll]
  | _ :: _, [], _ => by simp only [toPyL, PySem.W.alikeAll]
  | x :: xs, y :: ys, h => by
    rw [likeL, Bool.and_eq_true] at h
    simp only [toPyL, PySem.W.alikeAll, like_py x y h.1, likeL_py xs ys h.2, Bool.and_self]
end
mutual
theorem lt_py : ∀ x y : D, likeD x y = true → PySem.W.dataLt (toPy x) (toPy y) = ltD x y
  | .tp _ xs, y, h => by cases y <;> simp only [likeD, Bool.false_eq_true] at h <;> simp only [toPy, PySem.W.dataLt_tuple, ltD] <;> exact ltL_py xs _ h
  | .lst xs, y, h => by cases y <;> simp only [likeD, Bool.false_eq_true] at h <;> simp only [toPy, PySem.W.dataLt_list, ltD] <;> exact ltL_py xs _ h
  | .non, y, h => by cases y <;> simp only [likeD, Bool.false_eq_true] at h <;> simp only [toPy, ltD] <;> rfl
  | .bl _, y, h => by cases y <;> simp only [likeD, Bool.false_eq_true] at h <;> simp only [toPy, ltD, PySem.W.dataLt_bool]
  | .int _, y, h => by cases y <;> simp only [likeD, Bool.false_eq_true] at h <;> simp only [toPy, ltD, PySem.W.dataLt_int]
  | .str _, y, h => by cases y <;> simp only [likeD, Bool.false_eq_true] at h <;> simp only [toPy, ltD, PySem.W.dataLt_str]
  | .ref _, y, h => by cases y <;> simp only [likeD, Bool.false_eq_true] at h
  | .flst _, y, h => by cases y <;> simp only [likeD, Bool.false_eq_true] at h
  | .dK _ _, y, h => by cases y <;> simp only [likeD, Bool.false_eq_true] at h
  | .dT _ _, y, h => by cases y <;> simp only [likeD, Bool.false_eq_true] at h
theorem ltL_py : ∀ xs ys : List D, likeL xs ys = true → PyProof.Rows.lexLt itemOrd (PySem.W.keyToksAll (toPyL xs)) (PySem.W.keyToksAll (toPyL ys)) = ltL xs ys
  | [], [], _ => by simp only [toPyL, ltL]; decide +kernel
  | [], y :: ys, _ => by
    simp only [toPyL, ltL]
    rw [PySem.W.toks_all_cons]
    show PyProof.Rows.lexLt itemOrd [Sum.inl 0] (Sum.inl 1 :: _) = true
    rfl
  | _ :: _, [], _ => by
    simp only [toPyL, ltL]
    rw [PySem.W.toks_all_cons]
    rfl
  | x :: xs, y :: ys, h => by
    rw [likeL, Bool.and_eq_true] at h
    have hl := like_py x y h.1
    simp only [toPyL, ltL]
    by_cases e : eqv x y = true
    · rw [if_pos e, PySem.W.dataLt_all_yes hl (by rw [← eqv_py]; exact e)]
      exact ltL_py xs ys h.2
    · rw [if_neg e, PySem.W.dataLt_all_no hl (by rw [← eqv_py]; simpa using e)]
      exact lt_py x y h.1
end
section
variable {K : PySem.W.Frag} {M : MH} {H : Hp}
theorem asT_sq {d : D} {ds : List D} {v : V} (e : asT d = some ds) (r : Rp K M H d v) : ∃ a vs, v = .ref a ∧ SqT K H a vs ∧ RpL K M H ds vs := by
  cases d with
  | tp k es =>
    have e : es = ds := by simpa [asT] using e
    subst e
    obtain ⟨a, vs, h1, h2, h3⟩ := r
    exact ⟨a, vs, h1, h2.sq, h3⟩
  | _ => simp [asT] at e
theorem asL_sq {d : D} {ds : List D} {v : V} (m : RM K M H) (e : asL M d = some ds) (r : Rp K M H d v) : ∃ a vs, v = .ref a ∧ SqL K H a vs ∧ RpL K M H ds vs := by
  cases d with
  | lst es =>
    have e : es = ds := by simpa [asL] using e
    subst e
    obtain ⟨a, vs, h1, h2, h3, h4⟩ := r
    exact ⟨a, vs, h1, .inl (.inl h3), h4⟩
  | flst es =>
    have e : es = ds := by simpa [asL] using e
    subst e
    obtain ⟨a, vs, h1, h2, h3⟩ := r
    exact ⟨a, vs, h1, h2.sq, h3⟩
  | ref a =>
    have r : v = .ref a := r
    dsimp only [asL] at e
    cases q : M a with
    | none => rw [q] at e; cases e
    | some o =>
      rw [q] at e
      cases o with
      | lst es =>
        have e : es = ds := by simpa using e
        subst e
        obtain ⟨vs, h1, h2⟩ := m a _ q
        exact ⟨a, vs, r, .inl (.inl h1), h2⟩
      | _ => cases e
  | _ => simp [asL] at e
theorem exL_sq {d : D} {ds : List D} {v : V} (m : RM K M H) (e : exL M d = some ds) (r : Rp K M H d v) : ∃ a vs, v = .ref a ∧ H a = some (.lst vs) ∧ RpL K M H ds vs := by
  cases d with
  | lst es =>
    have e : es = ds := by simpa [exL] using e
    subst e
    obtain ⟨a, vs, h1, h2, h3, h4⟩ := r
    exact ⟨a, vs, h1, h3, h4⟩
  | ref a =>
    have r : v = .ref a := r
    dsimp only [exL] at e
    cases q : M a with
    | none => rw [q] at e; cases e
    | some o =>
      rw [q] at e
      cases o with
      | lst es =>
        have e : es = ds := by simpa using e
        subst e
        obtain ⟨vs, h1, h2⟩ := m a _ q
        exact ⟨a, vs, r, h1, h2⟩
      | _ => cases e
  | _ => simp [exL] at e
mutual
theorem Rp.dp : ∀ (n : Nat) (d : D) (v : V), Rp K M H d v → pd n d = true → Dp K H v (toPy d)
  | _, .non, v, r, _ => by
    have r : v = .non := r
    subst r; exact .non
  | _, .bl b, v, r, _ => by
    have r : v = .bl b := r
    subst r; exact .bl b
  | _, .int i, v, r, _ => by
    have r : v = .int i := r
    subst r; exact .int i
  | _, .str x, v, r, _ => by
    have r : v = .str x := r
    subst r; exact .str x
  | n + 1, .tp _ ds, v, r, h => by
    obtain ⟨a, vs, h1, h2, h3⟩ := r
    subst h1
    exact .tup h2.sq (RpL.dp n ds vs h3 h)
  | n + 1, .lst ds, v, r, h => by
    obtain ⟨a, vs, h1, h2, h3, h4⟩ := r
    subst h1
    exact .lst (.inl (.inl h3)) (RpL.dp n ds vs h4 h)
  | 0, .tp _ _, v, r, h => by simp [pd] at h
  | 0, .lst _, v, r, h => by simp [pd] at h
  | n, .flst _, v, r, h => by cases n <;> simp [pd] at h
  | n, .ref _, v, r, h => by cases n <;> simp [pd] at h
  | n, .dK _ _, v, r, h => by cases n <;> simp [pd] at h
  | n, .dT _ _, v, r, h => by cases n <;> simp [pd] at h
theorem RpL.dp : ∀ (n : Nat) (ds : List D) (vs : List V), RpL K M H ds vs → pdL n ds = true → DpAll K H vs (toPyL ds)
  | _, [], vs, r, _ => by
    have r : vs = [] := r
    subst r; exact .nil
  | n, d :: ds, vs, r, h => by
    obtain ⟨v, w, h1, h2, h3⟩ := r
    subst h1
    rw [pdL, Bool.and_eq_true] at h
    exact .cons (Rp.dp n d v h2 h.1) (RpL.dp n ds w h3 h.2)
end
theorem rdL_rp {d : D} {v : V} (m : RM K M H) (r : Rp K M H d v) : (∃ ds, asL M d = some ds ∧ rdL M d = .lst ds) ∨ rdL M d = d := by
  cases d with
  | ref a =>
    dsimp only [rdL, asL]
    cases q : M a with
    | none => exact .inr rfl
    | some o =>
      cases o with
      | lst es => exact .inl ⟨es, rfl, rfl⟩
      | _ => exact .inr rfl
  | _ => exact .inr rfl
theorem rdL_dp {n : Nat} {d : D} {v : V} (m : RM K M H) (r : Rp K M H d v) (h : pd n (rdL M d) = true) : Dp K H v (toPy (rdL M d)) := by
  rcases rdL_rp m r with ⟨ds, e1, e2⟩ | e
  · obtain ⟨a, vs, h1, h2, h3⟩ := asL_sq m e1 r
    rw [e2] at h ⊢
    subst h1
    cases n with
    | zero => simp [pd] at h
    | succ n => exact .lst h2 (RpL.dp n ds vs h3 h)
  · rw [e] at h ⊢
    exact Rp.dp n d v r h
end
end Z

/-! X2: a tuple times a number, up to a million members in all. -/
namespace Z
open PySem PySem.Spec PyProof.Rows L2
def rRepW (K : PySem.W.Frag) : R2 := fun x y H Q => ∃ a m us, x = .ref a ∧ y = .int m ∧ SqT K H a us ∧ us ≠ [] ∧ 2 ≤ m ∧ us.length * m.toNat ≤ 1000000 ∧ ∀ b, H b = none → Q (.ref b) (upd H b (.tup (List.replicate m.toNat us).flatten))
theorem op_repW {X : Cx} : OpR X (binaryOp .Mult) (rRepW X.K) := by
  intro pins sh st hp x y v u Q inv rx ry ⟨a, m, us, ex, ey, sq, ne, m2, sz, q⟩
  subst ex; subst ey
  cases rx
  obtain ⟨tk, ev⟩ := ry
  subst ev
  obtain ⟨ws, rel, ⟨⟨c, dct, dat, slo⟩, at_, c1, cnt, d1⟩, _⟩ := inv.tuple sq
  dsimp only at c1 d1
  subst c1; subst d1
  have len : ws.length = us.length := rel.length.symm
  have wne : ws ≠ [] := fun z => ne (List.eq_nil_of_length_eq_zero (by rw [← len, z]; rfl))
  have em : ws.toArray.isEmpty = false := by
    cases ws with
    | nil => exact absurd rfl wne
    | cons _ _ => rfl
  have prod : ((ws.toArray.size : Nat) : Int) * m ≤ 1000000 := by
    have e : m = ((m.toNat : Nat) : Int) := by omega
    rw [List.size_toArray, len, e, ← Int.natCast_mul]
    omega
  have pos : 1 ≤ us.length := by
    cases us with
    | nil => exact absurd rfl ne
    | cons _ _ => simp
  have mle : m.toNat ≤ 1000000 := Nat.le_trans (Nat.le_mul_of_pos_left _ pos) sz
  have whole : (List.replicate m.toNat us).flatten.length ≤ sizeLine := by
    rw [PyProof.Rows.lm_len_rep_flat, sizeLine_eq, Nat.mul_comm]
    omega
  have whole' : (List.replicate m.toNat ws).flatten.length ≤ sizeLine := by
    rw [PyProof.Rows.lm_len_rep_flat, len, sizeLine_eq, Nat.mul_comm]
    omega
  have k0 : (decide (m < -(2 ^ 63)) || decide (m ≥ 2 ^ 63)) = false := by
    have n1 : ¬ m < -(2 ^ 63) := by omega
    have n2 : ¬ m ≥ 2 ^ 63 := by omega
    simp only [decide_eq_false n1, decide_eq_false n2, Bool.or_self]
  have k1 : (ws.toArray.isEmpty || m == 1) = false := by
    have n1 : (m == 1) = false := beq_eq_false_iff_ne.mpr (by omega)
    simp only [em, n1, Bool.or_self]
  have k2 : (decide (m ≤ 0) || ws.toArray.isEmpty) = false := by
    have n1 : ¬ m ≤ 0 := by omega
    simp only [em, decide_eq_false n1, Bool.or_self]
  have k4 : Builtin.Tuple.tupleTooMany (((ws.toArray.size : Nat) : Int) * m) = false := by
    unfold Builtin.Tuple.tupleTooMany
    have n1 := sizeLine_eq
    exact decide_eq_false (by rw [n1]; omega)
  have last := tuple_mulW a ws.toArray cnt dct slo m tk k0 k1 k2 (by omega) k4 (by rw [size_rep, List.size_toArray]; exact whole')
  have first := int_rmul_tuple m tk a ws.toArray cnt dct slo
  refine wpAny_binaryOp_repeat_ref (T := "tuple") (U := "int") (by decide) ⟨_, at_, rfl⟩ (fun z => typeIs_int z m tk) noFill_tuple_mul F.fills_int_mul F.slot_int_rmul repeat_tuple F.slot_int_index.lookup ?_
  refine call_meets F.slot_int_rmul (typeIs_int sh m tk) F.entry_int_rmul (F.args_int_rmul_2 _ _) first ⟨at_, rfl, ⟨_, at_, rfl⟩, ?_⟩
  refine call_meets F.slot_tuple_mul ⟨_, at_, rfl⟩ F.entry_tuple_mul (F.args_tuple_mul_2 _ _) last ⟨at_, ?_⟩
  rw [size_rep]
  have laid := inv.laid (t' := sh.toks) (o := .tup (List.replicate m.toNat us).flatten) (fun b o z => Heap.get?_push_of_some _ z) (Nat.le_refl _) ⟨whole, _, rel.rep m.toNat, IsTup.new _ _⟩
  exact ⟨.ref sh.heap.objs.size, _, laid, rfl, q _ (inv.hok.fresh (Nat.le_refl _))⟩
end Z

namespace Z
open PySem PySem.Spec PyProof.Rows L2

/-! ### arithmetic -/
def add3 : O2 := fun x y M Q => match x, y with
  | .int i, .int j => Q (.int (i + j)) M
  | .str a, .str b => a.length + b.length ≤ sizeLine ∧ Q (.str (a ++ b)) M
  | .tup a, .tup b => a.length + b.length ≤ sizeLine ∧ Q (.tup (a ++ b)) M
  | x, y => match exL M x, exL M y with
    | some a, some b => a.length + b.length ≤ sizeLine ∧ Q (.lst (a ++ b)) M
    | _, _ => False
def sub3 : O2 := fun x y M Q => match x, y with
  | .int i, .int j => Q (.int (i - j)) M
  | _, _ => False
def WideOk (i j : Int) : Prop := IntMulOk i j
def mul3 : O2 := fun x y M Q => match x, y with
  | .int i, .int j => WideOk i j ∧ Q (.int (i * j)) M
  | .tup a, .int k => a ≠ [] ∧ 2 ≤ k ∧ a.length * k.toNat ≤ 1000000 ∧ Q (.tup (List.replicate k.toNat a).flatten) M
  | .str a, .int k => (0 ≤ k ∧ k ≤ 1000 ∧ a.length ≤ 1000) ∧ Q (.str (Txt.mul a k)) M
  | x, .int k => match exL M x with
    | some a => -(2 ^ 63) ≤ k ∧ k < 2 ^ 63 ∧ a.length * k.toNat ≤ sizeLine ∧ Q (.lst (List.replicate k.toNat a).flatten) M
    | none => False
  | _, _ => False
def fdv3 : O2 := fun x y M Q => match x, y with
  | .int i, .int j => (j ≠ 0 ∧ j.natAbs < 1073741824) ∧ Q (.int (i.fdiv j)) M
  | _, _ => False
def mod3 : O2 := fun x y M Q => match x, y with
  | .int i, .int j => j ≠ 0 ∧ Q (.int (i.fmod j)) M
  | _, _ => False
def pow3 : O2 := fun x y M Q => match x, y with
  | .int i, .int j => (0 ≤ j ∧ j ≤ 1000000 ∧ i.natAbs < 2 ^ 64) ∧ Q (.int (i ^ j.toNat)) M
  | _, _ => False
def neg3 : O1 := fun x M Q => match x with
  | .int i => Q (.int (-i)) M
  | _ => False
theorem rp_int {K : PySem.W.Frag} {M : MH} {H : Hp} {i : Int} {v : V} (h : Rp K M H (.int i) v) : v = .int i := h
theorem rp_str {K : PySem.W.Frag} {M : MH} {H : Hp} {x : Str} {v : V} (h : Rp K M H (.str x) v) : v = .str x := h
theorem rp_bl {K : PySem.W.Frag} {M : MH} {H : Hp} {b : Bool} {v : V} (h : Rp K M H (.bl b) v) : v = .bl b := h
section
variable {X : Cx}
theorem zo_sub : OpR X (binaryOp .Sub) (LO2 X.K sub3) := oimp op_sub fun x y H Q ⟨d1, d2, M, Q3, r1, r2, rm, o, c⟩ => by
  unfold sub3 at o
  split at o
  · exact ⟨_, _, r1, r2, c.now rm o rfl⟩
  · exact o.elim
theorem zo_fdv : OpR X (binaryOp .FloorDiv) (LO2 X.K fdv3) := oimp op_fdivN fun x y H Q ⟨d1, d2, M, Q3, r1, r2, rm, o, c⟩ => by
  unfold fdv3 at o
  split at o
  · exact ⟨_, _, r1, r2, o.1, c.now rm o.2 rfl⟩
  · exact o.elim
theorem zo_mod : OpR X (binaryOp .Mod) (LO2 X.K mod3) := oimp op_modN fun x y H Q ⟨d1, d2, M, Q3, r1, r2, rm, o, c⟩ => by
  unfold mod3 at o
  split at o
  · exact ⟨_, _, r1, r2, o.1, c.now rm o.2 rfl⟩
  · exact o.elim
theorem zo_pow : OpR X (binaryOp .Pow) (LO2 X.K pow3) := oimp op_pow fun x y H Q ⟨d1, d2, M, Q3, r1, r2, rm, o, c⟩ => by
  unfold pow3 at o
  split at o
  · exact ⟨_, _, r1, r2, o.1, c.now rm o.2 rfl⟩
  · exact o.elim
theorem zo_neg : UnR X (unaryOp .USub) (LO1 X.K neg3) := uimp un_neg fun x H Q ⟨d1, M, Q3, r1, rm, o, c⟩ => by
  unfold neg3 at o
  split at o
  · exact ⟨_, r1, c.now rm o rfl⟩
  · exact o.elim
theorem op_mulOk : OpR X (binaryOp .Mult) (rI IntMulOk fun i j => .int (i * j)) := opI fun _ _ _ _ _ _ _ hc q => mul_int q hc
theorem or2 {f : Value → Value → Sem Value} {r r' : R2} (h : OpR X f r) (h' : OpR X f r') : OpR X f (fun x y H Q => r x y H Q ∨ r' x y H Q) := OpR.or h h'
theorem zo_add : OpR X (binaryOp .Add) (LO2 X.K add3) := oimp (or2 op_add (or2 op_add_str (or2 op_catA op_cat))) fun x y H Q ⟨d1, d2, M, Q3, r1, r2, rm, o, c⟩ => by
  unfold add3 at o
  split at o
  · exact .inl ⟨_, _, r1, r2, c.now rm o rfl⟩
  · exact .inr (.inl ⟨_, _, r1, r2, o.1, c.now rm o.2 rfl⟩)
  · rename_i a b
    obtain ⟨p, vs, h1, ⟨h2, h3⟩, h4⟩ := r1
    obtain ⟨q, ws, g1, ⟨g2, g3⟩, g4⟩ := r2
    obtain ⟨o1, o2⟩ := o
    refine .inr (.inr (.inl ⟨p, q, vs, ws, h1, g1, .inl (.inl h3), .inl (.inl g3), by rw [h4.length, g4.length]; exact o1, fun e => ?_, fun _ e => ?_, fun _ _ l hl => ?_⟩))
    · have ea : a = [] := by
        have := h4.length
        rw [e] at this
        exact List.eq_nil_of_length_eq_zero this.symm
      subst ea
      exact c.now rm o2 ⟨q, ws, rfl, ⟨g2, g3⟩, g4⟩
    · have eb : b = [] := by
        have := g4.length
        rw [e] at this
        exact List.eq_nil_of_length_eq_zero this.symm
      subst eb
      rw [List.append_nil] at o2
      exact c.now rm o2 ⟨p, vs, rfl, ⟨h2, h3⟩, h4⟩
    · exact c _ M _ _ o2 (Rp.tupNew rm hl (h4.append g4)) (rm.new hl) (Ev.new hl)
  · split at o
    · rename_i a b e1 e2
      obtain ⟨p, vs, h1, h3, h4⟩ := exL_sq rm e1 r1
      obtain ⟨q, ws, g1, g3, g4⟩ := exL_sq rm e2 r2
      exact .inr (.inr (.inr ⟨p, q, vs, ws, h1, g1, h3, g3, by rw [h4.length, g4.length]; exact o.1, fun l hl => c _ M _ _ o.2 (Rp.lstNew rm hl (h4.append g4)) (rm.new hl) (Ev.new hl)⟩))
    · exact o.elim
/-- lists one behind the other, a new one that may change -/
def addM3 : O2 := fun x y M Q => match exL M x, exL M y with
  | some a, some b => a.length + b.length ≤ sizeLine ∧ ∀ p, M p = none → Q (.ref p) (up M p (.lst (a ++ b)))
  | _, _ => False
theorem zo_addM : OpR X (binaryOp .Add) (LO2 X.K addM3) := oimp op_cat fun x y H Q ⟨d1, d2, M, Q3, r1, r2, rm, o, c⟩ => by
  unfold addM3 at o
  split at o
  · rename_i a b e1 e2
    obtain ⟨p, vs, h1, h3, h4⟩ := exL_sq rm e1 r1
    obtain ⟨q, ws, g1, g3, g4⟩ := exL_sq rm e2 r2
    exact ⟨p, q, vs, ws, h1, g1, h3, g3, by rw [h4.length, g4.length]; exact o.1, fun l hl => c _ _ _ _ (o.2 l (rm.free hl)) rfl (rm.lstNew hl (h4.append g4)) (Ev.newM hl)⟩
  · exact o.elim
theorem RpL.rep {K : PySem.W.Frag} {M : MH} {H : Hp} {ds : List D} {vs : List V} (h : RpL K M H ds vs) : ∀ n : Nat, RpL K M H (List.replicate n ds).flatten (List.replicate n vs).flatten
  | 0 => rfl
  | n + 1 => by
    rw [List.replicate_succ, List.replicate_succ, List.flatten_cons, List.flatten_cons]
    exact h.append (RpL.rep h n)
theorem mul_fits {a : Str} {k : Int} (h0 : 0 ≤ k) (h1 : k ≤ 1000) (h2 : a.length ≤ 1000) : MulOk a k := by
  refine ⟨?_, fun h3 _ => ?_, fun h3 _ => ?_⟩
  · rw [decide_eq_false (by omega), decide_eq_false (by omega)]; rfl
  · have hk : 1 ≤ k := by omega
    have : (2 ^ 63 - 1) / 1000 ≤ ((2 : Int) ^ 63 - 1) / k := by
      refine Int.le_ediv_of_mul_le (by omega) ?_
      have : ((2 : Int) ^ 63 - 1) / 1000 * k ≤ ((2 : Int) ^ 63 - 1) / 1000 * 1000 := Int.mul_le_mul_of_nonneg_left h1 (by decide)
      exact Int.le_trans this (by decide)
    have h4 : (1000 : Int) ≤ (2 ^ 63 - 1) / 1000 := by decide
    omega
  · unfold Builtin.Str.tooLong
    have h4 : a.length * k.toNat ≤ 1000 * 1000 := Nat.mul_le_mul h2 (by omega)
    have h5 : 1000 * 1000 ≤ sizeLine := by decide
    exact decide_eq_false (by omega)
theorem op_mul_str : OpR X (binaryOp .Mult) (fun x y H Q => ∃ a n, x = .str a ∧ y = .int n ∧ MulOk a n ∧ Q (.str (Txt.mul a n)) H) := by
  intro pins s σ H x y v u Q I rx ry h
  obtain ⟨a, n, rfl, rfl, ok, q⟩ := h
  obtain ⟨t, rfl⟩ := rx
  obtain ⟨t2, rfl⟩ := ry
  exact PySem.SB.mul ok fun t' k => ⟨.str (Txt.mul a n), H, I.tok _, ⟨_, rfl⟩, q⟩
theorem zo_mul : OpR X (binaryOp .Mult) (LO2 X.K mul3) := oimp (or2 op_mulOk (or2 op_repW (or2 op_rep op_mul_str))) fun x y H Q ⟨d1, d2, M, Q3, r1, r2, rm, o, c⟩ => by
  unfold mul3 at o
  split at o
  · exact .inl ⟨_, _, r1, r2, o.1, c.now rm o.2 rfl⟩
  · rename_i a k
    obtain ⟨p, vs, h1, ⟨h2, h3⟩, h4⟩ := r1
    obtain ⟨o1, o2, o3, o5⟩ := o
    refine .inr (.inl ⟨p, k, vs, h1, r2, .inl (.inl h3), fun e => o1 ?_, o2, by rw [h4.length]; exact o3, fun l hl => c _ M _ _ o5 (Rp.tupNew rm hl (h4.rep _)) (rm.new hl) (Ev.new hl)⟩)
    have := h4.length
    rw [e] at this
    exact List.eq_nil_of_length_eq_zero this.symm
  · exact .inr (.inr (.inr ⟨_, _, rp_str r1, rp_int r2, mul_fits o.1.1 o.1.2.1 o.1.2.2, c.now rm o.2 rfl⟩))
  · split at o
    · rename_i e1
      obtain ⟨p, vs, h1, h3, h4⟩ := exL_sq rm e1 r1
      exact .inr (.inr (.inl ⟨p, _, vs, h1, r2, h3, o.1, o.2.1, by rw [h4.length]; exact o.2.2.1, fun l hl => c _ M _ _ o.2.2.2 (Rp.lstNew rm hl (h4.rep _)) (rm.new hl) (Ev.new hl)⟩))
    · exact o.elim
  · exact o.elim
end

/-! ### == and != -/
/-- scalars that are compared at sight -/
def sc2 : D → D → Bool
  | .non, .non => true | .non, .int _ => true | .int _, .non => true | .non, .bl _ => true | .bl _, .non => true | .non, .str _ => true | .str _, .non => true
  | .int _, .int _ => true | .bl _, .bl _ => true | .str _, .str _ => true
  | .int _, .str _ => true | .str _, .int _ => true | .bl _, .str _ => true | .str _, .bl _ => true
  | _, _ => false
def eqOk (M : MH) (x y : D) : Bool := sc2 x y || (lay 60 (rdL M x) && lay 60 (rdL M y))
def eq3 : O2 := fun x y M Q => eqOk M x y = true ∧ Q (.bl (eqv (rdL M x) (rdL M y))) M
def ne3 : O2 := fun x y M Q => eqOk M x y = true ∧ Q (.bl (!eqv (rdL M x) (rdL M y))) M
section
variable {X : Cx}
theorem sc2_scal {K : PySem.W.Frag} {M : MH} {H : Hp} {x y : D} {v w : V} (h : sc2 x y = true) (rx : Rp K M H x v) (ry : Rp K M H y w) : scal v w = true ∧ decide (v = w) = eqv (rdL M x) (rdL M y) := by
  cases x <;> cases y <;> first
    | (exact absurd h Bool.false_ne_true)
    | (have rx := show v = _ from rx
       have ry := show w = _ from ry
       subst rx; subst ry
       refine ⟨rfl, ?_⟩
       simp only [eqv, rdL]
       first | exact dec_int | exact dec_bl | exact dec_str | simp)
theorem zo_eq (hu : X.A.units + 64 < cLine) : OpR X (compareOp .Eq) (LO2 X.K eq3) := oimp (or2 op_eq (op_eqD hu)) fun x y H Q ⟨d1, d2, M, Q3, r1, r2, rm, o, c⟩ => by
  obtain ⟨h, o⟩ := o
  unfold eqOk at h
  rw [Bool.or_eq_true] at h
  rcases h with h | h
  · obtain ⟨h1, h2⟩ := sc2_scal h r1 r2
    exact .inl ⟨h1, c.now rm o (by rw [h2]; rfl)⟩
  · rw [Bool.and_eq_true] at h
    refine .inr ⟨_, _, rdL_dp rm r1 (pd_lay _ _ h.1), rdL_dp rm r2 (pd_lay _ _ h.2), shaped_of_lay h.1, shaped_of_lay h.2, c.now rm o ?_⟩
    rw [eqv_py]; rfl
theorem zo_ne (hu : X.A.units + 64 < cLine) : OpR X (compareOp .NotEq) (LO2 X.K ne3) := oimp (or2 op_ne (op_neD hu)) fun x y H Q ⟨d1, d2, M, Q3, r1, r2, rm, o, c⟩ => by
  obtain ⟨h, o⟩ := o
  unfold eqOk at h
  rw [Bool.or_eq_true] at h
  rcases h with h | h
  · obtain ⟨h1, h2⟩ := sc2_scal h r1 r2
    exact .inl ⟨h1, c.now rm o (by rw [h2]; rfl)⟩
  · rw [Bool.and_eq_true] at h
    refine .inr ⟨_, _, rdL_dp rm r1 (pd_lay _ _ h.1), rdL_dp rm r2 (pd_lay _ _ h.2), shaped_of_lay h.1, shaped_of_lay h.2, c.now rm o ?_⟩
    rw [eqv_py]; rfl
end
/-! ### < <= > >= -/
def notNon : D → Bool
  | .non => false
  | _ => true
def ltOk (M : MH) (x y : D) : Bool := likeD (rdL M x) (rdL M y) && notNon (rdL M x) && pd 60 (rdL M x) && pd 60 (rdL M y)
def lt3 : O2 := fun x y M Q => match x, y with
  | .int i, .int j => Q (.bl (decide (i < j))) M
  | x, y => ltOk M x y = true ∧ Q (.bl (ltD (rdL M x) (rdL M y))) M
def le3 : O2 := fun x y M Q => match x, y with
  | .int i, .int j => Q (.bl (decide (i ≤ j))) M
  | x, y => ltOk M x y = true ∧ Q (.bl (!ltD (rdL M y) (rdL M x))) M
def gt3 : O2 := fun x y M Q => match x, y with
  | .int i, .int j => Q (.bl (decide (j < i))) M
  | x, y => ltOk M x y = true ∧ Q (.bl (ltD (rdL M y) (rdL M x))) M
def ge3 : O2 := fun x y M Q => match x, y with
  | .int i, .int j => Q (.bl (decide (j ≤ i))) M
  | x, y => ltOk M x y = true ∧ Q (.bl (!ltD (rdL M x) (rdL M y))) M
section
variable {X : Cx}
/-- an order's operator on data -/
theorem op_ord {op : CmpOp} {g : PyData → PyData → Bool}
    (rule : ∀ (s : Shared) (da db : PyData) (a b : Value) (as bs : List Addr) (Q : Value → Shared → Prop), Reads s.heap a da as → Reads s.heap b db bs → PySem.W.alike da db = true → da ≠ .none → X.A.units + min da.depth db.depth < cLine → Q (.bool (g da db)) s → wpAny (model X.prog X.w) X.A (compareOp op a b) Q X.xe s) :
    OpR X (compareOp op) (fun x y H Q => ∃ da db, Dp X.K H x da ∧ Dp X.K H y db ∧ PySem.W.alike da db = true ∧ da ≠ .none ∧ X.A.units + min da.depth db.depth < cLine ∧ Q (.bl (g da db)) H) := by
  intro pins s σ H x y v u Q I rx ry ⟨da, db, h1, h2, h3, h4, h5, q⟩
  obtain ⟨as, g1⟩ := Dp.reads I da x v h1 rx
  obtain ⟨bs, g2⟩ := Dp.reads I db y u h2 ry
  exact rule s da db v u as bs _ g1 g2 h3 h4 h5 ⟨.bl _, H, I, rfl, q⟩
theorem ltOk_parts {M : MH} {H : Hp} {x y : D} {v w : V} (hu : X.A.units + 64 < cLine) (rm : RM X.K M H) (h : ltOk M x y = true) (rx : Rp X.K M H x v) (ry : Rp X.K M H y w) :
    Dp X.K H v (toPy (rdL M x)) ∧ Dp X.K H w (toPy (rdL M y)) ∧ PySem.W.alike (toPy (rdL M x)) (toPy (rdL M y)) = true ∧ toPy (rdL M x) ≠ .none ∧ X.A.units + min (toPy (rdL M x)).depth (toPy (rdL M y)).depth < cLine ∧ likeD (rdL M x) (rdL M y) = true := by
  unfold ltOk at h
  simp only [Bool.and_eq_true] at h
  obtain ⟨⟨⟨h1, h2⟩, h3⟩, h4⟩ := h
  refine ⟨rdL_dp rm rx h3, rdL_dp rm ry h4, like_py _ _ h1, fun e => ?_, ?_, h1⟩
  · revert h2 e
    cases rdL M x <;> simp [notNon, toPy]
  · have := pd_depth _ _ h3
    omega
mutual
theorem like_comm : ∀ x y : D, likeD x y = likeD y x
  | .tp _ xs, y => by cases y <;> simp only [likeD] <;> exact likeL_comm xs _
  | .lst xs, y => by cases y <;> simp only [likeD] <;> exact likeL_comm xs _
  | .non, y => by cases y <;> simp only [likeD]
  | .bl _, y => by cases y <;> simp only [likeD]
  | .int _, y => by cases y <;> simp only [likeD]
  | .str _, y => by cases y <;> simp only [likeD]
  | .ref _, y => by cases y <;> simp only [likeD]
  | .flst _, y => by cases y <;> simp only [likeD]
  | .dK _ _, y => by cases y <;> simp only [likeD]
  | .dT _ _, y => by cases y <;> simp only [likeD]
theorem likeL_comm : ∀ xs ys : List D, likeL xs ys = likeL ys xs
  | [], [] => rfl
  | [], _ :: _ => by simp only [likeL]
  | _ :: _, [] => by simp only [likeL]
  | x :: xs, y :: ys => by simp only [likeL, like_comm x y, likeL_comm xs ys]
end
theorem zo_lt (hu : X.A.units + 64 < cLine) : OpR X (compareOp .Lt) (LO2 X.K lt3) := oimp (or2 op_lt (op_ord fun s da db a b as bs Q => PySem.W.lt_data)) fun x y H Q ⟨d1, d2, M, Q3, r1, r2, rm, o, c⟩ => by
  unfold lt3 at o
  split at o
  · exact .inl ⟨_, _, r1, r2, c.now rm o rfl⟩
  · obtain ⟨h1, h2, h3, h4, h5, h6⟩ := ltOk_parts hu rm o.1 r1 r2
    exact .inr ⟨_, _, h1, h2, h3, h4, h5, c.now rm o.2 (by rw [lt_py _ _ h6]; rfl)⟩
theorem zo_le (hu : X.A.units + 64 < cLine) : OpR X (compareOp .LtE) (LO2 X.K le3) := oimp (or2 op_le (op_ord fun s da db a b as bs Q => PySem.W.le_data)) fun x y H Q ⟨d1, d2, M, Q3, r1, r2, rm, o, c⟩ => by
  unfold le3 at o
  split at o
  · exact .inl ⟨_, _, r1, r2, c.now rm o rfl⟩
  · obtain ⟨h1, h2, h3, h4, h5, h6⟩ := ltOk_parts hu rm o.1 r1 r2
    exact .inr ⟨_, _, h1, h2, h3, h4, h5, c.now rm o.2 (by rw [lt_py _ _ (by rw [like_comm]; exact h6)]; rfl)⟩
theorem zo_gt (hu : X.A.units + 64 < cLine) : OpR X (compareOp .Gt) (LO2 X.K gt3) := oimp (or2 op_gt (op_ord (g := fun a b => PySem.W.dataLt b a) fun s da db a b as bs Q => PySem.W.gt_data)) fun x y H Q ⟨d1, d2, M, Q3, r1, r2, rm, o, c⟩ => by
  unfold gt3 at o
  split at o
  · exact .inl ⟨_, _, r1, r2, c.now rm o rfl⟩
  · obtain ⟨h1, h2, h3, h4, h5, h6⟩ := ltOk_parts hu rm o.1 r1 r2
    exact .inr ⟨_, _, h1, h2, h3, h4, h5, c.now rm o.2 (by rw [lt_py _ _ (by rw [like_comm]; exact h6)]; rfl)⟩
theorem zo_ge (hu : X.A.units + 64 < cLine) : OpR X (compareOp .GtE) (LO2 X.K ge3) := oimp (or2 op_ge (op_ord (g := fun a b => !PySem.W.dataLt a b) fun s da db a b as bs Q => PySem.W.ge_data)) fun x y H Q ⟨d1, d2, M, Q3, r1, r2, rm, o, c⟩ => by
  unfold ge3 at o
  split at o
  · exact .inl ⟨_, _, r1, r2, c.now rm o rfl⟩
  · obtain ⟨h1, h2, h3, h4, h5, h6⟩ := ltOk_parts hu rm o.1 r1 r2
    exact .inr ⟨_, _, h1, h2, h3, h4, h5, c.now rm o.2 (by rw [lt_py _ _ h6]; rfl)⟩
end
/-! ### is None -/
def isNon : D → Bool
  | .non => true
  | _ => false
def isN3 : O2 := fun x y M Q => match y with | .non => Q (.bl (isNon x)) M | _ => False
def notN3 : O2 := fun x y M Q => match y with | .non => Q (.bl (!isNon x)) M | _ => False
theorem isNon_v {K : PySem.W.Frag} {M : MH} {H : Hp} {d : D} {v : V} (r : Rp K M H d v) : decide (v = .non) = isNon d := by
  cases d with
  | non =>
    have r := show v = _ from r
    subst r; rfl
  | bl _ =>
    have r := show v = _ from r
    subst r; rfl
  | int _ =>
    have r := show v = _ from r
    subst r; rfl
  | str _ =>
    have r := show v = _ from r
    subst r; rfl
  | ref _ =>
    have r := show v = _ from r
    subst r; rfl
  | tp _ _ => obtain ⟨a, vs, h, _⟩ := r; subst h; rfl
  | lst _ => obtain ⟨a, vs, h, _⟩ := r; subst h; rfl
  | flst _ => obtain ⟨a, vs, h, _⟩ := r; subst h; rfl
  | dK _ _ => obtain ⟨a, vs, h, _⟩ := r; subst h; rfl
  | dT _ _ => obtain ⟨a, vs, h, _⟩ := r; subst h; rfl
section
variable {X : Cx}
theorem zo_isN : OpR X (compareOp .Is) (LO2 X.K isN3) := oimp op_isN fun x y H Q ⟨d1, d2, M, Q3, r1, r2, rm, o, c⟩ => by
  unfold isN3 at o
  split at o
  · exact ⟨r2, c.now rm o (by rw [isNon_v r1]; rfl)⟩
  · exact o.elim
theorem zo_notN : OpR X (compareOp .IsNot) (LO2 X.K notN3) := oimp op_notN fun x y H Q ⟨d1, d2, M, Q3, r1, r2, rm, o, c⟩ => by
  unfold notN3 at o
  split at o
  · exact ⟨r2, c.now rm o (by rw [isNon_v r1]; rfl)⟩
  · exact o.elim
end
/-! ### dicts, by look-up -/
def asK (M : MH) : D → Option (List (Key × D))
  | .dK ks ds => some (ks.zip ds)
  | .ref a => match M a with | some (.dK kvs) => some kvs | _ => none
  | _ => none
def asD (M : MH) : D → Option (List (List Key × D))
  | .dT ks ds => some (ks.zip ds)
  | .ref a => match M a with | some (.dT kvs) => some kvs | _ => none
  | _ => none
def keyK : D → Option Key
  | .int i => some (.inl i)
  | .str x => some (.inr x)
  | _ => none
def keysK : List D → Option (List Key)
  | [] => some []
  | d :: ds => match keyK d, keysK ds with | some k, some ks => some (k :: ks) | _, _ => none
def keyT : D → Option (List Key)
  | .tup ds => keysK ds
  | _ => none
section
variable {κ : Type} [DecidableEq κ]
def valD (kvs : List (κ × D)) (k : κ) : Option D := (kvs.find? fun kv => decide (kv.1 = k)).map (·.2)
def putD (kvs : List (κ × D)) (k : κ) (v : D) : List (κ × D) :=
  if (kvs.any fun kv => decide (kv.1 = k)) = true then kvs.map (fun kv => if kv.1 = k then (kv.1, v) else kv) else kvs ++ [(k, v)]
theorem valD_nil {k : κ} : valD ([] : List (κ × D)) k = none := rfl
theorem valD_pos {p : κ × D} {r : List (κ × D)} {k : κ} (e : p.1 = k) : valD (p :: r) k = some p.2 := by simp [valD, List.find?_cons, e]
theorem valD_neg {p : κ × D} {r : List (κ × D)} {k : κ} (e : ¬ p.1 = k) : valD (p :: r) k = valD r k := by simp [valD, List.find?_cons, e]
end
section
variable {K : PySem.W.Frag} {M : MH} {H : Hp} {κ : Type} [DecidableEq κ]
/-- a dict's pairs over its values -/
theorem val_rp {k : κ} : ∀ {kvs : List (κ × D)} {vs : List V}, RpL K M H (kvs.map (·.2)) vs → (valD kvs k = none ∧ valV ((kvs.map (·.1)).zip vs) k = none) ∨ ∃ d v, valD kvs k = some d ∧ valV ((kvs.map (·.1)).zip vs) k = some v ∧ Rp K M H d v
  | [], vs, h => .inl ⟨rfl, by simp [valV_nil]⟩
  | p :: r, vs, h => by
    obtain ⟨v, w, h1, h2, h3⟩ := h
    subst h1
    rw [List.map_cons, List.zip_cons_cons]
    by_cases e : p.1 = k
    · exact .inr ⟨p.2, v, valD_pos e, valV_pos (p := (p.1, v)) e, h2⟩
    · rw [valD_neg e, valV_neg (p := (p.1, v)) e]
      exact val_rp h3
theorem put_rp {k : κ} {d : D} {v : V} (hd : Rp K M H d v) {kvs : List (κ × D)} {vs : List V} (h : RpL K M H (kvs.map (·.2)) vs) :
    ∃ ws, putK ((kvs.map (·.1)).zip vs) k v = ((putD kvs k d).map (·.1)).zip ws ∧ RpL K M H ((putD kvs k d).map (·.2)) ws := by
  have any : ∀ {kvs : List (κ × D)} {vs : List V}, RpL K M H (kvs.map (·.2)) vs → (((kvs.map (·.1)).zip vs).any fun kv => decide (kv.1 = k)) = kvs.any fun kv => decide (kv.1 = k) := by
    intro kvs
    induction kvs with
    | nil => intro vs h; simp
    | cons p r ih =>
      intro vs h
      obtain ⟨u, w, h1, h2, h3⟩ := h
      subst h1
      rw [List.map_cons, List.zip_cons_cons, List.any_cons, List.any_cons, ih h3]
  have mp : ∀ {kvs : List (κ × D)} {vs : List V}, RpL K M H (kvs.map (·.2)) vs → ∃ ws, (((kvs.map (·.1)).zip vs).map fun kv => if kv.1 = k then (kv.1, v) else kv) = ((kvs.map fun kv => if kv.1 = k then (kv.1, d) else kv).map (·.1)).zip ws ∧ RpL K M H ((kvs.map fun kv => if kv.1 = k then (kv.1, d) else kv).map (·.2)) ws := by
    intro kvs
    induction kvs with
    | nil =>
      intro vs h
      have h : vs = [] := h
      subst h
      exact ⟨[], rfl, rfl⟩
    | cons p r ih =>
      intro vs h
      obtain ⟨u, w, h1, h2, h3⟩ := h
      subst h1
      obtain ⟨ws, e1, e2⟩ := ih h3
      by_cases e : p.1 = k
      · refine ⟨v :: ws, ?_, ?_⟩
        · simp only [List.map_cons, List.zip_cons_cons, if_pos e, e1]
        · simp only [List.map_cons, if_pos e]
          exact ⟨v, ws, rfl, hd, e2⟩
      · refine ⟨u :: ws, ?_, ?_⟩
        · simp only [List.map_cons, List.zip_cons_cons, if_neg e, e1]
        · simp only [List.map_cons, if_neg e]
          exact ⟨u, ws, rfl, h2, e2⟩
  unfold putK putD
  rw [any h]
  by_cases a : (kvs.any fun kv => decide (kv.1 = k)) = true
  · rw [if_pos a, if_pos a]
    exact mp h
  · rw [if_neg a, if_neg a]
    refine ⟨vs ++ [v], ?_, ?_⟩
    · rw [List.map_append, List.map_cons, List.map_nil, List.zip_append (by rw [h.length]; simp)]
      rfl
    · rw [List.map_append]
      exact h.append (RpL.one hd)
theorem keyK_v {d : D} {k : Key} {v : V} (e : keyK d = some k) (r : Rp K M H d v) : v = kV k := by
  cases d with
  | int i =>
    have e : Sum.inl i = k := by simpa [keyK] using e
    subst e
    exact r
  | str x =>
    have e : Sum.inr x = k := by simpa [keyK] using e
    subst e
    exact r
  | _ => simp [keyK] at e
theorem keysK_v : ∀ {ds : List D} {ks : List Key} {vs : List V}, keysK ds = some ks → RpL K M H ds vs → vs = ks.map kV
  | [], ks, vs, e, r => by
    have e : [] = ks := by simpa [keysK] using e
    subst e
    exact r
  | d :: ds, ks, vs, e, r => by
    obtain ⟨v, w, h1, h2, h3⟩ := r
    subst h1
    unfold keysK at e
    split at e
    · rename_i k ks' e1 e2
      have e : k :: ks' = ks := by simpa using e
      subst e
      rw [keyK_v e1 h2, keysK_v e2 h3]; rfl
    · cases e
theorem asK_h {d : D} {kvs : List (Key × D)} {v : V} (m : RM K M H) (e : asK M d = some kvs) (r : Rp K M H d v) : ∃ a vs, v = .ref a ∧ Rd H a (.dK ((kvs.map (·.1)).zip vs)) ∧ RpL K M H (kvs.map (·.2)) vs := by
  cases d with
  | dK ks ds =>
    have e : ks.zip ds = kvs := by simpa [asK] using e
    subst e
    obtain ⟨a, vs, h1, h2, h3, h4, h5⟩ := r
    refine ⟨a, vs, h1, ?_, ?_⟩
    · rw [List.map_fst_zip (Nat.le_of_eq h4)]; exact h3
    · rw [List.map_snd_zip (Nat.le_of_eq h4.symm)]; exact h5
  | ref a =>
    dsimp only [asK] at e
    cases q : M a with
    | none => rw [q] at e; cases e
    | some o =>
      rw [q] at e
      cases o with
      | dK kvs' =>
        have e : kvs' = kvs := by simpa using e
        subst e
        obtain ⟨vs, h1, h2⟩ := m a _ q
        exact ⟨a, vs, r, .inl h1, h2⟩
      | _ => cases e
  | _ => simp [asK] at e
theorem asD_h {d : D} {kvs : List (List Key × D)} {v : V} (m : RM K M H) (e : asD M d = some kvs) (r : Rp K M H d v) : ∃ a vs, v = .ref a ∧ Rd H a (.dT ((kvs.map (·.1)).zip vs)) ∧ RpL K M H (kvs.map (·.2)) vs := by
  cases d with
  | dT ks ds =>
    have e : ks.zip ds = kvs := by simpa [asD] using e
    subst e
    obtain ⟨a, vs, h1, h2, h3, h4, h5⟩ := r
    refine ⟨a, vs, h1, ?_, ?_⟩
    · rw [List.map_fst_zip (Nat.le_of_eq h4)]; exact h3
    · rw [List.map_snd_zip (Nat.le_of_eq h4.symm)]; exact h5
  | ref a =>
    dsimp only [asD] at e
    cases q : M a with
    | none => rw [q] at e; cases e
    | some o =>
      rw [q] at e
      cases o with
      | dT kvs' =>
        have e : kvs' = kvs := by simpa using e
        subst e
        obtain ⟨vs, h1, h2⟩ := m a _ q
        exact ⟨a, vs, r, .inl h1, h2⟩
      | _ => cases e
  | _ => simp [asD] at e
end
/-- what a dict holds at a key: none where it is no dict or the key no key -/
def dfind (M : MH) (x y : D) : Option (Option D) :=
  match asK M x, keyK y with
  | some kvs, some k => some (valD kvs k)
  | _, _ => match asD M x, keyT y with
    | some kvs, some k => some (valD kvs k)
    | _, _ => none
theorem dfind_h {K : PySem.W.Frag} {M : MH} {H : Hp} {x y : D} {v w : V} {o : Option D} (m : RM K M H) (e : dfind M x y = some o) (rx : Rp K M H x v) (ry : Rp K M H y w) :
    ∃ a r, v = .ref a ∧ DGet H a w r ∧ ((o = none ∧ r = none) ∨ ∃ d u, o = some d ∧ r = some u ∧ Rp K M H d u) := by
  unfold dfind at e
  split at e
  · rename_i kvs k e1 e2
    obtain ⟨a, vs, h1, h2, h3⟩ := asK_h m e1 rx
    have hk := keyK_v e2 ry
    subst hk
    refine ⟨a, _, h1, .inl ⟨_, _, h2, rfl, rfl⟩, ?_⟩
    have e : valD kvs k = o := by simpa using e
    subst e
    rcases val_rp (k := k) h3 with ⟨g1, g2⟩ | ⟨d, u, g1, g2, g3⟩
    · exact .inl ⟨g1, g2⟩
    · exact .inr ⟨d, u, g1, g2, g3⟩
  · split at e
    · rename_i kvs k e1 e2
      obtain ⟨a, vs, h1, h2, h3⟩ := asD_h m e1 rx
      have e : valD kvs k = o := by simpa using e
      subst e
      cases y with
      | tp tk es =>
        cases tk with
        | s => simp [keyT] at e2
        | k => simp [keyT] at e2
        | t =>
        obtain ⟨b, ws, g1, ⟨g2, g3⟩, g4⟩ := ry
        have hk := keysK_v e2 g4
        subst hk g1
        refine ⟨a, _, h1, .inr ⟨_, _, _, h2, rfl, g3, rfl⟩, ?_⟩
        rcases val_rp (k := k) h3 with ⟨g1, g2⟩ | ⟨d, u, g1, g2, g3⟩
        · exact .inl ⟨g1, g2⟩
        · exact .inr ⟨d, u, g1, g2, g3⟩
      | _ => simp [keyT] at e2
    · cases e
/-! ### in, not in -/
def seqM (M : MH) (d : D) : Option (List D) := match asT d with | some ds => some ds | none => asL M d
def inOk (x : D) (ds : List D) : Bool := lay 59 x && layL 59 ds
def inAns (M : MH) (x y : D) : Option Bool :=
  match y with
  | .str z => match x with | .str i => some (!(Builtin.Str.occurrences z i 0 z.length 1).isEmpty) | _ => none
  | y => match seqM M y with
    | some ds => if inOk x ds = true then some (ds.any fun z => eqv z x) else none
    | none => match dfind M y x with
      | some o => some o.isSome
      | none => none
def in3 : O2 := fun x y M Q => match inAns M x y with | some b => Q (.bl b) M | none => False
def nin3 : O2 := fun x y M Q => match inAns M x y with | some b => Q (.bl (!b)) M | none => False
section
variable {X : Cx}
theorem toPyL_get : ∀ {ds : List D} {j : Nat} {z : PyData}, (toPyL ds)[j]? = some z → ∃ d, ds[j]? = some d ∧ toPy d = z
  | [], j, z, h => by simp [toPyL] at h
  | d :: ds, 0, z, h => ⟨d, rfl, by simpa [toPyL] using h⟩
  | d :: ds, j + 1, z, h => by
    obtain ⟨e, h1, h2⟩ := toPyL_get (ds := ds) (j := j) (z := z) (by simpa [toPyL] using h)
    exact ⟨e, by simpa using h1, h2⟩
noncomputable def rowF (us : List Value) (ds : List D) (x : D) (y : Value) : Bool := @decide (∃ (i : Nat) (d : D), us[i]? = some y ∧ ds[i]? = some d ∧ eqv d x = true) (Classical.propDecidable _)
theorem rowF_t {us : List Value} {ds : List D} {x : D} {y : Value} (e : ∃ (i : Nat) (d : D), us[i]? = some y ∧ ds[i]? = some d ∧ eqv d x = true) : rowF us ds x y = true := @decide_eq_true _ (Classical.propDecidable _) e
theorem rowF_f {us : List Value} {ds : List D} {x : D} {y : Value} (e : ¬ ∃ (i : Nat) (d : D), us[i]? = some y ∧ ds[i]? = some d ∧ eqv d x = true) : rowF us ds x y = false := @decide_eq_false _ (Classical.propDecidable _) e
theorem of_rowF {us : List Value} {ds : List D} {x : D} {y : Value} (e : rowF us ds x y = true) : ∃ (i : Nat) (d : D), us[i]? = some y ∧ ds[i]? = some d ∧ eqv d x = true := @of_decide_eq_true _ (Classical.propDecidable _) e
/-- == of a datum and one of a row's items -/
theorem row_eqAt {pins : List (Addr × Obj)} {σ : L2.St} {H : Hp} {M : MH} {s : Shared} (hu : X.A.units + 64 < cLine) (I : Inv X pins σ H s) {x : D} {v : V} {u : Value} (hx : lay 59 x = true) (rx : Rp X.K M H x v) (rv : RelV v u) :
    ∀ {ds : List D} {vs : List V} {us : List Value}, layL 59 ds = true → RpL X.K M H ds vs → Vals vs us → ∃ e : Value → Bool, (∀ y ∈ us, SeqAt.EqAt X.A.in1 s y u (e y)) ∧ us.any e = ds.any fun z => eqv z x := by
  obtain ⟨as, rd⟩ := Dp.reads I _ v u (Rp.dp 59 x v rx (pd_lay _ _ hx)) rv
  have cx := lay_py 59 x hx
  -- the answer by value: read the data back
  have one : ∀ (d : D) (w : V) (y : Value), lay 59 d = true → Rp X.K M H d w → RelV w y → SeqAt.EqAt X.A.in1 s y u (eqv d x) := fun d w y h r q => by
    obtain ⟨bs, rb⟩ := Dp.reads I _ w y (Rp.dp 59 d w r (pd_lay _ _ h)) q
    have cd := lay_py 59 d h
    rw [eqv_py]
    exact SeqAt.eqAt_reads _ _ X.A.in1 s y u _ _ rb rd cd.1 cx.1 (by
      show X.A.units + 1 + _ < cLine
      omega)
  intro ds vs us hl hr hv
  refine ⟨rowF us ds x, fun y hy => ?_, ?_⟩
  · by_cases e : ∃ (i : Nat) (d : D), us[i]? = some y ∧ ds[i]? = some d ∧ eqv d x = true
    · obtain ⟨i, d, h1, h2, h3⟩ := id e
      rw [rowF_t e]
      obtain ⟨w, g1, g2⟩ := hr.get h2
      obtain ⟨y', g3, g4⟩ := hv.get g1
      rw [h1] at g3
      cases g3
      rw [← h3]
      refine one d w y ?_ g2 g4
      rw [layL_all, List.all_eq_true] at hl
      exact hl d (List.mem_of_getElem? h2)
    · rw [rowF_f e]
      obtain ⟨i, hi⟩ := List.getElem?_of_mem hy
      have hil : i < ds.length := by
        have h1 := hv.length
        have h2 := hr.length
        have h3 := (List.getElem?_eq_some_iff.mp hi).1
        omega
      have h2 : ds[i]? = some ds[i] := List.getElem?_eq_getElem hil
      obtain ⟨w, g1, g2⟩ := hr.get h2
      obtain ⟨y', g3, g4⟩ := hv.get g1
      rw [hi] at g3
      cases g3
      have nf : eqv ds[i] x = false := by
        cases q : eqv ds[i] x with
        | false => rfl
        | true => exact (e ⟨i, _, hi, h2, q⟩).elim
      rw [← nf]
      refine one _ w y ?_ g2 g4
      rw [layL_all, List.all_eq_true] at hl
      exact hl _ (List.mem_of_getElem? h2)
  · have len : us.length = ds.length := by rw [← hv.length, hr.length]
    rw [Bool.eq_iff_iff, List.any_eq_true, List.any_eq_true]
    constructor
    · rintro ⟨y, hy, h⟩
      obtain ⟨i, d, h1, h2, h3⟩ := of_rowF h
      exact ⟨d, List.mem_of_getElem? h2, h3⟩
    · rintro ⟨d, hd, h⟩
      obtain ⟨i, hi⟩ := List.getElem?_of_mem hd
      have hil : i < us.length := by
        have := (List.getElem?_eq_some_iff.mp hi).1
        omega
      exact ⟨us[i], List.getElem_mem hil, rowF_t ⟨i, d, List.getElem?_eq_getElem hil, hi, h⟩⟩
theorem seqM_sq {K : PySem.W.Frag} {M : MH} {H : Hp} {d : D} {ds : List D} {v : V} (m : RM K M H) (e : seqM M d = some ds) (r : Rp K M H d v) : ∃ a vs, v = .ref a ∧ (SqL K H a vs ∨ SqT K H a vs) ∧ RpL K M H ds vs := by
  unfold seqM at e
  split at e
  · rename_i ds' e1
    cases e
    obtain ⟨a, vs, h1, h2, h3⟩ := asT_sq e1 r
    exact ⟨a, vs, h1, .inr h2, h3⟩
  · obtain ⟨a, vs, h1, h2, h3⟩ := asL_sq m e r
    exact ⟨a, vs, h1, .inl h2, h3⟩
theorem zo_in (hu : X.A.units + 64 < cLine) : OpR X (compareOp .In) (LO2 X.K in3) := by
  intro pins s σ H x y v u Q I rx ry ⟨d1, d2, M, Q3, r1, r2, rm, o, c⟩
  unfold in3 at o
  split at o
  · rename_i b e
    unfold inAns at e
    split at e
    · rename_i z
      split at e
      · rename_i i
        obtain rfl := Option.some.inj e
        obtain ⟨t, rfl⟩ := rp_str r1 ▸ rx
        obtain ⟨t', rfl⟩ := rp_str r2 ▸ ry
        exact in_str (fin_bl I (c.now rm o rfl) (by simp))
      · cases e
    · split at e
      · rename_i ds e2
        split at e
        · rename_i hok
          obtain rfl := Option.some.inj e
          unfold inOk at hok
          rw [Bool.and_eq_true] at hok
          obtain ⟨a, vs, h1, h2, h3⟩ := seqM_sq rm e2 r2
          subst h1
          cases ry
          rcases h2 with h2 | h2
          · obtain ⟨its, rv, pl, hz⟩ := I.list h2
            obtain ⟨f, g1, g2⟩ := row_eqAt hu I hok.1 r1 rx hok.2 h3 rv
            refine SeqAt.in_listAt f pl.isList (fun w hw => g1 w (by simpa using hw)) ⟨.bl _, H, I, rfl, ?_⟩
            rw [show its.toArray.any f = its.any f by simp, g2]
            exact c.now rm o rfl
          · obtain ⟨its, rv, pl, hz⟩ := I.tuple h2
            obtain ⟨f, g1, g2⟩ := row_eqAt hu I hok.1 r1 rx hok.2 h3 rv
            refine SeqAt.in_tupleAt f pl (fun w hw => g1 w (by simpa using hw)) ⟨.bl _, H, I, rfl, ?_⟩
            rw [show its.toArray.any f = its.any f by simp, g2]
            exact c.now rm o rfl
        · cases e
      · split at e
        · rename_i ov e3
          have e : ov.isSome = b := by simpa using e
          subst e
          obtain ⟨a, r, h1, h2, h3⟩ := dfind_h rm e3 r2 r1
          subst h1
          cases ry
          have hs : r.isSome = ov.isSome := by
            rcases h3 with ⟨g1, g2⟩ | ⟨d, u', g1, g2, _⟩ <;> rw [g1, g2] <;> rfl
          exact d_in (by omega) I h2 rx fun s' I' => ⟨.bl _, H, I', rfl, by rw [hs]; exact c.now rm o rfl⟩
        · cases e
  · exact o.elim
theorem zo_nin (hu : X.A.units + 64 < cLine) : OpR X (compareOp .NotIn) (LO2 X.K nin3) := by
  intro pins s σ H x y v u Q I rx ry ⟨d1, d2, M, Q3, r1, r2, rm, o, c⟩
  unfold nin3 at o
  split at o
  · rename_i b e
    unfold inAns at e
    split at e
    · rename_i z
      split at e
      · rename_i i
        obtain rfl := Option.some.inj e
        obtain ⟨t, rfl⟩ := rp_str r1 ▸ rx
        obtain ⟨t', rfl⟩ := rp_str r2 ▸ ry
        exact notIn_str (fin_bl I (c.now rm o rfl) (by simp))
      · cases e
    · split at e
      · rename_i ds e2
        split at e
        · rename_i hok
          obtain rfl := Option.some.inj e
          unfold inOk at hok
          rw [Bool.and_eq_true] at hok
          obtain ⟨a, vs, h1, h2, h3⟩ := seqM_sq rm e2 r2
          subst h1
          cases ry
          rcases h2 with h2 | h2
          · obtain ⟨its, rv, pl, hz⟩ := I.list h2
            obtain ⟨f, g1, g2⟩ := row_eqAt hu I hok.1 r1 rx hok.2 h3 rv
            refine SeqAt.notIn_listAt f pl.isList (fun w hw => g1 w (by simpa using hw)) ⟨.bl _, H, I, rfl, ?_⟩
            rw [show its.toArray.any f = its.any f by simp, g2]
            exact c.now rm o rfl
          · obtain ⟨its, rv, pl, hz⟩ := I.tuple h2
            obtain ⟨f, g1, g2⟩ := row_eqAt hu I hok.1 r1 rx hok.2 h3 rv
            refine SeqAt.notIn_tupleAt f pl (fun w hw => g1 w (by simpa using hw)) ⟨.bl _, H, I, rfl, ?_⟩
            rw [show its.toArray.any f = its.any f by simp, g2]
            exact c.now rm o rfl
        · cases e
      · split at e
        · rename_i ov e3
          have e : ov.isSome = b := by simpa using e
          subst e
          obtain ⟨a, r, h1, h2, h3⟩ := dfind_h rm e3 r2 r1
          subst h1
          cases ry
          have hs : r.isSome = ov.isSome := by
            rcases h3 with ⟨g1, g2⟩ | ⟨d, u', g1, g2, _⟩ <;> rw [g1, g2] <;> rfl
          exact d_notIn (by omega) I h2 rx fun s' I' => ⟨.bl _, H, I', rfl, by rw [hs]; exact c.now rm o rfl⟩
        · cases e
  · exact o.elim
end
/-! ### subscripts -/
def ixAns (M : MH) (x y : D) : Option D := match y with
  | .int i => match x with
    | .str z => if z.length ≤ sizeLine then (match atI z.cps.toList i with | some c => some (.str ⟨#[c]⟩) | none => none) else none
    | x => match seqM M x with
      | some ds => atI ds i
      | none => (dfind M x (.int i)).join
  | y => (dfind M x y).join
def ix3 : O2 := fun x y M Q => match ixAns M x y with | some d => Q d M | none => False
theorem atI_rp {K : PySem.W.Frag} {M : MH} {H : Hp} {ds : List D} {vs : List V} {i : Int} {d : D} (r : RpL K M H ds vs) (e : atI ds i = some d) : ∃ v, atI vs i = some v ∧ Rp K M H d v := by
  unfold atI at e ⊢
  rw [r.length]
  cases q : ixN ds.length i with
  | none => rw [q] at e; cases e
  | some j =>
    rw [q] at e
    obtain ⟨v, h1, h2⟩ := r.get (show ds[j]? = some d from e)
    exact ⟨v, h1, h2⟩
section
variable {X : Cx}
theorem ix_dict (hu : X.A.units + 1 < cLine) : IxR X (fun x y H Q => ∃ a v, x = .ref a ∧ DGet H a y (some v) ∧ Q v H) := by
  intro value slice pins s σ H x y v u Q I rx ry ⟨a, w, e, g, q⟩ hs
  subst e
  cases rx
  exact tail_any (dict_typeIs I g) PySem.F.slot_dict_getitem.lookup (d_getItem hu I g ry fun w' s3 I3 rw' => ⟨w, H, I3, rw', q⟩) hs
theorem iximp {r r' : R2} (h : IxR X r) (g : ∀ x y H Q, r' x y H Q → r x y H Q) : IxR X r' := fun va sl pins s σ H x y v u Q I rx ry q hs => h va sl pins s σ H x y v u Q I rx ry (g _ _ _ _ q) hs
theorem zi_ix (hu : X.A.units + 64 < cLine) : IxR X (LO2 X.K ix3) := iximp (IxR.or ix_seq (ix_dict (by omega))) fun x y H Q ⟨d1, d2, M, Q3, r1, r2, rm, o, c⟩ => by
  unfold ix3 at o
  split at o
  · rename_i d e
    have dic : ∀ {y' : D}, Rp X.K M H y' y → (dfind M d1 y').join = some d → (∃ a v, x = .ref a ∧ DGet H a y (some v) ∧ Q v H) := fun {y'} ry e => by
      cases q : dfind M d1 y' with
      | none => rw [q] at e; cases e
      | some o' =>
        rw [q] at e
        have e : o' = some d := e
        subst e
        obtain ⟨a, r, h1, h2, h3⟩ := dfind_h rm q r1 ry
        rcases h3 with ⟨g, _⟩ | ⟨d', v, g1, g2, g3⟩
        · cases g
        · cases g1
          subst g2
          exact ⟨a, v, h1, h2, c.now rm o g3⟩
    unfold ixAns at e
    split at e
    · rename_i i
      split at e
      · rename_i z
        split at e
        · rename_i hz
          split at e
          · rename_i ch ec
            obtain rfl := Option.some.inj e
            exact .inl (.inr (.inr ⟨_, _, _, r1, r2, hz, ec, c.now rm o rfl⟩))
          · cases e
        · cases e
      · split at e
        · rename_i ds e1
          obtain ⟨a, vs, h1, h2, h3⟩ := seqM_sq rm e1 r1
          obtain ⟨v, g1, g2⟩ := atI_rp h3 e
          rcases h2 with h2 | h2
          · exact .inl (.inl ⟨a, vs, i, v, h1, r2, h2, g1, c.now rm o g2⟩)
          · exact .inl (.inr (.inl ⟨a, vs, i, v, h1, r2, h2, g1, c.now rm o g2⟩))
        · exact .inr (dic r2 e)
    · exact .inr (dic r2 e)
  · exact o.elim
theorem z_ix {K : PySem.W.Frag} {M0 : MH} {H0 : Hp} {o : O2} {a b : Expr} {ta tb : T3} {pos : Pos} (hr : IxR X (LO2 K o)) (ha : PE X a (LE K M0 H0 ta)) (hb : PE X b (LE K M0 H0 tb)) (hs : PlainIx b) : PE X (.Subscript a b pos) (LE K M0 H0 (op2 o ta tb)) :=
  (pe_ix hr ha hb hs).imp fun _ _ _ h => lo2 h
end
end Z

namespace Z
open PySem PySem.Spec PyProof.Rows L2
def c1 (o : O1) : OL := fun ds M Q => match ds with
  | [d] => o d M Q
  | _ => False
def c2 (o : O2) : OL := fun ds M Q => match ds with
  | [d, e] => o d e M Q
  | _ => False
def ofO (f : MH → D → Option D) : O1 := fun d M Q => match f M d with | some r => Q r M | none => False
def ofO2 (f : MH → D → D → Option D) : O2 := fun d e M Q => match f M d e with | some r => Q r M | none => False
section
variable {K : PySem.W.Frag}
theorem lol1 {o : O1} {xs : List V} {H : Hp} {Q : VK} (h : LOL K (c1 o) xs H Q) : ∃ x, xs = [x] ∧ LO1 K o x H Q := by
  obtain ⟨ds, M, Q3, r, rm, o', c⟩ := h
  unfold c1 at o'
  split at o'
  · obtain ⟨x, y, h1, h2, h3⟩ := r
    have h3 : y = [] := h3
    subst h3
    exact ⟨x, h1, _, M, Q3, h2, rm, o', c⟩
  · exact o'.elim
theorem lol2 {o : O2} {xs : List V} {H : Hp} {Q : VK} (h : LOL K (c2 o) xs H Q) : ∃ x y, xs = [x, y] ∧ LO2 K o x y H Q := by
  obtain ⟨ds, M, Q3, r, rm, o', c⟩ := h
  unfold c2 at o'
  split at o'
  · obtain ⟨x, y, h1, h2, h3⟩ := r
    obtain ⟨x', y', g1, g2, g3⟩ := h3
    have g3 : y' = [] := g3
    subst g3 g1
    exact ⟨x, x', h1, _, _, M, Q3, h2, g2, rm, o', c⟩
  · exact o'.elim
theorem lo1f {f : MH → D → Option D} {x : V} {H : Hp} {Q : VK} (h : LO1 K (ofO f) x H Q) : ∃ d M Q3 r, Rp K M H d x ∧ RM K M H ∧ f M d = some r ∧ Q3 r M ∧ Cv K M H Q3 Q := by
  obtain ⟨d, M, Q3, r, rm, o, c⟩ := h
  unfold ofO at o
  split at o
  · rename_i z e
    exact ⟨d, M, Q3, z, r, rm, e, o, c⟩
  · exact o.elim
end
/-! ### len, int, abs, min, max of two -/
def lenA (M : MH) (d : D) : Option D := match d with
  | .str x => if x.length ≤ sizeLine then some (.int x.length) else none
  | d => match seqM M d with
    | some ds => some (.int ds.length)
    | none => none
def intA (_ : MH) : D → Option D
  | .int i => some (.int i)
  | .bl k => some (.int (if k then 1 else 0))
  | .str x => if x.length ≤ 640 then (match PySem.intText? x with | some n => some (.int n) | none => none) else none
  | _ => none
/-- str() of an int, of a text -/
def strA (_ : MH) : D → Option D
  | .int i => if i.natAbs.log2 < 1920 then some (.str (toString i)) else none
  | .str x => some (.str x)
  | _ => none
def absA (_ : MH) : D → Option D
  | .int i => some (.int (if i < 0 then -i else i))
  | _ => none
def maxA (_ : MH) : D → D → Option D
  | .int i, .int j => some (.int (if j > i then j else i))
  | _, _ => none
def minA (_ : MH) : D → D → Option D
  | .int i, .int j => some (.int (if j < i then j else i))
  | _, _ => none
section
variable {X : Cx}
theorem zc_len : CallR X (.builtin "len") (LOL X.K (c1 (ofO lenA))) := cimp call_len fun xs H Q h => by
  obtain ⟨x, rfl, h'⟩ := lol1 h
  obtain ⟨d, M, Q3, r, r1, rm, e, q, c⟩ := lo1f h'
  unfold lenA at e
  split at e
  · split at e
    · rename_i z hz
      obtain rfl := Option.some.inj e
      have r1 := rp_str r1
      subst r1
      exact ⟨_, z.length, rfl, ⟨hz, rfl⟩, c.now rm q rfl⟩
    · cases e
  · split at e
    · rename_i ds e2
      obtain rfl := Option.some.inj e
      obtain ⟨a, vs, h1, h2, h3⟩ := seqM_sq rm e2 r1
      subst h1
      refine ⟨_, ds.length, rfl, ?_, c.now rm q rfl⟩
      rw [← h3.length]
      rcases h2 with h2 | h2
      · exact .inl ⟨vs, h2, rfl⟩
      · exact .inr ⟨vs, h2, rfl⟩
    · cases e
theorem zc_int : CallR X (.type "int") (LOL X.K (c1 (ofO intA))) := cimp (CallR.or call_int1 call_int_str) fun xs H Q h => by
  obtain ⟨x, rfl, h'⟩ := lol1 h
  obtain ⟨d, M, Q3, r, r1, rm, e, q, c⟩ := lo1f h'
  unfold intA at e
  split at e
  · obtain rfl := Option.some.inj e
    have r1 := rp_int r1
    subst r1
    exact .inl (.inl ⟨_, rfl, c.now rm q rfl⟩)
  · obtain rfl := Option.some.inj e
    have r1 := rp_bl r1
    subst r1
    exact .inl (.inr ⟨_, rfl, c.now rm q rfl⟩)
  · have r1 := rp_str r1
    subst r1
    split at e
    · rename_i hz
      split at e
      · rename_i n hn
        obtain rfl := Option.some.inj e
        exact .inr ⟨_, n, rfl, hn, hz, c.now rm q rfl⟩
      · cases e
    · cases e
  · cases e
theorem zc_strI : CallR X (.type "str") (LOL X.K (c1 (ofO strA))) := cimp (CallR.or call_str_int SkE.call_str_str) fun xs H Q h => by
  obtain ⟨x, rfl, h'⟩ := lol1 h
  obtain ⟨d, M, Q3, r, r1, rm, e, q, c⟩ := lo1f h'
  unfold strA at e
  split at e
  · have r1 := rp_int r1
    subst r1
    split at e
    · rename_i hz
      obtain rfl := Option.some.inj e
      exact .inl ⟨_, rfl, hz, c.now rm q rfl⟩
    · cases e
  · obtain rfl := Option.some.inj e
    have r1 := rp_str r1
    subst r1
    exact .inr ⟨_, rfl, c.now rm q rfl⟩
  · cases e
theorem zc_abs : CallR X (.builtin "abs") (LOL X.K (c1 (ofO absA))) := cimp call_abs fun xs H Q h => by
  obtain ⟨x, rfl, h'⟩ := lol1 h
  obtain ⟨d, M, Q3, r, r1, rm, e, q, c⟩ := lo1f h'
  unfold absA at e
  split at e
  · obtain rfl := Option.some.inj e
    have r1 := rp_int r1
    subst r1
    exact ⟨_, rfl, c.now rm q rfl⟩
  · cases e
theorem zc_max2 (hc : X.calm = true) : CallR X (.builtin "max") (LOL X.K (c2 (ofO2 maxA))) := cimp (call_max2 hc) fun xs H Q h => by
  obtain ⟨x, y, rfl, d, e, M, Q3, r1, r2, rm, o, c⟩ := lol2 h
  unfold ofO2 at o
  split at o
  · rename_i z q
    unfold maxA at q
    split at q
    · obtain rfl := Option.some.inj q
      have r1 := rp_int r1
      have r2 := rp_int r2
      subst r1 r2
      exact ⟨_, _, rfl, c.now rm o rfl⟩
    · cases q
  · exact o.elim
theorem zc_min2 (hc : X.calm = true) : CallR X (.builtin "min") (LOL X.K (c2 (ofO2 minA))) := cimp (call_min2 hc) fun xs H Q h => by
  obtain ⟨x, y, rfl, d, e, M, Q3, r1, r2, rm, o, c⟩ := lol2 h
  unfold ofO2 at o
  split at o
  · rename_i z q
    unfold minA at q
    split at q
    · obtain rfl := Option.some.inj q
      have r1 := rp_int r1
      have r2 := rp_int r2
      subst r1 r2
      exact ⟨_, _, rfl, c.now rm o rfl⟩
    · cases q
  · exact o.elim
end
/-! ### sum, all, any of a list -/
def intsOf : List D → Option (List Int)
  | [] => some []
  | .int i :: r => match intsOf r with | some l => some (i :: l) | none => none
  | _ => none
def blsOf : List D → Option (List Bool)
  | [] => some []
  | .bl i :: r => match blsOf r with | some l => some (i :: l) | none => none
  | _ => none
theorem intsOf_eq : ∀ {ds : List D} {ns : List Int}, intsOf ds = some ns → ds = ns.map D.int
  | [], ns, h => by
    have h : [] = ns := by simpa [intsOf] using h
    subst h; rfl
  | d :: ds, ns, h => by
    cases d with
    | int i =>
      dsimp only [intsOf] at h
      split at h
      · rename_i l e
        obtain rfl := Option.some.inj h
        rw [intsOf_eq e]; rfl
      · cases h
    | _ => simp [intsOf] at h
theorem blsOf_eq : ∀ {ds : List D} {ns : List Bool}, blsOf ds = some ns → ds = ns.map D.bl
  | [], ns, h => by
    have h : [] = ns := by simpa [blsOf] using h
    subst h; rfl
  | d :: ds, ns, h => by
    cases d with
    | bl i =>
      dsimp only [blsOf] at h
      split at h
      · rename_i l e
        obtain rfl := Option.some.inj h
        rw [blsOf_eq e]; rfl
      · cases h
    | _ => simp [blsOf] at h
@[simp] theorem intsOf_map (ns : List Int) : intsOf (ns.map D.int) = some ns := by
  induction ns with
  | nil => rfl
  | cons a r ih => simp only [List.map_cons, intsOf, ih]
@[simp] theorem blsOf_map (ns : List Bool) : blsOf (ns.map D.bl) = some ns := by
  induction ns with
  | nil => rfl
  | cons a r ih => simp only [List.map_cons, blsOf, ih]
theorem ints_v {K : PySem.W.Frag} {M : MH} {H : Hp} : ∀ {ns : List Int} {vs : List V}, RpL K M H (ns.map D.int) vs → vs = ns.map V.int
  | [], vs, h => h
  | n :: ns, vs, h => by
    obtain ⟨v, r, h1, h2, h3⟩ := h
    subst h1
    rw [rp_int h2, ints_v h3]; rfl
theorem bls_v {K : PySem.W.Frag} {M : MH} {H : Hp} : ∀ {ns : List Bool} {vs : List V}, RpL K M H (ns.map D.bl) vs → vs = ns.map V.bl
  | [], vs, h => h
  | n :: ns, vs, h => by
    obtain ⟨v, r, h1, h2, h3⟩ := h
    subst h1
    rw [rp_bl h2, bls_v h3]; rfl
def sumA (M : MH) (d : D) : Option D := match asL M d with
  | some ds => match intsOf ds with | some ns => some (.int ns.sum) | none => none
  | none => none
def allA (M : MH) (d : D) : Option D := match asL M d with
  | some ds => match blsOf ds with | some bs => some (.bl (bs.all id)) | none => none
  | none => none
def anyA (M : MH) (d : D) : Option D := match asL M d with
  | some ds => match blsOf ds with | some bs => some (.bl (bs.any id)) | none => none
  | none => none
/-- the least one of some ints; the greatest one -/
def leastI : Int → List Int → Int
  | m, [] => m
  | m, x :: r => leastI (if x < m then x else m) r
def mostI : Int → List Int → Int
  | m, [] => m
  | m, x :: r => mostI (if x > m then x else m) r
theorem leastI_mem : ∀ (r : List Int) (m : Int), leastI m r ∈ m :: r ∧ ∀ y ∈ m :: r, leastI m r ≤ y
  | [], m => by simp [leastI]
  | x :: r, m => by
    unfold leastI
    obtain ⟨h1, h2⟩ := leastI_mem r (if x < m then x else m)
    by_cases e : x < m
    · rw [if_pos e] at h1 h2 ⊢
      refine ⟨by simp only [List.mem_cons] at h1 ⊢; rcases h1 with h | h <;> simp [h], fun y hy => ?_⟩
      simp only [List.mem_cons] at hy
      have hx := h2 x (by simp)
      rcases hy with hy | hy | hy
      · omega
      · omega
      · exact h2 y (by simp [hy])
    · rw [if_neg e] at h1 h2 ⊢
      refine ⟨by simp only [List.mem_cons] at h1 ⊢; rcases h1 with h | h <;> simp [h], fun y hy => ?_⟩
      simp only [List.mem_cons] at hy
      have hx := h2 m (by simp)
      rcases hy with hy | hy | hy
      · omega
      · omega
      · exact h2 y (by simp [hy])
theorem mostI_mem : ∀ (r : List Int) (m : Int), mostI m r ∈ m :: r ∧ ∀ y ∈ m :: r, y ≤ mostI m r
  | [], m => by simp [mostI]
  | x :: r, m => by
    unfold mostI
    obtain ⟨h1, h2⟩ := mostI_mem r (if x > m then x else m)
    by_cases e : x > m
    · rw [if_pos e] at h1 h2 ⊢
      refine ⟨by simp only [List.mem_cons] at h1 ⊢; rcases h1 with h | h <;> simp [h], fun y hy => ?_⟩
      simp only [List.mem_cons] at hy
      have hx := h2 x (by simp)
      rcases hy with hy | hy | hy
      · omega
      · omega
      · exact h2 y (by simp [hy])
    · rw [if_neg e] at h1 h2 ⊢
      refine ⟨by simp only [List.mem_cons] at h1 ⊢; rcases h1 with h | h <;> simp [h], fun y hy => ?_⟩
      simp only [List.mem_cons] at hy
      have hx := h2 m (by simp)
      rcases hy with hy | hy | hy
      · omega
      · omega
      · exact h2 y (by simp [hy])
def minL (M : MH) (d : D) : Option D := match asL M d with
  | some ds => match intsOf ds with | some (n :: ns) => some (.int (leastI n ns)) | _ => none
  | none => none
def maxL (M : MH) (d : D) : Option D := match asL M d with
  | some ds => match intsOf ds with | some (n :: ns) => some (.int (mostI n ns)) | _ => none
  | none => none
section
variable {X : Cx}
theorem asL_ints {M : MH} {H : Hp} {d : D} {v : V} {ds : List D} {ns : List Int} (rm : RM X.K M H) (e1 : asL M d = some ds) (e2 : intsOf ds = some ns) (r : Rp X.K M H d v) : ∃ a, v = .ref a ∧ SqL X.K H a (ns.map V.int) := by
  obtain ⟨a, vs, h1, h2, h3⟩ := asL_sq rm e1 r
  rw [intsOf_eq e2] at h3
  rw [ints_v h3] at h2
  exact ⟨a, h1, h2⟩
theorem asL_bls {M : MH} {H : Hp} {d : D} {v : V} {ds : List D} {ns : List Bool} (rm : RM X.K M H) (e1 : asL M d = some ds) (e2 : blsOf ds = some ns) (r : Rp X.K M H d v) : ∃ a, v = .ref a ∧ SqL X.K H a (ns.map V.bl) := by
  obtain ⟨a, vs, h1, h2, h3⟩ := asL_sq rm e1 r
  rw [blsOf_eq e2] at h3
  rw [bls_v h3] at h2
  exact ⟨a, h1, h2⟩
theorem zc_sum (hc : X.calm = true) : CallR X (.builtin "sum") (LOL X.K (c1 (ofO sumA))) := cimp (cr_sum hc) fun xs H Q h => by
  obtain ⟨x, rfl, h'⟩ := lol1 h
  obtain ⟨d, M, Q3, r, r1, rm, e, q, c⟩ := lo1f h'
  unfold sumA at e
  split at e
  · split at e
    · obtain rfl := Option.some.inj e
      rename_i e1 _ _ e2
      obtain ⟨a, h1, h2⟩ := asL_ints rm e1 e2 r1
      subst h1
      exact ⟨a, _, rfl, h2, c.now rm q rfl⟩
    · cases e
  · cases e
theorem zc_all (hc : X.calm = true) : CallR X (.builtin "all") (LOL X.K (c1 (ofO allA))) := cimp (cr_all hc) fun xs H Q h => by
  obtain ⟨x, rfl, h'⟩ := lol1 h
  obtain ⟨d, M, Q3, r, r1, rm, e, q, c⟩ := lo1f h'
  unfold allA at e
  split at e
  · split at e
    · obtain rfl := Option.some.inj e
      rename_i e1 _ _ e2
      obtain ⟨a, h1, h2⟩ := asL_bls rm e1 e2 r1
      subst h1
      exact ⟨a, _, rfl, h2, c.now rm q rfl⟩
    · cases e
  · cases e
theorem zc_any (hc : X.calm = true) : CallR X (.builtin "any") (LOL X.K (c1 (ofO anyA))) := cimp (cr_any hc) fun xs H Q h => by
  obtain ⟨x, rfl, h'⟩ := lol1 h
  obtain ⟨d, M, Q3, r, r1, rm, e, q, c⟩ := lo1f h'
  unfold anyA at e
  split at e
  · split at e
    · obtain rfl := Option.some.inj e
      rename_i e1 _ _ e2
      obtain ⟨a, h1, h2⟩ := asL_bls rm e1 e2 r1
      subst h1
      exact ⟨a, _, rfl, h2, c.now rm q rfl⟩
    · cases e
  · cases e
theorem zc_minL (hc : X.calm = true) : CallR X (.builtin "min") (LOL X.K (c1 (ofO minL))) := cimp (cr_min hc) fun xs H Q h => by
  obtain ⟨x, rfl, h'⟩ := lol1 h
  obtain ⟨d, M, Q3, r, r1, rm, e, q, c⟩ := lo1f h'
  unfold minL at e
  split at e
  · split at e
    · obtain rfl := Option.some.inj e
      rename_i e1 _ _ _ e2
      obtain ⟨a, h1, h2⟩ := asL_ints rm e1 e2 r1
      subst h1
      rename_i n ns
      refine ⟨a, _, rfl, h2, by simp, fun m hm hl => ?_⟩
      obtain ⟨g1, g2⟩ := leastI_mem ns n
      have e1 := hl _ g1
      have e2 := g2 _ hm
      have e3 : m = leastI n ns := by omega
      rw [e3]
      exact c.now rm q rfl
    · cases e
  · cases e
theorem zc_maxL (hc : X.calm = true) : CallR X (.builtin "max") (LOL X.K (c1 (ofO maxL))) := cimp (cr_max hc) fun xs H Q h => by
  obtain ⟨x, rfl, h'⟩ := lol1 h
  obtain ⟨d, M, Q3, r, r1, rm, e, q, c⟩ := lo1f h'
  unfold maxL at e
  split at e
  · split at e
    · obtain rfl := Option.some.inj e
      rename_i e1 _ _ _ e2
      obtain ⟨a, h1, h2⟩ := asL_ints rm e1 e2 r1
      subst h1
      rename_i n ns
      refine ⟨a, _, rfl, h2, by simp, fun m hm hl => ?_⟩
      obtain ⟨g1, g2⟩ := mostI_mem ns n
      have e1 := hl _ g1
      have e2 := g2 _ hm
      have e3 : m = mostI n ns := by omega
      rw [e3]
      exact c.now rm q rfl
    · cases e
  · cases e
end
/-! ### tuple(x), list(x) -/
/-- a list that is made, to be changed or not -/
def resL (m : Bool) (ds : List D) (M : MH) (Q : Q3) : Prop := match m with
  | false => Q (.lst ds) M
  | true => ∀ p, M p = none → Q (.ref p) (up M p (.lst ds))
theorem resL_cv {K : PySem.W.Frag} {m : Bool} {ds : List D} {M : MH} {H : Hp} {vs : List V} {Q3 : Q3} {Q : VK} {p : Addr} (h : resL m ds M Q3) (rm : RM K M H) (r : RpL K M H ds vs) (hp : H p = none) (c : Cv K M H Q3 Q) : Q (.ref p) (upd H p (.lst vs)) := by
  cases m with
  | false => exact c _ M _ _ h (Rp.lstNew rm hp r) (rm.new hp) (Ev.new hp)
  | true => exact c _ _ _ _ (h p (rm.free hp)) rfl (rm.lstNew hp r) (Ev.newM hp)
def tupA (k : TK) : O1 := fun d M Q => match k, d with
  | .t, .tp k ds => Q (.tp k ds) M
  | .t, d => match asL M d with | some ds => Q (.tup ds) M | none => False
  | .k, d => match asL M d with | some ds => Q (.tp .k ds) M | none => False
  | .s, _ => False
def kD : Key → D
  | .inl i => .int i
  | .inr x => .str x
def lstA (m : Bool) : O1 := fun d M Q => match seqM M d with
  | some ds => resL m ds M Q
  | none => match asD M d with
    | some kvs => resL m (kvs.map fun kv => D.tup (kv.1.map kD)) M Q
    | none => match asK M d with
      | some kvs => resL m (kvs.map fun kv => kD kv.1) M Q
      | none => False
section
variable {X : Cx}
/-- tuple(a list): the tuple is known to its object -/
theorem call_tuple_k : CallR X (.type "tuple") (fun xs H Q => ∃ p ys, xs = [.ref p] ∧ SqL X.K H p ys ∧ ∀ l o, H l = none → o.dict = none → Q (.ref l) (upd H l (.frz o (.tup ys)))) := by
  intro pins s σ H xs us Q I r ⟨p, ys, e, hq, q⟩
  subst e
  obtain ⟨u, rfl, rx⟩ := vals1 r
  cases rx
  obtain ⟨its, r', pl, hz⟩ := I.list hq
  refine call_tuple_list pl.isList (fun h' kp => ?_) (by have := r'.length; simp only [List.size_toArray]; omega)
  have J : Inv X pins σ H { s with heap := h' } := I.kept (t' := s.toks) kp
  have J2 : Inv X pins σ (upd H h'.objs.size (.frz { cls := .type "tuple", data := .seq its.toArray } (.tup ys))) { s with heap := h'.push { cls := .type "tuple", data := .seq its.toArray } } :=
    J.laid (t' := s.toks) (fun b o e => Heap.get?_push_of_some _ e) (Nat.le_refl _) ⟨Heap.get?_push_size _ rfl, hz, its, r', IsTup.new _ _⟩
  exact ⟨.ref h'.objs.size, _, J2, rfl, q _ _ (J.hok.fresh (Nat.le_refl _)) rfl⟩
theorem zc_tup (k : TK) : CallR X (.type "tuple") (LOL X.K (c1 (tupA k))) := cimp (CallR.or call_tuple_of call_tuple_k) fun xs H Q h => by
  obtain ⟨x, rfl, d, M, Q3, r1, rm, o, c⟩ := lol1 h
  unfold tupA at o
  split at o
  · obtain ⟨a, vs, h1, h2, h3⟩ := r1
    subst h1
    exact .inl ⟨a, vs, rfl, .inr ⟨h2.sq, c.now rm o ⟨a, vs, rfl, h2, h3⟩⟩⟩
  · split at o
    · rename_i e1
      obtain ⟨a, vs, h1, h2, h3⟩ := asL_sq rm e1 r1
      subst h1
      exact .inl ⟨a, vs, rfl, .inl ⟨h2, fun l hl => c _ M _ _ o (Rp.tupNew rm hl h3) (rm.new hl) (Ev.new hl)⟩⟩
    · exact o.elim
  · split at o
    · rename_i e1
      obtain ⟨a, vs, h1, h2, h3⟩ := asL_sq rm e1 r1
      subst h1
      exact .inr ⟨a, vs, rfl, h2, fun l ob hl hd => c _ M _ _ o ⟨l, vs, rfl, ⟨ob, rm.free hl, upd_same, hd⟩, RpL.ev (Ev.new hl) _ _ h3⟩ (rm.new hl) (Ev.new hl)⟩
    · exact o.elim
  · exact o.elim
theorem kD_rp {K : PySem.W.Frag} {M : MH} {H : Hp} : ∀ k : Key, Rp K M H (kD k) (kV k)
  | .inl i => rfl
  | .inr x => rfl
theorem kDs_rp {K : PySem.W.Frag} {M : MH} {H : Hp} : ∀ ks : List Key, RpL K M H (ks.map kD) (ks.map kV)
  | [] => rfl
  | k :: r => ⟨_, _, rfl, kD_rp k, kDs_rp r⟩
theorem keys_rp {K : PySem.W.Frag} {M : MH} {H : Hp} (rm : RM K M H) : ∀ {ps : List (List Key × V)} {bs : List Addr} {kvs : List (List Key × D)}, IsKeys H ps bs → ps.map (·.1) = kvs.map (·.1) → RpL K M H (kvs.map fun kv => D.tup (kv.1.map kD)) (bs.map V.ref)
  | [], bs, kvs, h, e => by
    cases h
    have : kvs = [] := by simpa using e.symm
    subst this; rfl
  | p :: ps, bs, [], h, e => by simp at e
  | p :: ps, bs, kv :: kvs, h, e => by
    rw [List.map_cons, List.map_cons] at e
    obtain ⟨e1, e2⟩ := List.cons.inj e
    cases h with
    | cons h1 h2 =>
      rename_i b bs'
      refine ⟨.ref b, bs'.map V.ref, rfl, ⟨b, _, rfl, ⟨?_, h1⟩, by rw [e1]; exact kDs_rp _⟩, keys_rp rm h2 e2⟩
      cases q : M b with
      | none => rfl
      | some o =>
        exfalso
        have z := rm b o q
        cases o with
        | lst ds => obtain ⟨vs, z, _⟩ := z; rw [h1] at z; cases z
        | dK ds => obtain ⟨vs, z, _⟩ := z; rw [h1] at z; cases z
        | dT ds => obtain ⟨vs, z, _⟩ := z; rw [h1] at z; cases z
        | ins C fs => obtain ⟨dx, vs, z, _⟩ := z; rw [h1] at z; cases z
theorem keysK_rp {K : PySem.W.Frag} {M : MH} {H : Hp} : ∀ {ps : List (Key × V)} {kvs : List (Key × D)}, ps.map (·.1) = kvs.map (·.1) → RpL K M H (kvs.map fun kv => kD kv.1) (ps.map fun kv => kV kv.1)
  | [], kvs, e => by
    have : kvs = [] := by simpa using e.symm
    subst this; rfl
  | p :: ps, [], e => by simp at e
  | p :: ps, kv :: kvs, e => by
    rw [List.map_cons, List.map_cons] at e
    obtain ⟨e1, e2⟩ := List.cons.inj e
    refine ⟨_, _, rfl, ?_, keysK_rp e2⟩
    show Rp K M H (kD kv.1) (kV p.1)
    rw [e1]; exact kD_rp _
theorem zc_lst (hcalm : X.calm = true) (m : Bool) : CallR X (.type "list") (LOL X.K (c1 (lstA m))) := cimp (CallR.or call_list_of (CallR.or (call_list_dT hcalm) (call_listD hcalm))) fun xs H Q h => by
  obtain ⟨x, rfl, d, M, Q3, r1, rm, o, c⟩ := lol1 h
  unfold lstA at o
  split at o
  · rename_i e1
    obtain ⟨a, vs, h1, h2, h3⟩ := seqM_sq rm e1 r1
    subst h1
    exact .inl ⟨a, vs, rfl, h2, fun l hl => resL_cv o rm h3 hl c⟩
  · split at o
    · rename_i kvs e1
      obtain ⟨a, vs, h1, h2, h3⟩ := asD_h rm e1 r1
      subst h1
      have hl : (kvs.map (·.1)).length = vs.length := by rw [h3.length]; simp
      exact .inr (.inl ⟨a, _, rfl, h2, fun p bs hp hk => resL_cv o rm (keys_rp rm hk (by rw [List.map_fst_zip (Nat.le_of_eq hl)])) hp c⟩)
    · split at o
      · rename_i kvs e1
        obtain ⟨a, vs, h1, h2, h3⟩ := asK_h rm e1 r1
        subst h1
        have hl : (kvs.map (·.1)).length = vs.length := by rw [h3.length]; simp
        exact .inr (.inr ⟨a, _, rfl, h2, fun p hp => resL_cv o rm (keysK_rp (by rw [List.map_fst_zip (Nat.le_of_eq hl)])) hp c⟩)
      · exact o.elim
end
/-! ### sorted(a list) -/
def leS (a b : D) : Bool := !PySem.W.dataLt (toPy b) (toPy a)
def sortD (ds : List D) : List D := ds.mergeSort leS
def sortOk (ds : List D) : Prop := (∀ d ∈ ds, ∀ e ∈ ds, likeD d e = true) ∧ (∀ d ∈ ds, pd 60 d = true) ∧ ((∀ d ∈ ds, ∃ k x r, d = .tp k (x :: r)) ∨ ∀ d ∈ ds, d ≠ .non ∧ ∀ k xs, d ≠ .tp k xs)
def srtA : O1 := fun d M Q => match asL M d with
  | some ds => sortOk ds ∧ Q (.lst (sortD ds)) M
  | none => False
section
variable {X : Cx}
theorem toPy_mem : ∀ {ds : List D} {z : PyData}, z ∈ ds.map toPy → ∃ d ∈ ds, toPy d = z := fun h => by
  obtain ⟨d, h1, h2⟩ := List.mem_map.mp h
  exact ⟨d, h1, h2⟩
theorem each_rp {M : MH} {H : Hp} : ∀ {ds : List D} {vs : List V} {us : List Value}, RpL X.K M H ds vs → Vals vs us → PySem.W.EachIs (fun (u : Value) (d : D) => ∃ v, RelV v u ∧ Rp X.K M H d v) us ds
  | [], vs, us, h, r => by
    have h : vs = [] := h
    subst h
    cases r
    exact .nil
  | d :: ds, vs, us, h, r => by
    obtain ⟨v, w, h1, h2, h3⟩ := h
    subst h1
    cases r with
    | cons r1 r2 => exact .cons ⟨v, r1, h2⟩ (each_rp h3 r2)
theorem of_each {M : MH} {H : Hp} : ∀ {ds : List D} {us : List Value}, PySem.W.EachIs (fun (u : Value) (d : D) => ∃ v, RelV v u ∧ Rp X.K M H d v) us ds → ∃ vs, RpL X.K M H ds vs ∧ Vals vs us
  | _, _, .nil => ⟨[], rfl, .nil⟩
  | d :: ds, u :: us, .cons h t => by
    obtain ⟨v, h1, h2⟩ := h
    obtain ⟨vs, g1, g2⟩ := of_each t
    exact ⟨v :: vs, ⟨v, vs, rfl, h2, g1⟩, .cons h1 g2⟩
theorem each_map {α β γ : Type} {R : α → γ → Prop} (f : β → γ) : ∀ {as : List α} {bs : List β}, PySem.W.EachIs (fun a b => R a (f b)) as bs → PySem.W.EachIs R as (bs.map f)
  | _, _, .nil => .nil
  | _, _, .cons h t => .cons h (each_map f t)
theorem each_and {α β : Type} {R : α → β → Prop} {P : β → Prop} : ∀ {as : List α} {bs : List β}, PySem.W.EachIs R as bs → (∀ b ∈ bs, P b) → PySem.W.EachIs (fun a b => R a b ∧ P b) as bs
  | _, _, .nil, _ => .nil
  | _, _, .cons h t, p => .cons ⟨h, p _ (by simp)⟩ (each_and t fun b hb => p b (by simp [hb]))
theorem reads_of {pins : List (Addr × Obj)} {σ : L2.St} {H : Hp} {s : Shared} {M : MH} (I : Inv X pins σ H s) {d : D} {u : Value} (h : (∃ v, RelV v u ∧ Rp X.K M H d v) ∧ pd 60 d = true) : ∃ as, Reads s.heap u (toPy d) as := by
  obtain ⟨⟨v, h1, h2⟩, h3⟩ := h
  exact Dp.reads I _ v u (Rp.dp 60 d v h2 h3) h1
theorem zc_srt (hu : X.A.units + 100 < cLine) : CallR X (.builtin "sorted") (LOL X.K (c1 srtA)) := by
  intro pins s σ H xs us Q I r h
  obtain ⟨x, rfl, d, M, Q3, r1, rm, o, c⟩ := lol1 h
  unfold srtA at o
  split at o
  · rename_i ds e1
    obtain ⟨⟨k1, k2, k3⟩, o⟩ := o
    obtain ⟨a, vs, h1, h2, h3⟩ := asL_sq rm e1 r1
    subst h1
    obtain ⟨its, rv, pl, hz⟩ := I.list h2
    rw [Vals.ref1 r]
    have each := each_rp h3 rv
    -- the state in which it is sorted
    have keep : ∀ b ob, s.heap.get? b = some ob → (PySem.W.sortingHeap (PySem.W.copyHeap s.heap its) (s.heap.objs.size + 1) its).get? b = some ob := fun b ob e => PySem.W.sorting_copy_old e
    have I2 : Inv X pins σ H { s with heap := PySem.W.sortingHeap (PySem.W.copyHeap s.heap its) (s.heap.objs.size + 1) its } := I.kept (t' := s.toks) keep
    have hal : PySem.W.AllAlike (ds.map toPy) := fun z hz z' hz' => by
      obtain ⟨d1, g1, rfl⟩ := toPy_mem hz
      obtain ⟨d2, g2, rfl⟩ := toPy_mem hz'
      exact like_py _ _ (k1 d1 g1 d2 g2)
    have er := each_map (R := fun (u : Value) (p : PyData) => ∃ as, Reads (PySem.W.sortingHeap (PySem.W.copyHeap s.heap its) (s.heap.objs.size + 1) its) u p as) toPy ((each_and each k2).mono fun u d h => reads_of I2 h)
    have S := PySem.W.SortsAt.data (prog := X.prog) (w := X.w) (A := X.A.in1.in1) (s := { s with heap := PySem.W.sortingHeap (PySem.W.copyHeap s.heap its) (s.heap.objs.size + 1) its }) er hal (by
      rcases k3 with k3 | k3
      · refine .inl fun z hz => ?_
        obtain ⟨d1, g1, rfl⟩ := toPy_mem hz
        obtain ⟨k, x, r, rfl⟩ := k3 d1 g1
        exact ⟨toPy x, toPyL r, by simp [toPy, toPyL]⟩
      · refine .inr fun z hz => ?_
        obtain ⟨d1, g1, rfl⟩ := toPy_mem hz
        obtain ⟨n1, n2⟩ := k3 d1 g1
        refine ⟨fun e => n1 ?_, fun xs e => ?_⟩
        · cases d1 <;> simp [toPy] at e
          rfl
        · cases d1 with
          | tp k es => exact n2 k es rfl
          | _ => simp [toPy] at e) (fun z hz => by
        obtain ⟨d1, g1, rfl⟩ := toPy_mem hz
        have := pd_depth 60 d1 (k2 d1 g1)
        show X.A.units + 1 + 1 + _ < cLine
        omega)
    have hlen := rv.length
    refine PySem.W.sorted_vals pl.isList S (by omega) ?_
    have out := PySem.W.sortVals_each (κ := PySem.W.dataKind (PySem.W.sortingHeap (PySem.W.copyHeap s.heap its) (s.heap.objs.size + 1) its) (ds.map toPy)) (rev := false) (fun d => PySem.W.keyToks (toPy d)) each
      ((each_and (each_and each k2) (P := fun d => d ∈ ds) fun b hb => hb).mono fun u d h => by
        obtain ⟨as, rd⟩ := reads_of I2 h.1
        exact PySem.W.dataKind_some hal (List.mem_map.mpr ⟨d, h.2, rfl⟩) rd)
    obtain ⟨ws, w1, w2⟩ := of_each out
    obtain ⟨ep, he'⟩ := PyProof.Rows.sortedAll_at s.heap its (PySem.W.sortVals (PySem.W.dataKind (PySem.W.sortingHeap (PySem.W.copyHeap s.heap its) (s.heap.objs.size + 1) its) (ds.map toPy)) false its its).toArray
    have wl : ws.length ≤ sizeLine := by
      rw [w1.length, (List.mergeSort_perm _ _).length_eq, ← h3.length]; exact hz
    have hf : H (s.heap.objs.size + 1) = none := I.hok.fresh (Nat.le_succ _)
    refine ⟨.ref _, upd H (s.heap.objs.size + 1) (.lst ws), I.laid (t' := s.toks) (fun _ _ => PyProof.Rows.sortedAll_old) (Nat.le_succ _) ⟨wl, _, ep, w2, he'⟩, rfl, ?_⟩
    exact c _ M _ _ o (Rp.lstNew rm hf w1) (rm.new hf) (Ev.new hf)
  · exact o.elim
/-! the least of pairs of numbers -/
theorem reads_each {h : Heap} : ∀ {us : List Value} {ps : List PyData}, PySem.W.EachIs (fun (u : Value) (p : PyData) => ∃ as, Reads h u p as) us ps → ∃ as, ReadsAll h us ps as
  | _, _, .nil => ⟨[], .nil⟩
  | _, _, .cons ⟨a, r⟩ t => by
    obtain ⟨b, r2⟩ := reads_each t
    exact ⟨a ++ b, .cons r r2⟩
theorem each_at {α β : Type} {R : α → β → Prop} : ∀ {as : List α} {bs : List β} {i : Nat} {a : α}, PySem.W.EachIs R as bs → as[i]? = some a → ∃ b, b ∈ bs ∧ R a b
  | _, _, _, _, .nil, h => by simp at h
  | _, _, 0, _, .cons r t, h => by
    simp only [List.getElem?_cons_zero, Option.some.injEq] at h
    subst h
    exact ⟨_, by simp, r⟩
  | _, _, i + 1, _, .cons r t, h => by
    simp only [List.getElem?_cons_succ] at h
    obtain ⟨b, hb, rb⟩ := each_at t h
    exact ⟨b, List.mem_cons_of_mem _ hb, rb⟩
theorem depth_all {k : Nat} : ∀ {zs : List PyData}, (∀ z ∈ zs, z.depth ≤ k) → PyData.depthAll zs ≤ k
  | [], _ => Nat.zero_le _
  | z :: r, h => by
    have h1 := h z (by simp)
    have h2 := depth_all (k := k) (zs := r) fun y hy => h y (List.mem_cons_of_mem _ hy)
    unfold PyData.depthAll
    omega
def ipB : D → Bool
  | .tp .t [.int _, .int _] => true
  | _ => false
def leastP (d : D) (r : List D) : D := r.foldl (fun a y => if ltD y a = true then y else a) d
def minPA (M : MH) (d : D) : Option D := match asL M d with
  | some (d :: r) => if (d :: r).all ipB = true then some (leastP d r) else none
  | _ => none
theorem ip_shape {d : D} (h : ipB d = true) : ∃ i j, d = .tup [.int i, .int j] := by
  unfold ipB at h
  split at h
  · exact ⟨_, _, rfl⟩
  · cases h
theorem leastP_mem : ∀ (r : List D) (d : D), leastP d r ∈ d :: r
  | [], d => by simp [leastP]
  | y :: r, d => by
    show leastP (if ltD y d = true then y else d) r ∈ _
    have := leastP_mem r (if ltD y d = true then y else d)
    rcases List.mem_cons.mp this with e | e
    · rw [e]; split <;> simp
    · simp [e]
theorem ip_like {d e : D} (hd : ipB d = true) (he : ipB e = true) : likeD d e = true := by
  obtain ⟨i, j, rfl⟩ := ip_shape hd
  obtain ⟨k, l, rfl⟩ := ip_shape he
  rfl
theorem leastP_py : ∀ (r : List D) (d : D), (∀ e ∈ d :: r, ipB e = true) → toPy (leastP d r) = PySem.W.minD (toPy d) (r.map toPy)
  | [], d, _ => rfl
  | y :: r, d, h => by
    have e : PySem.W.dataLt (toPy y) (toPy d) = ltD y d := lt_py _ _ (ip_like (h y (by simp)) (h d (by simp)))
    show toPy (leastP (if ltD y d = true then y else d) r) = PySem.W.minD (if PySem.W.dataLt (toPy y) (toPy d) then toPy y else toPy d) (r.map toPy)
    rw [e]
    have ih := leastP_py r (if ltD y d = true then y else d) (fun z hz => by
      rcases List.mem_cons.mp hz with e | hz
      · rw [e]; split
        · exact h y (by simp)
        · exact h d (by simp)
      · exact h z (by simp [hz]))
    rw [ih]
    split <;> rfl
theorem zc_minP (hc : X.calm = true) (hu : X.A.units + 100 < cLine) : CallR X (.builtin "min") (LOL X.K (c1 (ofO minPA))) := by
  intro pins s σ H xs us Q I r h
  obtain ⟨x, rfl, h'⟩ := lol1 h
  obtain ⟨d, M, Q3, res, r1, rm, e, q, c⟩ := lo1f h'
  unfold minPA at e
  split at e
  · rename_i d0 r0 e1
    split at e
    · rename_i hal
      obtain rfl := Option.some.inj e
      rw [List.all_eq_true] at hal
      obtain ⟨a, vs, h1, h2, h3⟩ := asL_sq rm e1 r1
      subst h1
      obtain ⟨its, rv, pl, hz⟩ := I.list h2
      rw [Vals.ref1 r]
      have each := each_rp h3 rv
      have pdA : ∀ e ∈ d0 :: r0, pd 60 e = true := fun e he => by
        obtain ⟨i, j, rfl⟩ := ip_shape (hal e he)
        rfl
      obtain ⟨as, ra⟩ := reads_each (each_map (R := fun (u : Value) (p : PyData) => ∃ as, Reads s.heap u p as) toPy ((each_and each pdA).mono fun u d h => reads_of I h))
      have al : PySem.W.AlikeAll ((d0 :: r0).map toPy) := ⟨fun z hz z' hz' => by
        obtain ⟨d1, g1, rfl⟩ := toPy_mem hz
        obtain ⟨d2, g2, rfl⟩ := toPy_mem hz'
        exact like_py _ _ (ip_like (hal d1 g1) (hal d2 g2)), fun z hz => by
        obtain ⟨d1, g1, rfl⟩ := toPy_mem hz
        obtain ⟨i, j, rfl⟩ := ip_shape (hal d1 g1)
        intro e; cases e⟩
      have dep : PyData.depthAll ((d0 :: r0).map toPy) ≤ 60 := depth_all fun z hz => by
        obtain ⟨d1, g1, rfl⟩ := toPy_mem hz
        exact pd_depth 60 d1 (pdA d1 g1)
      refine PySem.W.min_list_data (x := toPy d0) (xs := r0.map toPy) (I.ok.hd hc) pl.isList ra al (by
        have : PyData.depthAll (toPy d0 :: r0.map toPy) ≤ 60 := dep
        omega) fun i v h2' tk bs hv rd keep => ?_
      have I2 : Inv X pins σ H { s with heap := h2', toks := tk } := I.kept keep
      obtain ⟨di, dm, ⟨w, rw1, rw2⟩⟩ := each_at each (by simpa using hv)
      obtain ⟨as', rd'⟩ := reads_of I2 ⟨⟨w, rw1, rw2⟩, pdA di dm⟩
      have eq := (PyProof.Rows.reads_det (h := h2') (h' := h2') (fun _ _ e _ => e) rd rd').1
      rw [← leastP_py r0 d0 hal] at eq
      have el : di = leastP d0 r0 := by
        obtain ⟨i1, j1, z1⟩ := ip_shape (hal di dm)
        obtain ⟨i2, j2, z2⟩ := ip_shape (hal _ (leastP_mem r0 d0))
        rw [z1, z2] at eq ⊢
        simp only [toPy, toPyL, PyData.tuple.injEq, List.cons.injEq, PyData.int.injEq, and_true] at eq
        rw [eq.1, eq.2]
      subst el
      exact ⟨w, H, I2, rw1, c _ M _ _ q rw2 rm (Ev.refl _ _)⟩
    · cases e
  · cases e
end
/-! ### isinstance -/
inductive Ty where
  | tint | tbool | tstr | ttup | tlst
  deriving DecidableEq
def Ty.name : Ty → String
  | .tint => "int" | .tbool => "bool" | .tstr => "str" | .ttup => "tuple" | .tlst => "list"
def isTy (M : MH) (d : D) (T : Ty) : Option Bool := match d with
  | .non => some false
  | .bl _ => some (decide (T = .tbool ∨ T = .tint))
  | .int _ => some (decide (T = .tint))
  | .str _ => some (decide (T = .tstr))
  | .tp _ _ => some (decide (T = .ttup))
  | d => match asL M d with
    | some _ => some (decide (T = .tlst))
    | none => none
def isi3 (T : Ty) : O1 := fun d M Q => match isTy M d T with | some b => Q (.bl b) M | none => False
section
variable {X : Cx}
theorem kit_all : ∀ T : Ty, kitB "NoneType" T.name = some false ∧ kitB "bool" T.name = some (decide (T = .tbool ∨ T = .tint)) ∧ kitB "int" T.name = some (decide (T = .tint)) ∧ kitB "str" T.name = some (decide (T = .tstr)) ∧ kitB "tuple" T.name = some (decide (T = .ttup)) ∧ kitB "list" T.name = some (decide (T = .tlst)) := by
  intro T
  cases T <;> decide +kernel
theorem z_isi {K : PySem.W.Frag} {M0 : MH} {H0 : Hp} (hK : X.K = K) {T : Ty} {e : Expr} {te : T3} {p p2 pos : Pos} {tn : Str} (hg : Gl X "isinstance") (hm : X.mg "isinstance" = none) (hgT : Gl X tn) (hmT : X.mg tn = none) (hT : bootBuiltins tn = some (.type T.name)) (hn : tn ≠ "__name__") (hd : (tn == ("__debug__" : Str)) = false)
    (he : PE X e (LE K M0 H0 te)) (hs : starEach [e, .Name tn p2] X.env = [(false, eval e X.env), (false, eval (.Name tn p2) X.env)]) (hp1 : starEach [.Name tn p2] X.env = [(false, eval (.Name tn p2) X.env)]) : PE X (.Call (.Name "isinstance" p) [e, .Name tn p2] [] pos) (LE K M0 H0 (op1 (isi3 T) te)) := by
  subst hK
  have ha : PA X [e, .Name tn p2] (tCons (LE X.K M0 H0 te) (tCons (tC (.ty T.name)) tNil)) := pa_cons he (pa_cons (pe_bltn hgT hmT hT rfl hn hd) pa_nil) (by rw [hs, hp1])
  refine (pe_callB call_isi hg hm (by decide +kernel) ha (by decide) (by decide) (by rw [hs, hp1]) (by rw [hp1]; rfl)).imp fun σ H Q ⟨en, M, P, rs, rm, ev, t, c⟩ => ?_
  refine LE.then rs rm ev t fun d M1 v1 H1 t1 r1 rs1 rm1 ev1 e1 => ?_
  unfold isi3 at t1
  split at t1
  · rename_i b q
    refine ⟨v1, .ty T.name, ?_⟩
    obtain ⟨k1, k2, k3, k4, k5, k6⟩ := kit_all T
    have fin : ∀ {t : String} {b' : Bool}, kitB t T.name = some b' → b = b' → TyX X.K H1 v1 (.type t) → ∃ (t u : Value) (b : Bool), [v1, V.ty T.name] = [v1, .ty T.name] ∧ ClsV (.ty T.name) u ∧ TyX X.K H1 v1 t ∧ PySem.W.kitOne X.K t u = some b ∧ Q (.bl b) H1 := fun {t b'} k e z =>
      ⟨.type t, .type T.name, b', rfl, .ty _, z, kit_ty k, by rw [← e]; exact c _ M1 _ H1 t1 rfl rm1 e1⟩
    have lst : ∀ {ds : List D}, asL M1 d = some ds → TyX X.K H1 v1 (.type "list") := fun {ds} e => by
      obtain ⟨a, vs, h1, h2, h3⟩ := asL_sq rm1 e r1
      subst h1
      rcases h2 with (h2 | ⟨ob, h2⟩) | ⟨o, its, n, h2, h4, _⟩
      · exact .base (.lst h2)
      · exact .base (.frz h2)
      · exact .kList h2 h4
    unfold isTy at q
    split at q
    · have q := Option.some.inj q
      have r1 := show v1 = _ from r1
      subst r1
      exact fin k1 q.symm (.base .non)
    · have q := Option.some.inj q
      have r1 := show v1 = _ from r1
      subst r1
      exact fin k2 q.symm (.base (.bl _))
    · have q := Option.some.inj q
      have r1 := show v1 = _ from r1
      subst r1
      exact fin k3 q.symm (.base (.int _))
    · have q := Option.some.inj q
      have r1 := show v1 = _ from r1
      subst r1
      exact fin k4 q.symm (.base (.str _))
    · have q := Option.some.inj q
      rename_i k _ _
      obtain ⟨a, vs, h1, h2, h3⟩ := r1
      subst h1
      refine fin k5 q.symm ?_
      cases k with
      | t => exact .base (.tup h2.2)
      | s =>
        obtain ⟨o, its, n, g1, g2, _⟩ := h2
        exact .kTuple g1 g2
      | k =>
        obtain ⟨o, g1, g2, _⟩ := h2
        exact .fTuple g2
    · split at q
      · rename_i e2
        have q := Option.some.inj q
        exact fin k6 q.symm (lst e2)
      · cases q
  · exact t1.elim
end
/-! ### a call of a built-in by its name -/
section
variable {X : Cx} {K : PySem.W.Frag} {M0 : MH} {H0 : Hp}
def opL (o : OL) (t : TL3) : T3 := fun e M Q => t e M fun ds M1 => o ds M1 Q
theorem z_callB {id : String} {o : OL} {x : Str} {e : Expr} {es : List Expr} {t : TL3} {p pos : Pos} (hc : CallR X (.builtin id) (LOL K o)) (hg : Gl X x) (hm : X.mg x = none) (hv : bootBuiltins x = some (.builtin id)) (ha : PA X (e :: es) (LA K M0 H0 t))
    (hn : x ≠ "__name__") (hdb : (x == ("__debug__" : Str)) = false) (he : starEach (e :: es) X.env = (false, eval e X.env) :: starEach es X.env) (hpl : (backTo pos (starEach es X.env)).any (·.1) = false) : PE X (.Call (.Name x p) (e :: es) [] pos) (LE K M0 H0 (opL o t)) :=
  (pe_callB hc hg hm hv ha hn hdb he hpl).imp fun σ H Q ⟨en, M, P, rs, rm, ev, t', c⟩ => LA.then rs rm ev t' fun ds M1 vs H1 t1 r1 rs1 rm1 ev1 e1 => ⟨ds, M1, P, r1, rm1, t1, c.from e1⟩
theorem z_callTy {T : String} {o : OL} {x : Str} {e : Expr} {es : List Expr} {t : TL3} {p pos : Pos} (hc : CallR X (.type T) (LOL K o)) (hg : Gl X x) (hm : X.mg x = none) (hv : bootBuiltins x = some (.type T)) (ha : PA X (e :: es) (LA K M0 H0 t))
    (hn : x ≠ "__name__") (hdb : (x == ("__debug__" : Str)) = false) (he : starEach (e :: es) X.env = (false, eval e X.env) :: starEach es X.env) (hpl : (backTo pos (starEach es X.env)).any (·.1) = false) : PE X (.Call (.Name x p) (e :: es) [] pos) (LE K M0 H0 (opL o t)) :=
  (pe_callTy hc hg hm hv ha hn hdb he hpl).imp fun σ H Q ⟨en, M, P, rs, rm, ev, t', c⟩ => LA.then rs rm ev t' fun ds M1 vs H1 t1 r1 rs1 rm1 ev1 e1 => ⟨ds, M1, P, r1, rm1, t1, c.from e1⟩
end
end Z

namespace Z
open PySem PySem.Spec PyProof.Rows L2

structure Ends3 where
  nx : En → MH → Prop
  rt : Q3
  bk : En → MH → Prop
  ct : En → MH → Prop
abbrev TS3 := Ends3 → En → MH → Prop
section
variable (K : PySem.W.Frag) (M0 : MH) (H0 : Hp)
def CvE (M : MH) (H : Hp) (q : En → MH → Prop) (Q : L2.St → Hp → Prop) : Prop := ∀ e' M' σ' H', q e' M' → RS K M' H' e' σ' → RM K M' H' → Ev M H M' H' → Q σ' H'
structure CvS (M : MH) (H : Hp) (D3 : Ends3) (D : Ends) : Prop where
  nx : CvE K M H D3.nx D.nx
  rt : Cv K M H D3.rt D.rt
  bk : CvE K M H D3.bk D.bk
  ct : CvE K M H D3.ct D.ct
def LS (t : TS3) : TS := fun D σ H => ∃ e M D3, RS K M H e σ ∧ RM K M H ∧ Ev M0 H0 M H ∧ t D3 e M ∧ CvS K M H D3 D
variable {K M0 H0}
theorem CvE.from {M M1 : MH} {H H1 : Hp} {q : En → MH → Prop} {Q : L2.St → Hp → Prop} (c : CvE K M H q Q) (e : Ev M H M1 H1) : CvE K M1 H1 q Q := fun e' M' σ' H' h r m e2 => c e' M' σ' H' h r m (e.trans e2)
theorem CvS.from {M M1 : MH} {H H1 : Hp} {D3 : Ends3} {D : Ends} (c : CvS K M H D3 D) (e : Ev M H M1 H1) : CvS K M1 H1 D3 D := ⟨c.nx.from e, c.rt.from e, c.bk.from e, c.ct.from e⟩
section
variable {X : Cx} {st : Stmt} {rest : List Stmt} {t u : TS3} {e : Expr} {te : T3} {pos : Pos}
def next3 : TS3 := fun D e M => D.nx e M
def seq3 (t u : TS3) : TS3 := fun D e M => t { D with nx := u D } e M
theorem z_snil : PSs X [] (LS K M0 H0 next3) := pss_nil.imp fun D σ H ⟨e, M, D3, rs, rm, ev, t, c⟩ => c.nx e M σ H t rs rm (Ev.refl _ _)
theorem z_scons (h1 : PS X st (LS K M0 H0 t)) (h2 : PSs X rest (LS K M0 H0 u)) : PSs X (st :: rest) (LS K M0 H0 (seq3 t u)) :=
  (pss_cons h1 h2).imp fun D σ H ⟨e, M, D3, rs, rm, ev, t, c⟩ => ⟨e, M, { D3 with nx := u D3 }, rs, rm, ev, t,
    ⟨fun e' M' σ' H' h r m e2 => ⟨e', M', D3, r, m, ev.trans e2, h, c.from e2⟩, c.rt, c.bk, c.ct⟩⟩
/-- a step in the proof alone -/
theorem z_ghost {g : TS3} (h : PSs X rest (LS K M0 H0 t)) (f : ∀ D e M σ H, RS K M H e σ → RM K M H → g D e M → ∃ e' M', RS K M' H e' σ ∧ RM K M' H ∧ Ev M H M' H ∧ t D e' M') : PSs X rest (LS K M0 H0 g) :=
  h.imp fun D σ H ⟨e, M, D3, rs, rm, ev, q, c⟩ => by
    obtain ⟨e', M', rs', rm', ev', q'⟩ := f D3 e M σ H rs rm q
    exact ⟨e', M', D3, rs', rm', ev.trans ev', q', c.from ev'⟩
def brk3 : TS3 := fun D e M => D.bk e M
def cnt3 : TS3 := fun D e M => D.ct e M
theorem z_pass : PS X (.Pass pos) (LS K M0 H0 next3) := ps_pass.imp fun D σ H ⟨e, M, D3, rs, rm, ev, t, c⟩ => c.nx e M σ H t rs rm (Ev.refl _ _)
theorem z_break : PS X (.Break pos) (LS K M0 H0 brk3) := ps_break.imp fun D σ H ⟨e, M, D3, rs, rm, ev, t, c⟩ => c.bk e M σ H t rs rm (Ev.refl _ _)
theorem z_cont : PS X (.Continue pos) (LS K M0 H0 cnt3) := ps_continue.imp fun D σ H ⟨e, M, D3, rs, rm, ev, t, c⟩ => c.ct e M σ H t rs rm (Ev.refl _ _)
def drop3 (te : T3) : TS3 := fun D e M => te e M fun _ M1 => D.nx e M1
theorem z_expr (he : PE X e (LE K M0 H0 te)) (hs : swapsWith e none pos.line X.env = pure false) : PS X (.Expr e pos) (LS K M0 H0 (drop3 te)) :=
  (ps_expr he hs).imp fun D σ H ⟨en, M, D3, rs, rm, ev, t, c⟩ => LE.then rs rm ev t fun d M1 v1 H1 t1 r1 rs1 rm1 ev1 e1 => c.nx en M1 σ H1 t1 rs1 rm1 e1
def ret3 (te : T3) : TS3 := fun D e M => te e M D.rt
theorem z_ret (he : PE X e (LE K M0 H0 te)) : PS X (.Return (some e) pos) (LS K M0 H0 (ret3 te)) :=
  (ps_ret he).imp fun D σ H ⟨en, M, D3, rs, rm, ev, t, c⟩ => ⟨en, M, D3.rt, rs, rm, ev, t, c.rt⟩
def retN3 : TS3 := fun D _ M => D.rt .non M
theorem z_retN : PS X (.Return none pos) (LS K M0 H0 retN3) := ps_retN.imp fun D σ H ⟨en, M, D3, rs, rm, ev, t, c⟩ => c.rt.now rm t rfl
def if3 (c : TB3) (t u : TS3) : TS3 := fun D e M => c e M fun b M1 => match b with | true => t D e M1 | false => u D e M1
theorem z_if {c : Expr} {a b : List Stmt} {tc : TB3} (hc : PT X c (LT K M0 H0 tc)) (ha : PSs X a (LS K M0 H0 t)) (hb : PSs X b (LS K M0 H0 u)) : PS X (.If c a b pos) (LS K M0 H0 (if3 tc t u)) :=
  (ps_if hc ha hb).imp fun D σ H ⟨en, M, D3, rs, rm, ev, t, c⟩ => LT.then rs rm ev t fun d M1 H1 t1 rs1 rm1 ev1 e1 => by
    cases d with
    | true => rw [if_pos rfl]; exact ⟨en, M1, D3, rs1, rm1, ev1, t1, c.from e1⟩
    | false => rw [if_neg Bool.false_ne_true]; exact ⟨en, M1, D3, rs1, rm1, ev1, t1, c.from e1⟩
/-! ### targets of names -/
inductive Tg where
  | nm (i : Nat)
  | tp (is : List Nat)
def setAll : En → List Nat → List D → Option En
  | e, [], [] => some e
  | e, i :: is, d :: ds => setAll (setE e i d) is ds
  | _, _, _ => none
def bindT : Tg → D → En → Option En
  | .nm i, d, e => some (setE e i d)
  | .tp is, d, e => match asT d with
    | some ds => setAll e is ds
    | none => none
def gNames : List Nat → TGs
  | [] => gNil
  | i :: is => gCons (gName i) (gNames is)
def gOf (K : PySem.W.Frag) : Tg → TG
  | .nm i => gName i
  | .tp is => gTup K is.length (gNames is)
def Tg.slots : Tg → List Nat
  | .nm i => [i]
  | .tp is => is
/-- the slots that change -/
def setV : L2.St → List Nat → List V → L2.St
  | σ, i :: is, v :: vs => setV (σ.set i (some v)) is vs
  | σ, _, _ => σ
theorem gNames_ok {M : MH} {H : Hp} : ∀ {is : List Nat} {ds : List D} {vs : List V} {e e' : En} {σ : L2.St} {Q : L2.St → Hp → Prop}, setAll e is ds = some e' → RpL K M H ds vs → RS K M H e σ → (RS K M H e' (setV σ is vs) → Q (setV σ is vs) H) → gNames is vs σ H Q
  | [], [], vs, e, e', σ, Q, h, r, rs, q => by
    have r : vs = [] := r
    subst r
    obtain rfl := Option.some.inj h
    exact ⟨rfl, q rs⟩
  | [], _ :: _, _, _, _, _, _, h, _, _, _ => by simp [setAll] at h
  | _ :: _, [], _, _, _, _, _, h, _, _, _ => by simp [setAll] at h
  | i :: is, d :: ds, vs, e, e', σ, Q, h, r, rs, q => by
    obtain ⟨v, w, h1, h2, h3⟩ := r
    subst h1
    exact ⟨v, w, rfl, gNames_ok (e := setE e i d) (by simpa [setAll] using h) h3 (rs.set i h2) q⟩
theorem setAll_len : ∀ {is : List Nat} {ds : List D} {e e' : En}, setAll e is ds = some e' → is.length = ds.length
  | [], [], _, _, _ => rfl
  | [], _ :: _, _, _, h => by simp [setAll] at h
  | _ :: _, [], _, _, h => by simp [setAll] at h
  | i :: is, d :: ds, e, e', h => by
    have := setAll_len (is := is) (ds := ds) (e := setE e i d) (e' := e') (by simpa [setAll] using h)
    simp [this]
/-- binding: the slots of the target are set -/
theorem gOf_ok {M : MH} {H : Hp} {tg : Tg} {d : D} {v : V} {e e' : En} {σ : L2.St} {Q : L2.St → Hp → Prop} (h : bindT tg d e = some e') (r : Rp K M H d v) (rs : RS K M H e σ)
    (q : ∀ vs, RS K M H e' (setV σ tg.slots vs) → Q (setV σ tg.slots vs) H) : gOf K tg v σ H Q := by
  cases tg with
  | nm i =>
    obtain rfl := Option.some.inj h
    exact q [v] (rs.set i r)
  | tp is =>
    dsimp only [bindT] at h
    split at h
    · rename_i ds e1
      obtain ⟨a, vs, h1, h2, h3⟩ := asT_sq e1 r
      exact ⟨a, vs, h1, h2, by rw [h3.length, setAll_len h], gNames_ok h h3 rs (q vs)⟩
    · cases h
theorem wipe_get : ∀ (vs : List Nat) (σ : L2.St) (i : Nat), (wipe σ vs)[i]? = if i ∈ vs ∧ i < σ.length then some none else σ[i]?
  | [], σ, i => by simp [wipe]
  | v :: vs, σ, i => by
    unfold wipe
    by_cases e : v = i
    · subst e
      by_cases hl : v < σ.length
      · rw [List.getElem?_set_self (by rw [wipe_length]; exact hl)]
        simp [hl]
      · rw [List.getElem?_eq_none (by rw [List.length_set, wipe_length]; omega)]
        simp [hl]
    · rw [List.getElem?_set_ne e, wipe_get vs σ i]
      have : i ∈ v :: vs ↔ i ∈ vs := by simp [Ne.symm e]
      simp only [this]
theorem wipe_set {vs : List Nat} {σ : L2.St} {i : Nat} {o : Option V} (h : i ∈ vs) : wipe (σ.set i o) vs = wipe σ vs := by
  refine List.ext_getElem? fun j => ?_
  rw [wipe_get, wipe_get, List.length_set]
  by_cases e : j = i
  · subst e
    by_cases hl : j < σ.length
    · rw [if_pos ⟨h, hl⟩, if_pos ⟨h, hl⟩]
    · rw [if_neg (fun z => hl z.2), if_neg (fun z => hl z.2), List.getElem?_eq_none (by rw [List.length_set]; omega), List.getElem?_eq_none (by omega)]
  · rw [List.getElem?_set_ne (Ne.symm e)]
theorem wipe_setV {vs : List Nat} : ∀ (is : List Nat) (σ : L2.St) (ws : List V), (∀ i ∈ is, i ∈ vs) → wipe (setV σ is ws) vs = wipe σ vs
  | [], σ, ws, _ => by cases ws <;> rfl
  | i :: is, σ, [], _ => rfl
  | i :: is, σ, w :: ws, h => by
    show wipe (setV (σ.set i (some w)) is ws) vs = _
    rw [wipe_setV is _ ws fun j hj => h j (by simp [hj]), wipe_set (h i (by simp))]
theorem wipe_wipe {vs : List Nat} {σ : L2.St} : wipe (wipe σ vs) vs = wipe σ vs := by
  refine List.ext_getElem? fun j => ?_
  rw [wipe_get, wipe_length, wipe_get]
  by_cases h : j ∈ vs ∧ j < σ.length
  · simp only [if_pos h]
  · simp only [if_neg h]
/-! ### assignments -/
def asg3 (te : T3) (tg : Tg) : TS3 := fun D e M => te e M fun d M1 => match bindT tg d e with | some e' => D.nx e' M1 | none => False
theorem z_asg {target : Expr} {tg : Tg} (he : PE X e (LE K M0 H0 te)) (hg : PG X target (gOf K tg)) (hs : swapsWithSole [target] e pos.line X.env = pure false) (hw : swappedStores [target] e X.env = pure none)
    (h1 : (assignEach [target] X.env).map (·.2) = [assign target X.env]) : PS X (.Assign [target] e pos) (LS K M0 H0 (asg3 te tg)) :=
  (ps_asg he hg hs hw h1).imp fun D σ H ⟨en, M, D3, rs, rm, ev, t, c⟩ => LE.then rs rm ev t fun d M1 v1 H1 t1 r1 rs1 rm1 ev1 e1 => by
    split at t1
    · rename_i e' eb
      exact gOf_ok eb r1 rs1 fun vs r => c.nx _ M1 _ H1 t1 r rm1 e1
    · exact t1.elim
theorem z_set {i : Nat} {x : Str} {pos' : Pos} (hN : X.N.Nodup) (hi : X.N[i]? = some x) (hx : Loc X.env.scope x) (he : PE X e (LE K M0 H0 te)) (hs : swapsWith e (some (.Name x pos')) pos.line X.env = pure false) (hf : X.fn x = true ∨ X.env.scope.names.lookup x = some .local) :
    PS X (.Assign [.Name x pos'] e pos) (LS K M0 H0 (asg3 te (.nm i))) :=
  (ps_set hN hi hx he hs hf).imp fun D σ H ⟨en, M, D3, rs, rm, ev, t, c⟩ => LE.then rs rm ev t fun d M1 v1 H1 t1 r1 rs1 rm1 ev1 e1 => c.nx _ M1 _ H1 t1 (rs1.set i r1) rm1 e1
/-- a, b = x, y -/
def par3 (i j : Nat) (ta : TL3) : TS3 := fun D e M => ta e M fun ds M1 => match ds with
  | [d, d'] => D.nx (setE (setE e i d) j d') M1
  | _ => False
theorem z_par {i j : Nat} {x y : Str} {a b : Expr} {ta : TL3} {px py pt : Pos} {kt k2 pt2} (hc : X.calm = true) (hN : X.N.Nodup) (hi : X.N[i]? = some x) (hj : X.N[j]? = some y) (hij : i ≠ j)
    (hx : X.env.scope.names.lookup x = some .local) (hy : X.env.scope.names.lookup y = some .local) (ha : PA X [a, b] (LA K M0 H0 ta))
    (hw : swappedStores [.Tuple [.Name x px, .Name y py] kt pt] (.Tuple [a, b] k2 pt2) X.env = pure (some [x, y])) :
    PS X (.Assign [.Tuple [.Name x px, .Name y py] kt pt] (.Tuple [a, b] k2 pt2) pos) (LS K M0 H0 (par3 i j ta)) :=
  (ps_par hc hN hi hj hij hx hy ha hw rfl).imp fun D σ H ⟨en, M, D3, rs, rm, ev, t, c⟩ => LA.then rs rm ev t fun ds M1 vs H1 t1 r1 rs1 rm1 ev1 e1 => by
    split at t1
    · obtain ⟨v, w, h1, h2, h3⟩ := r1
      obtain ⟨v', w', g1, g2, g3⟩ := h3
      have g3 : w' = [] := g3
      subst g3 g1 h1
      exact ⟨v, v', rfl, c.nx _ M1 _ H1 t1 ((rs1.set i h2).set j g2) rm1 e1⟩
    · exact t1.elim
/-! ### o[i] = v -/
def put3 (M : MH) (o i v : D) : Option MH := match o with
  | .ref a => match M a with
    | some (.lst ds) => match i with
      | .int k => match ixN ds.length k with
        | some j => some (up M a (.lst (ds.set j v)))
        | none => none
      | _ => none
    | some (.dK kvs) => match keyK i with
      | some k => if kvs.length < sizeLine then some (up M a (.dK (putD kvs k v))) else none
      | none => none
    | some (.dT kvs) => match keyT i with
      | some k => if kvs.length < sizeLine then some (up M a (.dT (putD kvs k v))) else none
      | none => none
    | _ => none
  | _ => none
def LSet (K : PySem.W.Frag) : TSet := fun o i v H Q => ∃ d1 d2 d3 M M', Rp K M H d1 o ∧ Rp K M H d2 i ∧ Rp K M H d3 v ∧ RM K M H ∧ put3 M d1 d2 d3 = some M' ∧ ∀ H', RM K M' H' → Ev M H M' H' → Q H'
theorem seti (hu : X.A.units + 1 < cLine) : PSet X (LSet X.K) := by
  intro pins s σ H o i v ov iv u Q I ro ri rv ⟨d1, d2, d3, M, M', r1, r2, r3, rm, e, q⟩
  unfold put3 at e
  split at e
  · rename_i a
    have ea : o = .ref a := r1
    subst ea
    split at e
    · rename_i ds em
      split at e
      · rename_i k
        split at e
        · rename_i j ej
          obtain rfl := Option.some.inj e
          obtain ⟨vs, g1, g2⟩ := rm a _ em
          refine set_list pins s σ H _ _ _ ov iv u Q I ro ri rv ⟨a, vs, k, j, rfl, r2, g1, by rw [g2.length]; exact ej, q _ ?_ (Ev.wr em)⟩
          exact rm.wr em ⟨_, upd_same, (RpL.ev (Ev.wr em) _ _ g2).set (Rp.ev (Ev.wr em) _ _ r3) j⟩
        · cases e
      · cases e
    · rename_i kvs em
      split at e
      · rename_i k ek
        split at e
        · rename_i hz
          obtain rfl := Option.some.inj e
          obtain ⟨vs, g1, g2⟩ := rm a _ em
          have hk := keyK_v ek r2
          subst hk
          obtain ⟨ws, w1, w2⟩ := put_rp (k := k) r3 g2
          refine set_dict hu pins s σ H _ _ _ ov iv u Q I ro ri rv ⟨a, _, rfl, DPut.k g1 ?_, q _ ?_ (Ev.wr em)⟩
          · rw [List.length_zip, List.length_map]; omega
          · refine rm.wr em ⟨ws, ?_, RpL.ev (Ev.wr em) _ _ w2⟩
            rw [upd_same, w1]
        · cases e
      · cases e
    · rename_i kvs em
      split at e
      · rename_i k ek
        split at e
        · rename_i hz
          obtain rfl := Option.some.inj e
          obtain ⟨vs, g1, g2⟩ := rm a _ em
          cases d2 with
          | tp tk es =>
            cases tk with
            | s => simp [keyT] at ek
            | k => simp [keyT] at ek
            | t =>
            obtain ⟨b, bs, b1, ⟨b2, b3⟩, b4⟩ := r2
            have hk := keysK_v ek b4
            subst hk b1
            obtain ⟨ws, w1, w2⟩ := put_rp (k := k) r3 g2
            refine set_dict hu pins s σ H _ _ _ ov iv u Q I ro ri rv ⟨a, _, rfl, DPut.t g1 b3 ?_, q _ ?_ (Ev.wr em)⟩
            · rw [List.length_zip, List.length_map]; omega
            · refine rm.wr em ⟨ws, ?_, RpL.ev (Ev.wr em) _ _ w2⟩
              rw [upd_same, w1]
          | _ => simp [keyT] at ek
        · cases e
      · cases e
    · cases e
  · cases e
def sput3 (to ti te : T3) : TS3 := fun D e M => te e M fun v M1 => to e M1 fun o M2 => ti e M2 fun i M3 => match put3 M3 o i v with | some M4 => D.nx e M4 | none => False
theorem z_sput {o i : Expr} {to ti : T3} {pos' : Pos} (hset : PSet X (LSet K)) (ho : PE X o (LE K M0 H0 to)) (hi : PE X i (LE K M0 H0 ti)) (he : PE X e (LE K M0 H0 te))
    (ha : ∀ v, assign (.Subscript o i pos') X.env v = (do
      let ov ← holding [v] (eval o X.env)
      let iv ← holding [v, ov] (eval i X.env)
      standAt pos'
      holding [v, ov, iv] (setItem ov iv v)
      release [v, ov, iv] []))
    (hs : swapsWithSole [.Subscript o i pos'] e pos.line X.env = pure false) (hw : swappedStores [.Subscript o i pos'] e X.env = pure none)
    (h1 : (assignEach [.Subscript o i pos'] X.env).map (·.2) = [assign (.Subscript o i pos') X.env]) : PS X (.Assign [.Subscript o i pos'] e pos) (LS K M0 H0 (sput3 to ti te)) :=
  (ps_asg he (pg_sub ho hi hset ha) hs hw h1).imp fun D σ H ⟨en, M, D3, rs, rm, ev, t, c⟩ => LE.then rs rm ev t fun v M1 v1 H1 t1 r1 rs1 rm1 ev1 e1 =>
    LE.then rs1 rm1 ev1 t1 fun o M2 v2 H2 t2 r2 rs2 rm2 ev2 e2 => LE.then rs2 rm2 ev2 t2 fun i M3 v3 H3 t3 r3 rs3 rm3 ev3 e3 => by
      split at t3
      · rename_i M4 e4
        exact ⟨o, i, v, M3, M4, Rp.ev e3 _ _ r2, r3, Rp.ev (e2.trans e3) _ _ r1, rm3, e4, fun H' rm' ev' => c.nx en M4 σ H' t3 (rs3.ev ev') rm' (e1.trans (e2.trans (e3.trans ev')))⟩
      · exact t3.elim
end
end
end Z

namespace Z
open PySem PySem.Spec PyProof.Rows L2

section
variable (K : PySem.W.Frag) (M0 : MH) (H0 : Hp)
structure WK (J : It) (items : List D) (M : MH) (H : Hp) : Prop where
  size : items.length ≤ sizeLine
  turn : ∀ M2 H2, Ev M H M2 H2 → RM K M2 H2 → ∀ i d, items[i]? = some d → J.go i H2 ∧ ∀ x H3, J.yld i H2 x H3 → Rp K M2 H3 d x ∧ RM K M2 H3 ∧ Ev M2 H2 M2 H3
  stop : ∀ M2 H2, Ev M H M2 H2 → RM K M2 H2 → J.stop items.length H2
def LI (t : TL3) : TI := fun σ H R => ∃ e M Q3, RS K M H e σ ∧ RM K M H ∧ Ev M0 H0 M H ∧ t e M Q3 ∧ ∀ items M' H' J, Q3 items M' → WK K J items M' H' → RM K M' H' → Ev M H M' H' → R J H'
end
def charsD (x : Str) : List D := x.cps.toList.map fun c => D.str ⟨#[c]⟩
def itemsA (d : D) : Option (List D) := match d with
  | .tp _ ds => some ds
  | .lst ds => some ds
  | .flst ds => some ds
  | .str x => if x.length ≤ sizeLine then some (charsD x) else none
  | _ => none
def iter3 (te : T3) : TL3 := fun e M Q => te e M fun d M1 => match itemsA d with | some ds => Q ds M1 | none => False
def rngD : Int → Nat → List D
  | _, 0 => []
  | lo, n + 1 => .int lo :: rngD (lo + 1) n
theorem rngD_len : ∀ (lo : Int) (n : Nat), (rngD lo n).length = n
  | _, 0 => rfl
  | lo, n + 1 => by show (rngD (lo + 1) n).length + 1 = n + 1; rw [rngD_len]
theorem rngD_get : ∀ (lo : Int) (n i : Nat), i < n → (rngD lo n)[i]? = some (.int (lo + i))
  | _, 0, _, h => by omega
  | lo, n + 1, 0, _ => by simp [rngD]
  | lo, n + 1, i + 1, h => by
    show (rngD (lo + 1) n)[i]? = _
    rw [rngD_get (lo + 1) n i (by omega)]
    congr 2
    omega
def rng1A : TL3 → TL3 := fun ta e M Q => ta e M fun ds M1 => match ds with
  | [.int j] => (-16777216 ≤ j ∧ j ≤ 16777216) ∧ Q (rngD 0 j.toNat) M1
  | _ => False
def rng2A : TL3 → TL3 := fun ta e M Q => ta e M fun ds M1 => match ds with
  | [.int i, .int j] => (-16777216 ≤ i ∧ i ≤ 16777216 ∧ -16777216 ≤ j ∧ j ≤ 16777216 ∧ j - i ≤ 16777216) ∧ Q (rngD i (j - i).toNat) M1
  | _ => False
def enumD : Nat → List D → List D
  | _, [] => []
  | i, d :: r => .tup [.int i, d] :: enumD (i + 1) r
theorem enumD_len : ∀ (i : Nat) (ds : List D), (enumD i ds).length = ds.length
  | _, [] => rfl
  | i, d :: r => by simp [enumD, enumD_len (i + 1) r]
theorem enumD_get : ∀ (i : Nat) (ds : List D) (j : Nat) (z : D), (enumD i ds)[j]? = some z → ∃ d, ds[j]? = some d ∧ z = .tup [.int ((i + j : Nat) : Int), d]
  | i, [], j, z, h => by simp [enumD] at h
  | i, d :: r, 0, z, h => by
    have h : D.tup [.int (i : Nat), d] = z := by simpa [enumD] using h
    exact ⟨d, rfl, by rw [← h]; rfl⟩
  | i, d :: r, j + 1, z, h => by
    obtain ⟨e, h1, h2⟩ := enumD_get (i + 1) r j z (by simpa [enumD] using h)
    refine ⟨e, by simpa using h1, ?_⟩
    rw [h2]
    have : i + 1 + j = i + (j + 1) := by omega
    rw [this]
def enumA : TL3 → TL3 := fun ta e M Q => ta e M fun ds M1 => match ds with
  | [d] => match exL M1 d with
    | some ds => (match d with | .ref _ => False | _ => True) ∧ ds.length ≤ sizeLine ∧ Q (enumD 0 ds) M1
    | none => False
  | _ => False
section
variable {K : PySem.W.Frag} {M0 : MH} {H0 : Hp} {X : Cx} {tg l : Expr} {te : T3} {tl : TL3}
/-- an iterator over a list that is read -/
theorem pie_list {pins : List (Addr × Obj)} {σ : L2.St} {H : Hp} {s : Shared} {R : It → Hp → Prop} {E : Value → Shared → Prop} {a : Addr} {xs : List V} (I : Inv X pins σ H s) (h : SqL X.K H a xs) (q : xs.length ≤ sizeLine → R (Itl X.K a) H) :
    wpAny (model X.prog X.w) X.A (pyIter (.ref a)) (PIE X pins σ tg R) E s := by
  obtain ⟨its, rv, p, hz⟩ := I.list h
  refine wpAny_pyIter_list p.isList ⟨s.heap.objs.size, [s.heap.objs.size], _, _, H, rfl, I.kept (t' := s.toks) fun b o e => Heap.get?_push_of_some _ e, turn_list a _, ⟨_, Heap.get?_push_size _ rfl, rfl, rfl⟩, fun b hb => ?_, q hz⟩
  rw [List.mem_singleton] at hb
  rw [hb]
  exact I.fpOk (Nat.le_refl _) (I.hok.fresh (Nat.le_refl _))
theorem pie_tup {pins : List (Addr × Obj)} {σ : L2.St} {H : Hp} {s : Shared} {R : It → Hp → Prop} {E : Value → Shared → Prop} {a : Addr} {xs : List V} (I : Inv X pins σ H s) (h : SqT X.K H a xs) (q : xs.length ≤ sizeLine → R (Itt X.K a) H) :
    wpAny (model X.prog X.w) X.A (pyIter (.ref a)) (PIE X pins σ tg R) E s := by
  obtain ⟨its, rv, p, hz⟩ := I.tuple h
  refine wpAny_pyIter_tuple (show s.heap.IsTuple a its.toArray from p) ⟨s.heap.objs.size, [s.heap.objs.size], _, _, H, rfl, I.kept (t' := s.toks) fun b o e => Heap.get?_push_of_some _ e, turn_tuple a _, ⟨_, Heap.get?_push_size _ rfl, rfl, rfl⟩, fun b hb => ?_, q hz⟩
  rw [List.mem_singleton] at hb
  rw [hb]
  exact I.fpOk (Nat.le_refl _) (I.hok.fresh (Nat.le_refl _))
theorem pie_str {pins : List (Addr × Obj)} {σ : L2.St} {H : Hp} {s : Shared} {R : It → Hp → Prop} {E : Value → Shared → Prop} {x : Str} {t : Tok} (I : Inv X pins σ H s) (q : R (Its x) H) :
    wpAny (model X.prog X.w) X.A (pyIter (.str x t)) (PIE X pins σ tg R) E s := by
  cases ha : x.cps.all (· < 128)
  · exact wpAny_pyIter_wide ha (pi_one (tk := s.toks) I _ (turn_str _ x t "str_iterator" (.inr rfl)) ⟨_, Heap.get?_push_size _ rfl, rfl, rfl⟩ q)
  · exact wpAny_pyIter_ascii ha (pi_one (tk := s.toks) I _ (turn_str _ x t "str_ascii_iterator" (.inl rfl)) ⟨_, Heap.get?_push_size _ rfl, rfl, rfl⟩ q)
theorem wk_list {a : Addr} {vs : List V} {ds : List D} {M : MH} {H : Hp} (hz : ds.length ≤ sizeLine) (h : ∀ M2 H2, Ev M H M2 H2 → SqL K H2 a vs) (r : RpL K M H ds vs) : WK K (Itl K a) ds M H where
  size := hz
  turn := fun M2 H2 ev rm i d e => by
    obtain ⟨v, g1, g2⟩ := r.get e
    refine ⟨⟨vs, v, h M2 H2 ev, g1⟩, fun x H3 ⟨e1, e2⟩ => ?_⟩
    subst e1
    have := e2 vs (h M2 _ ev)
    rw [g1] at this
    cases this
    exact ⟨Rp.ev ev _ _ g2, rm, Ev.refl _ _⟩
  stop := fun M2 H2 ev rm => ⟨vs, h M2 H2 ev, by rw [r.length]; exact Nat.le_refl _⟩
theorem wk_tup {a : Addr} {vs : List V} {ds : List D} {M : MH} {H : Hp} (hz : ds.length ≤ sizeLine) (h : ∀ M2 H2, Ev M H M2 H2 → SqT K H2 a vs) (r : RpL K M H ds vs) : WK K (Itt K a) ds M H where
  size := hz
  turn := fun M2 H2 ev rm i d e => by
    obtain ⟨v, g1, g2⟩ := r.get e
    refine ⟨⟨vs, v, h M2 H2 ev, g1⟩, fun x H3 ⟨e1, e2⟩ => ?_⟩
    subst e1
    have := e2 vs (h M2 _ ev)
    rw [g1] at this
    cases this
    exact ⟨Rp.ev ev _ _ g2, rm, Ev.refl _ _⟩
  stop := fun M2 H2 ev rm => ⟨vs, h M2 H2 ev, by rw [r.length]; exact Nat.le_refl _⟩
theorem wk_str {x : Str} {M : MH} {H : Hp} (hz : x.length ≤ sizeLine) : WK K (Its x) (charsD x) M H where
  size := by
    unfold charsD
    rw [List.length_map]
    exact hz
  turn := fun M2 H2 ev rm i d e => by
    unfold charsD at e
    rw [List.getElem?_map] at e
    cases q : x.cps.toList[i]? with
    | none => rw [q] at e; cases e
    | some c =>
      rw [q] at e
      have e : D.str ⟨#[c]⟩ = d := by simpa using e
      subst e
      have hc : x.cps[i]? = some c := by simpa using q
      refine ⟨(Array.getElem?_eq_some_iff.mp hc).1, fun y H3 ⟨e1, c', e2, e3⟩ => ?_⟩
      subst e1
      rw [hc] at e2
      cases e2
      exact ⟨e3, rm, Ev.refl _ _⟩
  stop := fun M2 H2 ev rm => by
    show x.cps.size ≤ (charsD x).length
    unfold charsD
    rw [List.length_map]
    exact Nat.le_of_eq (by simp)
theorem wk_rng {lo : Int} {n : Nat} {M : MH} {H : Hp} (hz : n ≤ sizeLine) : WK K (Itr lo n) (rngD lo n) M H where
  size := by rw [rngD_len]; exact hz
  turn := fun M2 H2 ev rm i d e => by
    have hi : i < n := by
      have := (List.getElem?_eq_some_iff.mp e).1
      rw [rngD_len] at this
      exact this
    rw [rngD_get lo n i hi] at e
    cases e
    refine ⟨hi, fun y H3 ⟨e1, e2⟩ => ?_⟩
    subst e1
    exact ⟨e2, rm, Ev.refl _ _⟩
  stop := fun M2 H2 ev rm => by rw [rngD_len]; exact Nat.le_refl n
theorem wk_enum {a : Addr} {vs : List V} {ds : List D} {M : MH} {H : Hp} (hz : ds.length ≤ sizeLine) (h : ∀ M2 H2, Ev M H M2 H2 → SqL K H2 a vs) (r : RpL K M H ds vs) : WK K (Ite K a) (enumD 0 ds) M H where
  size := by rw [enumD_len]; exact hz
  turn := fun M2 H2 ev rm i z e => by
    obtain ⟨d, e1, e2⟩ := enumD_get 0 ds i z e
    obtain ⟨v, g1, g2⟩ := r.get e1
    refine ⟨⟨vs, v, h M2 H2 ev, g1⟩, fun x H3 ⟨T, y, e3, e4, e5, e6⟩ => ?_⟩
    subst e3 e5 e2
    have := e6 vs (h M2 _ ev)
    rw [g1] at this
    cases this
    refine ⟨?_, rm.new e4, Ev.new e4⟩
    have i0 : ((0 + i : Nat) : Int) = (i : Nat) := by omega
    rw [i0]
    exact Rp.tupNew rm e4 ⟨_, _, rfl, rfl, RpL.one (Rp.ev ev _ _ g2)⟩
  stop := fun M2 H2 ev rm => ⟨vs, h M2 H2 ev, by rw [enumD_len, r.length]; exact Nat.le_refl _⟩
theorem z_iter (hK : X.K = K) (hl : PE X l (LE K M0 H0 te)) : PI X tg l (LI K M0 H0 (iter3 te)) := by
  subst hK
  refine ⟨fun pins s σ H R I ⟨en, M, P, rs, rm, ev, t, c⟩ => ?_⟩
  refine thn (hl.run pins s σ H (fun x H1 => ∃ d M1, Rp X.K M1 H1 d x ∧ RM X.K M1 H1 ∧ Ev M H M1 H1 ∧ match itemsA d with | some ds => P ds M1 | none => False) I
    (LE.then rs rm ev t fun d M1 v1 H1 t1 r1 rs1 rm1 ev1 e1 => ⟨d, M1, r1, rm1, e1, t1⟩)) fun u s1 ⟨x, H1, I1, ru, d, M1, rd, rm1, e1, t1⟩ => ?_
  cases d with
  | tp k ds =>
    obtain ⟨a, vs, h1, h2, h3⟩ := rd
    subst h1
    cases ru
    exact pie_tup I1 h2.sq fun hz => c ds M1 H1 _ t1 (wk_tup (by rw [← h3.length]; exact hz) (fun M2 H2 e2 => (h2.ev e2).sq) h3) rm1 e1
  | lst ds =>
    obtain ⟨a, vs, h1, h2, h3, h4⟩ := rd
    subst h1
    cases ru
    exact pie_list I1 (.inl (.inl h3)) fun hz => c ds M1 H1 _ t1 (wk_list (by rw [← h4.length]; exact hz) (fun M2 H2 e2 => .inl (.inl (e2 _ _ h3 h2).1)) h4) rm1 e1
  | flst ds =>
    obtain ⟨a, vs, h1, h2, h3⟩ := rd
    subst h1
    cases ru
    exact pie_list I1 h2.sq fun hz => c ds M1 H1 _ t1 (wk_list (by rw [← h3.length]; exact hz) (fun M2 H2 e2 => (h2.ev e2).sq) h3) rm1 e1
  | str x =>
    obtain ⟨t', rfl⟩ := rp_str rd ▸ ru
    dsimp only [itemsA] at t1
    by_cases hz : x.length ≤ sizeLine
    · rw [if_pos hz] at t1
      exact pie_str I1 (c _ M1 H1 _ t1 (wk_str hz) rm1 e1)
    · rw [if_neg hz] at t1
      exact t1.elim
  | _ => exact t1.elim
theorem z_irng1 {a : Expr} {p pos : Pos} (hg : Gl X "range") (hm : X.mg "range" = none) (ha : PA X [a] (LA K M0 H0 tl)) (hs : starEach [a] X.env = [(false, eval a X.env)]) : PI X tg (.Call (.Name "range" p) [a] [] pos) (LI K M0 H0 (rng1A tl)) :=
  (pi_range1 hg hm ha hs).imp fun σ H R ⟨en, M, P, rs, rm, ev, t, c⟩ => LA.then rs rm ev t fun ds M1 vs H1 t1 r1 rs1 rm1 ev1 e1 => by
    split at t1
    · rename_i j
      obtain ⟨v, w, h1, h2, h3⟩ := r1
      have h3 : w = [] := h3
      subst h3 h1
      obtain ⟨⟨j0, j1⟩, j2⟩ := t1
      exact ⟨j, by rw [rp_int h2], by omega, by omega, c _ M1 H1 _ j2 (wk_rng (by rw [sizeLine_eq]; omega)) rm1 e1⟩
    · exact t1.elim
theorem z_irng2 {a b : Expr} {p pos : Pos} (hg : Gl X "range") (hm : X.mg "range" = none) (ha : PA X [a, b] (LA K M0 H0 tl)) (hs : starEach [a, b] X.env = [(false, eval a X.env), (false, eval b X.env)]) (hs2 : starEach [b] X.env = [(false, eval b X.env)]) :
    PI X tg (.Call (.Name "range" p) [a, b] [] pos) (LI K M0 H0 (rng2A tl)) :=
  (pi_range2 hg hm ha hs hs2).imp fun σ H R ⟨en, M, P, rs, rm, ev, t, c⟩ => LA.then rs rm ev t fun ds M1 vs H1 t1 r1 rs1 rm1 ev1 e1 => by
    split at t1
    · rename_i i j
      obtain ⟨v, w, h1, h2, h3⟩ := r1
      obtain ⟨v', w', g1, g2, g3⟩ := h3
      have g3 : w' = [] := g3
      subst g3 g1 h1
      obtain ⟨⟨j0, j1, j2, j3, j4⟩, t1⟩ := t1
      refine ⟨i, j, by rw [rp_int h2, rp_int g2], ⟨by omega, by omega, by omega, by omega⟩, c _ M1 H1 _ t1 (wk_rng (by rw [sizeLine_eq]; omega)) rm1 e1⟩
    · exact t1.elim
theorem z_ienum {e : Expr} {p pos tpos : Pos} {elts : List Expr} {kk : Nat} (hK : X.K = K) (hg : Gl X "enumerate") (hm : X.mg "enumerate" = none) (ha : PA X [e] (LA K M0 H0 tl)) (hs : starEach [e] X.env = [(false, eval e X.env)]) :
    PI X (.Tuple elts kk tpos) (.Call (.Name "enumerate" p) [e] [] pos) (LI K M0 H0 (enumA tl)) := by
  subst hK
  exact (pi_enum hg hm ha hs).imp fun σ H R ⟨en, M, P, rs, rm, ev, t, c⟩ => LA.then rs rm ev t fun ds M1 vs H1 t1 r1 rs1 rm1 ev1 e1 => by
    split at t1
    · rename_i d
      obtain ⟨v, w, h1, h2, h3⟩ := r1
      have h3 : w = [] := h3
      subst h3 h1
      split at t1
      · rename_i ds e2
        obtain ⟨t2, tz, t1⟩ := t1
        cases d with
        | lst es =>
          have e2 : es = ds := by simpa [exL] using e2
          subst e2
          obtain ⟨a, vs, h1, h2, h3, h4⟩ := h2
          subst h1
          exact ⟨a, vs, rfl, .inl (.inl h3), c _ M1 H1 _ t1 (wk_enum tz (fun M2 H2 e2 => .inl (.inl (e2 _ _ h3 h2).1)) h4) rm1 e1⟩
        | ref a => exact t2.elim
        | _ => simp [exL] at e2
      · exact t1.elim
    · exact t1.elim
/-! ### for -/
/-- the turns of a for, one after another -/
def turns3 (tg : Tg) (body : TS3) (Z : Ends3) : List D → En → MH → Prop
  | [], e, M => Z.nx e M
  | x :: r, e, M => match bindT tg x e with
    | some e1 => body { nx := turns3 tg body Z r, rt := Z.rt, bk := Z.nx, ct := turns3 tg body Z r } e1 M
    | none => False
def for3 (it : TL3) (tg : Tg) (body : TS3) : TS3 := fun D e M => it e M fun items M1 => turns3 tg body D items e M1
theorem z_for {iter : Expr} {tgE : Expr} {bodyE : List Stmt} {it : TL3} {tg : Tg} {body : TS3} {pos : Pos} (hp : PassesOwn (model X.prog X.w) X.A X.env X.xe) (hc : X.calm = true) (hi : PI X tgE iter (LI K M0 H0 it)) (hg : PG X tgE (gOf K tg)) (hb : PSs X bodyE (LS K M0 H0 body))
    (hs : ∀ x, foldedSetIterable iter X.env x = pure x) : PS X (.For tgE iter bodyE [] pos) (LS K M0 H0 (for3 it tg body)) :=
  (ps_for hp hc hi hg hb hs).imp fun D σ H ⟨en, M, D3, rs, rm, ev, t, c⟩ => by
    refine ⟨en, M, _, rs, rm, ev, t, fun items M1 H1 J t1 wk rm1 e1 => ?_⟩
    have rs1 := rs.ev e1
    refine ⟨fun i m σ H => m = items.length - i ∧ i ≤ items.length ∧ ∃ e M', RS K M' H e σ ∧ RM K M' H ∧ Ev M1 H1 M' H ∧ turns3 tg body D3 (items.drop i) e M', ⟨items.length, by simp, Nat.zero_le _, en, M1, rs1, rm1, Ev.refl _ _, by simpa using t1⟩, ?_⟩
    rintro i m σ2 H2 ⟨rfl, hi2, e2, M2, rs2, rm2, ev2, t2⟩
    by_cases hlt : i < items.length
    · have hd : items.drop i = items[i] :: items.drop (i + 1) := List.drop_eq_getElem_cons hlt
      obtain ⟨go, yl⟩ := wk.turn M2 H2 ev2 rm2 i items[i] (List.getElem?_eq_getElem hlt)
      refine .inr ⟨go, fun σ' H' => i + 1 ≤ items.length ∧ ∃ e M', RS K M' H' e σ' ∧ RM K M' H' ∧ Ev M1 H1 M' H' ∧ turns3 tg body D3 (items.drop (i + 1)) e M', fun σ' H' ⟨q1, q2⟩ => ⟨items.length - (i + 1), by omega, rfl, q1, q2⟩, fun x H3 y => ?_⟩
      obtain ⟨rx, rm3, ev3⟩ := yl x H3 y
      rw [hd] at t2
      dsimp only [turns3] at t2
      split at t2
      · rename_i e4 eb
        refine gOf_ok eb rx (rs2.ev ev3) fun vs rs4 => ?_
        refine ⟨e4, M2, _, rs4, rm3, ev.trans (e1.trans (ev2.trans ev3)), t2, ?_, ?_, ?_, ?_⟩
        · exact fun e' M' σ' H' q r m ev4 => ⟨hlt, e', M', r, m, ev2.trans (ev3.trans ev4), q⟩
        · exact c.rt.from (e1.trans (ev2.trans ev3))
        · exact c.nx.from (e1.trans (ev2.trans ev3))
        · exact fun e' M' σ' H' q r m ev4 => ⟨hlt, e', M', r, m, ev2.trans (ev3.trans ev4), q⟩
      · exact t2.elim
    · have e : i = items.length := by omega
      subst e
      refine .inl ⟨wk.stop M2 H2 ev2 rm2, ?_⟩
      rw [List.drop_length] at t2
      exact c.nx e2 M2 σ2 H2 t2 rs2 rm2 (e1.trans ev2)
/-! ### while -/
def whileN (c : TB3) (body : TS3) (D : Ends3) : Nat → En → MH → Prop
  | 0, _, _ => False
  | n + 1, e, M => c e M fun b M1 => match b with
    | true => body { nx := whileN c body D n, rt := D.rt, bk := D.nx, ct := whileN c body D n } e M1
    | false => D.nx e M1
def while3 (c : TB3) (body : TS3) : TS3 := fun D e M => ∃ n, whileN c body D n e M
theorem z_while {test : Expr} {bodyE : List Stmt} {c : TB3} {body : TS3} {pos : Pos} (hp : PassesOwn (model X.prog X.w) X.A X.env X.xe) (hc : PT X test (LT K M0 H0 c)) (hb : PSs X bodyE (LS K M0 H0 body)) : PS X (.While test bodyE [] pos) (LS K M0 H0 (while3 c body)) :=
  (ps_while hp hc hb).imp fun D σ H ⟨en, M, D3, rs, rm, ev, ⟨n, t⟩, cv⟩ => by
    refine ⟨fun m σ2 H2 => ∃ e2 M2, RS K M2 H2 e2 σ2 ∧ RM K M2 H2 ∧ Ev M H M2 H2 ∧ whileN c body D3 m e2 M2, ⟨n, en, M, rs, rm, Ev.refl _ _, t⟩, ?_⟩
    rintro m σ2 H2 ⟨e2, M2, rs2, rm2, ev2, t2⟩
    cases m with
    | zero => exact t2.elim
    | succ m =>
      refine LT.then rs2 rm2 (ev.trans ev2) t2 fun b M3 H3 t3 rs3 rm3 ev3 e3 => ?_
      cases b with
      | true =>
        rw [if_pos rfl]
        refine ⟨fun σ' H' => ∃ e' M', RS K M' H' e' σ' ∧ RM K M' H' ∧ Ev M H M' H' ∧ whileN c body D3 m e' M', fun σ' H' q => ⟨m, Nat.lt_succ_self m, q⟩, ?_⟩
        refine ⟨e2, M3, _, rs3, rm3, ev3, t3, ?_, ?_, ?_, ?_⟩
        · exact fun e' M' σ' H' q r m' ev4 => ⟨e', M', r, m', ev2.trans (e3.trans ev4), q⟩
        · exact cv.rt.from (ev2.trans e3)
        · exact cv.nx.from (ev2.trans e3)
        · exact fun e' M' σ' H' q r m' ev4 => ⟨e', M', r, m', ev2.trans (e3.trans ev4), q⟩
      | false =>
        rw [if_neg Bool.false_ne_true]
        exact cv.nx e2 M3 σ2 H3 t3 rs3 rm3 (ev2.trans e3)
/-! ### [elt for tg in it if tt] -/
def compW (tg : Tg) (tt : TB3) (te : T3) (e : En) (p : Addr) (Q : List D → MH → Prop) : List D → List D → MH → Prop
  | [], acc, M => M p = some (.lst acc) ∧ Q acc M
  | x :: r, acc, M => match bindT tg x e with
    | some e1 => tt e1 M fun b M2 => match b with
      | true => te e1 M2 fun y M3 => M3 p = some (.lst acc) ∧ compW tg tt te e p Q r (acc ++ [y]) (up M3 p (.lst (acc ++ [y])))
      | false => compW tg tt te e p Q r acc M2
    | none => False
def comp3 (m : Bool) (it : TL3) (tg : Tg) (tt : TB3) (te : T3) (own : List Nat) : T3 := fun e M Q => it e M fun items M1 => ∀ p, M1 p = none →
  compW tg tt te (wipeE e own) p (fun acc M2 => match m with | true => Q (.ref p) M2 | false => Q (.lst acc) (er M2 p)) items [] (up M1 p (.lst []))
def yes3 : TB3 := fun _ M Q => Q true M
theorem z_tnil : PTs X [] (LT K M0 H0 yes3) := ⟨fun pins s σ H Q I ⟨en, M, P, rs, rm, ev, t, c⟩ => pts_nil.run pins s σ H Q I (c true M H t rm (Ev.refl _ _))⟩
theorem z_tone {c : Expr} {t : TB3} (h : PT X c (LT K M0 H0 t)) : PTs X [c] (LT K M0 H0 t) := pts_one h
theorem Rp.lstEr {M : MH} {H : Hp} {p : Addr} {vs : List V} {ds : List D} (h : H p = some (.lst vs)) (r : RpL K M H ds vs) : Rp K (er M p) H (.lst ds) (.ref p) :=
  ⟨p, vs, rfl, er_none, h, RpL.ev (Ev.sub Sub.er) _ _ r⟩
theorem lcomp {m : Bool} {it : TL3} {tg : Tg} {tt : TB3} {te : T3} {own : List (Str × Nat)} {σ : L2.St} {H : Hp} {Q : VK} (hsub : ∀ i ∈ tg.slots, i ∈ own.map (·.2)) (h : LE K M0 H0 (comp3 m it tg tt te (own.map (·.2))) σ H Q) :
    tLc (LI K M0 H0 it) (gOf K tg) (LT K M0 H0 tt) (LE K M0 H0 te) (own.map (·.2)) σ H Q := by
  obtain ⟨en, M, P, rs, rm, ev, t, c⟩ := h
  refine ⟨en, M, _, rs, rm, ev, t, fun items M1 H1 J t1 wk rm1 e1 p hp => ?_⟩
  have mp : M1 p = none := rm1.free hp
  have rs1 := (rs.ev e1).wipe (own.map (·.2))
  have t2 := t1 p mp
  refine ⟨fun i n H => n = items.length - i ∧ i ≤ items.length ∧ ∃ M' acc, RM K M' H ∧ Ev M1 H1 M' H ∧ acc.length ≤ i ∧ compW tg tt te (wipeE en (own.map (·.2))) p (fun acc M2 => match m with | true => P (.ref p) M2 | false => P (.lst acc) (er M2 p)) (items.drop i) acc M',
    ⟨items.length, by simp, Nat.zero_le _, up M1 p (.lst []), [], rm1.newM hp ⟨[], upd_same, rfl⟩, Ev.newM hp, Nat.le_refl _, by simpa using t2⟩, ?_⟩
  rintro i n H2 ⟨rfl, hi2, M2, acc, rm2, ev2, hacc, t2⟩
  by_cases hlt : i < items.length
  · have hd : items.drop i = items[i] :: items.drop (i + 1) := List.drop_eq_getElem_cons hlt
    obtain ⟨go, yl⟩ := wk.turn M2 H2 ev2 rm2 i items[i] (List.getElem?_eq_getElem hlt)
    refine .inr ⟨go, fun H' => i + 1 ≤ items.length ∧ ∃ M' acc, RM K M' H' ∧ Ev M1 H1 M' H' ∧ acc.length ≤ i + 1 ∧ compW tg tt te (wipeE en (own.map (·.2))) p (fun acc M2 => match m with | true => P (.ref p) M2 | false => P (.lst acc) (er M2 p)) (items.drop (i + 1)) acc M',
      fun H' ⟨q1, q2⟩ => ⟨items.length - (i + 1), by omega, rfl, q1, q2⟩, fun x H3 y => ?_⟩
    obtain ⟨rx, rm3, ev3⟩ := yl x H3 y
    rw [hd] at t2
    dsimp only [compW] at t2
    split at t2
    · rename_i e4 eb
      refine gOf_ok eb rx ((rs1.ev ev2).ev ev3) fun vs rs4 => ?_
      refine ⟨?_, ?_⟩
      · rw [wipe_setV _ _ _ hsub, wipe_wipe]
      · refine LT.then rs4 rm3 (ev.trans (e1.trans (ev2.trans ev3))) t2 fun b M5 H5 t5 rs5 rm5 ev5 e5 => ?_
        cases b with
        | true =>
          rw [if_pos rfl]
          refine LE.then rs5 rm5 ev5 t5 fun y M6 v6 H6 ⟨q6, t6⟩ r6 rs6 rm6 ev6 e6 => ?_
          obtain ⟨ws, w1, w2⟩ := rm6 p _ q6
          have hl := w2.length
          have sz := wk.size
          refine ⟨ws, w1, by omega, hlt, _, acc ++ [y], rm6.wr (o := .lst (acc ++ [y])) q6 ⟨_, upd_same, RpL.ev (Ev.wr q6) _ _ (w2.append (RpL.one r6))⟩, ev2.trans (ev3.trans (e5.trans (e6.trans (Ev.wr q6)))), by rw [List.length_append]; simp; omega, t6⟩
        | false =>
          rw [if_neg Bool.false_ne_true]
          exact ⟨hlt, M5, acc, rm5, ev2.trans (ev3.trans e5), by omega, t5⟩
    · exact t2.elim
  · have e : i = items.length := by omega
    subst e
    refine .inl ⟨wk.stop M2 H2 ev2 rm2, ?_⟩
    rw [List.drop_length] at t2
    obtain ⟨q2, t2⟩ := t2
    obtain ⟨ws, w1, w2⟩ := rm2 p _ q2
    cases m with
    | true => exact c (.ref p) M2 _ H2 t2 rfl rm2 (e1.trans ev2)
    | false => exact c (.lst acc) _ _ H2 t2 (Rp.lstEr w1 w2) (rm2.sub Sub.er) (e1.trans (ev2.trans (Ev.sub Sub.er)))
end
end Z

namespace Z
open PySem PySem.Spec PyProof.Rows L2

/-! ### methods -/
inductive Mt where
  | append | extend | get | setdefault | index | indexT | join | split | startswith | partition
  deriving DecidableEq
def Mt.name : Mt → String
  | .append => "append" | .extend => "extend" | .get => "get" | .setdefault => "setdefault" | .index => "index" | .indexT => "index" | .join => "join" | .split => "split" | .startswith => "startswith" | .partition => "partition"
def strsOf : List D → Option (List Str)
  | [] => some []
  | .str x :: r => match strsOf r with | some l => some (x :: l) | none => none
  | _ => none
theorem strsOf_eq : ∀ {ds : List D} {ns : List Str}, strsOf ds = some ns → ds = ns.map D.str
  | [], ns, h => by
    have h : [] = ns := by simpa [strsOf] using h
    subst h; rfl
  | d :: ds, ns, h => by
    cases d with
    | str i =>
      dsimp only [strsOf] at h
      split at h
      · rename_i l e
        obtain rfl := Option.some.inj h
        rw [strsOf_eq e]; rfl
      · cases h
    | _ => simp [strsOf] at h
@[simp] theorem strsOf_map (ns : List Str) : strsOf (ns.map D.str) = some ns := by
  induction ns with
  | nil => rfl
  | cons a r ih => simp only [List.map_cons, strsOf, ih]
theorem strs_v {K : PySem.W.Frag} {M : MH} {H : Hp} : ∀ {ns : List Str} {vs : List V}, RpL K M H (ns.map D.str) vs → vs = ns.map V.str
  | [], vs, h => h
  | n :: ns, vs, h => by
    obtain ⟨v, r, h1, h2, h3⟩ := h
    subst h1
    rw [rp_str h2, strs_v h3]; rfl
theorem strs_rp {K : PySem.W.Frag} {M : MH} {H : Hp} : ∀ (ns : List Str), RpL K M H (ns.map D.str) (ns.map V.str)
  | [] => rfl
  | n :: ns => ⟨_, _, rfl, rfl, strs_rp ns⟩
/-- the place of the first text that is this one -/
def findS (x : Str) : List Str → Nat → Option Nat
  | [], _ => none
  | y :: r, n => if y = x then some n else findS x r (n + 1)
theorem findS_ok {x : Str} : ∀ {ys : List Str} {n j : Nat}, findS x ys n = some j → n ≤ j ∧ ys[j - n]? = some x ∧ ∀ m, m < j - n → ys[m]? ≠ some x
  | [], _, _, h => by simp [findS] at h
  | y :: r, n, j, h => by
    unfold findS at h
    by_cases e : y = x
    · rw [if_pos e] at h
      obtain rfl := Option.some.inj h
      exact ⟨Nat.le_refl _, by simp [e], fun m hm => by omega⟩
    · rw [if_neg e] at h
      obtain ⟨h1, h2, h3⟩ := findS_ok h
      obtain ⟨k, rfl⟩ : ∃ k, j = n + 1 + k := ⟨j - (n + 1), by omega⟩
      have e1 : n + 1 + k - n = k + 1 := by omega
      have e2 : n + 1 + k - (n + 1) = k := by omega
      rw [e2] at h2 h3
      rw [e1]
      refine ⟨by omega, by simpa using h2, fun m hm => ?_⟩
      cases m with
      | zero => simpa using e
      | succ m => simpa using h3 m (by omega)
/-- the place of the first item that is == -/
def findD (x : D) : List D → Nat → Option Nat
  | [], _ => none
  | y :: r, n => if eqv y x = true then some n else findD x r (n + 1)
theorem findD_ok {x : D} : ∀ {ys : List D} {n j : Nat}, findD x ys n = some j → n ≤ j ∧ (∃ y, ys[j - n]? = some y ∧ eqv y x = true) ∧ ∀ m y, m < j - n → ys[m]? = some y → eqv y x = false
  | [], _, _, h => by simp [findD] at h
  | y :: r, n, j, h => by
    unfold findD at h
    by_cases e : eqv y x = true
    · rw [if_pos e] at h
      obtain rfl := Option.some.inj h
      exact ⟨Nat.le_refl _, ⟨y, by simp, e⟩, fun m y hm => by omega⟩
    · rw [if_neg e] at h
      obtain ⟨h1, ⟨z, h2, h2'⟩, h3⟩ := findD_ok h
      obtain ⟨k, rfl⟩ : ∃ k, j = n + 1 + k := ⟨j - (n + 1), by omega⟩
      have e1 : n + 1 + k - n = k + 1 := by omega
      have e2 : n + 1 + k - (n + 1) = k := by omega
      rw [e2] at h2 h3
      rw [e1]
      refine ⟨by omega, ⟨z, by simpa using h2, h2'⟩, fun m y' hm hy => ?_⟩
      cases m with
      | zero =>
        have : y = y' := by simpa using hy
        subst this
        simpa using e
      | succ m => exact h3 m y' (by omega) (by simpa using hy)
/-- what a method gives, and the heap behind it -/
def mthA (m : Mt) (M : MH) (o : D) (as : List D) : Option (D × MH) := match m with
  | .append => match o, as with
    | .ref a, [x] => match M a with
      | some (.lst ds) => if ds.length < sizeLine then some (.non, up M a (.lst (ds ++ [x]))) else none
      | _ => none
    | _, _ => none
  | .extend => match o, as with
    | .ref a, [x] => match M a with
      | some (.lst ds) => match exL M x with
        | some es => if ds.length + es.length ≤ sizeLine then some (.non, up M a (.lst (ds ++ es))) else none
        | none => none
      | _ => none
    | _, _ => none
  | .get => match as with
    | [k, z] => match dfind M o k with
      | some r => some (r.getD z, M)
      | none => none
    | _ => none
  | .setdefault => match o, as with
    | .ref a, [k, z] => match M a, keyK k with
      | some (.dK kvs), some k => if kvs.length < sizeLine then (match valD kvs k with
        | some v => some (v, M)
        | none => some (z, up M a (.dK (putD kvs k z)))) else none
      | _, _ => none
    | _, _ => none
  | .index => match as with
    | [x] => match exL M o with
      | some ds => if lay 59 x && layL 59 ds then (match findD x ds 0 with | some j => some (.int j, M) | none => none) else none
      | none => none
    | _ => none
  | .indexT => match o, as with
    | .tp .k ds, [.str x] => match strsOf ds with
      | some ys => match findS x ys 0 with | some j => some (.int j, M) | none => none
      | none => none
    | _, _ => none
  | .join => match o, as with
    | .str z, [x] => match seqM M x with
      | some ds => match strsOf ds with
        | some ys => if (ys.map (·.length)).sum + ys.length * z.length ≤ 16777216 then some (.str (Txt.join z ys), M) else none
        | none => none
      | none => none
    | _, _ => none
  | .split => match o, as with
    | .str a, [.str b] => if (b.length == 0) = false ∧ a.length + 2 ≤ sizeLine then some (.lst ((Txt.split a b).map D.str), M) else none
    | _, _ => none
  | .startswith => match o, as with
    | .str a, [.str b] => some (.bl (Txt.startswith a b), M)
    | _, _ => none
  | .partition => match o, as with
    | .str a, [.str b] => if (b.length == 0) = false ∧ a.length ≤ sizeLine then some (.tup [.str (Txt.partition a b).1, .str (Txt.partition a b).2.1, .str (Txt.partition a b).2.2], M) else none
    | _, _ => none
def isStrD : D → Bool
  | .str _ => true
  | _ => false
def isTk : D → Bool
  | .tp .k _ => true
  | _ => false
/-- the receiver is of the method's type -/
def tyOk (m : Mt) (M : MH) (o : D) : Bool := match m with
  | .append | .extend | .index => (exL M o).isSome
  | .get | .setdefault => (asK M o).isSome || (asD M o).isSome
  | .indexT => isTk o
  | .join | .split | .startswith | .partition => isStrD o
def Mt.ty : Mt → String
  | .append | .extend | .index => "list"
  | .get | .setdefault => "dict"
  | .indexT => "tuple"
  | .join | .split | .startswith | .partition => "str"
def Mt.id : Mt → String
  | .append => "list.append" | .extend => "list.extend" | .index => "list.index" | .get => "dict.get" | .setdefault => "dict.setdefault" | .indexT => "tuple.index" | .join => "str.join" | .split => "str.split" | .startswith => "str.startswith" | .partition => "str.partition"
def LMt (K : PySem.W.Frag) (m : Mt) : V → List V → Hp → VK → Prop := fun x xs H Q => ∃ o as M r M', Rp K M H o x ∧ RpL K M H as xs ∧ RM K M H ∧ mthA m M o as = some (r, M') ∧ ∀ v H', Rp K M' H' r v → RM K M' H' → Ev M H M' H' → Q v H'
section
variable {X : Cx}
theorem rpl1 {K : PySem.W.Frag} {M : MH} {H : Hp} {d : D} {xs : List V} (h : RpL K M H [d] xs) : ∃ x, xs = [x] ∧ Rp K M H d x := by
  obtain ⟨v, w, h1, h2, h3⟩ := h
  have h3 : w = [] := h3
  subst h3
  exact ⟨v, h1, h2⟩
theorem rpl2 {K : PySem.W.Frag} {M : MH} {H : Hp} {d e : D} {xs : List V} (h : RpL K M H [d, e] xs) : ∃ x y, xs = [x, y] ∧ Rp K M H d x ∧ Rp K M H e y := by
  obtain ⟨v, w, h1, h2, h3⟩ := h
  obtain ⟨y, hy, h4⟩ := rpl1 h3
  subst hy
  exact ⟨v, y, h1, h2, h4⟩
theorem zm_append : MtR X "list.append" (LMt X.K .append) := by
  intro pins s σ H x xs v us Q I rx rs ⟨o, as, M, r, M', r1, r2, rm, e, q⟩
  dsimp only [mthA] at e
  split at e
  · rename_i a y
    split at e
    · rename_i ds em
      split at e
      · rename_i hz
        obtain ⟨rfl, rfl⟩ := Prod.mk.inj (Option.some.inj e)
        obtain ⟨vs, g1, g2⟩ := rm a _ em
        obtain ⟨w, rfl, rw'⟩ := rpl1 r2
        exact mt_append pins s σ H x [w] v us Q I rx rs ⟨a, vs, w, r1, rfl, g1, by rw [g2.length]; exact hz,
          q _ _ rfl (rm.wr (o := .lst (ds ++ [y])) em ⟨_, upd_same, RpL.ev (Ev.wr em) _ _ (g2.append (RpL.one rw'))⟩) (Ev.wr em)⟩
      · cases e
    · cases e
  · cases e
theorem zm_extend : MtR X "list.extend" (LMt X.K .extend) := by
  intro pins s σ H x xs v us Q I rx rs ⟨o, as, M, r, M', r1, r2, rm, e, q⟩
  dsimp only [mthA] at e
  split at e
  · rename_i a y
    split at e
    · rename_i ds em
      split at e
      · rename_i es ee
        split at e
        · rename_i hz
          obtain ⟨rfl, rfl⟩ := Prod.mk.inj (Option.some.inj e)
          obtain ⟨vs, g1, g2⟩ := rm a _ em
          obtain ⟨w, rfl, rw'⟩ := rpl1 r2
          obtain ⟨b, ws, k1, k2, k3⟩ := exL_sq rm ee rw'
          exact mt_extend pins s σ H x [w] v us Q I rx rs ⟨a, b, vs, ws, r1, by rw [k1], g1, k2, by rw [g2.length, k3.length]; exact hz,
            q _ _ rfl (rm.wr (o := .lst (ds ++ es)) em ⟨_, upd_same, RpL.ev (Ev.wr em) _ _ (g2.append k3)⟩) (Ev.wr em)⟩
        · cases e
      · cases e
    · cases e
  · cases e
theorem zm_get (hu : X.A.units + 1 < cLine) : MtR X "dict.get" (LMt X.K .get) := by
  intro pins s σ H x xs v us Q I rx rs ⟨o, as, M, r, M', r1, r2, rm, e, q⟩
  dsimp only [mthA] at e
  split at e
  · rename_i k z
    split at e
    · rename_i ov ed
      obtain ⟨rfl, rfl⟩ := Prod.mk.inj (Option.some.inj e)
      obtain ⟨kv, zv, rfl, rk, rz⟩ := rpl2 r2
      obtain ⟨u1, u2, rfl, s1, s2⟩ := rs.two
      obtain ⟨a, rr, h1, h2, h3⟩ := dfind_h rm ed r1 rk
      subst h1
      cases rx
      refine d_get2 hu I h2 s1 s2 fun w' s' I' rw' => ⟨_, H, I', rw', q _ _ ?_ rm (Ev.refl _ _)⟩
      rcases h3 with ⟨g1, g2⟩ | ⟨d', v', g1, g2, g3⟩
      · rw [g1, g2]; exact rz
      · rw [g1, g2]; exact g3
    · cases e
  · cases e
theorem zm_setdefault : MtR X "dict.setdefault" (LMt X.K .setdefault) := by
  intro pins s σ H x xs v us Q I rx rs ⟨o, as, M, r, M', r1, r2, rm, e, q⟩
  dsimp only [mthA] at e
  split at e
  · rename_i a k z
    have r1 : x = .ref a := r1
    subst r1
    cases rx
    split at e
    · rename_i kvs k' em ek
      obtain ⟨kv, zv, rfl, rk, rz⟩ := rpl2 r2
      obtain ⟨u1, u2, rfl, s1, s2⟩ := rs.two
      have hk := keyK_v ek rk
      subst hk
      obtain ⟨vs, g1, g2⟩ := rm a _ em
      split at e
      · rename_i hz
        refine d_setd I g1 s1 s2 (by rw [List.length_zip, List.length_map]; omega) (fun v' hv w' s' I' rw' => ⟨_, H, I', rw', ?_⟩) (fun hn w' s' I' rw' => ⟨_, _, I', rw', ?_⟩)
        · rcases val_rp (k := k') g2 with ⟨n1, n2⟩ | ⟨d', v2, n1, n2, n3⟩
          · rw [n2] at hv; cases hv
          · rw [n2] at hv
            cases hv
            rw [n1] at e
            obtain ⟨rfl, rfl⟩ := Prod.mk.inj (Option.some.inj e)
            exact q _ _ n3 rm (Ev.refl _ _)
        · rcases val_rp (k := k') g2 with ⟨n1, n2⟩ | ⟨d', v2, n1, n2, n3⟩
          · rw [n1] at e
            obtain ⟨rfl, rfl⟩ := Prod.mk.inj (Option.some.inj e)
            obtain ⟨ws, w1, w2⟩ := put_rp (k := k') rz g2
            refine q _ _ (Rp.ev (Ev.wr em) _ _ rz) (rm.wr em ⟨ws, ?_, RpL.ev (Ev.wr em) _ _ w2⟩) (Ev.wr em)
            rw [upd_same, w1]
          · rw [n2] at hn; cases hn
      · cases e
    · cases e
  · cases e
theorem zm_join : MtR X "str.join" (LMt X.K .join) := by
  intro pins s σ H x xs v us Q I rx rs ⟨o, as, M, r, M', r1, r2, rm, e, q⟩
  dsimp only [mthA] at e
  split at e
  · rename_i z y
    split at e
    · rename_i ds e1
      split at e
      · rename_i ys e2
        split at e
        · rename_i hz
          obtain ⟨rfl, rfl⟩ := Prod.mk.inj (Option.some.inj e)
          obtain ⟨w, rfl, rw'⟩ := rpl1 r2
          obtain ⟨a, vs, h1, h2, h3⟩ := seqM_sq rm e1 rw'
          rw [strsOf_eq e2] at h3
          rw [strs_v h3] at h2
          exact mt_join pins s σ H x [w] v us Q I rx rs ⟨z, a, ys, r1, by rw [h1], h2, hz, q _ _ rfl rm (Ev.refl _ _)⟩
        · cases e
      · cases e
    · cases e
  · cases e
theorem zm_split : MtR X "str.split" (LMt X.K .split) := by
  intro pins s σ H x xs v us Q I rx rs ⟨o, as, M, r, M', r1, r2, rm, e, q⟩
  dsimp only [mthA] at e
  split at e
  · rename_i a b
    split at e
    · rename_i hz
      obtain ⟨rfl, rfl⟩ := Prod.mk.inj (Option.some.inj e)
      obtain ⟨w, rfl, rw'⟩ := rpl1 r2
      exact mt_split pins s σ H x [w] v us Q I rx rs ⟨a, b, r1, by rw [rp_str rw'], hz.1, hz.2, fun p hp => q _ _ (Rp.lstNew rm hp (strs_rp _)) (rm.new hp) (Ev.new hp)⟩
    · cases e
  · cases e
theorem zm_startswith : MtR X "str.startswith" (LMt X.K .startswith) := by
  intro pins s σ H x xs v us Q I rx rs ⟨o, as, M, r, M', r1, r2, rm, e, q⟩
  dsimp only [mthA] at e
  split at e
  · rename_i a b
    obtain ⟨rfl, rfl⟩ := Prod.mk.inj (Option.some.inj e)
    obtain ⟨w, rfl, rw'⟩ := rpl1 r2
    exact mt_startswith pins s σ H x [w] v us Q I rx rs ⟨a, b, r1, by rw [rp_str rw'], q _ _ rfl rm (Ev.refl _ _)⟩
  · cases e
theorem zm_partition : MtR X "str.partition" (LMt X.K .partition) := by
  intro pins s σ H x xs v us Q I rx rs ⟨o, as, M, r, M', r1, r2, rm, e, q⟩
  dsimp only [mthA] at e
  split at e
  · rename_i a b
    split at e
    · rename_i hz
      obtain ⟨rfl, rfl⟩ := Prod.mk.inj (Option.some.inj e)
      obtain ⟨w, rfl, rw'⟩ := rpl1 r2
      exact mt_partition pins s σ H x [w] v us Q I rx rs ⟨a, b, r1, by rw [rp_str rw'], hz.1, hz.2, fun p hp => q _ _ (Rp.tupNew rm hp ⟨_, _, rfl, rfl, _, _, rfl, rfl, _, _, rfl, rfl, rfl⟩) (rm.new hp) (Ev.new hp)⟩
    · cases e
  · cases e
theorem zm_indexT : MtR X "tuple.index" (LMt X.K .indexT) := by
  intro pins s σ H x xs v us Q I rx rs ⟨o, as, M, r, M', r1, r2, rm, e, q⟩
  dsimp only [mthA] at e
  split at e
  · rename_i ds z
    split at e
    · rename_i ys e1
      split at e
      · rename_i j e2
        obtain ⟨rfl, rfl⟩ := Prod.mk.inj (Option.some.inj e)
        obtain ⟨w, rfl, rw'⟩ := rpl1 r2
        obtain ⟨a, vs, h1, h2, h3⟩ := r1
        rw [strsOf_eq e1] at h3
        rw [strs_v h3] at h2
        obtain ⟨f1, f2, f3⟩ := findS_ok e2
        exact mt_tup_index pins s σ H x [w] v us Q I rx rs ⟨a, ys, z, j, h1, by rw [rp_str rw'], h2.sq, f2, f3, q _ _ rfl rm (Ev.refl _ _)⟩
      · cases e
    · cases e
  · cases e
theorem toPyL_at : ∀ {ds : List D} {j : Nat} {d : D}, ds[j]? = some d → (toPyL ds)[j]? = some (toPy d)
  | [], _, _, h => by simp at h
  | _ :: _, 0, _, h => by
    have h := Option.some.inj h
    subst h
    rfl
  | _ :: ds, j + 1, d, h => toPyL_at (ds := ds) (j := j) (by simpa using h)
theorem zm_index (hu : X.A.units + 65 < cLine) : MtR X "list.index" (LMt X.K .index) := by
  intro pins s σ H x xs v us Q I rx rs ⟨o, as, M, r, M', r1, r2, rm, e, q⟩
  dsimp only [mthA] at e
  split at e
  · rename_i z
    split at e
    · rename_i ds e1
      split at e
      · rename_i hl
        split at e
        · rename_i j e2
          obtain ⟨rfl, rfl⟩ := Prod.mk.inj (Option.some.inj e)
          rw [Bool.and_eq_true] at hl
          obtain ⟨w, rfl, rw'⟩ := rpl1 r2
          obtain ⟨a, vs, h1, h2, h3⟩ := exL_sq rm e1 r1
          obtain ⟨f1, ⟨y, f2, f2'⟩, f3⟩ := findD_ok e2
          have s1 : SeqAt.shaped (.list (toPyL ds)) = true := shaped_of_lay (d := .lst ds) (by simpa [lay] using hl.2)
          have s2 : SeqAt.shaped (toPy z) = true := by
            obtain ⟨p1, p2⟩ := lay_py 59 z hl.1
            unfold SeqAt.shaped
            rw [p1, decide_eq_true (by omega)]; rfl
          refine mt_indexD hu pins s σ H x [w] v us Q I rx rs ⟨a, w, toPy z, toPyL ds, j, toPy y, h1, rfl, .lst (.inl (.inl h2)) (RpL.dp 59 ds vs h3 (pdL_lay _ _ hl.2)), Rp.dp 59 z w rw' (pd_lay _ _ hl.1), s1, s2, toPyL_at f2, by rw [← eqv_py]; exact f2', fun m z' hm hz' => ?_, q _ _ rfl rm (Ev.refl _ _)⟩
          obtain ⟨d', k1, k2⟩ := toPyL_get hz'
          rw [← k2, ← eqv_py]
          exact f3 m d' hm k1
        · cases e
      · cases e
    · cases e
  · cases e
theorem zm_all (hu : X.A.units + 100 < cLine) (m : Mt) : MtR X m.id (LMt X.K m) := by
  cases m with
  | append => exact zm_append
  | extend => exact zm_extend
  | get => exact zm_get (by omega)
  | setdefault => exact zm_setdefault
  | index => exact zm_index (by omega)
  | indexT => exact zm_indexT
  | join => exact zm_join
  | split => exact zm_split
  | startswith => exact zm_startswith
  | partition => exact zm_partition
/-- the receiver's type, as the call of a method asks for it -/
theorem tyOk_is {pins : List (Addr × Obj)} {σ : L2.St} {H : Hp} {s : Shared} {M : MH} {m : Mt} {o : D} {x : V} {v : Value} (I : Inv X pins σ H s) (rx : RelV x v) (rm : RM X.K M H) (r : Rp X.K M H o x) (h : tyOk m M o = true) :
    s.TypeIs v m.ty ∧ ∀ a, v = .ref a → ∃ ob, s.heap.get? a = some ob ∧ ob.dict = none := by
  have lst : (exL M o).isSome = true → s.TypeIs v "list" ∧ ∀ a, v = .ref a → ∃ ob, s.heap.get? a = some ob ∧ ob.dict = none := fun h => by
    cases e : exL M o with
    | none => rw [e] at h; cases h
    | some ds =>
      obtain ⟨a, vs, h1, h2, h3⟩ := exL_sq rm e r
      subst h1
      exact tyV_is I rx (T := "list") (.inl ⟨rfl, vs, .inl (.inl h2)⟩)
  have dct : ((asK M o).isSome || (asD M o).isSome) = true → s.TypeIs v "dict" ∧ ∀ a, v = .ref a → ∃ ob, s.heap.get? a = some ob ∧ ob.dict = none := fun h => by
    rw [Bool.or_eq_true] at h
    rcases h with h | h
    · cases e : asK M o with
      | none => rw [e] at h; cases h
      | some ds =>
        obtain ⟨a, vs, h1, h2, h3⟩ := asK_h rm e r
        subst h1
        cases rx
        exact let z := isD_at I (.inl ⟨_, h2⟩); ⟨z.1, z.2.1⟩
    · cases e : asD M o with
      | none => rw [e] at h; cases h
      | some ds =>
        obtain ⟨a, vs, h1, h2, h3⟩ := asD_h rm e r
        subst h1
        cases rx
        exact let z := isD_at I (.inr ⟨_, h2⟩); ⟨z.1, z.2.1⟩
  have str : isStrD o = true → s.TypeIs v "str" ∧ ∀ a, v = .ref a → ∃ ob, s.heap.get? a = some ob ∧ ob.dict = none := fun h => by
    cases o with
    | str z =>
      have r := rp_str r
      subst r
      exact tyV_is I rx (T := "str") rfl
    | _ => cases h
  cases m with
  | append => exact lst h
  | extend => exact lst h
  | index => exact lst h
  | get => exact dct h
  | setdefault => exact dct h
  | join => exact str h
  | split => exact str h
  | startswith => exact str h
  | partition => exact str h
  | indexT =>
    cases o with
    | tp k ds =>
      cases k with
      | k =>
        obtain ⟨a, vs, h1, ⟨ob, h2, h3, h4⟩, h5⟩ := r
        subst h1
        cases rx
        obtain ⟨e1, _, its, rv, ob', e2, e3, _⟩ := I.hok a _ h3
        rw [e1] at e2
        cases e2
        refine ⟨⟨ob, e1, e3⟩, fun b e => ?_⟩
        cases e
        exact ⟨ob, e1, h4⟩
      | _ => cases h
    | _ => cases h
def mth3 (m : Mt) (to : T3) (t : TL3) : T3 := fun e M Q => to e M fun o M1 => tyOk m M1 o = true ∧ t e M1 fun as M2 => match mthA m M2 o as with | some (r, M3) => Q r M3 | none => False
theorem z_mth {K : PySem.W.Frag} {M0 : MH} {H0 : Hp} {m : Mt} {o e : Expr} {es : List Expr} {to : T3} {t : TL3} {apos cpos : Pos} (hK : X.K = K) (pa : PlainAttrs m.ty) (slot : Slot m.ty (Str.ofString m.name) m.id) (hty : typeOf (.builtin m.id) = pure (.type "method_descriptor")) (hm : MtR X m.id (LMt X.K m))
    (ho : PE X o (LE K M0 H0 to)) (ha : PA X (e :: es) (LA K M0 H0 t))
    (hbase : attributeBase o (Str.ofString m.name) X.env (eval o X.env) = eval o X.env)
    (hfew : ((backTo cpos (starEach (e :: es) X.env)).all (fun x => !x.1) && (backToKw cpos (keywordEach [] X.env)).all (fun x => x.1.isSome)
      && decide ((e :: es).length + ([] : List Keyword).length + (if ([] : List Keyword).isEmpty then 0 else 1) < 30)) = true)
    (hline : (apos.endLine == cpos.line) = true) (hs : starEach (e :: es) X.env = (false, eval e X.env) :: starEach es X.env) (hplain : (backTo cpos (starEach es X.env)).any (·.1) = false) :
    PE X (.Call (.Attribute o (Str.ofString m.name) apos) (e :: es) [] cpos) (LE K M0 H0 (mth3 m to t)) := by
  subst hK
  refine ⟨fun pins s σ H Q I ⟨en, M, P, rs, rm, ev, tt, c⟩ => ?_⟩
  refine wpAny_Call_method_late hbase hfew hline rfl (thn (ho.run pins s σ H (fun x H1 => ∃ d M1, Rp X.K M1 H1 d x ∧ RS X.K M1 H1 en σ ∧ RM X.K M1 H1 ∧ Ev M0 H0 M1 H1 ∧ Ev M H M1 H1 ∧ tyOk m M1 d = true ∧ t en M1 fun as M2 => match mthA m M2 d as with | some (r, M3) => P r M3 | none => False) I
    (LE.then rs rm ev tt fun d M1 v1 H1 t1 r1 rs1 rm1 ev1 e1 => ⟨d, M1, r1, rs1, rm1, ev1, e1, t1.1, t1.2⟩)) fun v s1 ⟨x, H1, I1, rx, d, M1, rd, rs1, rm1, ev1, e1, ty, t1⟩ => ?_)
  obtain ⟨h1, h2⟩ := tyOk_is I1 rx rm1 rd ty
  refine ⟨m.ty, m.id, pa, slot, hty, h1, h2, ?_⟩
  have hA := ha.run cpos pins s1 σ H1 (fun vs H2 => ∃ as M2, RpL X.K M2 H2 as vs ∧ RM X.K M2 H2 ∧ Ev M1 H1 M2 H2 ∧ match mthA m M2 d as with | some (r, M3) => P r M3 | none => False) I1
    (LA.then rs1 rm1 ev1 t1 fun as M2 vs H2 t2 r2 rs2 rm2 ev2 e2 => ⟨as, M2, r2, rm2, e2, t2⟩)
  rw [hs] at hA ⊢
  refine Calls.callWith_builtin (by show (false || (backTo cpos (starEach es X.env)).any (·.1)) = false; rw [hplain]; rfl) (Calls.evalArgs_plain ?_)
  refine thn hA fun us s2 ⟨vs, H2, I2, rv, as, M2, r2, rm2, e2, t2⟩ => ?_
  split at t2
  · rename_i r M3 em
    exact hm pins s2 σ H2 x vs v us Q I2 rx rv ⟨d, as, M2, r, M3, Rp.ev e2 _ _ rd, r2, rm2, em, fun w H' rw' rm' ev' => c r M3 w H' t2 rw' rm' (e1.trans (e2.trans ev'))⟩
  · exact t2.elim
end
end Z

namespace Z
open PySem PySem.Spec PyProof.Rows L2

/-! ### slices -/
abbrev TO3 := En → MH → (Option Int → MH → Prop) → Prop
def noP3 : TO3 := fun _ M Q => Q none M
def part3 (t : T3) : TO3 := fun e M Q => t e M fun d M1 => match d with | .int i => Q (some i) M1 | _ => False
def cutD {α : Type} (xs : List α) (lo hi : Option Int) : List α := (xs.drop (HT.sIx xs.length 0 lo)).take (HT.sIx xs.length xs.length hi - HT.sIx xs.length 0 lo)
def slA (M : MH) (x : D) (lo hi : Option Int) : Option D := match x with
  | .str z => if z.length ≤ sizeLine then some (.str (cutS z lo hi)) else none
  | .tp .t ds => some (.tup (cutD ds lo hi))
  | x => match asL M x with
    | some ds => some (.lst (cutD ds lo hi))
    | none => none
def sl3 (te : T3) (tl th : TO3) : T3 := fun e M Q => te e M fun x M1 => tl e M1 fun lo M2 => th e M2 fun hi M3 => match slA M3 x lo hi with | some d => Q d M3 | none => False
section
variable {K : PySem.W.Frag} {M0 : MH} {H0 : Hp} {X : Cx}
def LO (K : PySem.W.Frag) (M0 : MH) (H0 : Hp) (t : TO3) : TO := fun σ H Q => ∃ e M Q3, RS K M H e σ ∧ RM K M H ∧ Ev M0 H0 M H ∧ t e M Q3 ∧ ∀ o M' H', Q3 o M' → RM K M' H' → Ev M H M' H' → Q o H'
theorem LO.then {t : TO3} {σ : L2.St} {e : En} {M : MH} {H : Hp} {P : Option Int → MH → Prop} {Q : Option Int → Hp → Prop} (rs : RS K M H e σ) (rm : RM K M H) (ev : Ev M0 H0 M H) (h : t e M P)
    (f : ∀ d M1 H1, P d M1 → RS K M1 H1 e σ → RM K M1 H1 → Ev M0 H0 M1 H1 → Ev M H M1 H1 → Q d H1) : LO K M0 H0 t σ H Q :=
  ⟨e, M, P, rs, rm, ev, h, fun d M1 H1 q m e1 => f d M1 H1 q (rs.ev e1) m (ev.trans e1) e1⟩
theorem _root_.L2.PO.imp {e : Option Expr} {t t' : TO} (h : PO X e t) (f : ∀ σ H Q, t' σ H Q → t σ H Q) : PO X e t' := ⟨fun pins s σ H Q I q => h.run pins s σ H Q I (f _ _ _ q)⟩
theorem z_pnone : PO X none (LO K M0 H0 noP3) := po_none.imp fun σ H Q ⟨en, M, P, rs, rm, ev, t, c⟩ => c none M H t rm (Ev.refl _ _)
theorem z_psome {e : Expr} {te : T3} (h : PE X e (LE K M0 H0 te)) : PO X (some e) (LO K M0 H0 (part3 te)) := (po_some h).imp fun σ H Q ⟨en, M, P, rs, rm, ev, t, c⟩ =>
  LE.then rs rm ev t fun d M1 v1 H1 t1 r1 rs1 rm1 ev1 e1 => by
    cases d with
    | int i => exact ⟨i, r1, c (some i) M1 H1 t1 rm1 e1⟩
    | _ => exact t1.elim
theorem RpL.cut {M : MH} {H : Hp} {ds : List D} {vs : List V} (h : RpL K M H ds vs) (lo hi : Option Int) : RpL K M H (cutD ds lo hi) (cutV vs lo hi) := by
  unfold cutD cutV
  rw [h.length]
  exact (h.drop _).take _
theorem sl_all : SlR X (fun x lo hi H Q => rSlS x lo hi H Q ∨ rSlA X.K x lo hi H Q ∨ rSlL X.K x lo hi H Q) := SlR.or sl_str (SlR.or sl_tupA sl_list)
theorem z_sl {e : Expr} {lo hi : Option Expr} {te : T3} {tl th : TO3} {p2 pos : Pos} (hK : X.K = K) (he : PE X e (LE K M0 H0 te)) (hl : PO X lo (LO K M0 H0 tl)) (hh : PO X hi (LO K M0 H0 th)) : PE X (.Subscript e (.Slice lo hi none p2) pos) (LE K M0 H0 (sl3 te tl th)) := by
  subst hK
  exact (pe_slice sl_all he hl hh).imp fun σ H Q ⟨en, M, P, rs, rm, ev, t, c⟩ => LE.then rs rm ev t fun x M1 v1 H1 t1 r1 rs1 rm1 ev1 e1 =>
    LO.then rs1 rm1 ev1 t1 fun l M2 H2 t2 rs2 rm2 ev2 e2 => LO.then rs2 rm2 ev2 t2 fun u M3 H3 t3 rs3 rm3 ev3 e3 => by
      have r3 := Rp.ev (e2.trans e3) _ _ r1
      have ce := c.from (e1.trans (e2.trans e3))
      split at t3
      · rename_i d ed
        unfold slA at ed
        split at ed
        · split at ed
          · rename_i z hz
            obtain rfl := Option.some.inj ed
            exact .inl ⟨z, r3, hz, ce.now rm3 t3 rfl⟩
          · cases ed
        · rename_i ds
          obtain rfl := Option.some.inj ed
          obtain ⟨a, vs, h1, ⟨h2, h3⟩, h4⟩ := r3
          refine .inr (.inl ⟨a, vs, h1, .inl (.inl h3), fun hw => ?_, fun _ p hp => ce _ M3 _ _ t3 (Rp.tupNew rm3 hp (h4.cut l u)) (rm3.new hp) (Ev.new hp)⟩)
          refine ce.now rm3 t3 ⟨a, vs, rfl, ⟨h2, h3⟩, ?_⟩
          have : cutV vs l u = vs := by
            unfold cutV
            rw [hw.1, hw.2, List.drop_zero, Nat.sub_zero, List.take_length]
          rw [← this]
          exact h4.cut l u
        · split at ed
          · rename_i ds e1
            obtain rfl := Option.some.inj ed
            obtain ⟨a, vs, h1, h2, h3⟩ := asL_sq rm3 e1 r3
            exact .inr (.inr ⟨a, vs, h1, h2, fun p hp => ce _ M3 _ _ t3 (Rp.lstNew rm3 hp (h3.cut l u)) (rm3.new hp) (Ev.new hp)⟩)
          · cases ed
      · exact t3.elim
/-- xs[::-1] -/
def rev3 : O1 := fun x M Q => match asL M x with | some ds => Q (.lst ds.reverse) M | none => False
theorem z_rev {e : Expr} {te : T3} {k : Nat} {p1 p2 p3 pos : Pos} (hK : X.K = K) (he : PE X e (LE K M0 H0 te)) : PE X (.Subscript e (.Slice none none (some (.UnaryOp .USub (.Constant (.int 1) k p1) p2)) p3) pos) (LE K M0 H0 (op1 rev3 te)) := by
  subst hK
  exact (pe_revL he).imp fun σ H Q ⟨en, M, P, rs, rm, ev, t, c⟩ => LE.then rs rm ev t fun x M1 v1 H1 t1 r1 rs1 rm1 ev1 e1 => by
    unfold rev3 at t1
    split at t1
    · rename_i ds e2
      obtain ⟨a, vs, h1, h2, h3⟩ := asL_sq rm1 e2 r1
      exact ⟨a, vs, h1, h2, fun p hp => (c.from e1) _ M1 _ _ t1 (Rp.lstNew rm1 hp h3.reverse) (rm1.new hp) (Ev.new hp)⟩
    · exact t1.elim
/-! ### truth -/
def truA (M : MH) (d : D) : Option Bool := match d with
  | .non => some false
  | .bl b => some b
  | .int i => some (i != 0)
  | .str y => if y.length ≤ sizeLine then some ((y.length : Int) != 0) else none
  | d => match seqM M d with
    | some ds => some (!ds.isEmpty)
    | none => match d with
      | .ref a => (match M a with | some (.dK kvs) => some (!kvs.isEmpty) | _ => none)
      | _ => none
def tru3 (te : T3) : TB3 := fun e M Q => te e M fun d M1 => match truA M1 d with | some b => Q b M1 | none => False
theorem z_truth {a : Expr} {ta : T3} (hK : X.K = K) (ha : PE X a (LE K M0 H0 ta)) (he : ∀ whole, isTrue a X.env whole = (do let v ← whole; standAt a.pos; holding [v] (truthy v))) : PT X a (LT K M0 H0 (tru3 ta)) := by
  subst hK
  exact (pt_truth ha he).imp fun σ H Q ⟨en, M, P, rs, rm, ev, t, c⟩ => LE.then rs rm ev t fun d M1 v1 H1 t1 r1 rs1 rm1 ev1 e1 => by
    split at t1
    · rename_i b eb
      refine ⟨b, ?_, c b M1 H1 t1 rm1 e1⟩
      unfold truA at eb
      split at eb
      · obtain rfl := Option.some.inj eb
        have r1 := show v1 = _ from r1
        subst r1; rfl
      · obtain rfl := Option.some.inj eb
        have r1 := show v1 = _ from r1
        subst r1; rfl
      · obtain rfl := Option.some.inj eb
        have r1 := show v1 = _ from r1
        subst r1; rfl
      · split at eb
        · rename_i hz
          obtain rfl := Option.some.inj eb
          have r1 := show v1 = _ from r1
          subst r1
          exact ⟨hz, rfl⟩
        · cases eb
      · split at eb
        · rename_i ds e2
          obtain rfl := Option.some.inj eb
          obtain ⟨a, vs, h1, h2, h3⟩ := seqM_sq rm1 e2 r1
          subst h1
          have hl := h3.length
          have hb : (!ds.isEmpty) = !vs.isEmpty := by
            cases ds <;> cases vs <;> first | rfl | (simp at hl)
          rcases h2 with h2 | h2
          · exact .inl ⟨vs, h2, hb⟩
          · exact .inr (.inl ⟨vs, h2, hb⟩)
        · split at eb
          · rename_i a _ _ _ _ _
            split at eb
            · rename_i kvs e2
              obtain rfl := Option.some.inj eb
              obtain ⟨vs, h2, h3⟩ := rm1 a _ e2
              have r1 : v1 = .ref a := r1
              subst r1
              have hl := h3.length
              refine .inr (.inr ⟨_, h2, ?_⟩)
              cases kvs with
              | nil => simp
              | cons p r =>
                cases vs with
                | nil => simp at hl
                | cons _ _ => rfl
            · cases eb
          · cases eb
    · exact t1.elim
/-! ### dict displays -/
def pairs3 : List (T3 × T3) → En → MH → (List (D × D) → MH → Prop) → Prop
  | [], _, M, Q => Q [] M
  | (tk, tv) :: r, e, M, Q => tk e M fun k M1 => tv e M1 fun v M2 => pairs3 r e M2 fun ps M3 => Q ((k, v) :: ps) M3
def keysD : List (D × D) → Option (List (Key × D))
  | [] => some []
  | (k, v) :: r => match keyK k, keysD r with
    | some k, some r => some ((k, v) :: r)
    | _, _ => none
def mergeD (kvs more : List (Key × D)) : List (Key × D) := more.foldl (fun acc kv => putD acc kv.1 kv.2) kvs
def resK (m : Bool) (p : Addr) (kvs : List (Key × D)) (M : MH) (Q : Q3) : Prop := match m with
  | true => Q (.ref p) (up M p (.dK kvs))
  | false => Q (.dK (kvs.map (·.1)) (kvs.map (·.2))) (er M p)
def disp3 (m : Bool) (ps : List (T3 × T3)) : T3 := fun e M Q => ∀ p, M p = none → pairs3 ps e (up M p (.dK [])) fun ds M2 => M2 p = some (.dK []) ∧ match keysD ds with
  | some kvs => kvs.length ≤ 15 ∧ resK m p (mergeD [] kvs) M2 Q
  | none => False
def newK3 (m : Bool) : T3 := fun _ M Q => match m with
  | true => ∀ p, M p = none → Q (.ref p) (up M p (.dK []))
  | false => Q (.dK [] []) M
def newT3 : T3 := fun _ M Q => ∀ p, M p = none → Q (.ref p) (up M p (.dT []))
def LPs (K : PySem.W.Frag) (M0 : MH) (H0 : Hp) (ps : List (T3 × T3)) : List (TE × TE) := ps.map fun p => (LE K M0 H0 p.1, LE K M0 H0 p.2)
/-- pairs of data and of values -/
def RpP (K : PySem.W.Frag) (M : MH) (H : Hp) : List (D × D) → List (V × V) → Prop
  | [], vs => vs = []
  | (k, d) :: r, vs => ∃ x y w, vs = (x, y) :: w ∧ Rp K M H k x ∧ Rp K M H d y ∧ RpP K M H r w
theorem RpP.ev {M M' : MH} {H H' : Hp} (e : Ev M H M' H') : ∀ {ds : List (D × D)} {vs : List (V × V)}, RpP K M H ds vs → RpP K M' H' ds vs
  | [], _, h => h
  | (k, d) :: r, vs, ⟨x, y, w, h1, h2, h3, h4⟩ => ⟨x, y, w, h1, Rp.ev e _ _ h2, Rp.ev e _ _ h3, h4.ev e⟩
theorem pairs_ok : ∀ {ps : List (T3 × T3)} {σ : L2.St} {e : En} {M : MH} {H : Hp} {P : List (D × D) → MH → Prop} {Q : List (V × V) → Hp → Prop}, RS K M H e σ → RM K M H → Ev M0 H0 M H → pairs3 ps e M P →
    (∀ ds M1 vs H1, P ds M1 → RpP K M1 H1 ds vs → RM K M1 H1 → Ev M H M1 H1 → Q vs H1) → tPairs (LPs K M0 H0 ps) σ H Q
  | [], σ, e, M, H, P, Q, rs, rm, ev, t, c => c [] M [] H t rfl rm (Ev.refl _ _)
  | (tk, tv) :: r, σ, e, M, H, P, Q, rs, rm, ev, t, c => LE.then rs rm ev t fun k M1 v1 H1 t1 r1 rs1 rm1 ev1 e1 => LE.then rs1 rm1 ev1 t1 fun v M2 v2 H2 t2 r2 rs2 rm2 ev2 e2 =>
    pairs_ok rs2 rm2 ev2 t2 fun ds M3 vs H3 q r3 rm3 e3 => c _ M3 _ H3 q ⟨v1, v2, vs, rfl, Rp.ev (e2.trans e3) _ _ r1, Rp.ev e3 _ _ r2, r3⟩ rm3 (e1.trans (e2.trans e3))
theorem keysD_ok {M : MH} {H : Hp} : ∀ {ds : List (D × D)} {vs : List (V × V)} {kvs : List (Key × D)}, keysD ds = some kvs → RpP K M H ds vs → ∃ ws, vs = ((kvs.map (·.1)).zip ws).map (fun kv => (kV kv.1, kv.2)) ∧ RpL K M H (kvs.map (·.2)) ws
  | [], vs, kvs, h, r => by
    have r : vs = [] := r
    obtain rfl := Option.some.inj h
    subst r
    exact ⟨[], rfl, rfl⟩
  | (k, d) :: ds, vs, kvs, h, ⟨x, y, w, h1, h2, h3, h4⟩ => by
    dsimp only [keysD] at h
    split at h
    · rename_i k' r' e1 e2
      obtain rfl := Option.some.inj h
      obtain ⟨ws, g1, g2⟩ := keysD_ok e2 h4
      refine ⟨y :: ws, ?_, ⟨y, ws, rfl, h3, g2⟩⟩
      rw [h1, g1, keyK_v e1 h2]; rfl
    · cases h
theorem merge_ok {M : MH} {H : Hp} : ∀ {more kvs : List (Key × D)} {ws vs : List V}, RpL K M H (more.map (·.2)) ws → RpL K M H (kvs.map (·.2)) vs →
    ∃ us, mergeK ((kvs.map (·.1)).zip vs) ((more.map (·.1)).zip ws) = ((mergeD kvs more).map (·.1)).zip us ∧ RpL K M H ((mergeD kvs more).map (·.2)) us
  | [], kvs, ws, vs, r, q => ⟨vs, rfl, q⟩
  | p :: more, kvs, ws, vs, r, q => by
    obtain ⟨w, w', h1, h2, h3⟩ := r
    subst h1
    obtain ⟨us, g1, g2⟩ := put_rp (k := p.1) h2 q
    obtain ⟨us2, k1, k2⟩ := merge_ok (more := more) (kvs := putD kvs p.1 p.2) h3 g2
    refine ⟨us2, ?_, k2⟩
    show mergeK (putK ((kvs.map (·.1)).zip vs) p.1 w) ((more.map (·.1)).zip w') = _
    rw [g1]
    exact k1
theorem z_disp {keys : List (Option Expr)} {values : List Expr} {ps : List (T3 × T3)} {m : Bool} {pos : Pos} (h : PPs X pos keys values (LPs K M0 H0 ps)) (hall : keys.all (·.isSome) = true) (hl : keys.length = values.length) (h0 : keys ≠ []) (h15 : keys.length ≤ 15) :
    PE X (.Dict keys values pos) (LE K M0 H0 (disp3 m ps)) :=
  (pe_disp h hall hl h0 h15).imp fun σ H Q ⟨en, M, P, rs, rm, ev, t, c⟩ p hp => by
    have rm1 : RM K (up M p (.dK [])) (upd H p (.dK [])) := rm.newM hp ⟨[], upd_same, rfl⟩
    have e1 : Ev M H (up M p (.dK [])) (upd H p (.dK [])) := Ev.newM hp
    refine pairs_ok (rs.ev e1) rm1 (ev.trans e1) (t p (rm.free hp)) fun ds M2 vs H2 ⟨q1, q2⟩ r2 rm2 e2 => ?_
    obtain ⟨zs, z1, z2⟩ := rm2 p _ q1
    have z2 : zs = [] := z2
    subst z2
    refine ⟨z1, ?_⟩
    split at q2
    · rename_i kvs ek
      obtain ⟨q2, q3⟩ := q2
      obtain ⟨ws, w1, w2⟩ := keysD_ok ek r2
      obtain ⟨us, u1, u2⟩ := merge_ok (K := K) (M := M2) (H := H2) (kvs := []) (vs := []) w2 rfl
      refine ⟨(kvs.map (·.1)).zip ws, w1, ?_, ?_⟩
      · rw [List.length_zip, List.length_map]; omega
      · have u1 : mergeK [] ((kvs.map (·.1)).zip ws) = _ := u1
        rw [u1]
        have rmw : RM K (up M2 p (.dK (mergeD [] kvs))) (upd H2 p (.dK (((mergeD [] kvs).map (·.1)).zip us))) := rm2.wr q1 ⟨us, upd_same, RpL.ev (Ev.wr q1) _ _ u2⟩
        cases m with
        | true => exact c _ _ _ _ q3 rfl rmw (e1.trans (e2.trans (Ev.wr q1)))
        | false =>
          -- forget it first, then it is written: as one step
          have sb : Sub (er M2 p) (up M2 p (.dK (mergeD [] kvs))) := fun a o q => by
            unfold er at q
            by_cases z : a = p
            · rw [if_pos z] at q; cases q
            · rw [if_neg z] at q
              rw [up_ne z]; exact q
          refine c _ _ _ _ q3 ⟨p, us, rfl, er_none, .inl upd_same, by simp, RpL.ev ((Ev.wr q1).trans (Ev.sub sb)) _ _ u2⟩ (rmw.sub sb) (e1.trans (e2.trans ((Ev.wr q1).trans (Ev.sub sb))))
    · exact q2.elim
theorem z_newK {m : Bool} {pos : Pos} : PE X (.Dict [] [] pos) (LE K M0 H0 (newK3 m)) := pe_dnewK.imp fun σ H Q ⟨en, M, P, rs, rm, ev, t, c⟩ p hp => by
  cases m with
  | true => exact c _ _ _ _ (t p (rm.free hp)) rfl (rm.newM hp ⟨[], upd_same, rfl⟩) (Ev.newM hp)
  | false => exact c _ M _ _ t ⟨p, [], rfl, rm.free hp, .inl upd_same, rfl, rfl⟩ (rm.new hp) (Ev.new hp)
theorem z_newT {pos : Pos} : PE X (.Dict [] [] pos) (LE K M0 H0 newT3) := pe_dnewT.imp fun σ H Q ⟨en, M, P, rs, rm, ev, t, c⟩ p hp =>
  c _ _ _ _ (t p (rm.free hp)) rfl (rm.newM hp ⟨[], upd_same, rfl⟩) (Ev.newM hp)
/-! ### comprehensions as expressions -/
theorem z_lc {m : Bool} {elt tgE iter : Expr} {ifs : List Expr} {scope : Scope} {own : List (Str × Nat)} {it : TL3} {tg : Tg} {tt : TB3} {te : T3} {pos : Pos} (hc : X.calm = true) (hN : X.N.Nodup) (hi : PI X tgE iter (LI K M0 H0 it)) (ok : BlkOk X.N X.env.scope scope own) (hsub : ∀ i ∈ tg.slots, i ∈ own.map (·.2))
    (hg : ∀ (s : Shared) (H : Hp) (C : Addr) (cl : List (Str × Addr)) (fp : List Addr), PG (X.blk s H scope (compEnvC scope cl C X.env) fp) tgE (gOf K tg)) (ht : ∀ (s : Shared) (H : Hp) (C : Addr) (cl : List (Str × Addr)) (fp : List Addr), PTs (X.blk s H scope (compEnvC scope cl C X.env) fp) ifs (LT K M0 H0 tt))
    (he : ∀ (s : Shared) (H : Hp) (C : Addr) (cl : List (Str × Addr)) (fp : List Addr), PE (X.blk s H scope (compEnvC scope cl C X.env) fp) elt (LE K M0 H0 te)) (hs : ∀ x, foldedSetIterable iter X.env x = pure x) :
    PE X (.ListComp elt [⟨tgE, iter, ifs, 0⟩] scope pos) (LE K M0 H0 (comp3 m it tg tt te (own.map (·.2)))) :=
  (pe_lc hc hN hi ok hg ht he hs).imp fun _ _ _ h => lcomp hsub h
theorem z_setlc {m : Bool} {i : Nat} {y : Str} {py : Pos} {elt tgE iter : Expr} {ifs : List Expr} {scope : Scope} {own : List (Str × Nat)} {it : TL3} {tg : Tg} {tt : TB3} {te : T3} {pos spos : Pos} (hc : X.calm = true) (hN : X.N.Nodup) (hy : X.N[i]? = some y) (hyl : X.env.scope.names.lookup y = some .local)
    (hsw : swapsWith (.ListComp elt [⟨tgE, iter, ifs, 0⟩] scope pos) (some (.Name y py)) spos.line X.env = pure true) (hi : PI X tgE iter (LI K M0 H0 it)) (ok : BlkOk X.N X.env.scope scope own) (hsub : ∀ i ∈ tg.slots, i ∈ own.map (·.2))
    (hg : ∀ (s : Shared) (H : Hp) (C : Addr) (cl : List (Str × Addr)) (fp : List Addr), PG (X.blk s H scope (compEnvC scope cl C X.env) fp) tgE (gOf K tg)) (ht : ∀ (s : Shared) (H : Hp) (C : Addr) (cl : List (Str × Addr)) (fp : List Addr), PTs (X.blk s H scope (compEnvC scope cl C X.env) fp) ifs (LT K M0 H0 tt))
    (he : ∀ (s : Shared) (H : Hp) (C : Addr) (cl : List (Str × Addr)) (fp : List Addr), PE (X.blk s H scope (compEnvC scope cl C X.env) fp) elt (LE K M0 H0 te)) (hs : ∀ x, foldedSetIterable iter X.env x = pure x) :
    PS X (.Assign [.Name y py] (.ListComp elt [⟨tgE, iter, ifs, 0⟩] scope pos) spos) (LS K M0 H0 (asg3 (comp3 m it tg tt te (own.map (·.2))) (.nm i))) :=
  (ps_setLc hc hN hy hyl hsw hi ok hg ht he hs).imp fun D σ H ⟨en, M, D3, rs, rm, ev, t, c⟩ =>
    lcomp (m := m) (K := K) (M0 := M0) (H0 := H0) hsub ⟨en, M, _, rs, rm, ev, t, fun d M1 v1 H1 t1 r1 rm1 e1 => c.nx _ M1 _ H1 t1 ((rs.ev e1).set i r1) rm1 e1⟩
/-! ### x op= e -/
def aug3 (i : Nat) (te : T3) (o : O2) : TS3 := fun D e M => match getE e i with
  | some d => te e M fun d2 M1 => o d d2 M1 fun r M2 => D.nx (setE e i r) M2
  | none => False
def iadd3 : O2 := fun x y M Q => match x, y with
  | .int i, .int j => Q (.int (i + j)) M
  | .str a, .str b => a.length + b.length ≤ sizeLine ∧ Q (.str (a ++ b)) M
  | _, _ => False
def isub3 : O2 := fun x y M Q => match x, y with
  | .int i, .int j => Q (.int (i - j)) M
  | _, _ => False
theorem zi_add : OpR X (inplaceOp .Add) (LO2 X.K iadd3) := oimp (or2 iop_add iop_add_str) fun x y H Q ⟨d1, d2, M, Q3, r1, r2, rm, o, c⟩ => by
  unfold iadd3 at o
  split at o
  · exact .inl ⟨_, _, r1, r2, c.now rm o rfl⟩
  · exact .inr ⟨_, _, r1, r2, o.1, c.now rm o.2 rfl⟩
  · exact o.elim
theorem zi_sub : OpR X (inplaceOp .Sub) (LO2 X.K isub3) := oimp iop_sub fun x y H Q ⟨d1, d2, M, Q3, r1, r2, rm, o, c⟩ => by
  unfold isub3 at o
  split at o
  · exact ⟨_, _, r1, r2, c.now rm o rfl⟩
  · exact o.elim
theorem z_aug {i : Nat} {x : Str} {e : Expr} {te : T3} {op : Operator} {o : O2} {pos pos' : Pos} (hN : X.N.Nodup) (hi : X.N[i]? = some x) (hx : Loc X.env.scope x) (he : PE X e (LE K M0 H0 te)) (ho : OpR X (inplaceOp op) (LO2 K o)) (hf : X.fn x = true ∨ X.env.scope.names.lookup x = some .local) :
    PS X (.AugAssign (.Name x pos') op e pos) (LS K M0 H0 (aug3 i te o)) :=
  (ps_aug hN hi hx he (show PIp X op (LO2 K o) from ho) hf).imp fun D σ H ⟨en, M, D3, rs, rm, ev, t, c⟩ => by
    unfold aug3 at t
    split at t
    · rename_i d ed
      obtain ⟨v, h1, h2⟩ := rs.get i d ed
      refine ⟨v, h1, LE.then rs rm ev t fun d2 M1 v1 H1 t1 r1 rs1 rm1 ev1 e1 => ⟨d, d2, M1, _, Rp.ev e1 _ _ h2, r1, rm1, t1, fun r M2 w H2 t2 r2 rm2 e2 => ?_⟩⟩
      exact c.nx _ M2 _ H2 t2 ((rs1.ev e2).set i r2) rm2 (e1.trans e2)
    · exact t.elim
end
end Z

namespace Z
open PySem PySem.Spec PyProof.Rows L2

/-- an exception of an own class: its name, the argument that it keeps -/
structure Exc where
  cls : Str
  arg : Option D
abbrev X3 := Exc → MH → Prop
abbrev Sp3 := List D → MH → Q3 → X3 → Prop
/-- how an exception lies -/
abbrev XRel := Exc → Value → Option Addr → MH → Hp → Prop
def noX : X3 := fun _ _ => False
def CvX (K : PySem.W.Frag) (XR : XRel) (M : MH) (H : Hp) (E3 : X3) (E : XK) : Prop := ∀ x M' H' cls d, E3 x M' → XR x cls d M' H' → RM K M' H' → Ev M H M' H' → E cls d H'
theorem CvX.from {K : PySem.W.Frag} {XR : XRel} {M M1 : MH} {H H1 : Hp} {E3 : X3} {E : XK} (c : CvX K XR M H E3 E) (e : Ev M H M1 H1) : CvX K XR M1 H1 E3 E := fun x M' H' cls d h r m e2 => c x M' H' cls d h r m (e.trans e2)
def liftSp (K : PySem.W.Frag) (XR : XRel) (n : Nat) (sp : Sp3) : Sp := fun vs H Q E => ∃ ds M Q3 E3, ds.length = n ∧ RpL K M H ds vs ∧ RM K M H ∧ sp ds M Q3 E3 ∧ Cv K M H Q3 Q ∧ CvX K XR M H E3 E
theorem liftSp.len {K : PySem.W.Frag} {XR : XRel} {n : Nat} {sp : Sp3} {vs : List V} {H : Hp} {Q : VK} {E : XK} (h : liftSp K XR n sp vs H Q E) : vs.length = n := by
  obtain ⟨ds, M, Q3, E3, h1, h2, _⟩ := h
  rw [h2.length, h1]
/-- a def of the module that may be called -/
structure Cal (P : Program) (w : World) (K : PySem.W.Frag) (mg : Str → Option Value) (base : Heap) (XR : XRel) (k : Nat) (x : Str) (n : Nat) (sp : Sp3) : Prop where
  ex : ∃ (f : Addr) (fd : FuncData) (ps : List Str), FnOk P w K mg base (L2.CX P w) k f fd ps (liftSp K XR n sp) ∧ mg x = some (.ref f) ∧ PySem.W.keepIn K (.ref f) = true ∧ Binds K fd ps [] ∧ ps.length = n
theorem Cal.mono {P : Program} {w : World} {K : PySem.W.Frag} {mg : Str → Option Value} {base : Heap} {XR : XRel} {j k : Nat} {x : Str} {n : Nat} {sp : Sp3} (c : Cal P w K mg base XR j x n sp) (h : j ≤ k) : Cal P w K mg base XR k x n sp := by
  obtain ⟨f, fd, ps, F, r⟩ := c.ex
  exact ⟨f, fd, ps, F.mono h, r⟩
/-- what is wanted of exceptions where X runs -/
structure Out (X : Cx) (XR : XRel) (M0 : MH) (H0 : Hp) (E3 : X3) : Prop where
  ex : ∃ E : XK, Takes X (fun cls d _ H => E cls d H) ∧ CvX X.K XR M0 H0 E3 E
theorem Out.no {X : Cx} {XR : XRel} {M0 : MH} {H0 : Hp} : Out X XR M0 H0 noX := ⟨fun _ _ _ => False, takes0, fun _ _ _ _ _ h => h.elim⟩
def call3 (n : Nat) (sp : Sp3) (E3 : X3) (t : TL3) : T3 := fun e M Q => t e M fun ds M1 => ds.length = n ∧ sp ds M1 Q E3
section
variable {X : Cx} {XR : XRel} {M0 : MH} {H0 : Hp}
theorem z_call {k n : Nat} {sp : Sp3} {E3 : X3} {x : Str} {p pos : Pos} {e : Expr} {es : List Expr} {t : TL3} (C : Cal X.prog X.w X.K X.mg X.base XR k x n sp) (hr : Room k X.A) (ou : Out X XR M0 H0 E3) (hg : Gl X x)
    (ha : PA X (e :: es) (LA X.K M0 H0 t)) (hdb : (x == ("__debug__" : Str)) = false) (he : starEach (e :: es) X.env = (false, eval e X.env) :: starEach es X.env) (hpl : (backTo pos (starEach es X.env)).any (·.1) = false) :
    PE X (.Call (.Name x p) (e :: es) [] pos) (LE X.K M0 H0 (call3 n sp E3 t)) := by
  obtain ⟨f, fd, ps, F, hm, hk, hb, hl⟩ := C.ex
  obtain ⟨E, tk, hX⟩ := ou.ex
  have hE : Passes (L2.CX X.prog X.w) X E := passes_call (W := fun cls d _ H => E cls d H) tk fun _ _ _ _ h => h
  refine (pe_call F hr hg hm hk hb .nil hE ha hdb he hpl).imp fun σ H Q ⟨en, M, P, rs, rm, ev, t', c⟩ => ?_
  refine LA.then rs rm ev t' fun ds M1 vs H1 ⟨l1, t1⟩ r1 rs1 rm1 ev1 e1 => ?_
  rw [List.append_nil]
  exact ⟨ds, M1, P, E3, l1, r1, rm1, t1, c.from e1, hX.from ev1⟩
end
/-! ### a def -/
def startE (n : Nat) (ds : List D) : En := ds.map some ++ List.replicate (n - ds.length) none
/-- what is given back: what was marked here may be forgotten -/
def RT (Q : Q3) : Q3 := fun d M => ∃ M', Sub M' M ∧ Q d M'
def bodyEnds (Q : Q3) : Ends3 := ⟨fun _ M => RT Q .non M, RT Q, fun _ _ => False, fun _ _ => False⟩
section
variable {P : Program} {w : World} {K : PySem.W.Frag} {mg : Str → Option Value} {base : Heap} {XR : XRel}
theorem startE_get : ∀ (ds : List D) (n i : Nat) (d : D), getE (startE n ds) i = some d → ds[i]? = some d := fun ds n i d h => by
  rw [getE_eq] at h
  unfold startE at h
  by_cases hi : i < ds.length
  · rw [List.getElem?_append_left (by rw [List.length_map]; exact hi), List.getElem?_map] at h
    rw [List.getElem?_eq_getElem hi] at h ⊢
    simpa using h
  · rw [List.getElem?_append_right (by rw [List.length_map]; omega)] at h
    rw [List.getElem?_replicate] at h
    split at h <;> cases h
theorem start_rs {M : MH} {H : Hp} {N : List Str} {ds : List D} {vs : List V} (r : RpL K M H ds vs) : RS K M H (startE N.length ds) (L2.start N vs) := by
  refine ⟨?_, fun i d h => ?_⟩
  · unfold startE L2.start
    simp only [List.length_append, List.length_map, List.length_replicate, r.length]
  · have e := startE_get ds _ i d h
    obtain ⟨v, g1, g2⟩ := r.get e
    refine ⟨v, ?_, g2⟩
    unfold L2.start
    have hi : i < vs.length := (List.getElem?_eq_some_iff.mp g1).1
    rw [List.getElem?_append_left (by rw [List.length_map]; exact hi), List.getElem?_map, g1]
    rfl
theorem RT.ok {M0 : MH} {H0 : Hp} {Q3 : Q3} {Q : VK} (c : Cv K M0 H0 Q3 Q) : Cv K M0 H0 (RT Q3) Q := fun d M' v H' ⟨M'', sb, q⟩ r m e =>
  c d M'' v H' q (Rp.ev (Ev.sub sb) _ _ r) (m.sub sb) (e.trans (Ev.sub sb))
/-- THE RULE for a def: its body's reading of data keeps the promise -/
theorem def_ok {x qual : Str} {st : Stmt} {f : Addr} {fd : FuncData} {N ps : List Str} {k n : Nat} {sp : Sp3} (F : Fun K x qual st f fd) (S : FnScope N ps (defScope st)) (hn : ps.length = n)
    (body : ∀ (cdv : Value) (A : Around) (outer : List Env) (s : Shared) (H : Hp) (E : XK) (M : MH) (E3 : X3), Room k (A.deeper (envOfC qual (defScope st) s.heap.objs.size f cdv)) →
      CvX K XR M H E3 E → ∃ t, PSs (cxOf (L2.CX P w) P w K mg base N qual (defScope st) f cdv A outer s H E) (defBody st) (LS K M H t) ∧ ∀ ds Q3, ds.length = n → sp ds M Q3 E3 → t (bodyEnds Q3) (startE N.length ds) M) :
    FnOk P w K mg base (L2.CX P w) (k + 1) f fd ps (liftSp K XR n sp) := by
  refine F.okX S (fun vs H Q E h => by rw [hn]; exact h.len) fun cdv A outer s H vs Q E hr ⟨ds, M, Q3, E3, hl, r, rm, hs, c, cx⟩ => ?_
  obtain ⟨t, ht, q⟩ := body cdv A outer s H E M E3 hr cx
  refine ⟨_, ht, startE N.length ds, M, bodyEnds Q3, start_rs r, rm, Ev.refl _ _, q ds Q3 hl hs, ?_⟩
  refine ⟨?_, RT.ok c, fun _ _ _ _ h => h.elim, fun _ _ _ _ h => h.elim⟩
  intro e' M' σ' H' q r m e
  exact RT.ok c .non M' .non H' q rfl m e
/-- what a body wants of exceptions -/
theorem out_body {N : List Str} {qual : Str} {scope : Scope} {f : Addr} {cd : Value} {A : Around} {outer : List Env} {s : Shared} {H : Hp} {E : XK} {M : MH} {E3 : X3} (c : CvX K XR M H E3 E) : Out (cxOf (L2.CX P w) P w K mg base N qual scope f cd A outer s H E) XR M H E3 :=
  ⟨E, takes_of (E := E) rfl rfl rfl rfl, c⟩
end
end Z

/-! X1: the error with a number: made, raised, read (turned from the worked proof of an own error). -/
namespace PySem
namespace ErrX
open PySem.W PySem.Calls PyProof.Rows PySem.HandSPX
/-! ### the text of __init__ -/
def iA (p1 p2 : Pos) : Arguments := { posonlyargs := [], args := [{ arg := "self", annotation := none, pos := p1 }, { arg := "number", annotation := none, pos := p2 }], vararg := none, kwonlyargs := [], kw_defaults := [], kwarg := none, defaults := [] }
def iB (q1 q2 q3 q4 : Pos) : List Stmt := [.Assign [.Attribute (.Name "self" q1) "number" q2] (.Name "number" q3) q4]
def iS : Scope := { kind := .function, names := [(PySem.Str.ofString "self", .local), (PySem.Str.ofString "number", .local)], isGenerator := false, isCoroutine := false, more := [] }
/-- what the written part says of the error class, at C, and of its __init__, at fI -/
structure ErrTxt (K : Frag) (mg : Str → Option Value) (C fI : Addr) : Prop where
  gC : mg "InvalidLine" = some (.ref C)
  cls : ∃ nm q N bs bm sn sub ab col dd k0 k1 k2 k3 k5, K.lookup C = some (excClassObj nm q C N bs bm true sn sub ab col dd k0 k1 k2 k3 k5 "ValueError.__new__") ∧ refsVE bm = true
  sa : findIn K (.ref C) "__setattr__" = some (some (.builtin "object.__setattr__"))
  ga : findIn K (.ref C) "__getattribute__" = some (some (.builtin "BaseException.__getattribute__"))
  gg : findIn K (.ref C) "__getattr__" = some none
  noN : findIn K (.ref C) "number" = some none
  iC : findIn K (.ref C) "__init__" = some (some (.ref fI))
  tC : typeIn K (.ref fI) = some (.type "function")
  kC : keepIn K (.ref C) = true
  exC : subIn K (.ref C) (.type "BaseException") = some true
  tyC : typeIn K (.ref C) = some (.type "type")
  hdC : hasDictIn K C = true
  te : exmOne K (.ref C) (.ref C) = some true
  fn : ∃ (oc : Value) (od : Option Addr) (doc pm : Value) (an : Option Addr) (cdv ct : Value) (osl : Array (Option Value)) (p1 p2 q1 q2 q3 q4 : Pos),
    K.lookup fI = some ⟨oc, od, .func (fnOf "__init__" "InvalidLine.__init__" (iA p1 p2) (iB q1 q2 q3 q4) iS .none .none doc pm an cdv ct), osl⟩ ∧ codeIn K cdv "InvalidLine.__init__" = true
theorem one_size (v : Value) : [v].length ≤ sizeLine := by
  rw [sizeLine_eq]
  exact (by decide : 1 ≤ 16777216)
theorem kept_but {K : Frag} {h h' : Heap} {x : Addr} (X : K.In h) (hx : K.lookup x = none) (k : ∀ b o, b ≠ x → h.get? b = some o → h'.get? b = some o) : K.In h' := fun a o e =>
  k a o (fun z => by rw [z, hx] at e; cases e) (X a o e)
theorem ldC {M : Model} {s : Shared} {name : Str} {scope : Scope} {L a : Addr} {cd : Value} {m : Str → Option Value} {x : Str} {pos : Pos} {v : Value} {Q : Value → Shared → Prop} {A : Around} {E : Value → Shared → Prop} (hn : s.heap.Ns L m) (hv : m x = some v) (h : Q v s)
    (hk : scope.kind = .function := by rfl) (hl : (envOfC name scope L a cd).kindOf x = some .local := by rfl) (hd : (x == ("__debug__" : Str)) = false := by decide) :
    wpAny M A (eval (.Name x pos) (envOfC name scope L a cd)) Q E s := wpAny_Name (wpAny_loadName_local hk hl hn hv h) hd
/-- what __init__ leaves of a fresh exception at x -/
structure InitEnd (h h' : Heap) (x C dx t1 : Addr) (v : Value) : Prop where
  keep : ∀ b o, b ≠ x → h.get? b = some o → h'.get? b = some o
  obj : h'.get? x = some { cls := .ref C, dict := some dx, data := .fields #[.ref t1, .none, .none, .none, .bool false, .none] }
  dbig : h.objs.size ≤ dx
  dne : dx ≠ x
  ns : h'.Ns1 dx (fun y => if y = "number" then some v else none)
/-- a made error -/
structure OwnMade (h h' : Heap) (e C d : Addr) (v : Value) : Prop where
  keep : ∀ b o, h.get? b = some o → h'.get? b = some o
  new : h.objs.size ≤ e
  obj : ∃ oe vs, h'.get? e = some oe ∧ oe.cls = .ref C ∧ oe.dict = some d ∧ oe.data = .fields vs ∧ vs[1]? = some .none
  dbig : h.objs.size ≤ d
  dne : d ≠ e
  ns : h'.Ns1 d (fun y => if y = "number" then some v else none)
section
variable {prog : Program} {w : World} {A : Around} {E : Value → Shared → Prop} {R : Result → Shared → Prop} {s : Shared} {K : Frag} {mg : Str → Option Value} {C fI : Addr}
theorem err_init (T : ErrTxt K mg C fI) {x t0 : Addr} {v : Value} (X : K.In s.heap) (hlim : s.heap.NoLimit) (hx : s.heap.get? x = some (excO C t0)) (hnx : K.lookup x = none) (hroom : A.depth < recursionLimit)
    (hq : ∀ h' tk dx, InitEnd s.heap h' x C dx t0 v → R (.ok (.ret .none)) { s with heap := h', toks := tk }) :
    codeAny (model prog w) A (.call (.ref fI) ⟨[.ref x, v], []⟩) R s := by
  obtain ⟨oc, od, doc, pm, an, cdv, ct, osl, p1, p2, q1, q2, q3, q4, ho, hcd⟩ := T.fn
  obtain ⟨nm, q, N, bs, bm, sn, sub, ab, col, dd, k0, k1, k2, k3, k5, hC, hbm⟩ := T.cls
  have hcl : clsIn K C = some { name := nm, bases := bs, mro := .ref C :: bm, ns := N, qualname := q, hasDict := true, slotNames := sn, subclasses := sub, abstract := ab, collection := col, hasDel := false } := by unfold clsIn; rw [hC] <;> rfl
  refine Att.call_fn (binds := [("self", .ref x), ("number", v)]) X hlim ho hcd hroom (BindsTo.of_eq (by first | rfl | with_unfolding_all rfl)) (by first | rfl | decide | with_unfolding_all rfl) (fun s₁ IC => ?_) rfl rfl rfl
  obtain ⟨h₁, tk₁, rfl⟩ := IC.toInCall.same
  have k : ∀ b o, s.heap.get? b = some o → h₁.get? b = some o := IC.toInCall.keep
  have hn := IC.toInCall.ns
  have hxL : s.heap.objs.size ≠ x := Nat.ne_of_gt (Heap.lt_size hx)
  have X₁ : K.In h₁ := X.keeps k
  have hx₁ := k _ _ hx
  -- self.by = by
  show wpAny _ _ (execs _ _) _ _ _
  refine wpAny_execs_cons (plainObj_wpAny_Assign_Attribute ?_)
  refine ldC (v := v) hn (by first | rfl | with_unfolding_all rfl | kernel_rfl) (ldC (v := .ref x) hn (by first | rfl | with_unfolding_all rfl | kernel_rfl) ?_)
  refine set_plain X₁ (ox := excO C t0) (od := none) ⟨hx₁, rfl, rfl, trivial⟩ T.sa ?_
  refine exc_osa X₁ hx₁ hcl (show refsVE (.ref C :: bm) = true from hbm) rfl T.noN (fun h₃ tk₃ dx k₃ dn dne hx₃ hn₃ => ?_)
  show wpAny _ _ (execs _ _) _ _ _
  have z : s.heap.objs.size < h₁.objs.size := hn.lt
  exact wpAny_execs_nil (hq h₃ tk₃ dx ⟨fun b o hb e => k₃ b o hb (k b o e), hx₃, Nat.le_of_lt (Nat.lt_of_lt_of_le z dn), dne, hn₃⟩)
theorem err_made (T : ErrTxt K mg C fI) {v : Value} (X : K.In s.heap) (hlim : s.heap.NoLimit) (hroom : A.depth + 1 < recursionLimit)
    (hq : ∀ h' tk e d, OwnMade s.heap h' e C d v → R (.ok (.ret (.ref e))) { s with heap := h', toks := tk }) :
    codeAny (model prog w) A (.call (.ref C) ⟨[v], []⟩) R s := by
  obtain ⟨nm, q, N, bs, bm, sn, sub, ab, col, dd, k0, k1, k2, k3, k5, hC, hbm⟩ := T.cls
  obtain ⟨hp, g, dr, tk, os⟩ := s
  have k : ∀ b o, hp.get? b = some o → ((hp.push (kdv_tup [v])).push (excO C hp.objs.size)).get? b = some o := fun b o e => Heap.get?_push_of_some _ (Heap.get?_push_of_some _ e)
  have hget : ((hp.push (kdv_tup [v])).push (excO C hp.objs.size)).get? (hp.objs.size + 1) = some (excO C hp.objs.size) := by heap_get
  have hnx : K.lookup (hp.objs.size + 1) = none := by
    cases e : K.lookup (hp.objs.size + 1) with
    | none => rfl
    | some o =>
      have z : hp.get? (hp.objs.size + 1) = some o := X _ _ e
      exact absurd (Nat.lt_of_succ_lt (Heap.lt_size z)) (Nat.lt_irrefl _)
  refine call_own F.excBase_ValueError (fun X => refsVE_contains X bm hbm) (X _ _ hC) (looks_findIn X T.iC) (fun self => bind_fn X self T.tC) (one_size v) ?_
  refine err_init (s := ⟨(hp.push (kdv_tup [v])).push (excO C hp.objs.size), g, dr, tk, os⟩) T (X.keeps k) (hlim.keeps k) hget hnx ?_ fun h' tk' dx ⟨k', hx, dn, dne, hns⟩ => ?_
  · show A.depth + 1 < recursionLimit
    exact hroom
  · have old : ∀ b o, hp.get? b = some o → h'.get? b = some o := fun b o e => k' b o (Nat.ne_of_lt (Nat.lt_succ_of_lt (Heap.lt_size e))) (k b o e)
    have z : hp.objs.size + 1 + 1 ≤ dx := by
      first
        | (simpa only [Heap.size_push] using dn)
        | exact dn
        | (have q := dn; rw [Heap.size_push, Heap.size_push] at q; exact q)
    exact ⟨rfl, hq h' tk' (hp.objs.size + 1) dx ⟨old, Nat.le_succ _, ⟨_, _, hx, rfl, rfl, rfl, rfl⟩, Nat.le_trans (Nat.le_trans (Nat.le_succ _) (Nat.le_succ _)) z, dne, hns⟩⟩
end
end ErrX
end PySem
namespace L2
open PySem PySem.Spec PyProof.Rows
theorem relO_err {v : V} {v' : Value} (r : RelV v v') (f : Str) : RelO (List.lookup f [(("number" : Str), v)]) (if f = "number" then some v' else none) := by
  by_cases hw : f = "number"
  · subst hw
    rw [if_pos rfl]
    have q : List.lookup ("number" : Str) [(("number" : Str), v)] = some v := by simp [List.lookup]
    rw [q]
    exact r
  · rw [if_neg hw]
    have qw : (f == ("number" : Str)) = false := by simpa using hw
    have q2 : List.lookup f [(("number" : Str), v)] = none := by simp [List.lookup, qw]
    rw [q2]
    trivial
section
variable {X : Cx} {C fI : Addr}
/-- InvalidLine(e) -/
def tMkErr (C : Addr) (ta : TA) : St → Hp → XK → Prop := fun σ H Q => ta σ H fun vs H1 => ∃ v, vs = [v] ∧ ∀ d, H1 d = none → Q (.ref C) (some d) (upd H1 d (.xd [(("number" : Str), v)]))
theorem pmk_err {a : Expr} {ta : TA} {p pos : Pos} {k : Nat} (T : PySem.ErrX.ErrTxt X.K X.mg C fI) (hr : Room k X.A) (ha : PA X [a] ta) (hg : Gl X "InvalidLine" := by rfl)
    (he : starEach (a :: []) X.env = (false, eval a X.env) :: starEach [] X.env := by rfl) (hpl : (backTo pos (starEach [] X.env)).any (·.1) = false := by rfl) :
    PMk X (.Call (.Name "InvalidLine" p) [a] [] pos) (tMkErr C ta) := by
  intro pins s σ H Q I h
  refine wpAny_Call_Name_kw (ld_glob I hg T.gC ?_)
  refine PySem.W.callWith_K (h₀ := X.base) I.ok.mod.kin T.kC (thn (ha.run pos pins s σ H _ I h) fun us s1 hh => ?_) he hpl
  obtain ⟨vs, H1, I1, r1, v, ev, q1⟩ := hh
  subst ev
  refine ⟨I1.kIn, ?_⟩
  cases r1 with
  | cons rv rn =>
    rename_i v' us'
    cases rn
    show wpAny _ _ (call (.ref C) [v']) _ _ _
    have hlim := I1.nolimit
    obtain ⟨hp, g, dr, tk, os⟩ := s1
    refine wpAny_call (PySem.ErrX.err_made T I1.kIn hlim (by have := hr.dp; omega) fun h' tk' e d M => ?_)
    show MkP X pins σ Q (.ref e) ⟨h', g, dr, tk', os⟩
    obtain ⟨oe, fv, hoe, hc, hd, hdat, h1⟩ := M.obj
    have hns := M.ns
    obtain ⟨G', g1, g2⟩ := restrict h' fun b => decide (b ≠ e)
    have gk : ∀ b, b ≠ e → G'.get? b = h'.get? b := fun b hb => g1 b (decide_eq_true hb)
    have ge : G'.get? e = none := g2 e (by simp)
    have old : ∀ b o, hp.get? b = some o → G'.get? b = some o := fun b o q => (gk b (Nat.ne_of_lt (Nat.lt_of_lt_of_le (Heap.lt_size q) M.new))).trans (M.keep b o q)
    have ob : ObjOk X.prog X.w (upd H1 d (.xd [(("number" : Str), v)])) G' d (.xd [(("number" : Str), v)]) :=
      ⟨_, hns.at (fun o q => (gk d M.dne).trans q), fun f => relO_err rv f⟩
    have J : Inv X pins σ (upd H1 d (.xd [(("number" : Str), v)])) ⟨G', g, dr, tk', os⟩ := I1.laid (t' := tk') old M.dbig ob
    refine ⟨e, oe, fv, ⟨G', g, dr, tk', os⟩, _, .ref C, some d, rfl, J, fun b o q => ?_, ge, hoe, ⟨hc, hd⟩, hdat, h1, ?_, rfl, I1.bare, raises_own T.exC T.tyC, q1 d (I1.hok.fresh M.dbig)⟩
    · by_cases hb : b = e
      · have q' : G'.get? b = some o := q
        rw [hb, ge] at q'; cases q'
      · exact (gk b hb).symm.trans q
    · rw [upd_ne (Ne.symm M.dne)]
      exact I1.hok.fresh M.new
/-- raise InvalidLine(e) -/
def tRaiseErr (C : Addr) (W : WX) (ta : TA) : TS := fun _ σ H => tMkErr C ta σ H fun cls d H' => W cls d σ H'
theorem ps_raiseErr {a : Expr} {ta : TA} {W : WX} {p pos pos2 : Pos} {k : Nat} (hc : X.calm = true) (T : PySem.ErrX.ErrTxt X.K X.mg C fI) (hr : Room k X.A) (tk : Takes X W) (ha : PA X [a] ta) (hg : Gl X "InvalidLine" := by rfl)
    (he : starEach (a :: []) X.env = (false, eval a X.env) :: starEach [] X.env := by rfl) (hpl : (backTo pos (starEach [] X.env)).any (·.1) = false := by rfl) :
    PS X (.Raise (some (.Call (.Name "InvalidLine" p) [a] [] pos)) none pos2) (tRaiseErr C W ta) := ps_raise hc tk (pmk_err T hr ha hg he hpl)
/-- e.number, e the exception that the suite holds (at a; its class cls, its dict d) -/
def tNum (C : Addr) (a : Addr) (cls : Value) (d : Option Addr) (te : TE) : TE := fun σ H Q => te σ H fun x H1 => x = .ref a ∧ cls = .ref C ∧ ∃ (dd : Addr) (v : V), d = some dd ∧ H1 dd = some (.xd [(("number" : Str), v)]) ∧ Q v H1
theorem pe_num {a : Addr} {oe : Obj} {cls : Value} {d : Option Addr} {pn : List (Addr × Obj)} {e : Expr} {te : TE} {pos : Pos} (T : PySem.ErrX.ErrTxt X.K X.mg C fI) (hz : Zc cls d oe) (hf : ∃ vs, oe.data = .fields vs) (he : PE (X.suite a ((a, oe) :: pn)) e te)
    (hb : attributeBase e "number" X.env (eval e X.env) = eval e X.env := by rfl) :
    PE (X.suite a ((a, oe) :: pn)) (.Attribute e "number" pos) (tNum C a cls d te) := by
  refine ⟨fun pins s σ H Q I h => ?_⟩
  refine attr_of hb (thn (he.run pins s σ H _ I h) fun u s1 hh => ?_)
  obtain ⟨x, H1, I1, rx, ex, ec, dd, v, ed, ea, q⟩ := hh
  subst ex
  obtain rfl : u = Value.ref a := rx
  subst ec
  subst ed
  obtain ⟨ha, _⟩ := I1.pin (a, oe) (List.mem_append_left _ List.mem_cons_self)
  obtain ⟨vs, hd⟩ := hf
  have hx : ObjOk X.prog X.w H1 s1.heap dd (.xd [(("number" : Str), v)]) := I1.hok dd _ ea
  obtain ⟨mA, hns, hr⟩ := hx
  obtain ⟨od, ho, hl⟩ := lookIn_ns hns
  have l : List.lookup ("number" : Str) [(("number" : Str), v)] = some v := by simp [List.lookup]
  obtain ⟨u, hu, ru⟩ := RelO.some_of (v := v) (o := mA "number") (by rw [← l]; exact hr "number")
  have J : PySem.W.InstAt s1.heap a oe C (some od) := ⟨ha, hz.1, by unfold PySem.W.notCls; rw [hd] <;> rfl, by rw [hz.2]; exact ho⟩
  exact HandSPX.exc_get I1.kIn J T.ga T.gg T.exC (PySem.W.findObj_own T.hdC T.noN rfl (by rw [hl, hu])) (handed_of ru) ⟨v, H1, I1.tok _, ru, q⟩
end
end L2


namespace Z
open PySem PySem.Spec PyProof.Rows L2
/-- an error in flight: its class is the module's, its dict tells the number -/
def XRof (K : PySem.W.Frag) : XRel := fun x cls d M H => ∃ (C dd : Addr) (v : V) (a : D), PySem.W.nsIn K mainGlobals "InvalidLine" = some (some (.ref C)) ∧ cls = .ref C ∧ d = some dd ∧ x.cls = "InvalidLine" ∧ x.arg = some a ∧ M dd = none ∧ H dd = some (.xd [(("number" : Str), v)]) ∧ Rp K M H a v
/-- the written part has the error's class -/
def HasErr (X : Cx) : Prop := ∃ C fI, PySem.ErrX.ErrTxt X.K X.mg C fI ∧ PySem.W.nsIn X.K mainGlobals "InvalidLine" = some (some (.ref C))
def raise3 (te : T3) (E : X3) : TS3 := fun _ e M => te e M fun d M1 => E ⟨"InvalidLine", some d⟩ M1
section
variable {X : Cx} {K : PySem.W.Frag} {XR : XRel} {M0 : MH} {H0 : Hp} {E3 : X3}
theorem z_rse {a : Expr} {te : T3} {p pos pos2 : Pos} {k : Nat} (hc : X.calm = true) (T : HasErr X) (hx : XR = XRof X.K) (hr : Room k X.A) (ou : Out X XR M0 H0 E3) (hg : Gl X "InvalidLine") (ha : PE X a (LE X.K M0 H0 te))
    (he : starEach (a :: []) X.env = (false, eval a X.env) :: starEach [] X.env) : PS X (.Raise (some (.Call (.Name "InvalidLine" p) [a] [] pos)) none pos2) (LS X.K M0 H0 (raise3 te E3)) := by
  obtain ⟨C, fI, T, hn⟩ := T
  obtain ⟨E, tk, cx⟩ := ou.ex
  refine (ps_raiseErr hc T hr tk (pa_cons ha pa_nil he) hg he rfl).imp fun D σ H ⟨en, M, D3, rs, rm, ev, t, c⟩ => ?_
  refine LE.then rs rm ev t fun d M1 v1 H1 t1 r1 rs1 rm1 ev1 e1 => ?_
  refine ⟨v1, rfl, fun dd hd => ?_⟩
  refine cx _ M1 (upd H1 dd (.xd [(("number" : Str), v1)])) (.ref C) (some dd) t1 ?_ (rm1.new hd) (ev1.trans (Ev.new hd))
  rw [hx]
  exact ⟨C, dd, v1, d, hn, rfl, rfl, rfl, rfl, rm1.free hd, upd_same, Rp.ev (Ev.new hd) _ _ r1⟩
/-- what the clause asks: the pair of a word and the number goes back -/
def excR (D : Ends3) (k : Str) : X3 := fun x M' => x.cls = "InvalidLine" ∧ ∃ a, x.arg = some a ∧ D.rt (.tup [.str k, a]) M'
def tRetNum (C : Addr) (k : Str) (i : Nat) : Addr → Value → Option Addr → TS := fun a cls d => tSeq (tRet (tTup (tCons (tC (.str k)) (tCons (tNum C a cls d (tVar i)) tNil)))) tNext
theorem z_tryR {n : Str} {k : Str} {i : Nat} {body : List Stmt} {np p1 p2 p3 p4 p5 pos pos' : Pos} {j1 : Nat} {kt : Nat} {t : X3 → TS3} (hs : X.stack = X.env :: X.outer) (hf : X.env.frame = some X.env.locals) (hN : X.N.Nodup) (hi : X.N[i]? = some n) (hln : X.env.kindOf n = some .local)
    (T : HasErr X) (hx : XR = XRof X.K) (hg : Gl X "InvalidLine") (hdn : (n == ("__debug__" : Str)) = false ∧ (n == ("__classdict__" : Str)) = false)
    (hb : ∀ (pn : List (Addr × Obj)) (xe : Value → Shared → Prop) (M0 : MH) (H0 : Hp) (E3 : X3), PassesOwn (model X.prog X.w) X.A X.env xe → Out (X.tr pn xe) XR M0 H0 E3 → PSs (X.tr pn xe) body (LS X.K M0 H0 (t E3))) :
    PS X (.Try body [.ExceptHandler (some (.Name "InvalidLine" np)) (some n) [.Return (some (.Tuple [.Constant (.str k) j1 p1, .Attribute (.Name n p2) "number" p3] kt p4)) p5] pos'] [] [] pos) (LS X.K M0 H0 (fun D e M => t (excR D k) D e M)) := by
  obtain ⟨C, fI, T, hn⟩ := T
  refine ⟨fun pins s σ H D I ⟨en, M, D3, rs, rm, ev, tt, c⟩ => ?_⟩
  have hi' : i < X.N.length := (List.getElem?_eq_some_iff.mp hi).1
  have P := ps_try_as (X := X) (x := "InvalidLine") (n := n) (c := .ref C) (i := i) (body := body) (b₀ := .Return (some (.Tuple [.Constant (.str k) j1 p1, .Attribute (.Name n p2) "number" p3] kt p4)) p5) (suite := []) (np := np) (pos := pos) (pos' := pos')
    (tb := fun W D' σ' H' => ∃ M0' H0' E3', CvX X.K XR M0' H0' E3' (fun cls d H => ∀ σ, σ.length = X.N.length → W cls d σ H) ∧ LS X.K M0' H0' (t E3') D' σ' H') (ts := tRetNum C k i) (Wout := fun _ _ _ _ => False)
    hs hf hN hi hln ⟨hg, rfl, .inl T.gC⟩ takes0
    (fun W pn xe tk po => ⟨fun pins s σ H D I ⟨M0', H0', E3', cx, h⟩ => (hb pn xe M0' H0' E3' po ⟨_, fun u s' ⟨a, B, sI, pins, σ, H, cls, d, e, I, nb, up, sky, na, os, ag, w⟩ => tk u s' ⟨a, B, sI, pins, σ, H, cls, d, e, I, nb, up, sky, na, os, ag, w σ I.len⟩, cx⟩).run pins s σ H D I h⟩)
    (fun a oe cls d pn hz hf => pss_cons (ps_ret (pe_tup (pa_cons pe_str (pa_cons (pe_num T hz hf (pe_var hi (.inl hln) hdn.1 hdn.2)) pa_nil rfl) rfl))) pss_nil)
  refine P.run pins s σ H D I ⟨M, H, excR D3 k, ?_, en, M, D3, rs, rm, Ev.refl _ _, tt, c⟩
  intro x M' H' cls d hx' hXR rm' ev' σ' hl
  rw [hx] at hXR
  obtain ⟨C', dd, v, a, hn', rfl, rfl, e1, e2, m0, h0, r⟩ := hXR
  have eC : C' = C := by
    rw [hn] at hn'
    simpa using hn'.symm
  subst eC
  obtain ⟨_, a', ea, q⟩ := hx'
  rw [e2] at ea
  cases ea
  refine ⟨true, T.te, fun _ a0 ha0 => ?_, fun z => by cases z⟩
  refine ⟨.ref a0, ?_, rfl, rfl, dd, v, rfl, h0, ?_⟩
  · rw [List.getElem?_set_self (by rw [hl]; exact hi')]
  · refine ⟨by show 2 ≤ sizeLine; decide, fun p hp => ?_⟩
    exact c.rt (.tup [.str k, a]) M' (.ref p) _ q (Rp.tupNew rm' hp ⟨.str k, [v], rfl, rfl, v, [], rfl, r, rfl⟩) (rm'.new hp) (ev'.trans (Ev.new hp))
end
end Z

/-! Y0: orders of sorted lists. -/
namespace Z
open PySem PySem.Spec PyProof.Rows L2
/-! ### sorted -/
theorem leS_trans (a b c : D) (h1 : leS a b = true) (h2 : leS b c = true) : leS a c = true := by
  unfold leS at *
  rw [Bool.not_eq_true'] at *
  cases q : PySem.W.dataLt (toPy c) (toPy a) with
  | false => rfl
  | true =>
    rcases PyProof.Rows.lex_negTrans (O := PyProof.Rows.itemOrd) _ (PySem.W.keyToks (toPy b)) _ q with z | z
    · exact absurd (h2.symm.trans z) Bool.false_ne_true
    · exact absurd (h1.symm.trans z) Bool.false_ne_true
theorem leS_total (a b : D) : (leS a b || leS b a) = true := by
  unfold leS
  cases q : PySem.W.dataLt (toPy b) (toPy a) with
  | false => rfl
  | true =>
    cases q2 : PySem.W.dataLt (toPy a) (toPy b) with
    | false => rfl
    | true =>
      have := PyProof.Rows.lex_trans _ _ _ q q2
      rw [PyProof.Rows.lex_irrefl] at this
      cases this
theorem sortD_mem {ds : List D} {d : D} : d ∈ sortD ds ↔ d ∈ ds := (List.mergeSort_perm ds leS).mem_iff
theorem sortD_len {ds : List D} : (sortD ds).length = ds.length := (List.mergeSort_perm ds leS).length_eq
theorem sort_asc {ds : List D} (hl : ∀ d ∈ ds, ∀ e ∈ ds, likeD d e = true) (tri : ∀ d ∈ ds, ∀ e ∈ ds, ltD e d = false → ltD d e = false → d = e) (nd : ds.Nodup) : (sortD ds).Pairwise fun x y => ltD x y = true := by
  have h1 : (sortD ds).Pairwise fun x y => leS x y = true := List.pairwise_mergeSort leS_trans leS_total ds
  have h2 : (sortD ds).Nodup := (List.mergeSort_perm ds leS).nodup_iff.mpr nd
  have h3 : (sortD ds).Pairwise fun x y => leS x y = true ∧ x ≠ y := h1.and h2
  refine List.Pairwise.imp_of_mem ?_ h3
  intro x y hx hy ⟨h4, h5⟩
  have mx := sortD_mem.mp hx
  have my := sortD_mem.mp hy
  unfold leS at h4
  rw [lt_py _ _ (hl _ my _ mx), Bool.not_eq_true'] at h4
  cases q : ltD x y with
  | true => rfl
  | false => exact absurd (tri x mx y my h4 q) h5
theorem tri_str {x y : Str} (h1 : ltD (.str y) (.str x) = false) (h2 : ltD (.str x) (.str y) = false) : x = y := by
  have h1 : decide (y.cps.toList < x.cps.toList) = false := h1
  have h2 : decide (x.cps.toList < y.cps.toList) = false := h2
  have h1 := of_decide_eq_false h1
  have h2 := of_decide_eq_false h2
  have := List.le_antisymm (List.not_lt.mp h1) (List.not_lt.mp h2)
  cases x; cases y
  simp only [Str.mk.injEq]
  exact Array.ext' this
end Z

/-! Y1: sets whose members are tuples of ints and texts: what the model asks of a member. -/
namespace KS
open PySem PySem.Spec PyProof.Rows L2
section
variable {P : Program} {w : World} {A : Around} {E : Value → Shared → Prop} {s : Shared}
/-- at a lies the tuple with the members k -/
abbrev Tp (P : Program) (w : World) (h : Heap) (k : List Key) (a : Addr) : Prop := IsTupleKey (mixKind P w) h k a
abbrev hs (P : Program) (w : World) (k : List Key) : Int := tupleKeyHash (mixKind P w) k
def Flat (v : Value) : Prop := (∃ i t, v = .int i t) ∨ ∃ x t, v = .str x t
theorem flat_of {k : List Key} {vs : List Value} (h : ItemsAre (mixKind P w) k vs) : ∀ v ∈ vs, Flat v := by
  induction h with
  | nil => exact fun v hv => absurd hv (by simp)
  | cons h1 _ ih =>
    intro v hv
    rcases List.mem_cons.mp hv with e | hv
    · subst e
      rcases keyIs_shape h1 with ⟨i, t, _, e⟩ | ⟨x, t, _, e⟩
      · exact .inl ⟨i, t, e⟩
      · exact .inr ⟨x, t, e⟩
    · exact ih v hv
theorem cls_flat (n : Nat) {v : Value} (h : Flat v) : ofAClassStatement n v = pure false := by
  rcases h with ⟨i, t, rfl⟩ | ⟨x, t, rfl⟩ <;> cases n <;> rfl
theorem val_flat (n : Nat) {v : Value} (h : Flat v) : hashByValue n v = pure true ∨ hashByValue n v = pure false := by
  rcases h with ⟨i, t, rfl⟩ | ⟨x, t, rfl⟩
  · left; cases n <;> rfl
  · right; cases n <;> rfl
theorem no_class {k : List Key} {b : Addr} {Q : Bool → Shared → Prop} (hk : Tp P w s.heap k b) (q : Q false s) : wpAny (model P w) A (ofAClassStatement 8 (.ref b)) Q E s := by
  have hT := hk.typeIs
  obtain ⟨o, its, n, ho, _, hd, hi⟩ := hk
  have fl := flat_of hi
  have tt : (("tuple" : String) == "tuple") = true := by decide
  unfold ofAClassStatement
  refine wpAny_bind (wpAny_typeOf hT ?_)
  simp only [tt, if_true, Bool.not_true, Bool.false_eq_true, if_false]
  show wpAny _ _ (seqItems? (.ref b) >>= _) _ _ s
  refine wpAny_bind (wpAny_seqItems ho hd ?_)
  dsimp only
  refine wpAny_bind (m := forIn its _ _) ?_
  rw [← Array.forIn_toList]
  refine wpAny_forIn_list _ (fun left r s1 => (r.1 = none ∧ s1 = s) ∧ ∀ v ∈ left, Flat v) _ (fun v left r s1 hr => ?_) (fun r s1 hr => ?_) _ _ ⟨⟨rfl, rfl⟩, fl⟩
  · obtain ⟨⟨e, rfl⟩, all⟩ := hr
    rw [cls_flat _ (all v (by simp))]
    refine wpAny_bind (wpAny_pure ?_)
    simp only [Bool.false_eq_true, if_false]
    exact wpAny_pure ⟨⟨rfl, rfl⟩, fun u hu => all u (List.mem_cons_of_mem _ hu)⟩
  · obtain ⟨r1, r2⟩ := r
    obtain ⟨⟨e, rfl⟩, _⟩ := hr
    dsimp only at e
    subst e
    exact wpAny_pure q
theorem by_value {k : List Key} {b : Addr} {Q : Bool → Shared → Prop} (hk : Tp P w s.heap k b) (q : ∀ v, Q v s) : wpAny (model P w) A (hashByValue 8 (.ref b)) Q E s := by
  have hT := hk.typeIs
  obtain ⟨o, its, n, ho, _, hd, hi⟩ := hk
  have fl := flat_of hi
  unfold hashByValue
  refine wpAny_bind (wpAny_specialOf hT F.slot_tuple_hash.lookup ?_)
  show wpAny _ _ (seqItems? (.ref b) >>= _) _ _ s
  refine wpAny_bind (wpAny_seqItems ho hd ?_)
  refine wpAny_bind (m := forIn its _ _) ?_
  rw [← Array.forIn_toList]
  refine wpAny_forIn_list _ (fun left r s1 => ((r.1 = none ∨ ∃ z, r.1 = some z) ∧ s1 = s) ∧ ∀ v ∈ left, Flat v) _ (fun v left r s1 hr => ?_) (fun r s1 hr => ?_) _ _ ⟨⟨.inl rfl, rfl⟩, fl⟩
  · obtain ⟨⟨e, rfl⟩, all⟩ := hr
    rcases val_flat 7 (all v (by simp)) with z | z
    · rw [z]
      refine wpAny_bind (wpAny_pure ?_)
      simp only [Bool.not_true, Bool.false_eq_true, if_false]
      exact wpAny_pure ⟨⟨.inl rfl, rfl⟩, fun u hu => all u (List.mem_cons_of_mem _ hu)⟩
    · rw [z]
      refine wpAny_bind (wpAny_pure ?_)
      simp only [Bool.not_false, if_true]
      exact wpAny_pure (wpAny_pure (q _))
  · obtain ⟨r1, r2⟩ := r
    obtain ⟨⟨e, rfl⟩, _⟩ := hr
    dsimp only at e
    rcases e with e | ⟨z, e⟩ <;> subst e
    · exact wpAny_pure (q _)
    · exact wpAny_pure (q _)
def AllTp (P : Program) (w : World) (h : Heap) (ys : List Value) : Prop := ∀ y ∈ ys, ∃ k c, y = .ref c ∧ Tp P w h k c
/-- the search for a tuple among tuples is not seen -/
theorem unseen {k : List Key} {b : Addr} {ys : List Value} {Q : Bool → Shared → Prop} (hk : Tp P w s.heap k b) (hy : AllTp P w s.heap ys) (q : Q false s) : wpAny (model P w) A (searchCouldBeSeen (.ref b) ys) Q E s := by
  unfold searchCouldBeSeen
  refine wpAny_bind ?_
  refine wpAny_forIn_list _ (fun left r s1 => (r.1 = none ∧ s1 = s) ∧ AllTp P w s.heap left) _ (fun v left r s1 hr => ?_) (fun r s1 hr => ?_) _ _ ⟨⟨rfl, rfl⟩, hy⟩
  · obtain ⟨⟨e, rfl⟩, all⟩ := hr
    obtain ⟨k2, c, rfl, hc⟩ := all v (by simp)
    have later : AllTp P w s1.heap left := fun u hu => all u (List.mem_cons_of_mem _ hu)
    dsimp only
    by_cases z : (b == c || (carriedByValue (.ref b) && carriedByValue (.ref c))) = true
    · exact wp_if_pos z (wpAny_pure ⟨⟨rfl, rfl⟩, later⟩)
    · refine wp_if_neg z (wpAny_bind (wpAny_eqIsQuiet_tuple hk ?_))
      simp only [Bool.not_true, Bool.false_eq_true, if_false]
      refine wpAny_bind (wpAny_eqIsQuiet_tuple hc ?_)
      simp only [Bool.not_true, Bool.false_eq_true, if_false]
      refine wpAny_bind (no_class hk ?_)
      simp only [Bool.false_eq_true, if_false]
      refine wpAny_bind (no_class hc ?_)
      simp only [Bool.false_eq_true, if_false]
      exact wpAny_pure ⟨⟨rfl, rfl⟩, later⟩
  · obtain ⟨r1, r2⟩ := r
    obtain ⟨⟨e, rfl⟩, _⟩ := hr
    dsimp only at e
    subst e
    exact wpAny_pure q
end
end KS

/-! Y2: such a set's state, the search in it. -/
namespace KS
open PySem PySem.Spec PyProof.Rows L2
abbrev Rw := Addr × List Key
section
variable {P : Program} {w : World} {A : Around} {E : Value → Shared → Prop} {s : Shared}
def entR (P : Program) (w : World) (p : Rw) : Int × Value := (hs P w p.2, .ref p.1)
structure KSet (P : Program) (w : World) (h : Heap) (a : Addr) (L : List Rw) (es : Array (Int × Value)) (ep : Nat) (t : SetTable) : Prop where
  at_ : ∃ o, h.get? a = some o ∧ o.ExactSet ∧ o.data = .set es ep t
  ents : es.toList = L.map (entR P w)
  tab : TabOk t (L.map fun p => hs P w p.2)
  uniq : (L.map (·.2)).Nodup
  mem : ∀ p ∈ L, Tp P w h p.2 p.1
  led : w.params.followText "set-order" = true ∨ t.led = true
  room : L.length * 5 < t.mask * 3
  few : L.length < 64
variable {a : Addr} {L : List Rw} {es : Array (Int × Value)} {ep : Nat} {t : SetTable}
theorem KSet.size (k : KSet P w s.heap a L es ep t) : es.size = L.length := by
  rw [← Array.length_toList, k.ents, List.length_map]
theorem KSet.places (k : KSet P w s.heap a L es ep t) : t.place.size = L.length := by
  rw [k.tab.sz, List.length_map]
theorem KSet.fits (k : KSet P w s.heap a L es ep t) : t.fits es.size = true := by
  have h1 := k.size
  have h2 := k.places
  have h3 := k.room
  unfold SetTable.fits SetTable.fill
  rw [k.tab.dm, Bool.and_eq_true, beq_iff_eq, decide_eq_true_eq]
  exact ⟨by omega, by show t.place.size + 0 ≤ t.mask; omega⟩
theorem KSet.ent (k : KSet P w s.heap a L es ep t) {i : Nat} {p : Rw} (h : L[i]? = some p) : es[i]? = some (entR P w p) := by
  rw [← Array.getElem?_toList, k.ents, List.getElem?_map, h]; rfl
theorem KSet.whole (k : KSet P w s.heap a L es ep t) : ¬ t.gaveWay = true := by
  unfold SetTable.gaveWay
  rw [mask_odd k.tab.mok]; decide
/-- the c-th probe of the way of a hash -/
def prb (t : SetTable) (h : Int) (c : Nat) : SetTable.Probe := nth t.mask (runAt t.mask (SetTable.bits h % (t.mask + 1)) (SetTable.bits h)) c
theorem prb_j (t : SetTable) (h : Int) (c : Nat) : (prb t h c).j = way t.mask h c := rfl
theorem prb_add (t : SetTable) (h : Int) (c q : Nat) : nth t.mask (prb t h c) q = prb t h (c + q) := (nth_add t.mask c _ q).symm
theorem nth_dummy (m : Nat) : ∀ (n : Nat) (p : SetTable.Probe), p.dummy = none → (nth m p n).dummy = none
  | 0, _, h => h
  | n + 1, p, h => nth_dummy m n (adv m p) (by unfold adv; split <;> exact h)
theorem prb_dummy (t : SetTable) (h : Int) (c : Nat) : (prb t h c).dummy = none := nth_dummy _ _ _ rfl
/-- where the way of a hash ends -/
structure Ends (t : SetTable) (h : Int) (K : Nat) : Prop where
  lt : K < 10 * SetTable.turns t.mask
  out : way t.mask h K ∉ t.place.toList
  ins : ∀ c, c < K → way t.mask h c ∈ t.place.toList
/-- what is met from the c-th probe on -/
theorem met (k : KSet P w s.heap a L es ep t) {h : Int} {K c : Nat} (e : Ends t h K) (hc : c ≤ K) :
    (∃ (q : Nat) (p : Rw) (i : Nat), c + q < K ∧ L[i]? = some p ∧ hs P w p.2 = h ∧ t.place.toList[i]? = some (way t.mask h (c + q)) ∧
      (∀ (c' i' : Nat) (p' : Rw), c ≤ c' → c' < c + q → L[i']? = some p' → t.place.toList[i']? = some (way t.mask h c') → hs P w p'.2 ≠ h) ∧
      t.probe (fun i => (es[i]?.map (·.1)).getD 0) h (prb t h c) = some (.candidate (way t.mask h (c + q)) i (prb t h (c + q + 1)))) ∨
    ((∀ (c' i' : Nat) (p' : Rw), c ≤ c' → c' < K → L[i']? = some p' → t.place.toList[i']? = some (way t.mask h c') → hs P w p'.2 ≠ h) ∧
      t.probe (fun i => (es[i]?.map (·.1)).getD 0) h (prb t h c) = some (.empty (way t.mask h K) none)) := by
  have ha : ∀ {i : Nat} {p : Rw}, L[i]? = some p → ((fun i => (es[i]?.map (·.1)).getD 0) i : Int) = hs P w p.2 := fun {i p} hp => by
    show (es[i]?.map (·.1)).getD 0 = _
    rw [k.ent hp]; rfl
  have j : ∀ q, (nth t.mask (prb t h c) q).j = way t.mask h (c + q) := fun q => by rw [prb_add]; rfl
  rcases go_spec t k.tab.ris k.tab.dm (fun i => (es[i]?.map (·.1)).getD 0) h (10 * SetTable.turns t.mask) (K - c) (prb t h c) (prb_dummy t h c) (by have := e.lt; omega)
    (fun q hq => by rw [j]; exact e.ins _ (by omega)) (by rw [j, show c + (K - c) = K by omega]; exact e.out) with ⟨q, i, h1, h2, h3, h4, h5⟩ | ⟨h4, h5⟩
  · left
    rw [j] at h2 h5
    have hi : i < L.length := by
      have := (List.getElem?_eq_some_iff.mp h2).1
      rw [Array.length_toList, k.places] at this
      exact this
    have hp : L[i]? = some L[i] := List.getElem?_eq_getElem hi
    refine ⟨q, L[i], i, by omega, hp, (ha hp).symm.trans h3, h2, fun c' i' p' g1 g2 g3 g4 g5 => ?_, ?_⟩
    · exact h4 (c' - c) i' (by omega) (by rw [j, show c + (c' - c) = c' by omega]; exact g4) ((ha g3).trans g5)
    · rw [prb_add] at h5
      exact h5
  · right
    rw [j, show c + (K - c) = K by omega] at h5
    exact ⟨fun c' i' p' g1 g2 g3 g4 g5 => h4 (c' - c) i' (by omega) (by rw [j, show c + (c' - c) = c' by omega]; exact g4) ((ha g3).trans g5), h5⟩
/-- who has the key stands from the c-th probe on -/
def Ahead (t : SetTable) (L : List Rw) (h : Int) (key : List Key) (K c : Nat) : Prop := ∀ (i : Nat) (p : Rw), L[i]? = some p → p.2 = key → ∃ c', c ≤ c' ∧ c' < K ∧ t.place.toList[i]? = some (way t.mask h c')
theorem find (k : KSet P w s.heap a L es ep t) {x : Addr} {key : List Key} (hx : Tp P w s.heap key x) (hu : A.units < cLine) {K : Nat} (e : Ends t (hs P w key) K) {Q : SetFound → Shared → Prop}
    (yes : key ∈ L.map (·.2) → Q (.there none) s) (no : key ∉ L.map (·.2) → Q (.free (way t.mask (hs P w key) K) false) s) :
    ∀ (f c : Nat) (st : Option SetTable.Probe), st.getD (t.probeStart (hs P w key)) = prb t (hs P w key) c → c ≤ K → K - c < f → Ahead t L (hs P w key) key K c →
      wpAny (model P w) A (setSearchFrom a (.ref x) (hs P w key) true f st) Q E s
  | 0, _, _, _, _, h, _ => absurd h (Nat.not_lt_zero _)
  | f + 1, c, st, hst, hc, hf, ah => by
    obtain ⟨o, ho, hex, hd⟩ := k.at_
    rw [setSearchFrom_succ]
    refine wpAny_bind (wpAny_setState_of ho hd k.fits ?_)
    dsimp only
    refine wp_if_neg k.whole ?_
    try refine wpAny_bind (wpAny_pure ?_)
    rw [hst]
    rcases met k e hc with ⟨q, p, i, m1, m2, m3, m4, m5, m6⟩ | ⟨m5, m6⟩
    · rw [m6]
      dsimp only
      have pm : p ∈ L := List.mem_of_getElem? m2
      have pt := k.mem p pm
      have go : wpAny (model P w) A (searchRest a (.ref x) (hs P w key) true f es t (way t.mask (hs P w key) (c + q)) i (prb t (hs P w key) (c + q + 1))) Q E s := by
        unfold searchRest
        rw [k.ent m2]
        dsimp only [entR]
        refine wpAny_bind (wpAny_holding (wpAny_eqBool_tuple hu pt hx ?_))
        refine wpAny_bind (wpAny_setState_of ho hd k.fits ?_)
        dsimp only
        by_cases hk : p.2 = key
        · exact wp_if_pos (by simp [hk]) (wpAny_pure (yes (List.mem_map.mpr ⟨p, pm, hk⟩)))
        · refine wp_if_neg (by simp [hk]) ?_
          try refine wpAny_bind (wpAny_pure ?_)
          have sl : t.slot (way t.mask (hs P w key) (c + q)) = .live i := slot_live k.tab.ris m4
          rw [sameMem]
          simp only [if_true, sl, k.ent m2, entR]
          refine wpAny_bind (wpAny_isSame_ref_self (wpAny_bind (wpAny_pure ?_)))
          simp only [if_true]
          refine wp_if_neg (by simp [hk]) (find k hx hu e yes no f (c + q + 1) _ rfl (by omega) (by omega) fun i0 p0 g1 g2 => ?_)
          obtain ⟨c', z1, z2, z3⟩ := ah i0 p0 g1 g2
          refine ⟨c', ?_, z2, z3⟩
          rcases Nat.lt_trichotomy c' (c + q) with y | y | y
          · exact absurd (by rw [g2]) (m5 c' i0 p0 z1 y g1 z3)
          · exfalso
            rw [y] at z3
            have s2 := slot_live k.tab.ris z3
            rw [sl] at s2
            cases s2
            rw [m2] at g1
            cases g1
            exact hk g2
          · omega
      by_cases hl : t.led = true
      · refine wp_if_neg (by simp [hl]) ?_
        try refine wpAny_bind (wpAny_pure ?_)
        exact go
      · refine wp_if_pos (by simp [hl]) (wpAny_bind (unseen hx (fun y hy => ?_) ?_))
        · obtain ⟨z, hz, rfl⟩ := List.mem_map.mp hy
          have hz : z ∈ es.toList := by
            have : z ∈ es ∧ z.1 = hs P w key := by simpa using hz
            simpa using this.1
          rw [k.ents] at hz
          obtain ⟨p2, hp2, rfl⟩ := List.mem_map.mp hz
          exact ⟨p2.2, p2.1, rfl, k.mem p2 hp2⟩
        · refine wp_if_neg (by decide) ?_
          try refine wpAny_bind (wpAny_pure ?_)
          exact go
    · rw [m6]
      dsimp only
      refine wpAny_pure (no fun hm => ?_)
      obtain ⟨p0, h0, rfl⟩ := List.mem_map.mp hm
      obtain ⟨i0, hi0, e0⟩ := List.getElem_of_mem h0
      have g1 : L[i0]? = some p0 := by rw [List.getElem?_eq_getElem hi0, e0]
      obtain ⟨c', z1, z2, z3⟩ := ah i0 p0 g1 rfl
      exact m5 c' i0 p0 z1 z2 g1 z3 rfl
theorem search (k : KSet P w s.heap a L es ep t) {x : Addr} {key : List Key} (hx : Tp P w s.heap key x) (hu : A.units < cLine) {Q : SetFound → Shared → Prop}
    (yes : key ∈ L.map (·.2) → Q (.there none) s) (no : ∀ K, Ends t (hs P w key) K → key ∉ L.map (·.2) → Q (.free (way t.mask (hs P w key) K) false) s) :
    wpAny (model P w) A (setSearch a (.ref x) (hs P w key) true) Q E s := by
  obtain ⟨K, e1, e2, e3⟩ := k.tab.first (by have := k.room; rw [List.length_map]; omega) (hs P w key)
  have e : Ends t (hs P w key) K := ⟨e1, e2, e3⟩
  have big : K < 100000 := by
    unfold SetTable.turns at e1
    rcases k.tab.mok with z | z | z <;> omega
  unfold setSearch
  refine find k hx hu e yes (no K e) 100000 0 none rfl (Nat.zero_le _) (by omega) fun i p g1 g2 => ?_
  have gh : (L.map fun p => hs P w p.2)[i]? = some (hs P w key) := by rw [List.getElem?_map, g1, ← g2]; rfl
  have il : i < t.place.toList.length := by
    rw [Array.length_toList, k.places]
    exact (List.getElem?_eq_some_iff.mp g1).1
  have gj := List.getElem?_eq_getElem il
  obtain ⟨c, hc, ec⟩ := k.tab.before e2 gh gj
  exact ⟨c, Nat.zero_le _, hc, by rw [gj, ec]⟩
end
end KS

/-! Y3: adding to such a set. -/
namespace KS
open PySem PySem.Spec PyProof.Rows L2
section
variable {P : Program} {w : World} {A : Around} {E : Value → Shared → Prop} {s : Shared}
theorem Tp.other {h h' : Heap} {k : List Key} {a b : Addr} {o : Obj} {es : Array (Int × Value)} {ep : Nat} {t : SetTable} (hb : Tp P w h k b) (ho : h.get? a = some o) (hd : o.data = .set es ep t) (hs : Heap.SameBut a h h') : Tp P w h' k b := by
  obtain ⟨o2, its, n, ho2, hc, hd2, hi⟩ := hb
  have ne : b ≠ a := fun z => by
    rw [z, ho] at ho2
    cases ho2
    rw [hd] at hd2; cases hd2
  exact ⟨o2, its, n, (hs.2 b ne).trans ho2, hc, hd2, hi⟩
theorem Tp.kept {h h' : Heap} {k : List Key} {b : Addr} (x : Tp P w h k b) (hk : ∀ c o, h.get? c = some o → h'.get? c = some o) : Tp P w h' k b := by
  obtain ⟨o, its, n, ho, r⟩ := x
  exact ⟨o, its, n, hk b o ho, r⟩
theorem range_pick {α : Type} : ∀ (B Z : List α), (List.range' Z.length B.length).filterMap (fun i => (Z ++ B)[i]?) = B
  | [], Z => by simp
  | b :: B, Z => by
    have ih := range_pick B (Z ++ [b])
    rw [List.length_append, List.length_singleton, List.append_assoc] at ih
    have e : (Z ++ b :: B)[Z.length]? = some b := by rw [List.getElem?_append_right (Nat.le_refl _), Nat.sub_self]; rfl
    rw [List.length_cons, List.range'_succ, List.filterMap_cons_some e]
    congr 1
theorem all_pick {α : Type} (L : List α) : (List.range L.length).filterMap (fun i => L[i]?) = L := by
  have := range_pick L []
  rw [List.range_eq_range']
  exact this
theorem reorder (L : List Rw) (es : Array (Int × Value)) (order : Array Nat) (hr : es.toList = L.map (entR P w)) (hp : order.toList.Perm (List.range L.length)) :
    ∃ L2 : List Rw, (order.filterMap (es[·]?)).toList = L2.map (entR P w) ∧ L2.Perm L ∧ (L2.map fun p => hs P w p.2) = order.toList.map fun i => (es.map (·.1)).getD i 0 := by
  have ent : ∀ i, es[i]? = (L[i]?).map (entR P w) := fun i => by rw [← Array.getElem?_toList, hr, List.getElem?_map]
  refine ⟨order.toList.filterMap fun i => L[i]?, ?_, ?_, ?_⟩
  · rw [Array.toList_filterMap, List.map_filterMap]
    congr 1
    funext i
    exact ent i
  · have := hp.filterMap fun i => L[i]?
    rw [all_pick] at this
    exact this
  · have small : ∀ i ∈ order.toList, i < L.length := fun i hi => List.mem_range.mp (hp.mem_iff.mp hi)
    generalize order.toList = l at small
    clear hp
    induction l with
    | nil => rfl
    | cons i l ih =>
      have hi := small i (by simp)
      have e : L[i]? = some L[i] := List.getElem?_eq_getElem hi
      rw [List.filterMap_cons_some e, List.map_cons, List.map_cons, ih fun j hj => small j (List.mem_cons_of_mem _ hj)]
      congr 1
      have : (es.map (·.1))[i]? = some (hs P w L[i].2) := by rw [Array.getElem?_map, ent, e]; rfl
      simp [Array.getD_eq_getD_getElem?, this]
variable {a : Addr} {L : List Rw} {es : Array (Int × Value)} {ep : Nat} {t : SetTable}
theorem relay {o : Obj} (ho : s.heap.get? a = some o) (hex : o.ExactSet) (hd : o.data = .set es ep t) (he : es.toList = L.map (entR P w)) (T : TabOk t (L.map fun p => hs P w p.2)) (hfl : L.length ≤ t.mask)
    (nd : (L.map (·.2)).Nodup) (tp : ∀ p ∈ L, Tp P w s.heap p.2 p.1) (ld : w.params.followText "set-order" = true ∨ t.led = true) (few : L.length < 64) {wanted M : Nat}
    (hw : SetTable.sizeAbove wanted - 1 = M) (hM : MaskOk M) (hw2 : SetTable.sizeAbove wanted ≤ 128) (hn : L.length * 5 < M * 3) {Q : Unit → Shared → Prop}
    (hQ : ∀ h' (L' : List Rw) es' ep' t', Heap.SameBut a s.heap h' → KSet P w h' a L' es' ep' t' → L'.Perm L → Q () { s with heap := h' }) : wpAny (model P w) A (setRelay a wanted) Q E s := by
  have sz : es.size = L.length := by rw [← Array.length_toList, he, List.length_map]
  have pz : t.place.size = L.length := by rw [T.sz, List.length_map]
  have ft : t.fits es.size = true := by
    unfold SetTable.fits SetTable.fill
    rw [T.dm, Bool.and_eq_true, beq_iff_eq, decide_eq_true_eq]
    exact ⟨by omega, by show t.place.size + 0 ≤ t.mask; omega⟩
  obtain ⟨t', order, r1, r2, r3, r4, r5, r6, r7⟩ := relaid_ok t (hs := es.map (·.1)) (wanted := wanted) hw hM (by rw [Array.size_map, sz]; omega)
  rw [Array.size_map, sz] at r2
  obtain ⟨L2, q1, q2, q3⟩ := reorder L es order he r2
  rw [← q3] at r3
  have z2 : (order.filterMap (es[·]?)).size = es.size := by rw [← Array.length_toList, q1, List.length_map, q2.length_eq, sz]
  have z64 : es.size ≤ sizeLine := by rw [sz]; exact Nat.le_trans (Nat.le_of_lt few) (by decide)
  rw [setRelay_eq]
  refine wpAny_bind (wpAny_setState_of ho hd ft ?_)
  dsimp only
  refine wp_if_neg (fun z => absurd (Nat.le_trans hw2 (show 128 ≤ sizeLine by decide)) (Nat.not_le.mpr z)) ?_
  try refine wpAny_bind (wpAny_pure ?_)
  rw [r1]
  dsimp only
  refine wpAny_bind (wp_if_neg (by rw [z2]; simp) ?_)
  try refine wpAny_bind (wpAny_pure ?_)
  refine wpAny_pure ?_
  dsimp only
  refine wpAny_storeSet_of ho hd ?_ (by rw [z2]; exact z64)
  have sb : Heap.SameBut a s.heap (s.heap.update a (Obj.putSet (order.filterMap (es[·]?)) t')) := Heap.SameBut.update ..
  exact hQ _ L2 _ (ep + 1) t' sb ⟨⟨_, store_at ho hd, ⟨hex.1, hex.2.1, hex.2.2⟩, rfl⟩, q1, r3, (q2.map (·.2)).nodup_iff.mpr nd, fun p hp => (tp p (q2.mem_iff.mp hp)).other ho hd sb, by rw [r5]; exact ld, by rw [q2.length_eq, r4]; exact hn, by rw [q2.length_eq]; exact few⟩ q2
theorem TabOk.pl {t : SetTable} {hs : List Int} (T : TabOk t hs) (b : Bool) : TabOk { t with plain := b } hs := ⟨T.ris, T.dm, T.sz, T.mok, T.bd, T.reach⟩
/-- a table whose mark may have gone -/
def mark (b : Bool) (t : SetTable) : SetTable := if b then t else { t with plain := false }
theorem mark_tab {b : Bool} {t : SetTable} {hs : List Int} (T : TabOk t hs) : TabOk (mark b t) hs := by
  unfold mark
  cases b
  · exact TabOk.pl T false
  · exact T
theorem mark_mask {b : Bool} {t : SetTable} : (mark b t).mask = t.mask := by cases b <;> rfl
theorem mark_led {b : Bool} {t : SetTable} : (mark b t).led = t.led := by cases b <;> rfl
theorem mark_fill {b : Bool} {t : SetTable} : (mark b t).fill = t.fill := by cases b <;> rfl
theorem add (k : KSet P w s.heap a L es ep t) {x : Addr} {key : List Key} (hx : Tp P w s.heap key x) (hu : A.units < cLine) (hfew : L.length + 1 < 64) {Q : Bool → Shared → Prop}
    (hQ : ∀ b h' (L' : List Rw) es' ep' t', Heap.SameBut a s.heap h' → KSet P w h' a L' es' ep' t' → (key ∈ L.map (·.2) → L' = L) → (key ∉ L.map (·.2) → L'.Perm ((x, key) :: L)) → Q b { s with heap := h' }) :
    wpAny (model P w) A (setAddHashed a (.ref x) (hs P w key)) Q E s := by
  obtain ⟨o, ho, hex, hd⟩ := k.at_
  have sz := k.size
  have rm := k.room
  unfold setAddHashed
  refine wpAny_holding ?_
  rw [show (100000 : Nat) = 99999 + 1 from rfl, setAddHashedIn_succ]
  refine wpAny_bind (wpAny_setState_of ho hd k.fits ?_)
  dsimp only
  refine wp_if_neg (by simp [byScan, Value.scannable]) ?_
  try refine wpAny_bind (wpAny_pure ?_)
  refine wpAny_bind (search k hx hu (fun hm => ?_) fun K e hm => ?_)
  · exact wpAny_pure (hQ false s.heap L es ep t (Heap.SameBut.refl a s.heap) k (fun _ => rfl) fun z => absurd hm z)
  · dsimp only
    refine wpAny_bind (wpAny_setState_of ho hd k.fits ?_)
    dsimp only
    obtain ⟨q1, q2, q3, q4, q5, q6, q7, q8, q9⟩ := k.tab.put e.out e.ins
    generalize hj : way t.mask (hs P w key) K = j at q1 q2 q3 q4 q5 q6 q7 q8 q9 ⊢
    generalize hput : t.put j = pt at q1 q3 q4 q5 q6 q7 q8 q9 ⊢
    obtain ⟨t1, pos⟩ := pt
    dsimp only at q1 q3 q4 q5 q6 q7 q8 q9 ⊢
    subst q1
    have e1 : (SetTable.insertAt es (SetTable.below t.place j) (hs P w key, Value.ref x)).toList = (L.take (SetTable.below t.place j) ++ (x, key) :: L.drop (SetTable.below t.place j)).map (entR P w) := by
      rw [SetTable.toList_insertAt, k.ents, List.map_append, List.map_cons, List.map_take, List.map_drop]; rfl
    generalize SetTable.below t.place j = pos at q2 q3 e1 ⊢
    have pm := put_perm L pos (x, key)
    have hh : (L.take pos ++ (x, key) :: L.drop pos).map (fun p => hs P w p.2) = (L.map fun p => hs P w p.2).take pos ++ hs P w key :: (L.map fun p => hs P w p.2).drop pos := by
      rw [List.map_append, List.map_cons, List.map_take, List.map_drop]
    rw [← hh] at q3
    generalize L.take pos ++ (x, key) :: L.drop pos = L1 at pm q3 e1
    have len1 : L1.length = L.length + 1 := pm.length_eq
    have nd1 : (L1.map (·.2)).Nodup := (pm.map (·.2)).nodup_iff.mpr (by rw [List.map_cons]; exact List.nodup_cons.mpr ⟨hm, k.uniq⟩)
    generalize SetTable.insertAt es pos (hs P w key, Value.ref x) = es1 at e1 ⊢
    have s1 : es1.size = L.length + 1 := by rw [← Array.length_toList, e1, List.length_map, len1]
    -- what is left, for either mark
    have rest : ∀ b : Bool, wpAny (model P w) A (do
        storeSet a es1 (mark b t1)
        if (!false && (mark b t1).tooFull) = true then setRelay a (SetTable.grown (es.size + 1))
        return true) Q E s := by
      intro b
      have T2 := mark_tab (b := b) q3
      have hm2 : (mark b t1).mask = t.mask := mark_mask.trans q4
      have hl2 : (mark b t1).led = t.led := mark_led.trans q5
      have hf2 : (mark b t1).fill = L.length + 1 := by rw [mark_fill, q9, List.length_map]
      generalize mark b t1 = t2 at T2 hm2 hl2 hf2 ⊢
      refine wpAny_bind (wpAny_storeSet_of ho hd ?_ (by rw [s1]; exact Nat.le_trans (Nat.le_of_lt hfew) (by decide)))
      have sb : Heap.SameBut a s.heap (s.heap.update a (Obj.putSet es1 t2)) := Heap.SameBut.update ..
      have ho1 := store_at (es' := es1) (t' := t2) ho hd
      generalize s.heap.update a (Obj.putSet es1 t2) = h1 at sb ho1 ⊢
      have tp1 : ∀ p ∈ L1, Tp P w h1 p.2 p.1 := fun p hp => by
        rcases List.mem_cons.mp (pm.mem_iff.mp hp) with z | hp
        · rw [z]; exact hx.other ho hd sb
        · exact (k.mem p hp).other ho hd sb
      have ld1 : w.params.followText "set-order" = true ∨ t2.led = true := by rw [hl2]; exact k.led
      by_cases hf : t2.tooFull = true
      · have full : (L.length + 1) * 5 ≥ t2.mask * 3 := by
          have := hf
          unfold SetTable.tooFull at this
          rw [decide_eq_true_eq, hf2] at this
          exact this
        have go : ∀ M, SetTable.sizeAbove (SetTable.grown (L.length + 1)) - 1 = M → MaskOk M → SetTable.sizeAbove (SetTable.grown (L.length + 1)) ≤ 128 → (L.length + 1) * 5 < M * 3 → L.length + 1 ≤ t2.mask →
            wpAny (model P w) A (setRelay a (SetTable.grown (L.length + 1))) (fun _ s' => wpAny (model P w) A (pure true) Q E s') E { s with heap := h1 } := fun M g1 g2 g3 g4 g5 => by
          refine relay (s := { s with heap := h1 }) (L := L1) ho1 ⟨hex.1, hex.2.1, hex.2.2⟩ rfl e1 T2 (by rw [len1]; exact g5) nd1 tp1 ld1 (by rw [len1]; exact hfew) g1 g2 g3 (by rw [len1]; exact g4) ?_
          intro h2 L2 es2 ep2 t3 sb2 R2 pm2
          exact wpAny_pure (hQ true h2 L2 es2 ep2 t3 (sb.trans sb2) R2 (fun z => absurd z hm) fun _ => pm2.trans pm)
        rw [sz]
        have fin : wpAny (model P w) A (setRelay a (SetTable.grown (L.length + 1))) (fun _ s' => wpAny (model P w) A (pure true) Q E s') E { s with heap := h1 } := by
          rw [hm2] at full
          rcases k.tab.mok with z | z | z
          · have : L.length = 4 := by rw [z] at full rm; omega
            exact go 31 (by rw [this, size_20]) (.inr (.inl rfl)) (by rw [this, size_20]; decide) (by omega) (by omega)
          · have : L.length = 18 := by rw [z] at full rm; omega
            exact go 127 (by rw [this, size_76]) (.inr (.inr rfl)) (by rw [this, size_76]; decide) (by omega) (by omega)
          · exfalso; rw [z] at full; omega
        first
          | (refine wpAny_bind ?_; exact wp_if_pos (by simp [hf]) fin)
          | (refine wp_if_pos (by simp [hf]) ?_; exact wpAny_bind fin)
      · have nf : (L.length + 1) * 5 < t2.mask * 3 := by
          have := hf
          unfold SetTable.tooFull at this
          rw [decide_eq_true_eq, hf2] at this
          omega
        have fin : wpAny (model P w) A (pure true) Q E { s with heap := h1 } := wpAny_pure (hQ true h1 L1 es1 (ep + 1) t2 sb ⟨⟨_, ho1, ⟨hex.1, hex.2.1, hex.2.2⟩, rfl⟩, e1, T2, nd1, tp1, ld1, by rw [len1]; exact nf, by rw [len1]; exact hfew⟩ (fun z => absurd z hm) fun _ => pm)
        first
          | exact wp_if_neg (by simp [hf]) fin
          | (refine wpAny_bind ?_; exact wp_if_neg (by simp [hf]) (wpAny_pure fin))
    by_cases hp : t1.plain = true
    · first
        | (refine wpAny_bind ?_; refine wp_if_pos hp ?_; exact by_value hx fun b => rest b)
        | exact wp_if_pos hp (wpAny_bind (by_value hx fun b => rest b))
    · first
        | (refine wpAny_bind ?_; refine wp_if_neg hp ?_; exact wpAny_pure (rest true))
        | exact wp_if_neg hp (wpAny_bind (wpAny_pure (rest true)))
end
end KS

/-! Y4: set(a list of such tuples). -/
namespace KS
open PySem PySem.Spec PyProof.Rows L2
/-- L holds just the keys of ks, each with a row of ks -/
structure Has (ks L : List Rw) : Prop where
  sub : ∀ p ∈ L, p ∈ ks
  all : ∀ p ∈ ks, p.2 ∈ L.map (·.2)
  len : L.length ≤ ks.length
theorem Has.old {ks L : List Rw} {x : Rw} (g : Has ks L) (h : x.2 ∈ L.map (·.2)) : Has (ks ++ [x]) L :=
  ⟨fun p hp => List.mem_append_left _ (g.sub p hp), fun p hp => by
    rcases List.mem_append.mp hp with z | z
    · exact g.all p z
    · rw [List.mem_singleton.mp z]; exact h, by rw [List.length_append]; exact Nat.le_add_right_of_le g.len⟩
theorem Has.new {ks L L' : List Rw} {x : Rw} (g : Has ks L) (pm : L'.Perm (x :: L)) : Has (ks ++ [x]) L' :=
  ⟨fun p hp => by
    rcases List.mem_cons.mp (pm.mem_iff.mp hp) with z | z
    · rw [z]; simp
    · exact List.mem_append_left _ (g.sub p z), fun p hp => by
    rw [(pm.map (·.2)).mem_iff, List.map_cons]
    rcases List.mem_append.mp hp with z | z
    · exact List.mem_cons_of_mem _ (g.all p z)
    · rw [List.mem_singleton.mp z]; simp, by rw [pm.length_eq, List.length_append, List.length_cons]; exact Nat.succ_le_succ g.len⟩
section
variable {P : Program} {w : World} {A : Around} {E : Value → Shared → Prop} {s : Shared}
theorem KSet.kept {h h' : Heap} {a : Addr} {L : List Rw} {es : Array (Int × Value)} {ep : Nat} {t : SetTable} (k : KSet P w h a L es ep t) (ha : ∀ o, h.get? a = some o → h'.get? a = some o) (ht : ∀ p ∈ L, Tp P w h' p.2 p.1) : KSet P w h' a L es ep t := by
  obtain ⟨o, ho, r⟩ := k.at_
  exact ⟨⟨o, ha o ho, r⟩, k.ents, k.tab, k.uniq, ht, k.led, k.room, k.few⟩
def fresh (w : World) : Obj := { cls := .type "set", dict := none, data := .set #[] 0 (.fresh 0 0 (!w.params.followText "set-order")) }
theorem KSet.fresh {h : Heap} {a : Addr} (ho : h.get? a = some (KS.fresh w)) : KSet P w h a [] #[] 0 (.fresh 0 0 (!w.params.followText "set-order")) where
  at_ := ⟨_, ho, ⟨rfl, rfl, rfl⟩, rfl⟩
  ents := rfl
  tab := ⟨List.Pairwise.nil, rfl, rfl, .inl rfl, fun x hx => (by cases hx), fun i h j hi => (by simp at hi)⟩
  uniq := List.nodup_nil
  mem := fun p hp => (by cases hp)
  led := by
    show _ ∨ (!w.params.followText "set-order") = true
    cases w.params.followText "set-order" <;> simp
  room := by show 0 * 5 < 7 * 3; decide
  few := by show 0 < 64; decide
/-- the items put in, one after the other -/
theorem fill {I : Addr} {fp wr : List Addr} {G : Array GenState → Array GenState → Prop} {n : Nat} {Pv : Nat → Value → Prop} {St : Nat → Shared → Prop} {R : Result → Shared → Prop}
    (W : WalksS P w A.in1 I fp wr G n Pv St) (S : Addr) (hSf : S ∉ fp) (ks : List Rw) (hn : n = ks.length) (hfew : ks.length < 64) (hv : ∀ i v, Pv i v → ∃ p, ks[i]? = some p ∧ v = .ref p.1)
    (h0 : Heap) (hk : ∀ p ∈ ks, Tp P w h0 p.2 p.1) (hS0 : h0.get? S = none) (hw0 : ∀ b ∈ wr, h0.get? b = none) (hu : A.in1.units < cLine) :
    ∀ (m i : Nat) (s : Shared), n - i = m → i ≤ n → St i s → (∀ b o, h0.get? b = some o → s.heap.get? b = some o) → (∃ L es ep t, KSet P w s.heap S L es ep t ∧ Has (ks.take i) L) →
      (∀ s' L es ep t, Moved (S :: wr) G s s' → KSet P w s'.heap S L es ep t → Has ks L → (∀ b o, h0.get? b = some o → s'.heap.get? b = some o) → R (.ok (.ret .none)) s') →
      codeAny (model P w) A (.builtin "set.update.loop" ⟨[.ref S, .ref I], []⟩) R s := by
  have wS : S ∉ wr := fun h => hSf (W.sub _ h)
  have up : ∀ b ∈ wr, b ∈ S :: wr := fun b hb => List.mem_cons_of_mem _ hb
  have keep : ∀ {s s' : Shared}, Moved wr G s s' → (∀ b o, h0.get? b = some o → s.heap.get? b = some o) → ∀ b o, h0.get? b = some o → s'.heap.get? b = some o := fun hm hkp b o e =>
    hm.heap b o (fun hb => by rw [hw0 b hb] at e; cases e) (hkp b o e)
  intro m
  induction m with
  | zero =>
    intro i s hm hi hst hkp ⟨L, es, ep, t, hS, g⟩ hR
    have e : i = n := by omega
    subst e
    refine codeAny_builtin F.entry_set_update_loop ?_
    rw [Around.under_plainId F.plain_set_update_loop _]
    show wpAny _ A.in1 (pyNext (.ref I) >>= _) _ _ s
    refine wpAny_bind (W.done s _ _ hst fun s' mv => ?_)
    show wpAny _ A.in1 (ret Value.none) _ _ s'
    have g' : Has ks L := by rw [hn, List.take_length] at g; exact g
    have kp := keep mv hkp
    exact wpAny_pure (hR s' L es ep t (mv.mono up) (hS.kept (fun o e => mv.heap S o wS e) fun p hp => (hk p (g'.sub p hp)).kept kp) g' kp)
  | succ m ih =>
    intro i s hm hi hst hkp ⟨L, es, ep, t, hS, g⟩ hR
    have hlt : i < n := by omega
    refine codeAny_builtin F.entry_set_update_loop ?_
    rw [Around.under_plainId F.plain_set_update_loop _]
    show wpAny _ A.in1 (pyNext (.ref I) >>= _) _ _ s
    refine wpAny_bind (W.item i s _ _ hlt hst fun v s' hP hst' mv => ?_)
    obtain ⟨p, hp, rfl⟩ := hv i v hP
    have kp := keep mv hkp
    have nxt : ks.take (i + 1) = ks.take i ++ [p] := by rw [List.take_succ, hp]; rfl
    have hS' : KSet P w s'.heap S L es ep t := hS.kept (fun o e => mv.heap S o wS e) fun q hq => (hk q (List.mem_of_mem_take (g.sub q hq))).kept kp
    have hx : Tp P w s'.heap p.2 p.1 := (hk p (List.mem_of_getElem? hp)).kept kp
    have small : L.length + 1 < 64 := by
      have h1 := g.len
      rw [List.length_take] at h1
      omega
    show wpAny _ A.in1 (holding [Value.ref p.1] (setAdd S (.ref p.1)) >>= _) _ _ s'
    refine wpAny_bind (wpAny_holding ?_)
    unfold setAdd
    refine wpAny_holding (wpAny_bind (wpAny_pyHash_tuple hu hx ?_))
    refine add (s := { s' with toks := s'.toks + (p.2.length + 1) }) hS' hx hu small fun b h' L' es' ep' t' sb hS2 c1 c2 => ?_
    have g' : Has (ks.take (i + 1)) L' := by
      rw [nxt]
      by_cases c : p.2 ∈ L.map (·.2)
      · rw [c1 c]; exact g.old c
      · exact g.new (c2 c)
    have kp2 : ∀ b o, h0.get? b = some o → h'.get? b = some o := fun b o e => (sb.2 b (fun z => by rw [z, hS0] at e; cases e)).trans (kp b o e)
    refine wpAny_pure ⟨plainId_quiet F.plain_set_update_loop _, ih (i + 1) _ (by omega) hlt (W.frame _ s' _ _ hst' (Nat.le_add_right _ _) fun b hb o e => ?_) kp2 ⟨L', es', ep', t', hS2, g'⟩ fun s2 L2 es2 ep2 t2 mv2 hS3 g3 kp3 => ?_⟩
    · rw [sb.2 b (fun z : b = S => hSf (by rw [← z]; exact hb))]; exact e
    · refine hR s2 L2 es2 ep2 t2 (Moved.trans W.gtrans ((mv.mono up).then_heap (Nat.le_add_right _ _) fun b o hb e => ?_) mv2) hS3 g3 kp3
      rw [sb.2 b (fun z : b = S => hb (by rw [z]; exact List.mem_cons_self))]; exact e
theorem call_set {l : Addr} {items : Array Value} (ks : List Rw) {Q : Value → Shared → Prop} (hh : A.handled = none) (hl : s.heap.IsList l items) (hit : items.toList = ks.map fun p => Value.ref p.1)
    (hk : ∀ p ∈ ks, Tp P w s.heap p.2 p.1) (hfew : ks.length < 64) (hu : A.units + 3 < cLine)
    (h : ∀ (h' : Heap) (tk : Nat) L es ep t, KSet P w h' s.heap.objs.size L es ep t → Has ks L → (∀ b o, s.heap.get? b = some o → h'.get? b = some o) → Q (.ref s.heap.objs.size) { s with heap := h', toks := tk }) :
    wpAny (model P w) A (call (.type "set") [.ref l]) Q E s := by
  have sz : items.size = ks.length := by rw [← Array.length_toList, hit, List.length_map]
  have past : ∀ b, s.heap.objs.size ≤ b → s.heap.get? b = none := fun b hb => by
    cases q : s.heap.get? b with
    | none => rfl
    | some o => exact absurd (Heap.lt_size q) (Nat.not_lt.mpr hb)
  obtain ⟨c, tl, hmro⟩ := F.called_set.mro
  have hmade := F.called_set.made
  have hsub := F.called_set.sub
  refine wpAny_call (codeAny_of_tree ?_)
  show wpAny _ _ (callAny (.type "set") _) _ _ _
  refine wpAny_pure ⟨Code.quiet_builtin _ (by decide +kernel), codeAny_builtin F.entry_type_call ?_⟩
  rw [Around.under_plain (weight_type_call_type "set" [.ref l] []) rfl]
  have h1 := F.called_set.notType
  have h2 := F.called_set.canCreate
  have hct := F.typeCall_set_1 (.ref l)
  repeat (any_goals (first | assumption | wp_step))
  refine codeAny_mono (code_set_led1 (.ref l) (E := E) (Q₁ := fun obj s₁ => obj = .ref s.heap.objs.size ∧ s₁ = { s with heap := s.heap.push (fresh w) }) ⟨rfl, rfl⟩) fun r s₁ hr => ?_
  cases r with
  | error e => exact hr
  | ok fl =>
    cases fl with
    | ret obj =>
      obtain ⟨rfl, rfl⟩ := hr
      have hS : (s.heap.push (fresh w)).get? s.heap.objs.size = some (fresh w) := Heap.get?_push_size _ rfl
      have hT : Shared.TypeIs { s with heap := s.heap.push (fresh w) } (.ref s.heap.objs.size) "set" := ⟨_, hS, rfl⟩
      have hli := F.called_set.init.lookup
      have hbi := F.called_set.init.bind (.ref s.heap.objs.size)
      repeat (any_goals (first | assumption | wp_step))
      refine codeAny_mono (codeAny_call_builtin (R := wants (fun r s₂ => r = .none ∧ ∃ h' tk L es ep t, s₂ = { s with heap := h', toks := tk } ∧ KSet P w h' s.heap.objs.size L es ep t ∧ Has ks L ∧
          (∀ b o, s.heap.get? b = some o → h'.get? b = some o)) E) F.called_set.init.plain F.entry_set_init (check_set_init_1 hT ?_)) fun r₂ s₂ hr₂ => ?_
      · obtain ⟨ol, hol, hcl, nl, hdl⟩ := hl
        obtain ⟨ocls, odict, odata, oslots⟩ := ol
        simp only at hcl hdl
        subst hcl; subst hdl
        have hol' : (s.heap.push (fresh w)).get? l = some { cls := .type "list", dict := odict, data := .seq items nl, slots := oslots } := Heap.get?_push_of_some _ hol
        have hsls := F.sub_list_set
        have hslf := F.sub_list_frozenset
        have hne : (Value.type "list" == Value.type "dict") = false := by decide
        have hl1 : (s.heap.push (fresh w)).IsList l items := ⟨_, hol', rfl, nl, rfl⟩
        unfold Builtin.«set.__init__» noKeywords Builtin.Frozenset.updateFrom
        generalize hPI : pyIter = PI
        wp_walk
        subst hPI
        refine wpAny_pyIter_list hl1 (wpAny_bind (wpAny_runValue ?_))
        have lS : l < s.heap.objs.size := Heap.lt_size hol
        have hh3 : A.in1.in1.in1.handled = none := by simp [hh]
        have neI : l ≠ (s.heap.push (fresh w)).objs.size := by
          rw [Heap.size_push]; exact Nat.ne_of_lt (Nat.lt_succ_of_lt lS)
        have nf : s.heap.objs.size ∉ [(s.heap.push (fresh w)).objs.size, l] := by
          rw [Heap.size_push]; simp only [List.mem_cons, List.not_mem_nil, or_false, not_or]
          exact ⟨Nat.ne_of_lt (Nat.lt_succ_self _), Nat.ne_of_gt lS⟩
        have val : ∀ (i : Nat) (v : Value), items[i]? = some v → ∃ p, ks[i]? = some p ∧ v = .ref p.1 := fun i v hv => by
          rw [← Array.getElem?_toList, hit, List.getElem?_map] at hv
          obtain ⟨p, hp, e⟩ := Option.map_eq_some_iff.mp hv
          exact ⟨p, hp, e.symm⟩
        refine fill ((Walks.list hh3 _ l neI items).toS) s.heap.objs.size nf ks sz hfew val s.heap hk (past _ (Nat.le_refl _)) (fun b hb => past b (by
            rw [List.mem_singleton.mp hb, Heap.size_push]
            exact Nat.le_succ _)) hu (items.size - 0) 0 _ (by omega) (Nat.zero_le _)
          ⟨⟨_, Heap.get?_push_size _ rfl, rfl, rfl⟩, (hl1.push _)⟩ (fun b o e => Heap.get?_push_of_some _ (Heap.get?_push_of_some _ e)) ⟨[], #[], 0, _, KSet.fresh (Heap.get?_push_of_some _ hS), ⟨fun p hp => (by cases hp), fun p hp => (by simp at hp), Nat.zero_le _⟩⟩ ?_
        intro s' L es ep t mv hS' g' kp
        obtain ⟨h', g2, d', tk', os'⟩ := s'
        have eg : g2 = s.gens := mv.gens
        have ed : d' = s.drawn := mv.drawn
        have eo : os' = s.os := mv.os
        subst eg; subst ed; subst eo
        show wpAny _ _ _ _ _ _
        refine wpAny_pure ?_
        show wpAny _ _ (ret Value.none) _ _ _
        exact wpAny_pure ⟨rfl, h', tk', L, es, ep, t, rfl, hS', g', kp⟩
      · cases r₂ with
        | error e => exact hr₂
        | ok fl₂ =>
          cases fl₂ with
          | ret r =>
            obtain ⟨rfl, h', tk, L, es, ep, t, rfl, hS', g', hk'⟩ := hr₂
            repeat (any_goals (first | assumption | wp_step))
            exact h _ _ _ _ _ _ hS' g' hk'
          | _ => exact hr₂.elim
    | _ => exact hr.elim
end
end KS

/-! Y5: sorted(such a set). -/
namespace KS
open PySem PySem.Spec PyProof.Rows L2
section
variable {P : Program} {w : World} {A : Around} {E : Value → Shared → Prop} {s : Shared}
variable {a : Addr} {L : List Rw} {es : Array (Int × Value)} {ep : Nat} {t : SetTable}
theorem sorted_set (k : KSet P w s.heap a L es ep t) (hh : A.handled = none) {Q : Value → Shared → Prop}
    (h : ∀ (s1 : Shared) (vs : List Value), (∀ b o, s.heap.get? b = some o → s1.heap.get? b = some o) → s.heap.objs.size ≤ s1.heap.objs.size → s1.gens = s.gens → s1.os = s.os → vs.Perm (L.map fun q => Value.ref q.1) →
      ∃ κ, PySem.W.SortsAt P w A.in1.in1 { s1 with heap := PySem.W.sortingHeap (s1.heap.push (seqObj "list" vs.toArray 0)) s1.heap.objs.size vs } κ vs ∧
        Q (.ref s1.heap.objs.size) { s1 with heap := sortedHeap (s1.heap.push (seqObj "list" vs.toArray 0)) s1.heap.objs.size vs (PySem.W.sortVals κ false vs vs).toArray }) :
    wpAny (model P w) A (call (.builtin "sorted") [.ref a]) Q E s := by
  obtain ⟨o, ho, hex, hd⟩ := k.at_
  have sz := k.size
  have few := k.few
  have vals : es.toList.map (·.2) = L.map fun q => Value.ref q.1 := by
    rw [k.ents, List.map_map]; rfl
  refine Calls.call_function_entry kind_sorted plain_sorted entry_sorted (args_sorted1 _) ?_
  unfold Builtin.«sorted»
  refine wpAny_bind (m := checkCount "sorted" 1 1 _) (wpAny_pure ?_)
  refine wpAny_bind (collect_set (A := A.in1) hh ⟨o, ho, hex.1, hd⟩ k.fits (by unfold scanBound; omega) k.tab.ris k.led fun s1 vs k1 hz g1 o1 pm => ?_)
  rw [vals] at pm
  have vl : vs.length ≤ sizeLine := by rw [pm.length_eq, List.length_map]; exact Nat.le_trans (Nat.le_of_lt few) (by decide)
  obtain ⟨κ, S, q⟩ := h s1 vs k1 hz g1 o1 pm
  refine wpAny_bind (wpAny_newList ?_ vl)
  have hoL : (s1.heap.push (seqObj "list" vs.toArray 0)).get? s1.heap.objs.size = some (seqObj "list" vs.toArray 0) := Heap.get?_push_size _ rfl
  refine wpAny_bind (wpAny_holding (PyProof.Rows.wpAny_call_entry_kw PyProof.Rows.slot_list_sort ⟨_, hoL, rfl⟩ PyProof.Rows.entry_list_sort ?body (PyProof.Rows.args_list_sort _)))
  case body =>
    show wpAny (model P w) A.in1.in1 (Builtin.«list.sort» ⟨[.ref s1.heap.objs.size], []⟩) _ _ _
    refine PySem.W.list_sort_vals (s := { s1 with heap := s1.heap.push (seqObj "list" vs.toArray 0) }) hoL S vl ?_
    exact ⟨_, rfl, wpAny_pure ⟨_, rfl, q⟩⟩
end
end KS

/-! Y6: sorted(set(xs)), xs a list of pairs of texts, on data. -/
namespace Z
open PySem PySem.Spec PyProof.Rows L2 KS
/-- a pair of texts -/
def pairT (d : D) : Prop := ∃ x y, d = .tup [.str x, .str y]
/-- each once -/
def uq : List D → List D
  | [] => []
  | d :: r => if ((uq r).any fun e => eqv e d) = true then uq r else d :: uq r
theorem eqv_pair {x y x' y' : Str} : eqv (.tup [.str x, .str y]) (.tup [.str x', .str y']) = true ↔ x = x' ∧ y = y' := by
  show ((x == x') && ((y == y') && true)) = true ↔ _
  rw [Bool.and_true, Bool.and_eq_true, beq_iff_eq, beq_iff_eq]
theorem eqv_pr {d e : D} (hd : pairT d) (he : pairT e) : eqv d e = true ↔ d = e := by
  obtain ⟨x, y, rfl⟩ := hd
  obtain ⟨x', y', rfl⟩ := he
  rw [eqv_pair]
  constructor
  · rintro ⟨rfl, rfl⟩; rfl
  · intro h; cases h; exact ⟨rfl, rfl⟩
theorem uq_mem : ∀ {ds : List D}, (∀ d ∈ ds, pairT d) → ∀ d, d ∈ uq ds ↔ d ∈ ds
  | [], _, d => Iff.rfl
  | x :: r, h, d => by
    have ih := uq_mem (ds := r) fun z hz => h z (List.mem_cons_of_mem _ hz)
    unfold uq
    split
    · rename_i q
      obtain ⟨e, he, q⟩ := List.any_eq_true.mp q
      have mr := (ih e).mp he
      have : e = x := (eqv_pr (h e (List.mem_cons_of_mem _ mr)) (h x (by simp))).mp q
      rw [ih d, List.mem_cons]
      constructor
      · exact .inr
      · rintro (z | z)
        · rw [z, ← this]; exact mr
        · exact z
    · rw [List.mem_cons, List.mem_cons, ih d]
theorem uq_nodup : ∀ {ds : List D}, (∀ d ∈ ds, pairT d) → (uq ds).Nodup
  | [], _ => List.nodup_nil
  | x :: r, h => by
    have ih := uq_nodup (ds := r) fun z hz => h z (List.mem_cons_of_mem _ hz)
    unfold uq
    split
    · exact ih
    · rename_i q
      refine List.nodup_cons.mpr ⟨fun hm => q ?_, ih⟩
      exact List.any_eq_true.mpr ⟨x, hm, (eqv_pr (h x (by simp)) (h x (by simp))).mpr rfl⟩
theorem uq_len : ∀ ds : List D, (uq ds).length ≤ ds.length
  | [] => Nat.le_refl _
  | x :: r => by
    have := uq_len r
    unfold uq
    split
    · rw [List.length_cons]; omega
    · rw [List.length_cons, List.length_cons]; omega
theorem pull_perm {α β : Type} {g : α → β} : ∀ (vs : List β) (L : List α), vs.Perm (L.map g) → ∃ L' : List α, L'.Perm L ∧ L'.map g = vs
  | [], L, h => by
    have : L = [] := List.map_eq_nil_iff.mp h.symm.eq_nil
    exact ⟨[], by rw [this], rfl⟩
  | v :: vs, L, h => by
    have hm : v ∈ L.map g := h.mem_iff.mp (by simp)
    obtain ⟨q, hq, e⟩ := List.mem_map.mp hm
    obtain ⟨U, W, rfl⟩ := List.append_of_mem hq
    have h2 : (v :: vs).Perm (v :: (U ++ W).map g) := by
      refine h.trans ?_
      rw [List.map_append, List.map_cons, e, List.map_append]
      exact List.perm_middle
    obtain ⟨L', p, m⟩ := pull_perm vs (U ++ W) h2.cons_inv
    exact ⟨q :: L', (p.cons q).trans List.perm_middle.symm, by rw [List.map_cons, e, m]⟩
theorem lt_pair {x y x' y' : Str} : ltD (.tup [.str x, .str y]) (.tup [.str x', .str y']) = if x = x' then (if y = y' then false else ltD (.str y) (.str y')) else ltD (.str x) (.str x') := by
  show (if (x == x') = true then (if (y == y') = true then false else ltD (.str y) (.str y')) else ltD (.str x) (.str x')) = _
  simp only [beq_iff_eq]
theorem lt_pair_tri {d e : D} (hd : pairT d) (he : pairT e) (h1 : ltD e d = false) (h2 : ltD d e = false) : d = e := by
  obtain ⟨x, y, rfl⟩ := hd
  obtain ⟨x', y', rfl⟩ := he
  rw [lt_pair] at h1 h2
  by_cases hx : x = x'
  · subst hx
    rw [if_pos rfl] at h1 h2
    by_cases hy : y = y'
    · rw [hy]
    · rw [if_neg hy] at h2
      rw [if_neg fun z => hy z.symm] at h1
      exact absurd (tri_str h1 h2) hy
  · rw [if_neg hx] at h2
    rw [if_neg fun z => hx z.symm] at h1
    exact absurd (tri_str h1 h2) hx
theorem like_pair {d e : D} (hd : pairT d) (he : pairT e) : likeD d e = true := by
  obtain ⟨x, y, rfl⟩ := hd
  obtain ⟨x', y', rfl⟩ := he
  rfl
theorem pd_pair {d : D} (hd : pairT d) : pd 60 d = true := by
  obtain ⟨x, y, rfl⟩ := hd
  rfl
/-- what is sorted stands fixed by its members -/
theorem sort_perm {ds es : List D} (hp : ds.Perm es) (h : ∀ d ∈ ds, pairT d) : sortD ds = sortD es := by
  have h' : ∀ d ∈ es, pairT d := fun d hd => h d (hp.mem_iff.mpr hd)
  have s1 : (sortD ds).Pairwise fun x y => leS x y = true := List.pairwise_mergeSort leS_trans leS_total ds
  have s2 : (sortD es).Pairwise fun x y => leS x y = true := List.pairwise_mergeSort leS_trans leS_total es
  have p : (sortD ds).Perm (sortD es) := ((List.mergeSort_perm ds leS).trans hp).trans (List.mergeSort_perm es leS).symm
  refine List.Perm.eq_of_pairwise (le := fun x y => leS x y = true) (fun a b ha hb h1 h2 => ?_) s1 s2 p
  have pa := h a (sortD_mem.mp ha)
  have pb := h' b (sortD_mem.mp hb)
  unfold leS at h1 h2
  rw [lt_py _ _ (like_pair pb pa), Bool.not_eq_true'] at h1
  rw [lt_py _ _ (like_pair pa pb), Bool.not_eq_true'] at h2
  exact lt_pair_tri pa pb h1 h2
/-- sorted(set(xs)) -/
def srt2 : O1 := fun d M Q => match asL M d with
  | some ds => (∀ d ∈ ds, pairT d) ∧ ds.length < 64 ∧ Q (.lst (sortD (uq ds))) M
  | none => False
def rwD (p : Rw) : D := .tup (p.2.map kD)
theorem rows_of {K : PySem.W.Frag} {M : MH} {H : Hp} : ∀ {ds : List D} {vs : List V}, RpL K M H ds vs → (∀ d ∈ ds, pairT d) → ∃ ks : List Rw, vs = ks.map (fun p => V.ref p.1) ∧ ds = ks.map rwD ∧ ∀ p ∈ ks, Rp K M H (rwD p) (.ref p.1)
  | [], vs, h, _ => by
    have h : vs = [] := h
    exact ⟨[], h, rfl, by simp⟩
  | d :: r, vs, h, hp => by
    obtain ⟨v, us, rfl, h1, h2⟩ := h
    obtain ⟨ks, e1, e2, e3⟩ := rows_of h2 fun z hz => hp z (List.mem_cons_of_mem _ hz)
    obtain ⟨x, y, rfl⟩ := hp d (by simp)
    obtain ⟨a, ws, rfl, h4, h5⟩ := id h1
    refine ⟨(a, [.inr x, .inr y]) :: ks, by rw [e1]; rfl, by rw [e2]; rfl, ?_⟩
    intro p hp
    rcases List.mem_cons.mp hp with e | hp
    · subst e; exact h1
    · exact e3 p hp
theorem key_rel {n : Key} {u : Value} (r : RelV (kV n) u) : keyIs n u = true := by
  cases n with
  | inl i => obtain ⟨t, rfl⟩ := r; exact keyIs_int i t
  | inr x => obtain ⟨t, rfl⟩ := r; exact keyIs_str x t
theorem items_key {P : Program} {w : World} : ∀ {k : List Key} {us : List Value}, Vals (k.map kV) us → ItemsAre (mixKind P w) k us
  | [], _, .nil => .nil
  | n :: k, _, .cons r t => .cons (key_rel r) (items_key t)
theorem rp_keys {K : PySem.W.Frag} {M : MH} {H : Hp} : ∀ {k : List Key} {vs : List V}, RpL K M H (k.map kD) vs → vs = k.map kV
  | [], _, h => h
  | n :: k, _, h => by
    obtain ⟨v, r, rfl, h1, h2⟩ := h
    rw [rp_keys h2, List.map_cons]
    congr 1
    cases n <;> exact h1
end Z

/-! Y7: sorted(set(xs)) as an expression. -/
namespace Z
open PySem PySem.Spec PyProof.Rows L2 KS
section
variable {X : Cx}
theorem tp_of {pins : List (Addr × Obj)} {σ : L2.St} {H : Hp} {s : Shared} {M : MH} (I : Inv X pins σ H s) {p : Rw} (r : Rp X.K M H (rwD p) (.ref p.1)) : Tp X.prog X.w s.heap p.2 p.1 := by
  obtain ⟨a, vs, e, h1, h2⟩ := r
  cases e
  have ev := rp_keys h2
  subst ev
  obtain ⟨its, rv, ⟨o, ho, hc, n, hd⟩, _⟩ := I.tuple h1.sq
  exact ⟨o, its.toArray, n, ho, hc, hd, by simpa using items_key rv⟩
theorem refs_vals : ∀ {ks : List Rw} {us : List Value}, Vals (ks.map fun p => V.ref p.1) us → us = ks.map fun p => Value.ref p.1
  | [], _, .nil => rfl
  | p :: ks, _, .cons r t => by
    cases r
    rw [refs_vals t]; rfl
theorem each_rows {K : PySem.W.Frag} {M : MH} {H : Hp} : ∀ {ks : List Rw}, (∀ p ∈ ks, Rp K M H (rwD p) (.ref p.1)) → PySem.W.EachIs (fun (u : Value) (d : D) => ∃ v, RelV v u ∧ Rp K M H d v) (ks.map fun p => Value.ref p.1) (ks.map rwD)
  | [], _ => .nil
  | p :: ks, h => .cons ⟨.ref p.1, rfl, h p (by simp)⟩ (each_rows fun q hq => h q (List.mem_cons_of_mem _ hq))
theorem z_srt2 {K : PySem.W.Frag} {M0 : MH} {H0 : Hp} {a : Expr} {ta : T3} {p p2 q pos : Pos} (hK : X.K = K) (hc : X.calm = true) (hu : X.A.units + 100 < cLine) (hg : Gl X "sorted") (hm : X.mg "sorted" = none) (hg2 : Gl X "set") (hm2 : X.mg "set" = none) (ha : PE X a (LE K M0 H0 ta))
    (na : starEach [a] X.env = (false, eval a X.env) :: starEach [] X.env) : PE X (.Call (.Name "sorted" p) [.Call (.Name "set" p2) [a] [] q] [] pos) (LE K M0 H0 (op1 srt2 ta)) := by
  subst hK
  refine ⟨fun pins s σ H Q I h => ?_⟩
  obtain ⟨en, M, Q3, rs, rm, ev, t, c⟩ := h
  refine Call_ (ld_blt I hg hm PyProof.Rows.boot_sorted ?_)
  refine PyProof.Rows.callWith_builtin1 (PyProof.Rows.args_cons ?_ rfl) rfl rfl
  refine Call_ (ld_blt I hg2 hm2 PyProof.Rows.boot_set ?_)
  refine PyProof.Rows.callWith_type1 (PyProof.Rows.args_cons (thn (ha.run pins s σ H (fun v H1 => ∃ d M1, srt2 d M1 Q3 ∧ Rp X.K M1 H1 d v ∧ RM X.K M1 H1 ∧ Ev M H M1 H1) I (LE.then rs rm ev t fun d M1 v1 H1 t1 r1 rs1 rm1 ev1 e1 => ⟨d, M1, t1, r1, rm1, e1⟩)) fun u s1 ⟨v, H1, I1, rv1, d, M1, t1, r1, rm1, e1⟩ => PyProof.Rows.args_nil ?_) na) na rfl
  unfold srt2 at t1
  split at t1
  · rename_i ds hds
    obtain ⟨t2, t3, t4⟩ := t1
    obtain ⟨l, vs, h1, h2, h3⟩ := asL_sq rm1 hds r1
    subst h1
    cases rv1
    obtain ⟨ks, k1, k2, k3⟩ := rows_of h3 t2
    obtain ⟨its, rvs, pl, hz⟩ := I1.list h2
    rw [k1] at rvs
    have kl : ks.length < 64 := by rw [k2, List.length_map] at t3; exact t3
    refine call_set ks (I1.ok.hd hc) pl.isList (by simpa using refs_vals rvs) (fun p hp => tp_of I1 (k3 p hp)) kl (by omega) fun h' tk L es ep t kS has keep => ?_
    refine PyProof.Rows.args_nil ?_
    have I2 : Inv X pins σ H1 { s1 with heap := h', toks := tk } := I1.kept fun b o e => keep b o e
    refine sorted_set (s := { s1 with heap := h', toks := tk }) kS (I2.ok.hd hc) fun s2 us kp hz2 g2 o2 pm => ?_
    obtain ⟨L', pL, eL⟩ := pull_perm us L pm
    subst eL
    have inK : ∀ p ∈ L', p ∈ ks := fun p hp => has.sub p (pL.mem_iff.mp hp)
    have rp' : ∀ p ∈ L', Rp X.K M1 H1 (rwD p) (.ref p.1) := fun p hp => k3 p (inK p hp)
    have prs : ∀ d ∈ L'.map rwD, pairT d := fun d hd => by
      obtain ⟨p, hp, rfl⟩ := List.mem_map.mp hd
      exact t2 _ (by rw [k2]; exact List.mem_map.mpr ⟨p, inK p hp, rfl⟩)
    have inj : ∀ p q : Rw, pairT (rwD p) → rwD p = rwD q → p.2 = q.2 := by
      intro p q _ e
      unfold rwD at e
      injection e with _ e
      have : ∀ (x y : List Key), x.map kD = y.map kD → x = y := by
        intro x
        induction x with
        | nil => intro y h; cases y with | nil => rfl | cons _ _ => cases h
        | cons n x ih =>
          intro y h
          cases y with
          | nil => cases h
          | cons m y =>
            rw [List.map_cons, List.map_cons] at h
            injection h with h1 h2
            rw [ih y h2]
            congr 1
            cases n <;> cases m <;> first | (cases h1; rfl) | cases h1
      exact this _ _ e
    have nd : (L'.map rwD).Nodup := by
      have n2 : (L'.map (·.2)).Nodup := (pL.map (·.2)).nodup_iff.mpr kS.uniq
      rw [List.nodup_iff_pairwise_ne, List.pairwise_map] at n2 ⊢
      refine List.Pairwise.imp_of_mem (fun {x y} hx hy hne e => hne (inj x y (prs _ (List.mem_map.mpr ⟨x, hx, rfl⟩)) e)) n2
    have same : (L'.map rwD).Perm (uq ds) := by
      refine (List.perm_ext_iff_of_nodup nd (uq_nodup t2)).mpr fun d => ?_
      rw [uq_mem t2 d, k2]
      constructor
      · intro hd
        obtain ⟨p, hp, rfl⟩ := List.mem_map.mp hd
        exact List.mem_map.mpr ⟨p, inK p hp, rfl⟩
      · intro hd
        obtain ⟨p, hp, rfl⟩ := List.mem_map.mp hd
        obtain ⟨q, hq, e⟩ := List.mem_map.mp (has.all p hp)
        exact List.mem_map.mpr ⟨q, pL.mem_iff.mpr hq, by unfold rwD; rw [show q.2 = p.2 from e]⟩
    -- sorting
    have each := each_rows rp'
    have rdI : ∀ (u : Value) (d : D), ((∃ v, RelV v u ∧ Rp X.K M1 H1 d v) ∧ d ∈ L'.map rwD) → ∃ as, Reads h' u (toPy d) as := fun u d hh => reads_of I2 ⟨hh.1, pd_pair (prs d hh.2)⟩
    have kp2 : ∀ b o, h'.get? b = some o → (PySem.W.sortingHeap (s2.heap.push (seqObj "list" (L'.map fun q => Value.ref q.1).toArray 0)) s2.heap.objs.size (L'.map fun q => Value.ref q.1)).get? b = some o := fun b o e => by
      have e2 := kp b o e
      refine PySem.W.sortingHeap_old ?_ (Heap.get?_push_of_some _ e2)
      exact Nat.ne_of_lt (Heap.lt_size e2)
    have hal : PySem.W.AllAlike ((L'.map rwD).map toPy) := fun z hz z' hz' => by
      obtain ⟨d1, g1, rfl⟩ := toPy_mem hz
      obtain ⟨d2, g2, rfl⟩ := toPy_mem hz'
      exact like_py _ _ (like_pair (prs d1 g1) (prs d2 g2))
    have each2 := each_and each (P := fun d => d ∈ L'.map rwD) fun b hb => hb
    have er := each_map (R := fun (u : Value) (p : PyData) => ∃ as, Reads (PySem.W.sortingHeap (s2.heap.push (seqObj "list" (L'.map fun q => Value.ref q.1).toArray 0)) s2.heap.objs.size (L'.map fun q => Value.ref q.1)) u p as) toPy (each2.mono fun u d hh => by
      obtain ⟨as, rd⟩ := rdI u d hh
      exact ⟨as, PyProof.Rows.Reads.keeps kp2 rd⟩)
    have S := PySem.W.SortsAt.data (prog := X.prog) (w := X.w) (A := X.A.in1.in1) (s := { s2 with heap := PySem.W.sortingHeap (s2.heap.push (seqObj "list" (L'.map fun q => Value.ref q.1).toArray 0)) s2.heap.objs.size (L'.map fun q => Value.ref q.1) }) er hal (.inl fun z hz => by
        obtain ⟨d1, g1, rfl⟩ := toPy_mem hz
        obtain ⟨x, y, rfl⟩ := prs d1 g1
        exact ⟨toPy (.str x), toPyL [.str y], by simp [toPy, toPyL]⟩) (fun z hz => by
        obtain ⟨d1, g1, rfl⟩ := toPy_mem hz
        have := pd_depth 60 d1 (pd_pair (prs d1 g1))
        show X.A.units + 1 + 1 + _ < cLine
        omega)
    refine ⟨_, S, ?_⟩
    have out := PySem.W.sortVals_each (κ := PySem.W.dataKind (PySem.W.sortingHeap (s2.heap.push (seqObj "list" (L'.map fun q => Value.ref q.1).toArray 0)) s2.heap.objs.size (L'.map fun q => Value.ref q.1)) ((L'.map rwD).map toPy)) (rev := false) (fun d => PySem.W.keyToks (toPy d)) each
      (each2.mono fun u d hh => by
        obtain ⟨as, rd⟩ := rdI u d hh
        exact PySem.W.dataKind_some hal (List.mem_map.mpr ⟨d, hh.2, rfl⟩) (PyProof.Rows.Reads.keeps kp2 rd))
    obtain ⟨ws, w1, w2⟩ := of_each out
    have hoL : (s2.heap.push (seqObj "list" (L'.map fun q => Value.ref q.1).toArray 0)).get? s2.heap.objs.size = some (seqObj "list" (L'.map fun q => Value.ref q.1).toArray 0) := Heap.get?_push_size _ rfl
    obtain ⟨cc, hcc⟩ := sortedHeap_at (vs := L'.map fun q => Value.ref q.1) (out := (PySem.W.sortVals (PySem.W.dataKind (PySem.W.sortingHeap (s2.heap.push (seqObj "list" (L'.map fun q => Value.ref q.1).toArray 0)) s2.heap.objs.size (L'.map fun q => Value.ref q.1)) ((L'.map rwD).map toPy)) false (L'.map fun q => Value.ref q.1) (L'.map fun q => Value.ref q.1)).toArray) hoL
    have kp3 : ∀ b o, s1.heap.get? b = some o → (sortedHeap (s2.heap.push (seqObj "list" (L'.map fun q => Value.ref q.1).toArray 0)) s2.heap.objs.size (L'.map fun q => Value.ref q.1) (PySem.W.sortVals (PySem.W.dataKind (PySem.W.sortingHeap (s2.heap.push (seqObj "list" (L'.map fun q => Value.ref q.1).toArray 0)) s2.heap.objs.size (L'.map fun q => Value.ref q.1)) ((L'.map rwD).map toPy)) false (L'.map fun q => Value.ref q.1) (L'.map fun q => Value.ref q.1)).toArray).get? b = some o := fun b o e => by
      have e2 := kp b o (keep b o e)
      have lt := Heap.lt_size e2
      rw [sortedHeap_old (Nat.ne_of_lt lt) (by rw [size_push']; exact Nat.lt_succ_of_lt lt)]
      exact Heap.get?_push_of_some _ e2
    have szle : s1.heap.objs.size ≤ s2.heap.objs.size := by
      obtain ⟨o, ho, _⟩ := kS.at_
      exact Nat.le_trans (Nat.le_of_lt (Heap.lt_size ho)) hz2
    have hf : H1 s2.heap.objs.size = none := I1.hok.fresh szle
    have wl : ws.length ≤ sizeLine := by
      rw [w1.length, (List.mergeSort_perm _ _).length_eq, List.length_map, pL.length_eq]
      exact Nat.le_trans (Nat.le_of_lt kS.few) (by decide)
    have J := I1.call (ch := []) (Un.laid kp3 szle hf) (I1.hok.laid kp3 szle (o := .lst ws) ⟨wl, _, cc, w2, hcc⟩) (g' := s2.gens) (t' := s2.toks) (d' := s2.drawn) (by rw [g2]; exact I1.bare) (fun _ z => nomatch z)
    refine ⟨.ref _, upd H1 s2.heap.objs.size (.lst ws), ?_, rfl, ?_⟩
    · have e : ∀ hp : Heap, ({ s2 with heap := hp } : Shared) = { s1 with heap := hp, gens := s2.gens, drawn := s2.drawn, toks := s2.toks } := fun hp => by
        cases s1; cases s2; cases o2; rfl
      rw [e]; exact J
    · have fin : sortD (L'.map rwD) = sortD (uq ds) := sort_perm same prs
      have w1' : RpL X.K M1 H1 (sortD (L'.map rwD)) ws := w1
      rw [fin] at w1'
      exact c _ M1 _ _ t4 (Rp.lstNew rm1 hf w1') (rm1.new hf) (e1.trans (Ev.new hf))
  · exact t1.elim
end
end Z

namespace Z
open PySem PySem.Spec PyProof.Rows L2

inductive BOp where
  | add | sub | mul | fdv | mod | pow
inductive COp where
  | eq | ne | lt | le | gt | ge | isin | notin | is | isnot
inductive Bt where
  | len | int | abs | min2 | max2 | minL | maxL | sum | all | any | tupT | tupK | lstF | lstM | srt | strI | minP
inductive IK where
  | seq | rng1 | rng2 | enm
inductive Ex where
  | loc (i : Nat)
  | non
  | bl (b : Bool)
  | int (i : Int)
  | str (x : Str)
  | glo (j : Nat)
  | bin (o : BOp) (a b : Ex)
  | neg (a : Ex)
  | cmp (o : COp) (a b : Ex)
  | chn (o o' : COp) (a b c : Ex)
  | bol (isAnd : Bool) (es : List Ex)
  | nt (a : Ex)
  | ite (c a b : Ex)
  | tup (es : List Ex)
  | lst (m : Bool) (es : List Ex)
  | idx (a b : Ex)
  | sli (a : Ex) (lo hi : List Ex)
  | rev (a : Ex)
  | call (j : Nat) (e : Ex) (es : List Ex)
  | blt (b : Bt) (e : Ex) (es : List Ex)
  | isi (T : Ty) (e : Ex)
  | mth (m : Mt) (o e : Ex) (es : List Ex)
  | comp (m : Bool) (elt : Ex) (tg : Tg) (ik : IK) (its : List Ex) (ifs : List Ex) (own : List (Str × Nat))
  | newK (m : Bool)
  | newT
  | addM (a b : Ex)
  | tupF (es : List Ex)
  | srt2 (a : Ex)
  | dis (m : Bool) (kvs : List Ex)
  | fmt (e : Ex)
  | js (e e2 : Ex) (es : List Ex)
inductive Sx where
  | asg (tg : Tg) (e : Ex)
  | par (i j : Nat) (a b : Ex)
  | sput (o i e : Ex)
  | aug (i : Nat) (isAdd : Bool) (e : Ex)
  | expr (e : Ex)
  | ret (e : Ex)
  | retN
  | ifs (c : Ex) (a b : List Sx)
  | fors (tg : Tg) (ik : IK) (its : List Ex) (body : List Sx)
  | whl (c : Ex) (body : List Sx)
  | brk
  | cnt
  | pss
  | fz (i : Nat)
  | rse (e : Ex)
  | rseN
  | tryR (body : List Sx) (k : Str) (i : Nat)

/-- what the module's names stand for -/
structure GT where
  fns : List (Str × Nat × Sp3)
  cst : List (Str × D)
  bn : List Str
  er : Bool
def nth {α : Type u} : List α → Nat → Option α
  | [], _ => none
  | x :: _, 0 => some x
  | _ :: r, n + 1 => nth r n
theorem nth_mem {α : Type u} : ∀ {l : List α} {n : Nat} {x : α}, nth l n = some x → x ∈ l
  | [], _, _, h => by cases h
  | y :: _, 0, x, h => by
    cases h; simp
  | _ :: r, n + 1, x, h => List.mem_cons_of_mem _ (nth_mem (show nth r n = some x from h))
/-- a def's promise, called -/
def callG (G : GT) (j : Nat) (E : X3) (t : TL3) : T3 := match nth G.fns j with
  | some (_, n, sp) => call3 n sp E t
  | none => fun _ _ _ => False
def cstG (G : GT) (j : Nat) : T3 := match nth G.cst j with
  | some (_, d) => con3 d
  | none => fun _ _ _ => False

def BOp.o2 : BOp → O2
  | .add => add3 | .sub => sub3 | .mul => mul3 | .fdv => fdv3 | .mod => mod3 | .pow => pow3
def BOp.op : BOp → Operator
  | .add => .Add | .sub => .Sub | .mul => .Mult | .fdv => .FloorDiv | .mod => .Mod | .pow => .Pow
def COp.o2 : COp → O2
  | .eq => eq3 | .ne => ne3 | .lt => lt3 | .le => le3 | .gt => gt3 | .ge => ge3 | .isin => in3 | .notin => nin3 | .is => isN3 | .isnot => notN3
def COp.op : COp → CmpOp
  | .eq => .Eq | .ne => .NotEq | .lt => .Lt | .le => .LtE | .gt => .Gt | .ge => .GtE | .isin => .In | .notin => .NotIn | .is => .Is | .isnot => .IsNot
def Bt.name : Bt → String
  | .len => "len" | .int => "int" | .abs => "abs" | .min2 => "min" | .max2 => "max" | .minL => "min" | .maxL => "max" | .sum => "sum" | .all => "all" | .any => "any" | .tupT => "tuple" | .tupK => "tuple" | .lstF => "list" | .lstM => "list" | .srt => "sorted" | .strI => "str" | .minP => "min"
def Bt.ol : Bt → OL
  | .len => c1 (ofO lenA) | .int => c1 (ofO intA) | .abs => c1 (ofO absA) | .min2 => c2 (ofO2 minA) | .max2 => c2 (ofO2 maxA) | .minL => c1 (ofO Z.minL) | .maxL => c1 (ofO Z.maxL) | .sum => c1 (ofO sumA) | .all => c1 (ofO allA) | .any => c1 (ofO anyA)
  | .tupT => c1 (tupA .t) | .tupK => c1 (tupA .k) | .lstF => c1 (lstA false) | .lstM => c1 (lstA true) | .srt => c1 srtA | .strI => c1 (ofO strA) | .minP => c1 (ofO minPA)
def Bt.isTy : Bt → Bool
  | .int | .tupT | .tupK | .lstF | .lstM | .strI => true
  | _ => false
/-- what is walked -/
def iterL (t : TL3) : TL3 := fun e M Q => t e M fun ds M1 => match ds with
  | [d] => match itemsA d with | some ds => Q ds M1 | none => False
  | _ => False
def wi : IK → TL3 → TL3
  | .seq, t => iterL t
  | .rng1, t => rng1A t
  | .rng2, t => rng2A t
  | .enm, t => enumA t
/-- {x} in an f-string -/
def fmt3 : O1 := fun d M Q => match d with
  | .str y => y.length ≤ sizeLine ∧ Q (.str y) M
  | .int i => i.natAbs.log2 < 1920 ∧ Q (.str (toString i)) M
  | _ => False
/-- texts one behind the other -/
def jsW : List T3 → Str → En → MH → (Str → MH → Prop) → Prop
  | [], acc, _, M, Q => Q acc M
  | t :: ts, acc, e, M, Q => t e M fun d M1 => match d with
    | .str y => (acc ++ y).length ≤ sizeLine ∧ jsW ts (acc ++ y) e M1 Q
    | _ => False
def js3 (ts : List T3) : T3 := fun e M Q => jsW ts Str.empty e M fun out M1 => Q (.str out) M1
mutual
/-- an expression's reading of data -/
def wpe (G : GT) : Ex → X3 → T3
  | .loc i, _ => loc3 i
  | .non, _ => con3 .non
  | .bl b, _ => con3 (.bl b)
  | .int i, _ => con3 (.int i)
  | .str x, _ => con3 (.str x)
  | .glo j, _ => cstG G j
  | .bin o a b, E => op2 o.o2 (wpe G a E) (wpe G b E)
  | .addM a b, E => op2 addM3 (wpe G a E) (wpe G b E)
  | .srt2 a, E => op1 srt2 (wpe G a E)
  | .neg a, E => op1 neg3 (wpe G a E)
  | .cmp o a b, E => op2 o.o2 (wpe G a E) (wpe G b E)
  | .chn o o' a b c, E => chain3 o.o2 o'.o2 (wpe G a E) (wpe G b E) (wpe G c E)
  | .bol k es, E => wpv G k es E
  | .nt a, E => notV3 (wpe G a E)
  | .ite c a b, E => ite3 (wpt G c E) (wpe G a E) (wpe G b E)
  | .tup es, E => tup3 (wpl G es E)
  | .tupF es, E => tupF3 (wpl G es E)
  | .lst m es, E => match m with | true => lstM3 (wpl G es E) | false => lst3 (wpl G es E)
  | .idx a b, E => op2 ix3 (wpe G a E) (wpe G b E)
  | .sli a lo hi, E => sl3 (wpe G a E) (wpo G lo E) (wpo G hi E)
  | .rev a, E => op1 rev3 (wpe G a E)
  | .call j e es, E => callG G j E (cons3 (wpe G e E) (wpl G es E))
  | .blt b e es, E => opL b.ol (cons3 (wpe G e E) (wpl G es E))
  | .isi T e, E => op1 (isi3 T) (wpe G e E)
  | .mth m o e es, E => mth3 m (wpe G o E) (cons3 (wpe G e E) (wpl G es E))
  | .comp m elt tg ik its ifs own, E => comp3 m (wi ik (wpl G its E)) tg (wpc G ifs noX) (wpe G elt noX) (own.map (·.2))
  | .newK m, _ => newK3 m
  | .newT, _ => newT3
  | .dis m kvs, E => disp3 m (wpp G kvs E)
  | .fmt e, E => op1 fmt3 (wpe G e E)
  | .js e e2 es, E => js3 (wpe G e E :: wpe G e2 E :: wpj G es E)
/-- a test's -/
def wpt (G : GT) : Ex → X3 → TB3
  | .cmp o a b, E => tst (op2 o.o2 (wpe G a E) (wpe G b E))
  | .chn o o' a b c, E => tst (chain3 o.o2 o'.o2 (wpe G a E) (wpe G b E) (wpe G c E))
  | .bol k es, E => wpb G k es E
  | .nt a, E => not3 (wpt G a E)
  | .loc i, E => tru3 (loc3 i)
  | .non, _ => tru3 (con3 .non)
  | .bl b, _ => tru3 (con3 (.bl b))
  | .int i, _ => tru3 (con3 (.int i))
  | .str x, _ => tru3 (con3 (.str x))
  | .idx a b, E => tru3 (op2 ix3 (wpe G a E) (wpe G b E))
  | .call j e es, E => tru3 (callG G j E (cons3 (wpe G e E) (wpl G es E)))
  | .blt b e es, E => tru3 (opL b.ol (cons3 (wpe G e E) (wpl G es E)))
  | .isi T e, E => tru3 (op1 (isi3 T) (wpe G e E))
  | .mth m o e es, E => tru3 (mth3 m (wpe G o E) (cons3 (wpe G e E) (wpl G es E)))
  | _, _ => fun _ _ _ => False
/-- a list's -/
def wpl (G : GT) : List Ex → X3 → TL3
  | [], _ => nil3
  | e :: es, E => cons3 (wpe G e E) (wpl G es E)
/-- a chain of and, or: as a value, as a test -/
def wpv (G : GT) : Bool → List Ex → X3 → T3
  | _, [], _ => fun _ _ _ => False
  | _, [e], E => wpe G e E
  | true, e :: es, E => andV3 (wpe G e E) (wpv G true es E)
  | false, e :: es, E => orV3 (wpe G e E) (wpv G false es E)
def wpb (G : GT) : Bool → List Ex → X3 → TB3
  | _, [], _ => fun _ _ _ => False
  | _, [e], E => wpt G e E
  | true, e :: es, E => and3 (wpt G e E) (wpb G true es E)
  | false, e :: es, E => or3 (wpt G e E) (wpb G false es E)
/-- a slice's bound -/
def wpo (G : GT) : List Ex → X3 → TO3
  | [], _ => noP3
  | e :: _, E => part3 (wpe G e E)
/-- a comprehension's test -/
def wpc (G : GT) : List Ex → X3 → TB3
  | [], _ => yes3
  | e :: _, E => wpt G e E
/-- an f-string's parts -/
def wpj (G : GT) : List Ex → X3 → List T3
  | [], _ => []
  | e :: es, E => wpe G e E :: wpj G es E
/-- a display's pairs, key and value in turn -/
def wpp (G : GT) : List Ex → X3 → List (T3 × T3)
  | k :: v :: r, E => (wpe G k E, wpe G v E) :: wpp G r E
  | _, _ => []
end
/-- freezing a list that a name holds -/
def fz3 (i : Nat) (t : TS3) : TS3 := fun D e M => match getE e i with
  | some (.ref a) => match M a with
    | some (.lst ds) => t D (setE e i (.lst ds)) (er M a)
    | some (.dK kvs) => t D (setE e i (.dK (kvs.map (·.1)) (kvs.map (·.2)))) (er M a)
    | some (.dT kvs) => t D (setE e i (.dT (kvs.map (·.1)) (kvs.map (·.2)))) (er M a)
    | _ => False
  | _ => False
mutual
/-- a statement's reading of data -/
def wps (G : GT) (E : X3) : Sx → TS3
  | .asg tg e => asg3 (wpe G e E) tg
  | .par i j a b => par3 i j (cons3 (wpe G a E) (cons3 (wpe G b E) nil3))
  | .sput o i e => sput3 (wpe G o E) (wpe G i E) (wpe G e E)
  | .aug i k e => aug3 i (wpe G e E) (match k with | true => iadd3 | false => isub3)
  | .expr e => drop3 (wpe G e E)
  | .ret e => ret3 (wpe G e E)
  | .retN => retN3
  | .ifs c a b => if3 (wpt G c E) (wpss G E a) (wpss G E b)
  | .fors tg ik its body => for3 (wi ik (wpl G its E)) tg (wpss G E body)
  | .whl c body => while3 (wpt G c E) (wpss G E body)
  | .brk => brk3
  | .cnt => cnt3
  | .pss => next3
  | .fz _ => fun _ _ _ => False
  | .rse e => raise3 (wpe G e E) E
  | .rseN => fun _ _ _ => False
  | .tryR body k _ => fun D e M => wpss G (excR D k) body D e M
def wpss (G : GT) (E : X3) : List Sx → TS3
  | [] => next3
  | s :: r => match s with
    | .fz i => fz3 i (wpss G E r)
    | s => seq3 (wps G E s) (wpss G E r)
end
end Z

namespace Z
open PySem PySem.Spec PyProof.Rows L2

def isVis (sc : Scope) (x : Str) : Bool := match sc.names.lookup x with
  | some .local => true | some .cell => true | some .free => true | _ => false
def isLoc (sc : Scope) (x : Str) : Bool := match sc.names.lookup x with
  | some .local => true | some .cell => true | _ => false
def isGl (sc : Scope) (x : Str) : Bool := match sc.names.lookup x with
  | some .globalImplicit => true | _ => false
def beqOp : BOp → Operator → Bool
  | .add, .Add => true | .sub, .Sub => true | .mul, .Mult => true | .fdv, .FloorDiv => true | .mod, .Mod => true | .pow, .Pow => true | _, _ => false
def beqCm : COp → CmpOp → Bool
  | .eq, .Eq => true | .ne, .NotEq => true | .lt, .Lt => true | .le, .LtE => true | .gt, .Gt => true | .ge, .GtE => true | .isin, .In => true | .notin, .NotIn => true | .is, .Is => true | .isnot, .IsNot => true | _, _ => false
theorem beqOp_ok {o : BOp} {p : Operator} (h : beqOp o p = true) : p = o.op := by
  cases o <;> cases p <;> first | rfl | (exact absurd h Bool.false_ne_true)
theorem beqCm_ok {o : COp} {p : CmpOp} (h : beqCm o p = true) : p = o.op := by
  cases o <;> cases p <;> first | rfl | (exact absurd h Bool.false_ne_true)
def Bt.args : Bt → Nat
  | .min2 | .max2 => 2
  | _ => 1
/-- a target of names -/
def chkNs (N : List Str) (sc : Scope) : List Nat → List Expr → Bool
  | [], [] => true
  | i :: is, e :: es => (match e with | .Name x _ => decide (N[i]? = some x) && isLoc sc x | _ => false) && chkNs N sc is es
  | _, _ => false
def chkTg (N : List Str) (sc : Scope) (tg : Tg) (e : Expr) : Bool := match tg with
  | .nm i => match e with | .Name x _ => decide (N[i]? = some x) && isLoc sc x | _ => false
  | .tp is => match e with | .Tuple es _ _ => chkNs N sc is es | _ => false
/-- not one of the few heads that are looked at apart -/
def plain : Expr → Bool
  | .Starred .. => false
  | .Set .. => false
  | .Slice .. => false
  | .ListComp .. => true
  | .SetComp .. => false
  | .DictComp .. => false
  | _ => true
def strD (x y : Str) : Bool := decide (x = y)
/-- what is walked, and the target (enumerate wants a written pair) -/
def chkI (G : GT) (ik : IK) (sc : Scope) (e t : Expr) (cl : List Expr → Bool) : Bool := match ik with
  | .seq => cl [e]
  | .rng1 => match e with | .Call (.Name y _) [a] [] _ => decide (y = ("range" : Str)) && isGl sc y && decide (y ∈ G.bn) && cl [a] | _ => false
  | .rng2 => match e with | .Call (.Name y _) [a, b] [] _ => decide (y = ("range" : Str)) && isGl sc y && decide (y ∈ G.bn) && cl [a, b] | _ => false
  | .enm => match e, t with | .Call (.Name y _) [a] [] _, .Tuple .. => decide (y = ("enumerate" : Str)) && isGl sc y && decide (y ∈ G.bn) && cl [a] | _, _ => false
def nmF (G : GT) (j : Nat) (y : Str) : Bool := match nth G.fns j with | some (x, _) => decide (x = y) | none => false
def nmC (G : GT) (j : Nat) (y : Str) : Bool := match nth G.cst j with | some (x, _) => decide (x = y) | none => false
mutual
def chkE (G : GT) (N : List Str) : Ex → Scope → Expr → Bool
  | .loc i, sc, e => match e with | .Name x _ => decide (N[i]? = some x) && isVis sc x | _ => false
  | .non, _, e => match e with | .Constant .none _ _ => true | _ => false
  | .bl b, _, e => match e with | .Constant (.bool c) _ _ => b == c | _ => false
  | .int i, _, e => match e with | .Constant (.int j) _ _ => decide (i = j) | _ => false
  | .str x, _, e => match e with | .Constant (.str y) _ _ => decide (x = y) | _ => false
  | .glo j, sc, e => match e with | .Name y _ => nmC G j y && isGl sc y && !(y == ("__debug__" : Str)) | _ => false
  | .bin o a b, sc, e => match e with | .BinOp l p r _ => beqOp o p && chkE G N a sc l && chkE G N b sc r | _ => false
  | .addM a b, sc, e => match e with | .BinOp l p r _ => beqOp .add p && chkE G N a sc l && chkE G N b sc r | _ => false
  | .srt2 a, sc, e => match e with | .Call (.Name y _) [.Call (.Name z _) [x] [] _] [] _ => decide (y = ("sorted" : Str)) && isGl sc y && decide (y ∈ G.bn) && decide (z = ("set" : Str)) && isGl sc z && decide (z ∈ G.bn) && chkE G N a sc x | _ => false
  | .neg a, sc, e => match e with | .UnaryOp .USub x _ => chkE G N a sc x | _ => false
  | .cmp o a b, sc, e => match e with | .Compare l [p] [r] _ => beqCm o p && chkE G N a sc l && chkE G N b sc r | _ => false
  | .chn o o' a b c, sc, e => match e with | .Compare l [p, p'] [r, r'] _ => beqCm o p && beqCm o' p' && chkE G N a sc l && chkE G N b sc r && chkE G N c sc r' | _ => false
  | .bol k es, sc, e => match e with | .BoolOp op vs _ => (match op with | .And => k | .Or => !k) && chkL G N es sc vs | _ => false
  | .nt a, sc, e => match e with | .UnaryOp .Not x _ => chkE G N a sc x | _ => false
  | .ite c a b, sc, e => match e with | .IfExp t x y _ => chkT G N c sc t && chkE G N a sc x && chkE G N b sc y | _ => false
  | .tup es, sc, e => match e with | .Tuple xs _ _ => chkL G N es sc xs | _ => false
  | .tupF es, sc, e => match e with | .Tuple xs _ _ => chkL G N es sc xs | _ => false
  | .lst _ es, sc, e => match e with | .List xs _ => chkL G N es sc xs | _ => false
  | .idx a b, sc, e => match e with | .Subscript x y _ => chkE G N a sc x && chkE G N b sc y | _ => false
  | .sli a lo hi, sc, e => match e with | .Subscript x (.Slice l h none _) _ => chkE G N a sc x && chkO G N lo sc l && chkO G N hi sc h | _ => false
  | .rev a, sc, e => match e with | .Subscript x (.Slice none none (some (.UnaryOp .USub (.Constant (.int 1) _ _) _)) _) _ => chkE G N a sc x | _ => false
  | .call j x xs, sc, e => match e with | .Call (.Name y _) (z :: zs) [] _ => nmF G j y && isGl sc y && !(y == ("__debug__" : Str)) && chkE G N x sc z && chkL G N xs sc zs | _ => false
  | .blt b x xs, sc, e => match e with | .Call (.Name y _) (z :: zs) [] _ => decide (y = Str.ofString b.name) && isGl sc y && decide (y ∈ G.bn) && chkE G N x sc z && chkL G N xs sc zs | _ => false
  | .isi T x, sc, e => match e with | .Call (.Name y _) [z, .Name t _] [] _ => decide (y = ("isinstance" : Str)) && isGl sc y && decide (y ∈ G.bn) && decide (t = Str.ofString T.name) && isGl sc t && decide (t ∈ G.bn) && chkE G N x sc z | _ => false
  | .mth m o x xs, sc, e => match e with | .Call (.Attribute v nm ap) (z :: zs) [] cp => decide (nm = Str.ofString m.name) && (ap.endLine == cp.line) && decide (zs.length < 9) && chkE G N o sc v && chkE G N x sc z && chkL G N xs sc zs | _ => false
  | .comp _ elt tg ik its ifs own, sc, e => match e with
    | .ListComp el [⟨t, it, fs, ia⟩] scope _ => decide (ia = 0) && blkC N sc scope own && (tg.slots.all fun i => decide (i ∈ own.map (·.2))) && chkI G ik sc it t (chkL G N its sc) && chkTg N scope tg t && chkC G N ifs (relS scope sc) fs && chkE G N elt (relS scope sc) el
    | _ => false
  | .newK _, _, e => match e with | .Dict [] [] _ => true | _ => false
  | .newT, _, e => match e with | .Dict [] [] _ => true | _ => false
  | .dis _ kvs, sc, e => match e with | .Dict ks vs _ => chkP G N kvs sc ks vs && decide (ks ≠ []) && decide (ks.length ≤ 15) | _ => false
  | .fmt x, sc, e => match e with | .FormattedValue z c none _ => decide (c = -1) && chkE G N x sc z | _ => false
  | .js x y xs, sc, e => match e with | .JoinedStr (z :: z2 :: zs) _ => chkE G N x sc z && chkE G N y sc z2 && chkL G N xs sc zs | _ => false
def chkT (G : GT) (N : List Str) : Ex → Scope → Expr → Bool
  | .cmp o a b, sc, e => match e with | .Compare l [p] [r] _ => beqCm o p && chkE G N a sc l && chkE G N b sc r | _ => false
  | .chn o o' a b c, sc, e => match e with | .Compare l [p, p'] [r, r'] _ => beqCm o p && beqCm o' p' && chkE G N a sc l && chkE G N b sc r && chkE G N c sc r' | _ => false
  | .bol k es, sc, e => match e with | .BoolOp op vs _ => (match op with | .And => k | .Or => !k) && chkTL G N es sc vs | _ => false
  | .nt a, sc, e => match e with | .UnaryOp .Not x _ => chkT G N a sc x | _ => false
  | .loc i, sc, e => match e with | .Name x _ => decide (N[i]? = some x) && isVis sc x | _ => false
  | .idx a b, sc, e => match e with | .Subscript x y _ => chkE G N a sc x && chkE G N b sc y | _ => false
  | .call j x xs, sc, e => match e with | .Call (.Name y _) (z :: zs) [] _ => nmF G j y && isGl sc y && !(y == ("__debug__" : Str)) && chkE G N x sc z && chkL G N xs sc zs | _ => false
  | .blt b x xs, sc, e => match e with | .Call (.Name y _) (z :: zs) [] _ => decide (y = Str.ofString b.name) && isGl sc y && decide (y ∈ G.bn) && chkE G N x sc z && chkL G N xs sc zs | _ => false
  | .isi T x, sc, e => match e with | .Call (.Name y _) [z, .Name t _] [] _ => decide (y = ("isinstance" : Str)) && isGl sc y && decide (y ∈ G.bn) && decide (t = Str.ofString T.name) && isGl sc t && decide (t ∈ G.bn) && chkE G N x sc z | _ => false
  | .mth m o x xs, sc, e => match e with | .Call (.Attribute v nm ap) (z :: zs) [] cp => decide (nm = Str.ofString m.name) && (ap.endLine == cp.line) && decide (zs.length < 9) && chkE G N o sc v && chkE G N x sc z && chkL G N xs sc zs | _ => false
  | _, _, _ => false
def chkL (G : GT) (N : List Str) : List Ex → Scope → List Expr → Bool
  | [], _, es => match es with | [] => true | _ => false
  | x :: xs, sc, es => match es with | e :: es => chkE G N x sc e && chkL G N xs sc es | [] => false
def chkTL (G : GT) (N : List Str) : List Ex → Scope → List Expr → Bool
  | [], _, es => match es with | [] => true | _ => false
  | x :: xs, sc, es => match es with | e :: es => chkT G N x sc e && chkTL G N xs sc es | [] => false
def chkO (G : GT) (N : List Str) : List Ex → Scope → Option Expr → Bool
  | [], _, e => match e with | none => true | some _ => false
  | x :: xs, sc, e => match e with | some e => chkE G N x sc e && xs.isEmpty | none => false
def chkC (G : GT) (N : List Str) : List Ex → Scope → List Expr → Bool
  | [], _, es => match es with | [] => true | _ => false
  | x :: xs, sc, es => match es with | [e] => chkT G N x sc e && xs.isEmpty | _ => false
def chkP (G : GT) (N : List Str) : List Ex → Scope → List (Option Expr) → List Expr → Bool
  | [], _, ks, vs => match ks, vs with | [], [] => true | _, _ => false
  | [_], _, _, _ => false
  | k :: v :: r, sc, ks, vs => match ks, vs with | some a :: ks, b :: vs => chkE G N k sc a && chkE G N v sc b && chkP G N r sc ks vs | _, _ => false
end
end Z

namespace Z
open PySem PySem.Spec PyProof.Rows L2

structure Good (G : GT) (N : List Str) (so sc : Scope) (X : Cx) (XR : XRel) (M0 : MH) (H0 : Hp) (E3 : X3) (k : Nat) : Prop where
  hN : X.N = N
  hsc : X.env.scope = sc
  calm : X.calm = true
  nd : N.Nodup
  nm : ∀ x ∈ N, (x == ("__debug__" : Str)) = false ∧ (x == ("__classdict__" : Str)) = false
  room : Room k X.A
  cel : ∀ x, so.names.lookup x = some .cell → X.fn x = true
  own : ∀ x kk, kk ≠ NameKind.free → so.names.lookup x = some kk → sc.names.lookup x = some kk
  fns : ∀ x n sp, (x, n, sp) ∈ G.fns → Cal X.prog X.w X.K X.mg X.base XR k x n sp
  cst : ∀ x d, (x, d) ∈ G.cst → ∃ v u, X.mg x = some u ∧ RelV v u ∧ ∀ M H, Rp X.K M H d v
  blt : ∀ x ∈ G.bn, X.mg x = none
  out : Out X XR M0 H0 E3
  err : G.er = true → HasErr X
  xr : G.er = true → XR = XRof X.K
section
variable {G : GT} {N : List Str} {so sc : Scope} {X : Cx} {XR : XRel} {M0 : MH} {H0 : Hp} {E3 : X3} {k : Nat}
theorem Good.hu (g : Good G N so sc X XR M0 H0 E3 k) : X.A.units + 100 < cLine := by have := g.room.un; omega
theorem Good.blk (g : Good G N so sc X XR M0 H0 E3 k) {s : Shared} {H : Hp} {scope : Scope} {C : Addr} {cl : List (Str × Addr)} {fp : List Addr} : Good G N scope (relS scope sc) (X.blk s H scope (compEnvC scope cl C X.env) fp) XR M0 H0 noX k :=
  ⟨g.hN, by rw [← g.hsc]; rfl, g.calm, g.nd, g.nm, g.room, fun x h => by show (scope.names.lookup x == some .cell) = true; rw [h]; rfl, fun x kk hk h => lookup_relS_keep hk h, g.fns, g.cst, g.blt, Out.no, g.err, g.xr⟩
theorem vis_of {x : Str} (g : Good G N so sc X XR M0 H0 E3 k) (h : isVis sc x = true) : Vis X.env.scope x := by
  rw [g.hsc]
  unfold isVis at h
  split at h
  · rename_i e; exact .inl e
  · rename_i e; exact .inr (.inl e)
  · rename_i e; exact .inr (.inr e)
  · cases h
theorem loc_of {x : Str} (g : Good G N so sc X XR M0 H0 E3 k) (h : isLoc so x = true) : Loc X.env.scope x ∧ (X.fn x = true ∨ X.env.scope.names.lookup x = some .local) := by
  rw [g.hsc]
  unfold isLoc at h
  split at h
  · rename_i e
    have e' := g.own x .local (by decide) e
    exact ⟨.inl e', .inr e'⟩
  · rename_i e
    exact ⟨.inr (g.own x .cell (by decide) e), .inl (g.cel x e)⟩
  · cases h
theorem gl_of {x : Str} (g : Good G N so sc X XR M0 H0 E3 k) (h : isGl sc x = true) : Gl X x := by
  show X.env.scope.names.lookup x = some .globalImplicit
  rw [g.hsc]
  unfold isGl at h
  split at h
  · rename_i e; exact e
  · cases h
/-! ### heads -/
theorem star_of {e : Expr} (h : plain e = true) (es : List Expr) (env : Env) : starEach (e :: es) env = (false, eval e env) :: starEach es env := by
  cases e <;> first | rfl | (exact absurd h Bool.false_ne_true)
theorem plainIx_of {e : Expr} (h : plain e = true) : PlainIx e := by
  intro o i
  cases e <;> first | rfl | (exact absurd h Bool.false_ne_true)
theorem mark_of {op : CmpOp} {e : Expr} (h : plain e = true) : behindInMarks op e = false := by
  cases e <;> first | rfl | (exact absurd h Bool.false_ne_true)
theorem fold_of {e : Expr} (h : plain e = true) (env : Env) (x : Value) : foldedSetIterable e env x = pure x := by
  cases e <;> first | rfl | (exact absurd h Bool.false_ne_true)
theorem any_of : ∀ {es : List Expr} {pos : Pos} {env : Env}, (∀ e ∈ es, plain e = true) → (backTo pos (starEach es env)).any (·.1) = false
  | [], _, _, _ => rfl
  | e :: es, pos, env, h => by
    rw [star_of (h e (by simp))]
    show (false || (backTo pos (starEach es env)).any (·.1)) = false
    rw [Bool.false_or]
    exact any_of fun e' he => h e' (by simp [he])
theorem all_of : ∀ {es : List Expr} {pos : Pos} {env : Env}, (∀ e ∈ es, plain e = true) → (backTo pos (starEach es env)).all (fun x => !x.1) = true
  | [], _, _, _ => rfl
  | e :: es, pos, env, h => by
    rw [star_of (h e (by simp))]
    show (true && (backTo pos (starEach es env)).all (fun x => !x.1)) = true
    rw [Bool.true_and]
    exact all_of fun e' he => h e' (by simp [he])
/-- an expression that is looked at is plain -/
theorem plain_of : ∀ {ex : Ex} {sc : Scope} {e : Expr}, chkE G N ex sc e = true → plain e = true := fun {ex sc e} h => by
  cases ex <;> cases e <;> first | rfl | (exact absurd h Bool.false_ne_true)
theorem plainL_of : ∀ {xs : List Ex} {sc : Scope} {es : List Expr}, chkL G N xs sc es = true → ∀ e ∈ es, plain e = true
  | [], sc, [], _ => fun e he => by simp at he
  | [], sc, _ :: _, h => absurd h Bool.false_ne_true
  | x :: xs, sc, [], h => absurd h Bool.false_ne_true
  | x :: xs, sc, e :: es, h => by
    have h : (chkE G N x sc e && chkL G N xs sc es) = true := h
    rw [Bool.and_eq_true] at h
    intro e' he
    rcases List.mem_cons.mp he with rfl | he
    · exact plain_of h.1
    · exact plainL_of h.2 e' he
theorem base_of {ex : Ex} {o : Expr} {nm : Str} {env : Env} (h : chkE G N ex sc o = true) : attributeBase o nm env (eval o env) = eval o env := by
  cases o with
  | Call f as ks pos =>
    cases as with
    | nil =>
      cases ex <;> first | (exact absurd h Bool.false_ne_true) | skip
      all_goals (cases f <;> first | rfl | (exact absurd h Bool.false_ne_true))
    | cons a as =>
      cases f <;> rfl
  | _ => rfl
/-! ### built-ins -/
theorem bt_b (hc : X.calm = true) (hu : X.A.units + 100 < cLine) : ∀ b : Bt, b.isTy = false → CallR X (.builtin b.name) (LOL X.K b.ol)
  | .len, _ => zc_len
  | .abs, _ => zc_abs
  | .min2, _ => zc_min2 hc
  | .max2, _ => zc_max2 hc
  | .minL, _ => zc_minL hc
  | .maxL, _ => zc_maxL hc
  | .sum, _ => zc_sum hc
  | .all, _ => zc_all hc
  | .any, _ => zc_any hc
  | .srt, _ => zc_srt hu
  | .minP, _ => zc_minP hc hu
theorem bt_t (hc : X.calm = true) : ∀ b : Bt, b.isTy = true → CallR X (.type b.name) (LOL X.K b.ol)
  | .int, _ => zc_int
  | .tupT, _ => zc_tup .t
  | .tupK, _ => zc_tup .k
  | .lstF, _ => zc_lst hc false
  | .lstM, _ => zc_lst hc true
  | .strI, _ => zc_strI
theorem boot_b : ∀ b : Bt, b.isTy = false → bootBuiltins (Str.ofString b.name) = some (.builtin b.name) := by
  intro b h
  cases b <;> first | (exact absurd h (by decide)) | decide +kernel
theorem boot_t : ∀ b : Bt, b.isTy = true → bootBuiltins (Str.ofString b.name) = some (.type b.name) := by
  intro b h
  cases b <;> first | (exact absurd h (by decide)) | decide +kernel
theorem nm_b : ∀ b : Bt, Str.ofString b.name ≠ "__name__" ∧ (Str.ofString b.name == ("__debug__" : Str)) = false := by
  intro b
  cases b <;> decide +kernel
theorem boot_ty : ∀ T : Ty, bootBuiltins (Str.ofString T.name) = some (.type T.name) ∧ Str.ofString T.name ≠ "__name__" ∧ (Str.ofString T.name == ("__debug__" : Str)) = false := by
  intro T
  cases T <;> decide +kernel
/-! ### methods -/
theorem mt_pa : ∀ m : Mt, PlainAttrs m.ty
  | .append | .extend | .index => PySem.F.plainAttrs_list
  | .get | .setdefault => PySem.F.plainAttrs_dict
  | .indexT => PySem.F.plainAttrs_tuple
  | .join | .split | .startswith | .partition => PySem.F.plainAttrs_str
theorem mt_slot : ∀ m : Mt, Slot m.ty (Str.ofString m.name) m.id
  | .append => PySem.F.slot_list_append
  | .extend => PySem.F.slot_list_extend
  | .index => PySem.F.slot_list_index
  | .get => PySem.F.slot_dict_get
  | .setdefault => PySem.F.slot_dict_setdefault
  | .indexT => PySem.F.slot_tuple_index
  | .join => PySem.F.slot_str_join
  | .split => PySem.F.slot_str_split
  | .startswith => PySem.F.slot_str_startswith
  | .partition => PySem.F.slot_str_partition
theorem mt_ty : ∀ m : Mt, typeOf (.builtin m.id) = pure (.type "method_descriptor")
  | .append => PySem.F.type_list_append
  | .extend => PySem.F.type_list_extend
  | .index => PySem.F.type_list_index
  | .get => PySem.F.type_dict_get
  | .setdefault => PySem.F.type_dict_setdefault
  | .indexT => PySem.F.type_tuple_index
  | .join => PySem.F.type_str_join
  | .split => PySem.F.type_str_split
  | .startswith => PySem.F.type_str_startswith
  | .partition => PySem.F.type_str_partition
theorem co_ok (hu : X.A.units + 100 < cLine) : ∀ o : COp, OpR X (compareOp o.op) (LO2 X.K o.o2)
  | .eq => zo_eq (by omega)
  | .ne => zo_ne (by omega)
  | .lt => zo_lt (by omega)
  | .le => zo_le (by omega)
  | .gt => zo_gt (by omega)
  | .ge => zo_ge (by omega)
  | .isin => zo_in (by omega)
  | .notin => zo_nin (by omega)
  | .is => zo_isN
  | .isnot => zo_notN
theorem bo_ok : ∀ o : BOp, OpR X (binaryOp o.op) (LO2 X.K o.o2)
  | .add => zo_add
  | .sub => zo_sub
  | .mul => zo_mul
  | .fdv => zo_fdv
  | .mod => zo_mod
  | .pow => zo_pow
/-! ### targets -/
theorem names_ok (g : Good G N so sc X XR M0 H0 E3 k) : ∀ {is : List Nat} {es : List Expr}, chkNs N so is es = true → PGs X es (gNames is) ∧ (assignEach es X.env).length = is.length ∧ (assignEach es X.env).findIdx? (·.1) = none
  | [], [], _ => ⟨pgs_nil, rfl, rfl⟩
  | [], _ :: _, h => absurd h Bool.false_ne_true
  | _ :: _, [], h => absurd h Bool.false_ne_true
  | i :: is, e :: es, h => by
    simp only [chkNs, Bool.and_eq_true] at h
    obtain ⟨h1, h2⟩ := h
    obtain ⟨g1, g2, g3⟩ := names_ok g h2
    cases e with
    | Name x pos =>
      simp only [Bool.and_eq_true, decide_eq_true_eq] at h1
      obtain ⟨l1, l2⟩ := loc_of g h1.2
      refine ⟨pgs_cons (pg_name (by rw [g.hN]; exact g.nd) (by rw [g.hN]; exact h1.1) l1 l2) g1 rfl, ?_, ?_⟩
      · show (assignEach es X.env).length + 1 = is.length + 1
        rw [g2]
      · show List.findIdx? (·.1) ((false, assign (.Name x pos) X.env) :: assignEach es X.env) = none
        rw [List.findIdx?_cons, g3]; rfl
    | _ => exact absurd h1 Bool.false_ne_true
theorem tg_ok (g : Good G N so sc X XR M0 H0 E3 k) {tg : Tg} {e : Expr} (h : chkTg N so tg e = true) : PG X e (gOf X.K tg) := by
  cases tg with
  | nm i =>
    cases e with
    | Name x pos =>
      have h : (decide (N[i]? = some x) && isLoc so x) = true := h
      rw [Bool.and_eq_true, decide_eq_true_eq] at h
      obtain ⟨l1, l2⟩ := loc_of g h.2
      exact pg_name (by rw [g.hN]; exact g.nd) (by rw [g.hN]; exact h.1) l1 l2
    | _ => exact absurd h Bool.false_ne_true
  | tp is =>
    cases e with
    | Tuple es kk pos =>
      obtain ⟨g1, g2, g3⟩ := names_ok g (show chkNs N so is es = true from h)
      exact pg_tup g.calm g1 g2 g3
    | _ => exact absurd h Bool.false_ne_true
theorem z_lc' (g : Good G N so sc X XR M0 H0 E3 k) {m : Bool} {elt tgE iter : Expr} {ifs : List Expr} {scope : Scope} {own : List (Str × Nat)} {it : TL3} {tg : Tg} {tt : TB3} {te : T3} {pos : Pos} (hi : PI X tgE iter (LI X.K M0 H0 it)) (hb : blkC N sc scope own = true) (hsub : (tg.slots.all fun i => decide (i ∈ own.map (·.2))) = true) (htg : chkTg N scope tg tgE = true)
    (ht : ∀ {X' : Cx}, X'.K = X.K → Good G N scope (relS scope sc) X' XR M0 H0 noX k → PTs X' ifs (LT X.K M0 H0 tt)) (he : ∀ {X' : Cx}, X'.K = X.K → Good G N scope (relS scope sc) X' XR M0 H0 noX k → PE X' elt (LE X.K M0 H0 te)) (hp : plain iter = true) :
    PE X (.ListComp elt [⟨tgE, iter, ifs, 0⟩] scope pos) (LE X.K M0 H0 (comp3 m it tg tt te (own.map (·.2)))) :=
  z_lc g.calm (by rw [g.hN]; exact g.nd) hi (blkOk_by (by rw [g.hN, g.hsc]; exact hb)) (fun i hi => by
    rw [List.all_eq_true] at hsub
    exact of_decide_eq_true (hsub i hi)) (fun s H C cl fp => tg_ok g.blk htg) (fun s H C cl fp => ht rfl g.blk) (fun s H C cl fp => he rfl g.blk) (fold_of hp _)
end
end Z

namespace Z
open PySem PySem.Spec PyProof.Rows L2

theorem b2 {a b : Bool} (h : (a && b) = true) : a = true ∧ b = true := by rwa [Bool.and_eq_true] at h
theorem b3 {a b c : Bool} (h : (a && b && c) = true) : a = true ∧ b = true ∧ c = true := by
  obtain ⟨h, h3⟩ := b2 h
  obtain ⟨h1, h2⟩ := b2 h
  exact ⟨h1, h2, h3⟩
theorem b5 {a b c d e : Bool} (h : (a && b && c && d && e) = true) : a = true ∧ b = true ∧ c = true ∧ d = true ∧ e = true := by
  obtain ⟨h, h5⟩ := b2 h
  obtain ⟨h, h4⟩ := b2 h
  obtain ⟨h1, h2, h3⟩ := b3 h
  exact ⟨h1, h2, h3, h4, h5⟩
theorem b6 {a b c d e f : Bool} (h : (a && b && c && d && e && f) = true) : a = true ∧ b = true ∧ c = true ∧ d = true ∧ e = true ∧ f = true := by
  obtain ⟨h, h6⟩ := b2 h
  obtain ⟨h1, h2, h3, h4, h5⟩ := b5 h
  exact ⟨h1, h2, h3, h4, h5, h6⟩
theorem b7 {a b c d e f g : Bool} (h : (a && b && c && d && e && f && g) = true) : a = true ∧ b = true ∧ c = true ∧ d = true ∧ e = true ∧ f = true ∧ g = true := by
  obtain ⟨h, h7⟩ := b2 h
  obtain ⟨h1, h2, h3, h4, h5, h6⟩ := b6 h
  exact ⟨h1, h2, h3, h4, h5, h6, h7⟩
section
variable {G : GT} {N : List Str} {XR : XRel} {M0 : MH} {H0 : Hp} {k : Nat}
theorem z_loc' {so sc : Scope} {X : Cx} {E3 : X3} (g : Good G N so sc X XR M0 H0 E3 k) {i : Nat} {x : Str} {pos : Pos} (h : (decide (N[i]? = some x) && isVis sc x) = true) : PE X (.Name x pos) (LE X.K M0 H0 (loc3 i)) := by
  obtain ⟨h1, h2⟩ := b2 h
  have h1 := of_decide_eq_true h1
  obtain ⟨n1, n2⟩ := g.nm x (List.mem_of_getElem? h1)
  exact z_loc (pe_var (by rw [g.hN]; exact h1) (vis_of g h2) n1 n2)
theorem z_call' {so sc : Scope} {X : Cx} {E3 : X3} (g : Good G N so sc X XR M0 H0 E3 k) {j : Nat} {f : Str} {e : Expr} {es : List Expr} {te : T3} {tl : TL3} {p pos : Pos} (hj : nmF G j f = true) (hg : isGl sc f = true) (hd : (!(f == ("__debug__" : Str))) = true) (he : PE X e (LE X.K M0 H0 te)) (hes : PA X es (LA X.K M0 H0 tl)) (pe : plain e = true) (ps : ∀ e ∈ es, plain e = true) :
    PE X (.Call (.Name f p) (e :: es) [] pos) (LE X.K M0 H0 (callG G j E3 (cons3 te tl))) := by
  unfold nmF at hj
  unfold callG
  split at hj
  · rename_i x r q
    obtain ⟨n, sp⟩ := r
    have hj := of_decide_eq_true hj
    subst hj
    rw [q]
    exact z_call (g.fns x n sp (nth_mem q)) g.room g.out (gl_of g hg) (z_cons he hes (star_of pe _ _)) (by simpa using hd) (star_of pe _ _) (any_of ps)
  · cases hj
theorem z_blt' {so sc : Scope} {X : Cx} {E3 : X3} (g : Good G N so sc X XR M0 H0 E3 k) {b : Bt} {e : Expr} {es : List Expr} {te : T3} {tl : TL3} {p pos : Pos} (hg : isGl sc (Str.ofString b.name) = true) (hm : decide (Str.ofString b.name ∈ G.bn) = true) (he : PE X e (LE X.K M0 H0 te)) (hes : PA X es (LA X.K M0 H0 tl)) (pe : plain e = true) (ps : ∀ e ∈ es, plain e = true) :
    PE X (.Call (.Name (Str.ofString b.name) p) (e :: es) [] pos) (LE X.K M0 H0 (opL b.ol (cons3 te tl))) := by
  have hm := g.blt _ (of_decide_eq_true hm)
  obtain ⟨n1, n2⟩ := nm_b b
  cases t : b.isTy with
  | true => exact z_callTy (bt_t g.calm b t) (gl_of g hg) hm (boot_t b t) (z_cons he hes (star_of pe _ _)) n1 n2 (star_of pe _ _) (any_of ps)
  | false => exact z_callB (bt_b g.calm g.hu b t) (gl_of g hg) hm (boot_b b t) (z_cons he hes (star_of pe _ _)) n1 n2 (star_of pe _ _) (any_of ps)
theorem z_isi' {so sc : Scope} {X : Cx} {E3 : X3} (g : Good G N so sc X XR M0 H0 E3 k) {T : Ty} {e : Expr} {te : T3} {p p2 pos : Pos} (h1 : isGl sc ("isinstance" : Str) = true) (h2 : decide (("isinstance" : Str) ∈ G.bn) = true) (h3 : isGl sc (Str.ofString T.name) = true) (h4 : decide (Str.ofString T.name ∈ G.bn) = true) (he : PE X e (LE X.K M0 H0 te)) (pe : plain e = true) :
    PE X (.Call (.Name "isinstance" p) [e, .Name (Str.ofString T.name) p2] [] pos) (LE X.K M0 H0 (op1 (isi3 T) te)) := by
  obtain ⟨b1, b2, b3⟩ := boot_ty T
  exact z_isi rfl (gl_of g h1) (g.blt _ (of_decide_eq_true h2)) (gl_of g h3) (g.blt _ (of_decide_eq_true h4)) b1 b2 b3 he (by rw [star_of pe]; rfl) rfl
theorem z_mth' {so sc : Scope} {X : Cx} {E3 : X3} (g : Good G N so sc X XR M0 H0 E3 k) {m : Mt} {o e : Expr} {es : List Expr} {to te : T3} {tl : TL3} {apos cpos : Pos} (hb : ∀ nm env, attributeBase o nm env (eval o env) = eval o env) (hl : (apos.endLine == cpos.line) = true) (h9 : decide (es.length < 9) = true)
    (ho : PE X o (LE X.K M0 H0 to)) (he : PE X e (LE X.K M0 H0 te)) (hes : PA X es (LA X.K M0 H0 tl)) (pe : plain e = true) (ps : ∀ e ∈ es, plain e = true) : PE X (.Call (.Attribute o (Str.ofString m.name) apos) (e :: es) [] cpos) (LE X.K M0 H0 (mth3 m to (cons3 te tl))) := by
  refine z_mth rfl (mt_pa m) (mt_slot m) (mt_ty m) (zm_all g.hu m) ho (z_cons he hes (star_of pe _ _)) (hb _ _) ?_ hl (star_of pe _ _) (any_of ps)
  have h9 := of_decide_eq_true h9
  have a := all_of (pos := cpos) (env := X.env) (es := e :: es) (fun e' h => by rcases List.mem_cons.mp h with rfl | h; exact pe; exact ps _ h)
  rw [a]
  show (true && true && decide ((e :: es).length + 0 + 0 < 30)) = true
  rw [decide_eq_true (by rw [List.length_cons]; omega)]; rfl
/-- a walked thing -/
theorem z_it {so sc : Scope} {X : Cx} {E3 : X3} (g : Good G N so sc X XR M0 H0 E3 k) {ik : IK} {e t : Expr} {tl : TL3} {cl : List Expr → Bool} (h : chkI G ik sc e t cl = true) (hl : ∀ es, cl es = true → PA X es (LA X.K M0 H0 tl) ∧ ∀ e ∈ es, plain e = true) (h1 : ∀ e, cl [e] = true → ∃ te, tl = cons3 te nil3 ∧ PE X e (LE X.K M0 H0 te)) :
    PI X t e (LI X.K M0 H0 (wi ik tl)) ∧ plain e = true := by
  cases ik with
  | seq =>
    obtain ⟨te, rfl, he⟩ := h1 e h
    refine ⟨?_, (hl [e] h).2 e (by simp)⟩
    exact z_iter (tg := t) rfl he
  | rng1 =>
    dsimp only [chkI] at h
    split at h
    · rename_i y py a pos
      obtain ⟨h, h4⟩ := b2 h
      obtain ⟨h1, h2, h3⟩ := b3 h
      obtain ⟨hp, hq⟩ := hl _ h4
      have h1 := of_decide_eq_true h1
      subst h1
      exact ⟨z_irng1 (gl_of g h2) (g.blt _ (of_decide_eq_true h3)) hp (by rw [star_of (hq a (by simp))]; rfl), rfl⟩
    · cases h
  | rng2 =>
    dsimp only [chkI] at h
    split at h
    · rename_i y py a b pos
      obtain ⟨h, h4⟩ := b2 h
      obtain ⟨h1, h2, h3⟩ := b3 h
      obtain ⟨hp, hq⟩ := hl _ h4
      have h1 := of_decide_eq_true h1
      subst h1
      exact ⟨z_irng2 (gl_of g h2) (g.blt _ (of_decide_eq_true h3)) hp (by rw [star_of (hq a (by simp)), star_of (hq b (by simp))]; rfl) (by rw [star_of (hq b (by simp))]; rfl), rfl⟩
    · cases h
  | enm =>
    dsimp only [chkI] at h
    split at h
    · rename_i y py a pos el kk tp
      obtain ⟨h, h4⟩ := b2 h
      obtain ⟨h1, h2, h3⟩ := b3 h
      obtain ⟨hp, hq⟩ := hl _ h4
      have h1 := of_decide_eq_true h1
      subst h1
      exact ⟨z_ienum rfl (gl_of g h2) (g.blt _ (of_decide_eq_true h3)) hp (by rw [star_of (hq a (by simp))]; rfl), rfl⟩
    · cases h
theorem wpl_one {x : Ex} {E3 : X3} : wpl G [x] E3 = cons3 (wpe G x E3) nil3 := rfl
theorem chkL_one {xs : List Ex} {sc : Scope} {e : Expr} (h : chkL G N xs sc [e] = true) : ∃ x, xs = [x] ∧ chkE G N x sc e = true := by
  cases xs with
  | nil => exact absurd h Bool.false_ne_true
  | cons x r =>
    obtain ⟨h1, h2⟩ := b2 (show (chkE G N x sc e && chkL G N r sc []) = true from h)
    cases r with
    | nil => exact ⟨x, rfl, h1⟩
    | cons y r => exact absurd h2 Bool.false_ne_true
theorem z_fmt {K : PySem.W.Frag} {X : Cx} {M0 : MH} {H0 : Hp} {e : Expr} {te : T3} {pos : Pos} (he : PE X e (LE K M0 H0 te)) : PE X (.FormattedValue e (-1) none pos) (LE K M0 H0 (op1 fmt3 te)) := (pe_fmt he).imp fun σ H Q ⟨en, M, P, rs, rm, ev, t, c⟩ =>
  LE.then rs rm ev t fun d M1 v1 H1 t1 r1 rs1 rm1 ev1 e1 => by
    cases d with
    | str y =>
      have r1 := rp_str r1
      subst r1
      exact .inl ⟨y, rfl, t1.1, c (.str y) M1 _ H1 t1.2 rfl rm1 e1⟩
    | int i =>
      have r1 := rp_int r1
      subst r1
      exact .inr ⟨i, rfl, t1.1, c (.str (toString i)) M1 _ H1 t1.2 rfl rm1 e1⟩
    | _ => exact t1.elim
theorem ljs {K : PySem.W.Frag} {M0 : MH} {H0 : Hp} : ∀ (ts : List T3) (acc : Str) (σ : L2.St) (H : Hp) (Q : Str → Hp → Prop), (∃ e M P, RS K M H e σ ∧ RM K M H ∧ Ev M0 H0 M H ∧ jsW ts acc e M P ∧ ∀ out M' H', P out M' → RM K M' H' → Ev M H M' H' → Q out H') → tJs (ts.map (LE K M0 H0)) acc σ H Q
  | [], acc, σ, H, Q, ⟨e, M, P, rs, rm, ev, t, c⟩ => c acc M H t rm (Ev.refl _ _)
  | t :: ts, acc, σ, H, Q, ⟨e, M, P, rs, rm, ev, tt, c⟩ => LE.then rs rm ev tt fun d M1 v1 H1 t1 r1 rs1 rm1 ev1 e1 => by
    cases d with
    | str y =>
      have r1 := rp_str r1
      subst r1
      exact ⟨y, rfl, t1.1, ljs ts (acc ++ y) σ H1 Q ⟨e, M1, P, rs1, rm1, ev1, t1.2, fun out M' H' p m ev' => c out M' H' p m (e1.trans ev')⟩⟩
    | _ => exact t1.elim
theorem z_js {K : PySem.W.Frag} {X : Cx} {M0 : MH} {H0 : Hp} {e1 e2 : Expr} {es : List Expr} {ts : List T3} {pos : Pos} (h : PJ X (e1 :: e2 :: es) (ts.map (LE K M0 H0))) : PE X (.JoinedStr (e1 :: e2 :: es) pos) (LE K M0 H0 (js3 ts)) := (pe_joined h).imp fun σ H Q ⟨en, M, P, rs, rm, ev, t, c⟩ =>
  ljs ts Str.empty σ H _ ⟨en, M, _, rs, rm, ev, t, fun out M' H' p m ev' => c (.str out) M' (.str out) H' p rfl m ev'⟩
mutual
theorem sE : ∀ (ex : Ex) {so sc : Scope} {X : Cx} {E3 : X3} {e : Expr}, Good G N so sc X XR M0 H0 E3 k → chkE G N ex sc e = true → PE X e (LE X.K M0 H0 (wpe G ex E3))
  | .loc i, so, sc, X, E3, e, g, h => by
    dsimp only [chkE] at h
    split at h
    · exact z_loc' g h
    · cases h
  | .non, so, sc, X, E3, e, g, h => by
    dsimp only [chkE] at h
    split at h
    · exact z_con pe_non fun _ _ => rfl
    · cases h
  | .bl b, so, sc, X, E3, e, g, h => by
    dsimp only [chkE] at h
    split at h
    · have h := eq_of_beq h
      subst h
      exact z_con pe_bl fun _ _ => rfl
    · cases h
  | .int i, so, sc, X, E3, e, g, h => by
    dsimp only [chkE] at h
    split at h
    · have h := of_decide_eq_true h
      subst h
      exact z_con pe_int fun _ _ => rfl
    · cases h
  | .str x, so, sc, X, E3, e, g, h => by
    dsimp only [chkE] at h
    split at h
    · have h := of_decide_eq_true h
      subst h
      exact z_con pe_str fun _ _ => rfl
    · cases h
  | .glo j, so, sc, X, E3, e, g, h => by
    dsimp only [chkE] at h
    split at h
    · rename_i y pos
      obtain ⟨h1, h2, h3⟩ := b3 h
      unfold nmC at h1
      split at h1
      · rename_i x d q
        have h1 := of_decide_eq_true h1
        subst h1
        obtain ⟨v, u, g1, g2, g3⟩ := g.cst x d (nth_mem q)
        have : wpe G (.glo j) E3 = con3 d := by
          show cstG G j = _
          unfold cstG
          rw [q]
        rw [this]
        exact z_con (pe_glob (gl_of g h2) g1 g2 (by simpa using h3)) g3
      · cases h1
    · cases h
  | .bin o a b, so, sc, X, E3, e, g, h => by
    dsimp only [chkE] at h
    split at h
    · obtain ⟨h1, h2, h3⟩ := b3 h
      rw [beqOp_ok h1]
      exact z_op (bo_ok o) (sE a g h2) (sE b g h3)
    · cases h
  | .addM a b, so, sc, X, E3, e, g, h => by
    dsimp only [chkE] at h
    split at h
    · obtain ⟨h1, h2, h3⟩ := b3 h
      rw [beqOp_ok h1]
      exact z_op zo_addM (sE a g h2) (sE b g h3)
    · cases h
  | .srt2 a, so, sc, X, E3, e, g, h => by
    dsimp only [chkE] at h
    split at h
    · obtain ⟨h1, h2, h3, h4, h5, h6, h7⟩ := b7 h
      have h1 := of_decide_eq_true h1
      have h4 := of_decide_eq_true h4
      subst h1 h4
      exact z_srt2 rfl g.calm g.hu (gl_of g h2) (g.blt _ (of_decide_eq_true h3)) (gl_of g h5) (g.blt _ (of_decide_eq_true h6)) (sE a g h7) (by rw [star_of (plain_of h7)])
    · cases h
  | .neg a, so, sc, X, E3, e, g, h => by
    dsimp only [chkE] at h
    split at h
    · exact z_un zo_neg (sE a g h)
    · cases h
  | .cmp o a b, so, sc, X, E3, e, g, h => by
    dsimp only [chkE] at h
    split at h
    · obtain ⟨h1, h2, h3⟩ := b3 h
      rw [beqCm_ok h1]
      exact z_cmp (co_ok g.hu o) (sE a g h2) (sE b g h3) (mark_of (plain_of h3))
    · cases h
  | .chn o o' a b c, so, sc, X, E3, e, g, h => by
    dsimp only [chkE] at h
    split at h
    · obtain ⟨h1, h2, h3, h4, h5⟩ := b5 h
      rw [beqCm_ok h1, beqCm_ok h2]
      exact z_chain (co_ok g.hu o) (co_ok g.hu o') (sE a g h3) (sE b g h4) (sE c g h5) (by
        show behindInMarks o'.op _ = false
        exact mark_of (plain_of h5))
    · cases h
  | .bol kk es, so, sc, X, E3, e, g, h => by
    dsimp only [chkE] at h
    split at h
    · rename_i op vs pos
      obtain ⟨h1, h2⟩ := b2 h
      cases op with
      | And =>
        have h1 : kk = true := h1
        subst h1
        exact sVa es g h2
      | Or =>
        have h1 : kk = false := by simpa using h1
        subst h1
        exact sVo es g h2
    · cases h
  | .nt a, so, sc, X, E3, e, g, h => by
    dsimp only [chkE] at h
    split at h
    · exact z_vnot (sE a g h)
    · cases h
  | .ite c a b, so, sc, X, E3, e, g, h => by
    dsimp only [chkE] at h
    split at h
    · obtain ⟨h1, h2, h3⟩ := b3 h
      exact z_ite (sT c g h1) (sE a g h2) (sE b g h3)
    · cases h
  | .tup es, so, sc, X, E3, e, g, h => by
    dsimp only [chkE] at h
    split at h
    · exact z_tup (sL es g h)
    · cases h
  | .tupF es, so, sc, X, E3, e, g, h => by
    dsimp only [chkE] at h
    split at h
    · exact z_tupF (sL es g h)
    · cases h
  | .lst m es, so, sc, X, E3, e, g, h => by
    dsimp only [chkE] at h
    split at h
    · cases m with
      | true => exact z_lstM (sL es g h)
      | false => exact z_lst (sL es g h)
    · cases h
  | .idx a b, so, sc, X, E3, e, g, h => by
    dsimp only [chkE] at h
    split at h
    · obtain ⟨h1, h2⟩ := b2 h
      exact z_ix (zi_ix (by have := g.hu; omega)) (sE a g h1) (sE b g h2) (plainIx_of (plain_of h2))
    · cases h
  | .sli a lo hi, so, sc, X, E3, e, g, h => by
    dsimp only [chkE] at h
    split at h
    · obtain ⟨h1, h2, h3⟩ := b3 h
      exact z_sl rfl (sE a g h1) (sO lo g h2) (sO hi g h3)
    · cases h
  | .rev a, so, sc, X, E3, e, g, h => by
    dsimp only [chkE] at h
    split at h
    · exact z_rev rfl (sE a g h)
    · cases h
  | .call j x xs, so, sc, X, E3, e, g, h => by
    dsimp only [chkE] at h
    split at h
    · obtain ⟨h1, h2, h3, h4, h5⟩ := b5 h
      exact z_call' g h1 h2 h3 (sE x g h4) (sL xs g h5) (plain_of h4) (plainL_of h5)
    · cases h
  | .blt b x xs, so, sc, X, E3, e, g, h => by
    dsimp only [chkE] at h
    split at h
    · obtain ⟨h1, h2, h3, h4, h5⟩ := b5 h
      have h1 := of_decide_eq_true h1
      subst h1
      exact z_blt' g h2 h3 (sE x g h4) (sL xs g h5) (plain_of h4) (plainL_of h5)
    · cases h
  | .isi T x, so, sc, X, E3, e, g, h => by
    dsimp only [chkE] at h
    split at h
    · obtain ⟨h1, h2, h3, h4, h5, h6, h7⟩ := b7 h
      have h1 := of_decide_eq_true h1
      have h4 := of_decide_eq_true h4
      subst h1 h4
      exact z_isi' g h2 h3 h5 h6 (sE x g h7) (plain_of h7)
    · cases h
  | .mth m o x xs, so, sc, X, E3, e, g, h => by
    dsimp only [chkE] at h
    split at h
    · obtain ⟨h1, h2, h3, h4, h5, h6⟩ := b6 h
      have h1 := of_decide_eq_true h1
      subst h1
      exact z_mth' g (fun _ _ => base_of h4) h2 h3 (sE o g h4) (sE x g h5) (sL xs g h6) (plain_of h5) (plainL_of h6)
    · cases h
  | .comp m elt tg ik its ifs own, so, sc, X, E3, e, g, h => by
    dsimp only [chkE] at h
    split at h
    · obtain ⟨h1, h2, h3, h4, h5, h6, h7⟩ := b7 h
      have h1 := of_decide_eq_true h1
      subst h1
      obtain ⟨p1, p2⟩ := z_it (tl := wpl G its E3) g h4 (fun es he => ⟨sL its g he, plainL_of he⟩) (fun e he => sL1 its g he)
      exact z_lc' g p1 h2 h3 h5 (fun hk g' => by rw [← hk]; exact sC ifs g' h6) (fun hk g' => by rw [← hk]; exact sE elt g' h7) p2
    · cases h
  | .newK m, so, sc, X, E3, e, g, h => by
    dsimp only [chkE] at h
    split at h
    · exact z_newK
    · cases h
  | .newT, so, sc, X, E3, e, g, h => by
    dsimp only [chkE] at h
    split at h
    · exact z_newT
    · cases h
  | .dis m kvs, so, sc, X, E3, e, g, h => by
    dsimp only [chkE] at h
    split at h
    · obtain ⟨h1, h2, h3⟩ := b3 h
      obtain ⟨p1, p2, p3⟩ := sP kvs g h1
      exact z_disp (p1 _) p2 p3 (of_decide_eq_true h2) (of_decide_eq_true h3)
    · cases h
  | .fmt x, so, sc, X, E3, e, g, h => by
    dsimp only [chkE] at h
    split at h
    · obtain ⟨h1, h2⟩ := b2 h
      have h1 := of_decide_eq_true h1
      subst h1
      exact z_fmt (sE x g h2)
    · cases h
  | .js x y xs, so, sc, X, E3, e, g, h => by
    dsimp only [chkE] at h
    split at h
    · obtain ⟨h1, h2, h3⟩ := b3 h
      exact z_js (ts := wpe G x E3 :: wpe G y E3 :: wpj G xs E3) (PJ.cons (sE x g h1) (PJ.cons (sE y g h2) (sJ xs g h3)))
    · cases h
theorem sT : ∀ (ex : Ex) {so sc : Scope} {X : Cx} {E3 : X3} {e : Expr}, Good G N so sc X XR M0 H0 E3 k → chkT G N ex sc e = true → PT X e (LT X.K M0 H0 (wpt G ex E3))
  | .cmp o a b, so, sc, X, E3, e, g, h => by
    dsimp only [chkT] at h
    split at h
    · obtain ⟨h1, h2, h3⟩ := b3 h
      rw [beqCm_ok h1]
      exact z_tcmp (co_ok g.hu o) (sE a g h2) (sE b g h3) (mark_of (plain_of h3))
    · cases h
  | .chn o o' a b c, so, sc, X, E3, e, g, h => by
    dsimp only [chkT] at h
    split at h
    · obtain ⟨h1, h2, h3, h4, h5⟩ := b5 h
      rw [beqCm_ok h1, beqCm_ok h2]
      exact z_tchain (co_ok g.hu o) (co_ok g.hu o') (sE a g h3) (sE b g h4) (sE c g h5) (by
        show behindInMarks o'.op _ = false
        exact mark_of (plain_of h5))
    · cases h
  | .bol kk es, so, sc, X, E3, e, g, h => by
    dsimp only [chkT] at h
    split at h
    · rename_i op vs pos
      obtain ⟨h1, h2⟩ := b2 h
      cases op with
      | And =>
        have h1 : kk = true := h1
        subst h1
        exact (sBa es g h2).pt
      | Or =>
        have h1 : kk = false := by simpa using h1
        subst h1
        exact (sBo es g h2).pt
    · cases h
  | .nt a, so, sc, X, E3, e, g, h => by
    dsimp only [chkT] at h
    split at h
    · exact z_not (sT a g h)
    · cases h
  | .loc i, so, sc, X, E3, e, g, h => by
    dsimp only [chkT] at h
    split at h
    · exact z_truth rfl (z_loc' g h) fun _ => rfl
    · cases h
  | .idx a b, so, sc, X, E3, e, g, h => by
    dsimp only [chkT] at h
    split at h
    · obtain ⟨h1, h2⟩ := b2 h
      exact z_truth rfl (z_ix (zi_ix (by have := g.hu; omega)) (sE a g h1) (sE b g h2) (plainIx_of (plain_of h2))) fun _ => rfl
    · cases h
  | .call j x xs, so, sc, X, E3, e, g, h => by
    dsimp only [chkT] at h
    split at h
    · obtain ⟨h1, h2, h3, h4, h5⟩ := b5 h
      exact z_truth rfl (z_call' g h1 h2 h3 (sE x g h4) (sL xs g h5) (plain_of h4) (plainL_of h5)) fun _ => rfl
    · cases h
  | .blt b x xs, so, sc, X, E3, e, g, h => by
    dsimp only [chkT] at h
    split at h
    · obtain ⟨h1, h2, h3, h4, h5⟩ := b5 h
      have h1 := of_decide_eq_true h1
      subst h1
      exact z_truth rfl (z_blt' g h2 h3 (sE x g h4) (sL xs g h5) (plain_of h4) (plainL_of h5)) fun _ => rfl
    · cases h
  | .isi T x, so, sc, X, E3, e, g, h => by
    dsimp only [chkT] at h
    split at h
    · obtain ⟨h1, h2, h3, h4, h5, h6, h7⟩ := b7 h
      have h1 := of_decide_eq_true h1
      have h4 := of_decide_eq_true h4
      subst h1 h4
      exact z_truth rfl (z_isi' g h2 h3 h5 h6 (sE x g h7) (plain_of h7)) fun _ => rfl
    · cases h
  | .mth m o x xs, so, sc, X, E3, e, g, h => by
    dsimp only [chkT] at h
    split at h
    · obtain ⟨h1, h2, h3, h4, h5, h6⟩ := b6 h
      have h1 := of_decide_eq_true h1
      subst h1
      exact z_truth rfl (z_mth' g (fun _ _ => base_of h4) h2 h3 (sE o g h4) (sE x g h5) (sL xs g h6) (plain_of h5) (plainL_of h6)) fun _ => rfl
    · cases h
  | .non, _, _, _, _, _, _, h => absurd h Bool.false_ne_true
  | .bl _, _, _, _, _, _, _, h => absurd h Bool.false_ne_true
  | .int _, _, _, _, _, _, _, h => absurd h Bool.false_ne_true
  | .str _, _, _, _, _, _, _, h => absurd h Bool.false_ne_true
  | .glo _, _, _, _, _, _, _, h => absurd h Bool.false_ne_true
  | .bin _ _ _, _, _, _, _, _, _, h => absurd h Bool.false_ne_true
  | .addM _ _, _, _, _, _, _, _, h => absurd h Bool.false_ne_true
  | .srt2 _, _, _, _, _, _, _, h => absurd h Bool.false_ne_true
  | .neg _, _, _, _, _, _, _, h => absurd h Bool.false_ne_true
  | .ite _ _ _, _, _, _, _, _, _, h => absurd h Bool.false_ne_true
  | .tup _, _, _, _, _, _, _, h => absurd h Bool.false_ne_true
  | .tupF _, _, _, _, _, _, _, h => absurd h Bool.false_ne_true
  | .lst _ _, _, _, _, _, _, _, h => absurd h Bool.false_ne_true
  | .sli _ _ _, _, _, _, _, _, _, h => absurd h Bool.false_ne_true
  | .rev _, _, _, _, _, _, _, h => absurd h Bool.false_ne_true
  | .comp _ _ _ _ _ _ _, _, _, _, _, _, _, h => absurd h Bool.false_ne_true
  | .newK _, _, _, _, _, _, _, h => absurd h Bool.false_ne_true
  | .newT, _, _, _, _, _, _, h => absurd h Bool.false_ne_true
  | .dis _ _, _, _, _, _, _, _, h => absurd h Bool.false_ne_true
  | .fmt _, _, _, _, _, _, _, h => absurd h Bool.false_ne_true
  | .js _ _ _, _, _, _, _, _, _, h => absurd h Bool.false_ne_true
theorem sL : ∀ (xs : List Ex) {so sc : Scope} {X : Cx} {E3 : X3} {es : List Expr}, Good G N so sc X XR M0 H0 E3 k → chkL G N xs sc es = true → PA X es (LA X.K M0 H0 (wpl G xs E3))
  | [], so, sc, X, E3, [], g, h => z_nil
  | [], so, sc, X, E3, _ :: _, g, h => absurd h Bool.false_ne_true
  | x :: xs, so, sc, X, E3, [], g, h => absurd h Bool.false_ne_true
  | x :: xs, so, sc, X, E3, e :: es, g, h => by
    obtain ⟨h1, h2⟩ := b2 (show (chkE G N x sc e && chkL G N xs sc es) = true from h)
    exact z_cons (sE x g h1) (sL xs g h2) (star_of (plain_of h1) _ _)
theorem sJ : ∀ (xs : List Ex) {so sc : Scope} {X : Cx} {E3 : X3} {es : List Expr}, Good G N so sc X XR M0 H0 E3 k → chkL G N xs sc es = true → PJ X es ((wpj G xs E3).map (LE X.K M0 H0))
  | [], so, sc, X, E3, es, g, h => by
    cases es with
    | nil => exact .nil
    | cons _ _ => exact absurd h Bool.false_ne_true
  | x :: xs, so, sc, X, E3, es, g, h => by
    cases es with
    | nil => exact absurd h Bool.false_ne_true
    | cons e es =>
      obtain ⟨h1, h2⟩ := b2 (show (chkE G N x sc e && chkL G N xs sc es) = true from h)
      exact .cons (sE x g h1) (sJ xs g h2)
theorem sL1 : ∀ (xs : List Ex) {so sc : Scope} {X : Cx} {E3 : X3} {e : Expr}, Good G N so sc X XR M0 H0 E3 k → chkL G N xs sc [e] = true → ∃ te, wpl G xs E3 = cons3 te nil3 ∧ PE X e (LE X.K M0 H0 te)
  | [], so, sc, X, E3, e, g, h => absurd h Bool.false_ne_true
  | x :: xs, so, sc, X, E3, e, g, h => by
    obtain ⟨h1, h2⟩ := b2 (show (chkE G N x sc e && chkL G N xs sc []) = true from h)
    cases xs with
    | nil => exact ⟨_, rfl, sE x g h1⟩
    | cons y r => exact absurd h2 Bool.false_ne_true
theorem sVa : ∀ (xs : List Ex) {so sc : Scope} {X : Cx} {E3 : X3} {es : List Expr} {pos : Pos}, Good G N so sc X XR M0 H0 E3 k → chkL G N xs sc es = true → PE X (.BoolOp .And es pos) (LE X.K M0 H0 (wpv G true xs E3))
  | [], so, sc, X, E3, es, pos, g, h => ⟨fun _ _ _ _ _ _ ⟨_, _, _, _, _, _, t, _⟩ => t.elim⟩
  | [x], so, sc, X, E3, es, pos, g, h => by
    cases es with
    | nil => exact absurd h Bool.false_ne_true
    | cons e es =>
      obtain ⟨h1, h2⟩ := b2 (show (chkE G N x sc e && chkL G N [] sc es) = true from h)
      cases es with
      | nil => exact pe_one (sE x g h1)
      | cons _ _ => exact absurd h2 Bool.false_ne_true
  | x :: y :: r, so, sc, X, E3, es, pos, g, h => by
    cases es with
    | nil => exact absurd h Bool.false_ne_true
    | cons e es =>
      obtain ⟨h1, h2⟩ := b2 (show (chkE G N x sc e && chkL G N (y :: r) sc es) = true from h)
      cases es with
      | nil => exact absurd h2 Bool.false_ne_true
      | cons e' es => exact z_vand (sE x g h1) (sVa (y :: r) g h2)
theorem sVo : ∀ (xs : List Ex) {so sc : Scope} {X : Cx} {E3 : X3} {es : List Expr} {pos : Pos}, Good G N so sc X XR M0 H0 E3 k → chkL G N xs sc es = true → PE X (.BoolOp .Or es pos) (LE X.K M0 H0 (wpv G false xs E3))
  | [], so, sc, X, E3, es, pos, g, h => ⟨fun _ _ _ _ _ _ ⟨_, _, _, _, _, _, t, _⟩ => t.elim⟩
  | [x], so, sc, X, E3, es, pos, g, h => by
    cases es with
    | nil => exact absurd h Bool.false_ne_true
    | cons e es =>
      obtain ⟨h1, h2⟩ := b2 (show (chkE G N x sc e && chkL G N [] sc es) = true from h)
      cases es with
      | nil => exact pe_one (sE x g h1)
      | cons _ _ => exact absurd h2 Bool.false_ne_true
  | x :: y :: r, so, sc, X, E3, es, pos, g, h => by
    cases es with
    | nil => exact absurd h Bool.false_ne_true
    | cons e es =>
      obtain ⟨h1, h2⟩ := b2 (show (chkE G N x sc e && chkL G N (y :: r) sc es) = true from h)
      cases es with
      | nil => exact absurd h2 Bool.false_ne_true
      | cons e' es => exact z_vor (sE x g h1) (sVo (y :: r) g h2)
theorem sBa : ∀ (xs : List Ex) {so sc : Scope} {X : Cx} {E3 : X3} {es : List Expr} {pos : Pos}, Good G N so sc X XR M0 H0 E3 k → chkTL G N xs sc es = true → PW X (.BoolOp .And es pos) (LT X.K M0 H0 (wpb G true xs E3))
  | [], so, sc, X, E3, es, pos, g, h => ⟨fun _ _ _ _ _ _ _ ⟨_, _, _, _, _, _, t, _⟩ => t.elim⟩
  | [x], so, sc, X, E3, es, pos, g, h => by
    cases es with
    | nil => exact absurd h Bool.false_ne_true
    | cons e es =>
      obtain ⟨h1, h2⟩ := b2 (show (chkT G N x sc e && chkTL G N [] sc es) = true from h)
      cases es with
      | nil => exact z_wand1 (sT x g h1)
      | cons _ _ => exact absurd h2 Bool.false_ne_true
  | x :: y :: r, so, sc, X, E3, es, pos, g, h => by
    cases es with
    | nil => exact absurd h Bool.false_ne_true
    | cons e es =>
      obtain ⟨h1, h2⟩ := b2 (show (chkT G N x sc e && chkTL G N (y :: r) sc es) = true from h)
      cases es with
      | nil => exact absurd h2 Bool.false_ne_true
      | cons e' es => exact z_wand (sT x g h1) (sBa (y :: r) g h2)
theorem sBo : ∀ (xs : List Ex) {so sc : Scope} {X : Cx} {E3 : X3} {es : List Expr} {pos : Pos}, Good G N so sc X XR M0 H0 E3 k → chkTL G N xs sc es = true → PW X (.BoolOp .Or es pos) (LT X.K M0 H0 (wpb G false xs E3))
  | [], so, sc, X, E3, es, pos, g, h => ⟨fun _ _ _ _ _ _ _ ⟨_, _, _, _, _, _, t, _⟩ => t.elim⟩
  | [x], so, sc, X, E3, es, pos, g, h => by
    cases es with
    | nil => exact absurd h Bool.false_ne_true
    | cons e es =>
      obtain ⟨h1, h2⟩ := b2 (show (chkT G N x sc e && chkTL G N [] sc es) = true from h)
      cases es with
      | nil => exact z_wor1 (sT x g h1)
      | cons _ _ => exact absurd h2 Bool.false_ne_true
  | x :: y :: r, so, sc, X, E3, es, pos, g, h => by
    cases es with
    | nil => exact absurd h Bool.false_ne_true
    | cons e es =>
      obtain ⟨h1, h2⟩ := b2 (show (chkT G N x sc e && chkTL G N (y :: r) sc es) = true from h)
      cases es with
      | nil => exact absurd h2 Bool.false_ne_true
      | cons e' es => exact z_wor (sT x g h1) (sBo (y :: r) g h2)
theorem sO : ∀ (xs : List Ex) {so sc : Scope} {X : Cx} {E3 : X3} {e : Option Expr}, Good G N so sc X XR M0 H0 E3 k → chkO G N xs sc e = true → PO X e (LO X.K M0 H0 (wpo G xs E3))
  | [], so, sc, X, E3, none, g, h => z_pnone
  | [], so, sc, X, E3, some _, g, h => absurd h Bool.false_ne_true
  | x :: xs, so, sc, X, E3, none, g, h => absurd h Bool.false_ne_true
  | x :: xs, so, sc, X, E3, some e, g, h => by
    obtain ⟨h1, h2⟩ := b2 (show (chkE G N x sc e && xs.isEmpty) = true from h)
    exact z_psome (sE x g h1)
theorem sC : ∀ (xs : List Ex) {so sc : Scope} {X : Cx} {E3 : X3} {es : List Expr}, Good G N so sc X XR M0 H0 E3 k → chkC G N xs sc es = true → PTs X es (LT X.K M0 H0 (wpc G xs E3))
  | [], so, sc, X, E3, [], g, h => z_tnil
  | [], so, sc, X, E3, _ :: _, g, h => absurd h Bool.false_ne_true
  | x :: xs, so, sc, X, E3, es, g, h => by
    dsimp only [chkC] at h
    split at h
    · obtain ⟨h1, h2⟩ := b2 h
      exact z_tone (sT x g h1)
    · cases h
theorem sP : ∀ (xs : List Ex) {so sc : Scope} {X : Cx} {E3 : X3} {ks : List (Option Expr)} {vs : List Expr}, Good G N so sc X XR M0 H0 E3 k → chkP G N xs sc ks vs = true → (∀ pos, PPs X pos ks vs (LPs X.K M0 H0 (wpp G xs E3))) ∧ ks.all (·.isSome) = true ∧ ks.length = vs.length
  | [], so, sc, X, E3, ks, vs, g, h => by
    dsimp only [chkP] at h
    split at h
    · exact ⟨fun _ => pps_nil, rfl, rfl⟩
    · cases h
  | [_], so, sc, X, E3, ks, vs, g, h => absurd h Bool.false_ne_true
  | a :: b :: r, so, sc, X, E3, ks, vs, g, h => by
    dsimp only [chkP] at h
    split at h
    · rename_i ka kks vb vvs
      obtain ⟨h1, h2, h3⟩ := b3 h
      obtain ⟨p1, p2, p3⟩ := sP r g h3
      refine ⟨fun pos => pps_cons (sE a g h1) (sE b g h2) (p1 pos), ?_, ?_⟩
      · show (true && kks.all (·.isSome)) = true
        rw [p2]; rfl
      · rw [List.length_cons, List.length_cons, p3]
    · cases h
end
end
end Z

namespace Z
open PySem PySem.Spec PyProof.Rows L2

def isLC : Expr → Bool | .ListComp .. => true | _ => false
def isTu : Expr → Bool | .Tuple .. => true | _ => false
def lcScope : Expr → Scope → Scope | .ListComp _ _ s _, _ => s | _, s => s
/-- an assignment of a comprehension to a name is done in its block -/
def lcSwap (sc : Scope) (x : Str) (px : Pos) (p : Pos) (scope : Scope) : Bool :=
  (sc.names.lookup x == some .local) && (px.line == p.line) && !(scope.names.any fun z => z.1 == x && (z.2 == .local || z.2 == .cell))
/-- a pair is not stored by swapping: one of its names is no plain local one -/
def noSwap (sc : Scope) (t v : Expr) : Bool := !isTu v || (match t with
  | .Tuple ts _ _ => ts.any fun | .Name x _ => !(sc.names.lookup x == some .local) | _ => true
  | _ => false)
mutual
def chkS (G : GT) (N : List Str) (sc : Scope) : Sx → Stmt → Bool
  | .asg tg e, st => match st with
    | .Assign [t] v _ => chkE G N e sc v && (match tg with | .nm i => (match t with | .Name x _ => decide (N[i]? = some x) && isLoc sc x | _ => false) | .tp is => isTu t && chkTg N sc (.tp is) t && noSwap sc t v)
    | _ => false
  | .par i j a b, st => match st with
    | .Assign [.Tuple [.Name x px, .Name y py] _ _] (.Tuple [v, w] _ _) _ => decide (N[i]? = some x) && decide (N[j]? = some y) && decide (i ≠ j) && (sc.names.lookup x == some .local) && (sc.names.lookup y == some .local) && (py.line == px.line) && (!foldedForSure 8 v || !foldedForSure 8 w) && (!constantsAlone 8 v || !constantsAlone 8 w) && chkE G N a sc v && chkE G N b sc w
    | _ => false
  | .sput o i e, st => match st with
    | .Assign [.Subscript x y _] v _ => chkE G N o sc x && chkE G N i sc y && chkE G N e sc v
    | _ => false
  | .aug i k e, st => match st with
    | .AugAssign (.Name x _) op v _ => decide (N[i]? = some x) && isLoc sc x && (match op with | .Add => k | .Sub => !k | _ => false) && chkE G N e sc v
    | _ => false
  | .expr e, st => match st with
    | .Expr v _ => chkE G N e sc v && !isLC v
    | _ => false
  | .ret e, st => match st with
    | .Return (some v) _ => chkE G N e sc v
    | _ => false
  | .retN, st => match st with
    | .Return none _ => true
    | _ => false
  | .ifs c a b, st => match st with
    | .If t x y _ => chkT G N c sc t && chkSs G N sc a x && chkSs G N sc b y
    | _ => false
  | .fors tg ik its body, st => match st with
    | .For t it x [] _ => chkI G ik sc it t (chkL G N its sc) && chkTg N sc tg t && chkSs G N sc body x
    | _ => false
  | .whl c body, st => match st with
    | .While t x [] _ => chkT G N c sc t && chkSs G N sc body x
    | _ => false
  | .brk, st => match st with | .Break _ => true | _ => false
  | .cnt, st => match st with | .Continue _ => true | _ => false
  | .pss, st => match st with | .Pass _ => true | _ => false
  | .fz _, _ => false
  | .rse e, st => match st with
    | .Raise (some (.Call (.Name y _) [a] [] _)) none _ => decide (y = ("InvalidLine" : Str)) && isGl sc y && G.er && chkE G N e sc a
    | _ => false
  | .rseN, st => match st with
    | .Raise _ _ _ => true
    | _ => false
  | .tryR body k i, st => match st with
    | .Try bd [.ExceptHandler (some (.Name y _)) (some n) [.Return (some (.Tuple [.Constant (.str c) _ _, .Attribute (.Name n' _) f _] _ _)) _] _] [] [] _ =>
      decide (y = ("InvalidLine" : Str)) && isGl sc y && G.er && decide (N[i]? = some n) && (sc.names.lookup n == some .local) && decide (n' = n) && decide (f = ("number" : Str)) && decide (c = k) && chkSs G N sc body bd
    | _ => false
def chkSs (G : GT) (N : List Str) (sc : Scope) : List Sx → List Stmt → Bool
  | [], sts => match sts with | [] => true | _ => false
  | s :: r, sts => match s with
    | .fz _ => chkSs G N sc r sts
    | s => match sts with | st :: sts => chkS G N sc s st && chkSs G N sc r sts | [] => false
end
theorem swaps_plain {e : Expr} {t : Option Expr} {n : Nat} {env : Env} (hp : plain e = true) (h : isLC e = false) : swapsWith e t n env = pure false := by
  cases e <;> first | rfl | (exact absurd hp Bool.false_ne_true) | (exact absurd h.symm Bool.false_ne_true)
theorem swaps_tu {e t : Expr} {n : Nat} {env : Env} (hp : plain e = true) (h : isTu t = true) : swapsWith e (some t) n env = pure false := by
  cases t <;> first | (exact absurd h Bool.false_ne_true) | skip
  cases e <;> first | rfl | (exact absurd hp Bool.false_ne_true)
theorem swaps_sub {e o i : Expr} {p : Pos} {n : Nat} {env : Env} (hp : plain e = true) : swapsWith e (some (.Subscript o i p)) n env = pure false := by
  cases e <;> first | rfl | (exact absurd hp Bool.false_ne_true)
theorem stores_tu {e t : Expr} {env : Env} (h : isTu e = false) : swappedStores [t] e env = pure none := by
  cases e <;> first | (exact absurd h.symm Bool.false_ne_true) | skip
  all_goals (cases t <;> rfl)
theorem stores_sub {e o i : Expr} {p : Pos} {env : Env} : swappedStores [.Subscript o i p] e env = pure none := by
  cases e <;> rfl
theorem stores_no {sc : Scope} {e t : Expr} {env : Env} (hs : env.scope = sc) (h : noSwap sc t e = true) : swappedStores [t] e env = pure none := by
  unfold noSwap at h
  by_cases hu : isTu e = true
  · cases e with
    | Tuple vs k2 p2 =>
      cases t with
      | Tuple ts k p =>
        have h : (ts.any fun | .Name x _ => !(sc.names.lookup x == some .local) | _ => true) = true := h
        obtain ⟨z, hz, hz2⟩ := List.any_eq_true.mp h
        unfold swappedStores
        dsimp only
        by_cases h1 : (!(ts.length == 2 || ts.length == 3) || vs.length != ts.length || env.blockKind != .function) = true
        · exact if_pos h1
        refine (if_neg h1).trans ?_
        by_cases h2 : (vs.any fun | .Starred .. => true | _ => false) = true
        · exact if_pos h2
        refine (if_neg h2).trans ?_
        refine if_pos ?_
        rw [Bool.or_eq_true]
        left
        simp only [bne_iff_ne, ne_eq]
        intro q
        rw [List.filterMap_length_eq_length] at q
        have := q z hz
        cases z with
        | Name x pos =>
          dsimp only at this hz2
          have kx : env.kindOf x = sc.names.lookup x := by rw [← hs]; rfl
          rw [kx] at this
          have e0 : (sc.names.lookup x == some NameKind.local) = false := by simpa using hz2
          rw [e0] at this
          exact Bool.false_ne_true this
        | _ => exact Bool.false_ne_true this
      | _ => exact absurd h Bool.false_ne_true
    | _ => exact absurd hu Bool.false_ne_true
  · exact stores_tu (by simpa using hu)
theorem RS.swap {K : PySem.W.Frag} {M M' : MH} {H : Hp} {e : En} {σ : L2.St} (r : RS K M H e σ) (ev : Ev M H M' H) {i : Nat} {d d' : D} (hd : getE e i = some d) (f : ∀ v, Rp K M H d v → Rp K M' H d' v) : RS K M' H (setE e i d') σ := by
  obtain ⟨v, h1, h2⟩ := r.get i d hd
  have := (r.ev ev).set i (f v h2)
  rwa [List.set_getElem?_self' h1] at this
where
  List.set_getElem?_self' {α : Type} {l : List α} {i : Nat} {a : α} (h : l[i]? = some a) : l.set i a = l := by
    obtain ⟨h1, h2⟩ := List.getElem?_eq_some_iff.mp h
    rw [← h2]; exact List.set_getElem_self h1

section
variable {G : GT} {N : List Str} {XR : XRel} {M0 : MH} {H0 : Hp} {k : Nat}
theorem swaps_lc {sc : Scope} {X : Cx} {el : Expr} {gs : List Comprehension} {scope : Scope} {p px : Pos} {x : Str} {n : Nat} (hs : X.env.scope = sc) (bk : X.env.blockKind = .function) : swapsWith (.ListComp el gs scope p) (some (.Name x px)) n X.env = pure (lcSwap sc x px p scope) := by
  have h1 : swapsWith (.ListComp el gs scope p) (some (.Name x px)) n X.env = pure (X.env.blockKind == .function && X.env.kindOf x == some .local && px.line == p.line && !(scope.names.any fun z => z.1 == x && (z.2 == .local || z.2 == .cell))) := rfl
  rw [h1, bk]
  have h2 : X.env.kindOf x = sc.names.lookup x := by rw [← hs]; rfl
  rw [h2]
  rfl
theorem stores_two {sc : Scope} {X : Cx} {x y : Str} {px py pt pt2 : Pos} {kt k2 : Nat} {v w : Expr} (hs : X.env.scope = sc) (bk : X.env.blockKind = .function) (hx : (sc.names.lookup x == some .local) = true) (hy : (sc.names.lookup y == some .local) = true) (hxy : x ≠ y) (hl : (py.line == px.line) = true)
    (hf : (!foldedForSure 8 v || !foldedForSure 8 w) = true) (hc : (!constantsAlone 8 v || !constantsAlone 8 w) = true) (pv : plain v = true) (pw : plain w = true) :
    swappedStores [.Tuple [.Name x px, .Name y py] kt pt] (.Tuple [v, w] k2 pt2) X.env = pure (some [x, y]) := by
  have kx : X.env.kindOf x = sc.names.lookup x := by rw [← hs]; rfl
  have ky : X.env.kindOf y = sc.names.lookup y := by rw [← hs]; rfl
  have sv : ([v, w].any fun | .Starred .. => true | _ => false) = false := by
    cases v <;> first | (exact absurd pv Bool.false_ne_true) | skip
    all_goals (cases w <;> first | (exact absurd pw Bool.false_ne_true) | rfl)
  have ff : [v, w].all (foldedForSure 8) = false := by
    show (foldedForSure 8 v && (foldedForSure 8 w && true)) = false
    cases q : foldedForSure 8 v <;> cases q2 : foldedForSure 8 w <;> simp_all
  have cc : [v, w].all (constantsAlone 8) = false := by
    show (constantsAlone 8 v && (constantsAlone 8 w && true)) = false
    cases q : constantsAlone 8 v <;> cases q2 : constantsAlone 8 w <;> simp_all
  have hn : ([Expr.Name x px, Expr.Name y py].filterMap fun
    | .Name id pos => if X.env.kindOf id == some .local && pos.line == px.line then some id else none
    | _ => none) = [x, y] := by
    simp only [List.filterMap_cons, List.filterMap_nil, kx, ky, hx, hy, hl, beq_self_eq_true, Bool.and_self, if_true]
  have he : ([x, y].eraseDups.length != 2) = false := by
    have : (y == x) = false := by simpa using fun h : y = x => hxy h.symm
    simp [List.eraseDups, List.eraseDupsBy, List.eraseDupsBy.loop, this]
  unfold swappedStores
  dsimp only
  have e1 : (X.env.blockKind != ScopeKind.function) = false := by rw [bk]; rfl
  have hh : ([Expr.Name x px, Expr.Name y py].head?.map (·.pos.line)).getD 0 = px.line := rfl
  simp only [e1]
  refine (if_neg (by show ¬ false = true; exact Bool.false_ne_true)).trans ?_
  refine (if_neg (by
    intro z
    exact Bool.false_ne_true (sv.symm.trans z))).trans ?_
  have hn2 := hn
  refine (if_neg (fun z => ?_)).trans ?_
  · have z2 : (([x, y] : List Str).length != 2 || ([x, y] : List Str).eraseDups.length != ([x, y] : List Str).length) = true := by
      rw [← hn]; exact z
    rw [show (([x, y] : List Str).length != 2) = false from rfl, Bool.false_or] at z2
    exact Bool.false_ne_true (he.symm.trans z2)
  · refine (if_neg (by rw [ff]; exact Bool.false_ne_true)).trans ?_
    refine (if_neg (by rw [cc]; exact Bool.false_ne_true)).trans ?_
    exact congrArg (fun l => (pure (some l) : Sem (Option (List Str)))) hn
end
end Z

namespace Z
open PySem PySem.Spec PyProof.Rows L2
section
variable {G : GT} {N : List Str} {XR : XRel} {M0 : MH} {H0 : Hp} {k : Nat} {sc : Scope} {X : Cx} {E3 : X3}
theorem sole {t v : Expr} {n : Nat} {env : Env} : swapsWithSole [t] v n env = swapsWith v (some t) n env := rfl
theorem name_of (g : Good G N sc sc X XR M0 H0 E3 k) {i : Nat} {x : Str} (h1 : decide (N[i]? = some x) = true) (h2 : isLoc sc x = true) : X.N.Nodup ∧ X.N[i]? = some x ∧ Loc X.env.scope x ∧ (X.fn x = true ∨ X.env.scope.names.lookup x = some .local) := by
  obtain ⟨l1, l2⟩ := loc_of g h2
  exact ⟨by rw [g.hN]; exact g.nd, by rw [g.hN]; exact of_decide_eq_true h1, l1, l2⟩
theorem z_setlc' (g : Good G N sc sc X XR M0 H0 E3 k) {m : Bool} {i : Nat} {x : Str} {px p spos : Pos} {elt : Ex} {tg : Tg} {ik : IK} {its ifs : List Ex} {own : List (Str × Nat)} {el : Expr} {gs : List Comprehension} {scope : Scope} (bk : X.env.blockKind = .function)
    (hi : decide (N[i]? = some x) = true) (hsw : lcSwap sc x px p scope = true) (h : chkE G N (.comp m elt tg ik its ifs own) sc (.ListComp el gs scope p) = true) :
    PS X (.Assign [.Name x px] (.ListComp el gs scope p) spos) (LS X.K M0 H0 (asg3 (wpe G (.comp m elt tg ik its ifs own) E3) (.nm i))) := by
  have hx : X.env.scope.names.lookup x = some .local := by
    rw [g.hsc]
    unfold lcSwap at hsw
    exact eq_of_beq (b3 hsw).1
  have hw := swaps_lc (el := el) (gs := gs) (n := spos.line) g.hsc bk (scope := scope) (p := p) (px := px) (x := x)
  rw [hsw] at hw
  dsimp only [chkE] at h
  split at h
  · rename_i el' t it fs ia scope' pos' heq
    cases heq
    obtain ⟨h1, h2, h3, h4, h5, h6, h7⟩ := b7 h
    have h1 := of_decide_eq_true h1
    subst h1
    obtain ⟨p1, p2⟩ := z_it (tl := wpl G its E3) g h4 (fun es he => ⟨sL its g he, plainL_of he⟩) (fun e he => sL1 its g he)
    exact z_setlc g.calm (by rw [g.hN]; exact g.nd) (by rw [g.hN]; exact of_decide_eq_true hi) hx hw p1 (blkOk_by (by rw [g.hN, g.hsc]; exact h2)) (fun i hi => by
      rw [List.all_eq_true] at h3
      exact of_decide_eq_true (h3 i hi)) (fun s H C cl fp => tg_ok g.blk h5) (fun s H C cl fp => sC ifs g.blk h6) (fun s H C cl fp => sE elt g.blk h7) (fold_of p2 _)
  · cases h
theorem b10 {a b c d e f g h i j : Bool} (z : (a && b && c && d && e && f && g && h && i && j) = true) : a = true ∧ b = true ∧ c = true ∧ d = true ∧ e = true ∧ f = true ∧ g = true ∧ h = true ∧ i = true ∧ j = true := by
  obtain ⟨z, z10⟩ := b2 z
  obtain ⟨z, z9⟩ := b2 z
  obtain ⟨z, z8⟩ := b2 z
  obtain ⟨z1, z2, z3, z4, z5, z6, z7⟩ := b7 z
  exact ⟨z1, z2, z3, z4, z5, z6, z7, z8, z9, z10⟩
theorem asg_ok (g : Good G N sc sc X XR M0 H0 E3 k) (bk : X.env.blockKind = .function) {tg : Tg} {e : Ex} {t v : Expr} {pos : Pos} (h1 : chkE G N e sc v = true)
    (h2 : (match tg with | .nm i => (match t with | .Name x _ => decide (N[i]? = some x) && isLoc sc x | _ => false) | .tp is => isTu t && chkTg N sc (.tp is) t && noSwap sc t v) = true) :
    PS X (.Assign [t] v pos) (LS X.K M0 H0 (asg3 (wpe G e E3) tg)) := by
  have pl := plain_of h1
  cases tg with
  | nm i =>
    dsimp only at h2
    split at h2
    · rename_i x px
      obtain ⟨h2, h3⟩ := b2 h2
      obtain ⟨n1, n2, n3, n4⟩ := name_of g h2 h3
      by_cases hl : isLC v = true
      · cases v with
        | ListComp el gs scope p =>
          cases hsw : lcSwap sc x px p scope with
          | true =>
            cases e <;> first | (exact absurd h1 Bool.false_ne_true) | exact z_setlc' g bk h2 hsw h1
          | false =>
            refine z_set n1 n2 n3 (sE e g h1) ?_ n4
            rw [swaps_lc g.hsc bk, hsw]
        | _ => exact absurd hl Bool.false_ne_true
      · exact z_set n1 n2 n3 (sE e g h1) (swaps_plain pl (by simpa using hl)) n4
    · cases h2
  | tp is =>
    obtain ⟨h2, h3, h4⟩ := b3 h2
    cases t <;> first | (exact absurd h2 Bool.false_ne_true) | skip
    exact z_asg (sE e g h1) (tg_ok g h3) (sole.trans (swaps_tu pl h2)) (stores_no g.hsc h4) rfl
/-- the frame stands on top -/
def Fr (X : Cx) : Prop := X.stack = X.env :: X.outer ∧ X.env.frame = some X.env.locals
theorem b9 {a b c d e f g h i : Bool} (z : (a && b && c && d && e && f && g && h && i) = true) : a = true ∧ b = true ∧ c = true ∧ d = true ∧ e = true ∧ f = true ∧ g = true ∧ h = true ∧ i = true := by
  obtain ⟨z, z9⟩ := b2 z
  obtain ⟨z, z8⟩ := b2 z
  obtain ⟨z1, z2, z3, z4, z5, z6, z7⟩ := b7 z
  exact ⟨z1, z2, z3, z4, z5, z6, z7, z8, z9⟩
theorem ps_false {X : Cx} {st : Stmt} {K : PySem.W.Frag} {M0 : MH} {H0 : Hp} : PS X st (LS K M0 H0 fun _ _ _ => False) := ⟨fun pins s σ H D I h => by
  obtain ⟨_, _, _, _, _, _, z, _⟩ := h
  exact z.elim⟩
theorem Good.tr (g : Good G N sc sc X XR M0 H0 E3 k) {pn : List (Addr × Obj)} {xe : Value → Shared → Prop} {M1 : MH} {H1 : Hp} {E1 : X3} (o : Out (X.tr pn xe) XR M1 H1 E1) : Good G N sc sc (X.tr pn xe) XR M1 H1 E1 k :=
  ⟨g.hN, g.hsc, g.calm, g.nd, g.nm, g.room, g.cel, g.own, g.fns, g.cst, g.blt, o, g.err, g.xr⟩
mutual
theorem sSt : ∀ (s : Sx) {X : Cx} {M0 : MH} {H0 : Hp} {E3 : X3} {st : Stmt}, Good G N sc sc X XR M0 H0 E3 k → X.env.blockKind = .function → PassesOwn (model X.prog X.w) X.A X.env X.xe ∧ Fr X → chkS G N sc s st = true → PS X st (LS X.K M0 H0 (wps G E3 s))
  | .asg tg e, X, M0, H0, E3, st, g, bk, hp, h => by
    dsimp only [chkS] at h
    split at h
    · obtain ⟨h1, h2⟩ := b2 h
      exact asg_ok g bk h1 h2
    · cases h
  | .par i j a b, X, M0, H0, E3, st, g, bk, hp, h => by
    dsimp only [chkS] at h
    split at h
    · rename_i x px y py kt pt v w k2 pt2 pos
      obtain ⟨h1, h2, h3, h4, h5, h6, h7, h8, h9, h10⟩ := b10 h
      have hi := of_decide_eq_true h1
      have hj := of_decide_eq_true h2
      have hij := of_decide_eq_true h3
      have nd := g.nd
      have hxy : x ≠ y := by
        intro z
        subst z
        obtain ⟨l1, e1⟩ := List.getElem?_eq_some_iff.mp hi
        obtain ⟨l2, e2⟩ := List.getElem?_eq_some_iff.mp hj
        exact hij ((List.getElem_inj nd).mp (e1.trans e2.symm))
      exact z_par g.calm (by rw [g.hN]; exact nd) (by rw [g.hN]; exact hi) (by rw [g.hN]; exact hj) hij (by rw [g.hsc]; exact eq_of_beq h4) (by rw [g.hsc]; exact eq_of_beq h5) (z_cons (sE a g h9) (z_cons (sE b g h10) z_nil (star_of (plain_of h10) _ _)) (star_of (plain_of h9) _ _)) (stores_two g.hsc bk h4 h5 hxy h6 h7 h8 (plain_of h9) (plain_of h10))
    · cases h
  | .sput o i e, X, M0, H0, E3, st, g, bk, hp, h => by
    dsimp only [chkS] at h
    split at h
    · obtain ⟨h1, h2, h3⟩ := b3 h
      have pi := plain_of h2
      exact z_sput (seti (by have := g.hu; omega)) (sE o g h1) (sE i g h2) (sE e g h3) (fun v => by
        rename_i y _ _ _
        cases y <;> first | rfl | (exact absurd pi Bool.false_ne_true)) (sole.trans (swaps_sub (plain_of h3))) stores_sub rfl
    · cases h
  | .aug i kk e, X, M0, H0, E3, st, g, bk, hp, h => by
    dsimp only [chkS] at h
    split at h
    · rename_i x px op v pos
      obtain ⟨h, h4⟩ := b2 h
      obtain ⟨h1, h2, h3⟩ := b3 h
      obtain ⟨n1, n2, n3, n4⟩ := name_of g h1 h2
      cases op with
      | Add =>
        have h3 : kk = true := h3
        subst h3
        exact z_aug n1 n2 n3 (sE e g h4) zi_add n4
      | Sub =>
        have h3 : kk = false := by simpa using h3
        subst h3
        exact z_aug n1 n2 n3 (sE e g h4) zi_sub n4
      | _ => exact absurd h3 Bool.false_ne_true
    · cases h
  | .expr e, X, M0, H0, E3, st, g, bk, hp, h => by
    dsimp only [chkS] at h
    split at h
    · obtain ⟨h1, h2⟩ := b2 h
      exact z_expr (sE e g h1) (swaps_plain (plain_of h1) (by simpa using h2))
    · cases h
  | .ret e, X, M0, H0, E3, st, g, bk, hp, h => by
    dsimp only [chkS] at h
    split at h
    · exact z_ret (sE e g h)
    · cases h
  | .retN, X, M0, H0, E3, st, g, bk, hp, h => by
    dsimp only [chkS] at h
    split at h
    · exact z_retN
    · cases h
  | .ifs c a b, X, M0, H0, E3, st, g, bk, hp, h => by
    dsimp only [chkS] at h
    split at h
    · obtain ⟨h1, h2, h3⟩ := b3 h
      exact z_if (sT c g h1) (sSs a g bk hp h2) (sSs b g bk hp h3)
    · cases h
  | .fors tg ik its body, X, M0, H0, E3, st, g, bk, hp, h => by
    dsimp only [chkS] at h
    split at h
    · obtain ⟨h1, h2, h3⟩ := b3 h
      obtain ⟨p1, p2⟩ := z_it (tl := wpl G its E3) g h1 (fun es he => ⟨sL its g he, plainL_of he⟩) (fun e he => sL1 its g he)
      exact z_for hp.1 g.calm p1 (tg_ok g h2) (sSs body g bk hp h3) (fold_of p2 _)
    · cases h
  | .whl c body, X, M0, H0, E3, st, g, bk, hp, h => by
    dsimp only [chkS] at h
    split at h
    · obtain ⟨h1, h2⟩ := b2 h
      exact z_while hp.1 (sT c g h1) (sSs body g bk hp h2)
    · cases h
  | .brk, X, M0, H0, E3, st, g, bk, hp, h => by
    dsimp only [chkS] at h
    split at h
    · exact z_break
    · cases h
  | .cnt, X, M0, H0, E3, st, g, bk, hp, h => by
    dsimp only [chkS] at h
    split at h
    · exact z_cont
    · cases h
  | .pss, X, M0, H0, E3, st, g, bk, hp, h => by
    dsimp only [chkS] at h
    split at h
    · exact z_pass
    · cases h
  | .fz _, X, M0, H0, E3, st, g, bk, hp, h => absurd h Bool.false_ne_true
  | .rse e, X, M0, H0, E3, st, g, bk, hp, h => by
    dsimp only [chkS] at h
    split at h
    · obtain ⟨h, h4⟩ := b2 h
      obtain ⟨h1, h2, h3⟩ := b3 h
      have h1 := of_decide_eq_true h1
      subst h1
      exact z_rse g.calm (g.err h3) (g.xr h3) g.room g.out (gl_of g h2) (sE e g h4) (star_of (plain_of h4) _ _)
    · cases h
  | .rseN, X, M0, H0, E3, st, g, bk, hp, h => ps_false
  | .tryR body kk i, X, M0, H0, E3, st, g, bk, hp, h => by
    dsimp only [chkS] at h
    split at h
    · obtain ⟨h1, h2, h3, h4, h5, h6, h7, h8, h9⟩ := b9 h
      have h1 := of_decide_eq_true h1
      have h4 := of_decide_eq_true h4
      have h6 := of_decide_eq_true h6
      have h7 := of_decide_eq_true h7
      have h8 := of_decide_eq_true h8
      subst h1 h6 h7 h8
      have hn := List.mem_of_getElem? h4
      exact z_tryR (t := fun E => wpss G E body) hp.2.1 hp.2.2 (by rw [g.hN]; exact g.nd) (by rw [g.hN]; exact h4) (by show X.env.scope.names.lookup _ = _; rw [g.hsc]; exact eq_of_beq h5) (g.err h3) (g.xr h3) (gl_of g h2) (g.nm _ hn)
        (fun pn xe M1 H1 E1 po o => sSs body (g.tr o) bk ⟨po, hp.2⟩ h9)
    · cases h
theorem sSs : ∀ (ss : List Sx) {X : Cx} {M0 : MH} {H0 : Hp} {E3 : X3} {sts : List Stmt}, Good G N sc sc X XR M0 H0 E3 k → X.env.blockKind = .function → PassesOwn (model X.prog X.w) X.A X.env X.xe ∧ Fr X → chkSs G N sc ss sts = true → PSs X sts (LS X.K M0 H0 (wpss G E3 ss))
  | [], X, M0, H0, E3, sts, g, bk, hp, h => by
    cases sts with
    | nil => exact z_snil
    | cons _ _ => exact absurd h Bool.false_ne_true
  | s :: r, X, M0, H0, E3, sts, g, bk, hp, h => by
    have main : ∀ {st : Stmt} {sts' : List Stmt}, sts = st :: sts' → (chkS G N sc s st && chkSs G N sc r sts') = true → PSs X sts (LS X.K M0 H0 (seq3 (wps G E3 s) (wpss G E3 r))) := by
      intro st sts' e h'
      obtain ⟨h1, h2⟩ := b2 h'
      rw [e]
      exact z_scons (sSt s g bk hp h1) (sSs r g bk hp h2)
    cases s with
    | fz i =>
      refine z_ghost (sSs r g bk hp (show chkSs G N sc r sts = true from h)) fun D e M σ H rs rm q => ?_
      have q : fz3 i (wpss G E3 r) D e M := q
      unfold fz3 at q
      split at q
      · rename_i a ea
        have sb : Sub (er M a) M := Sub.er
        split at q
        · rename_i ds em
          obtain ⟨vs, g1, g2⟩ := rm a _ em
          refine ⟨_, _, rs.swap (Ev.sub sb) ea fun v hv => ?_, rm.sub sb, Ev.sub sb, q⟩
          exact ⟨a, vs, hv, er_none, g1, RpL.ev (Ev.sub sb) _ _ g2⟩
        · rename_i kvs em
          obtain ⟨vs, g1, g2⟩ := rm a _ em
          refine ⟨_, _, rs.swap (Ev.sub sb) ea fun v hv => ?_, rm.sub sb, Ev.sub sb, q⟩
          exact ⟨a, vs, hv, er_none, .inl g1, by simp, RpL.ev (Ev.sub sb) _ _ g2⟩
        · rename_i kvs em
          obtain ⟨vs, g1, g2⟩ := rm a _ em
          refine ⟨_, _, rs.swap (Ev.sub sb) ea fun v hv => ?_, rm.sub sb, Ev.sub sb, q⟩
          exact ⟨a, vs, hv, er_none, .inl g1, by simp, RpL.ev (Ev.sub sb) _ _ g2⟩
        · exact q.elim
      · exact q.elim
    | _ =>
      cases sts with
      | nil => exact absurd h Bool.false_ne_true
      | cons st sts' => exact main rfl h
end
end
end Z

namespace Z
open PySem PySem.Spec PyProof.Rows L2

/-- the written part has the def -/
def DF (K : PySem.W.Frag) (x : Str) (st : Stmt) : Prop := ∃ f fd, PySem.W.nsIn K mainGlobals x = some (some (.ref f)) ∧ Fun K x x st f fd
/-- .. the constant -/
def DC (K : PySem.W.Frag) (x : Str) (d : D) : Prop := ∃ v u, PySem.W.nsIn K mainGlobals x = some (some u) ∧ RelV v u ∧ ∀ M H, Rp K M H d v
/-- .. no such name -/
def DB (K : PySem.W.Frag) (x : Str) : Prop := PySem.W.nsIn K mainGlobals x = some none
theorem DF.mk {K : PySem.W.Frag} {x : Str} {st : Stmt} {f : Addr} {oc : Value} {od an : Option Addr} {osl : Array (Option Value)} {kV doc pm cdv ct : Value} (a : PySem.W.nsIn K mainGlobals x = some (some (.ref f))) (l : K.lookup f = some ⟨oc, od, .func (PySem.W.fnOf x x (defArgs st) (defBody st) (defScope st) .none kV doc pm an cdv ct), osl⟩)
    (c : PySem.W.codeIn K cdv x = true) (k : PySem.W.keepIn K (.ref f) = true) : DF K x st := ⟨f, _, a, fun_mk l c k⟩
theorem DC.int {K : PySem.W.Frag} {x : Str} {u : Value} {i : Int} (h : PySem.W.nsIn K mainGlobals x = some (some u)) (r : RelV (.int i) u) : DC K x (.int i) := ⟨.int i, u, h, r, fun _ _ => rfl⟩
theorem DC.str {K : PySem.W.Frag} {x : Str} {u : Value} {i : Str} (h : PySem.W.nsIn K mainGlobals x = some (some u)) (r : RelV (.str i) u) : DC K x (.str i) := ⟨.str i, u, h, r, fun _ _ => rfl⟩
/-- .. the error's class -/
def DE (K : PySem.W.Frag) : Prop := ∃ C fI, PySem.W.nsIn K mainGlobals "InvalidLine" = some (some (.ref C)) ∧ ∀ mg : Str → Option Value, mg "InvalidLine" = some (.ref C) → PySem.ErrX.ErrTxt K mg C fI
theorem DE.get {K : PySem.W.Frag} {h : Heap} {mg : Str → Option Value} (d : DE K) (X : K.In h) (g : h.Ns mainGlobals mg) : ∃ C fI, PySem.ErrX.ErrTxt K mg C fI ∧ PySem.W.nsIn K mainGlobals "InvalidLine" = some (some (.ref C)) := by
  obtain ⟨C, fI, a, f⟩ := d
  exact ⟨C, fI, f mg (PySem.W.mg_of X g a), a⟩
theorem exm_self {K : PySem.W.Frag} {C : Addr} (h1 : PySem.W.subIn K (.ref C) (.type "BaseException") = some true) (h2 : PySem.W.isClsIn K C = true) (h3 : PySem.W.typeIn K (.ref C) = some (.type "type")) (h4 : PySem.W.subIn K (.ref C) (.ref C) = some true) : PySem.W.exmOne K (.ref C) (.ref C) = some true := by
  have e1 : (PySem.W.subIn K (.ref C) (.type "BaseException") == some true) = true := by rw [h1] <;> rfl
  have e2 : ((PySem.W.clsIn K C).isSome && PySem.W.typeIn K (.ref C) == some (.type "type")) = true := by
    have h2' : (PySem.W.clsIn K C).isSome = true := h2
    rw [h2', h3] <;> rfl
  show (if (PySem.W.subIn K (.ref C) (.type "BaseException") == some true) = true then (if ((PySem.W.clsIn K C).isSome && PySem.W.typeIn K (.ref C) == some (.type "type")) = true then PySem.W.subIn K (.ref C) (.ref C) else none) else none) = some true
  rw [if_pos e1, if_pos e2]
  exact h4
theorem DE.mk {K : PySem.W.Frag} {C f1 B : Addr} {nm q : Str} {N : Addr} {bs : List Value} {sn : List Str} {sub : List Value} {ab : Bool} {col : Option Bool} {dd : Option Addr} {m0 m1 m2 m3 m5 : Option Value}
    {od1 an1 : Option Addr} {sl1 : Array (Option Value)} {oc1 dc1 pm1 cd1 ct1 : Value} {p1 p2 q1 q2 q3 q4 : Pos}
    (aC : PySem.W.nsIn K mainGlobals "InvalidLine" = some (some (.ref C)))
    (xL : K.lookup C = some (excClassObj nm q C N bs [.ref B, .type "ValueError", .type "Exception", .type "BaseException", .type "object"] true sn sub ab col dd m0 m1 m2 m3 m5 "ValueError.__new__"))
    (sa : PySem.W.findIn K (.ref C) "__setattr__" = some (some (.builtin "object.__setattr__"))) (ga : PySem.W.findIn K (.ref C) "__getattribute__" = some (some (.builtin "BaseException.__getattribute__"))) (gg : PySem.W.findIn K (.ref C) "__getattr__" = some none) (nb : PySem.W.findIn K (.ref C) "number" = some none)
    (a1 : PySem.W.findIn K (.ref C) "__init__" = some (some (.ref f1))) (t1 : PySem.W.typeIn K (.ref f1) = some (.type "function"))
    (l1 : K.lookup f1 = some ⟨oc1, od1, .func (PySem.W.fnOf "__init__" "InvalidLine.__init__" (PySem.ErrX.iA p1 p2) (PySem.ErrX.iB q1 q2 q3 q4) PySem.ErrX.iS .none .none dc1 pm1 an1 cd1 ct1), sl1⟩) (c1 : PySem.W.codeIn K cd1 "InvalidLine.__init__" = true)
    (kC : PySem.W.keepIn K (.ref C) = true) (eC : PySem.W.subIn K (.ref C) (.type "BaseException") = some true) (tC : PySem.W.typeIn K (.ref C) = some (.type "type")) (hC : PySem.W.hasDictIn K C = true) (iC : PySem.W.isClsIn K C = true) (sC : PySem.W.subIn K (.ref C) (.ref C) = some true) : DE K :=
  ⟨C, f1, aC, fun mg gC => { gC := gC, cls := ⟨nm, q, N, bs, _, sn, sub, ab, col, dd, m0, m1, m2, m3, m5, xL, rfl⟩, sa := sa, ga := ga, gg := gg, noN := nb, iC := a1, tC := t1, kC := kC, exC := eC, tyC := tC, hdC := hC, te := exm_self eC iC tC sC, fn := ⟨_, _, _, _, _, _, _, _, _, _, _, _, _, _, l1, c1⟩ }⟩
/-- one of a list, each -/
def Each {α : Type u} (p : α → Prop) : List α → Prop
  | [] => True
  | x :: r => p x ∧ Each p r
theorem Each.get {α : Type u} {p : α → Prop} : ∀ {l : List α}, Each p l → ∀ x ∈ l, p x
  | [], _, x, h => by simp at h
  | y :: r, h, x, hx => by
    rcases List.mem_cons.mp hx with rfl | hx
    · exact h.1
    · exact Each.get h.2 x hx
/-- the names of a def's slots -/
def namesOk (N : List Str) : Bool := decide N.Nodup && N.all fun x => !(x == ("__debug__" : Str)) && !(x == ("__classdict__" : Str))
/-- its scope -/
def scopeOk (N ps : List Str) (sc : Scope) : Bool := decide (sc.kind = .function) && !sc.isCoroutine && !sc.isGenerator && namesOk N && decide (N.take ps.length = ps) &&
  (ps.all fun x => decide (sc.names.lookup x = some .local) || decide (sc.names.lookup x = some .cell)) && sc.names.all fun y => decide (y.2 ≠ .free)
theorem scope_of {N ps : List Str} {sc : Scope} (h : scopeOk N ps sc = true) : FnScope N ps sc ∧ N.Nodup ∧ (∀ x ∈ N, (x == ("__debug__" : Str)) = false ∧ (x == ("__classdict__" : Str)) = false) := by
  unfold scopeOk at h
  obtain ⟨h, h7⟩ := b2 h
  obtain ⟨h, h6⟩ := b2 h
  obtain ⟨h1, h2, h3, h4, h5⟩ := b5 h
  obtain ⟨h4, h8⟩ := b2 (show (decide N.Nodup && N.all fun x => !(x == ("__debug__" : Str)) && !(x == ("__classdict__" : Str))) = true from h4)
  have h4 := of_decide_eq_true h4
  refine ⟨⟨of_decide_eq_true h1, by simpa using h2, by simpa using h3, h4, of_decide_eq_true h5, fun x hx => ?_, fun y hy => ?_⟩, h4, fun x hx => ?_⟩
  · have := List.all_eq_true.mp h6 x hx
    simpa using this
  · have := List.all_eq_true.mp h7 y hy
    exact of_decide_eq_true this
  · have := List.all_eq_true.mp h8 x hx
    simpa using this
section
variable {P : Program} {w : World} {K : PySem.W.Frag} {mg : Str → Option Value} {base : Heap} {XR : XRel}
theorem fn_ok {x : Str} {st : Stmt} {f : Addr} {fd : FuncData} {N ps : List Str} {k n : Nat} {sp : Sp3} {G : GT} {body : List Sx} (F : Fun K x x st f fd) (hs : scopeOk N ps (defScope st) = true) (hn : ps.length = n)
    (fns : Each (fun e => Cal P w K mg base XR k e.1 e.2.1 e.2.2) G.fns) (cst : Each (fun e => ∃ v u, mg e.1 = some u ∧ RelV v u ∧ ∀ M H, Rp K M H e.2 v) G.cst) (bn : Each (fun x => mg x = none) G.bn)
    (er : G.er = true → ∃ C fI, PySem.ErrX.ErrTxt K mg C fI ∧ PySem.W.nsIn K mainGlobals "InvalidLine" = some (some (.ref C))) (xr : G.er = true → XR = XRof K)
    (chk : chkSs G N (defScope st) body (defBody st) = true) (pure : ∀ ds M Q E, ds.length = n → sp ds M Q E → wpss G E body (bodyEnds Q) (startE N.length ds) M) :
    FnOk P w K mg base (L2.CX P w) (k + 1) f fd ps (liftSp K XR n sp) := by
  obtain ⟨S, nd, nm⟩ := scope_of hs
  refine def_ok F S hn fun cdv A outer s H E M E3 hr cx => ⟨wpss G E3 body, ?_, fun ds Q3 hl h => pure ds M Q3 E3 hl h⟩
  refine sSs (sc := defScope st) (k := k) (XR := XR) body ?_ ?_ ⟨passes_of rfl, rfl, rfl⟩ chk
  · exact ⟨rfl, rfl, rfl, nd, nm, hr, fun _ _ => rfl, fun _ _ _ h => h, fun x n sp h => fns.get _ h, fun x d h => cst.get _ h, bn.get, out_body cx, er, xr⟩
  · show (if (defScope st).kind.isAnnotationScope then ScopeKind.function else (defScope st).kind) = .function
    rw [S.kind]; rfl
/-- a def of the module, by its text and its reading -/
theorem cal_mk {h : Heap} (X : K.In h) (g : h.Ns mainGlobals mg) {x : Str} {st : Stmt} {N ps : List Str} {k n : Nat} {sp : Sp3} {G : GT} {body : List Sx} (d : DF K x st) (hs : scopeOk N ps (defScope st) = true) (hn : ps.length = n)
    (hb : ∀ (kV doc pm : Value) (an : Option Addr) (cdv ct : Value) (us : List Value), us.length = ps.length → bindArgs (PySem.W.fnOf x x (defArgs st) (defBody st) (defScope st) .none kV doc pm an cdv ct) ⟨us, []⟩ = pure (ps.zip us))
    (fns : Each (fun e => Cal P w K mg base XR k e.1 e.2.1 e.2.2) G.fns) (cst : Each (fun e => DC K e.1 e.2) G.cst) (bn : Each (fun x => DB K x) G.bn) (er : G.er = true → DE K ∧ XR = XRof K)
    (chk : chkSs G N (defScope st) body (defBody st) = true) (pure : ∀ ds M Q E, ds.length = n → sp ds M Q E → wpss G E body (bodyEnds Q) (startE N.length ds) M) : Cal P w K mg base XR (k + 1) x n sp := by
  obtain ⟨f, fd, a, F⟩ := d
  refine ⟨f, fd, ps, fn_ok F hs hn fns ?_ ?_ (fun z => (er z).1.get X g) (fun z => (er z).2) chk pure, PySem.W.mg_of X g a, F.kp, F.binds hb, hn⟩
  · exact each_imp cst fun e ⟨v, u, h1, h2, h3⟩ => ⟨v, u, PySem.W.mg_of X g h1, h2, h3⟩
  · exact each_imp bn fun e h => PySem.W.mg_none_of X g h
where
  each_imp {α : Type} {p q : α → Prop} : ∀ {l : List α}, Each p l → (∀ x, p x → q x) → Each q l
    | [], _, _ => trivial
    | x :: r, h, f => ⟨f x h.1, each_imp h.2 f⟩
/-- the same, of the law's def -/
theorem law_mk {h : Heap} (X : K.In h) (g : h.Ns mainGlobals mg) {x : Str} {st : Stmt} {f : Addr} {fd : FuncData} {N ps : List Str} {k n : Nat} {sp : Sp3} {G : GT} {body : List Sx} (F : Fun K x x st f fd) (hs : scopeOk N ps (defScope st) = true) (hn : ps.length = n)
    (fns : Each (fun e => Cal P w K mg base XR k e.1 e.2.1 e.2.2) G.fns) (cst : Each (fun e => DC K e.1 e.2) G.cst) (bn : Each (fun x => DB K x) G.bn) (er : G.er = true → DE K ∧ XR = XRof K)
    (chk : chkSs G N (defScope st) body (defBody st) = true) (pure : ∀ ds M Q E, ds.length = n → sp ds M Q E → wpss G E body (bodyEnds Q) (startE N.length ds) M) : FnOk P w K mg base (L2.CX P w) (k + 1) f fd ps (liftSp K XR n sp) := by
  refine fn_ok F hs hn fns ?_ ?_ (fun z => (er z).1.get X g) (fun z => (er z).2) chk pure
  · exact cal_mk.each_imp cst fun e ⟨v, u, h1, h2, h3⟩ => ⟨v, u, PySem.W.mg_of X g h1, h2, h3⟩
  · exact cal_mk.each_imp bn fun e h => PySem.W.mg_none_of X g h
theorem Each.cal {k j : Nat} : ∀ {l : List (Str × Nat × Sp3)}, Each (fun e => Cal P w K mg base XR j e.1 e.2.1 e.2.2) l → j ≤ k → Each (fun e => Cal P w K mg base XR k e.1 e.2.1 e.2.2) l
  | [], _, _ => trivial
  | x :: r, h, f => ⟨h.1.mono f, Each.cal h.2 f⟩
end
/-- nothing is marked -/
def M00 : MH := fun _ => none
/-- THE END: the law's def, at a script -/
theorem law_end {l : PySem.W.OpenLaw} {n k : Nat} {q : Program} {loose : List Str} {XP : (Str → Option Value) → Heap → Prop} {YP : World → Heap → Prop} {d : DefRec} {K : Params → PySem.W.Frag} {XR : World → XRel} {sp : Sp3} {st : Stmt}
    (hd : d.name = "law") (hn : l.most = some n) (hn2 : n ≤ sizeLine) (hdf : d.params.defaults = []) (hr : Room k callerA) (hY : ∀ (w : World) (h : Heap), YP w h → (K w.params).In h)
    (hb : ∀ (s : Shared) (u kV doc pm : Value) (an : Option Addr) (cdv ct : Value), BindsTo s (PySem.W.fnOf "law" "law" (defArgs st) (defBody st) (defScope st) .none kV doc pm an cdv ct) ⟨[u], []⟩ [("script", u)])
    (dd : ∀ w : World, DF (K w.params) "law" st)
    (C : ∀ (w : World) (mg : Str → Option Value) (base h : Heap), (K w.params).In h → h.Ns mainGlobals mg → ∀ f fd, Fun (K w.params) "law" "law" st f fd → FnOk l.prog w (K w.params) mg base (L2.CX l.prog w) k f fd ["script"] (liftSp (K w.params) (XR w) 1 sp))
    (hsp : ∀ ns : List Int, ns.length ≤ n → sp [.flst (ns.map D.int)] M00 (fun v _ => v = .bl true) noX) : PySem.W.WalkO q loose XP YP l.row.toRowW d [] (fun f vs => PySem.call f vs) := by
  refine L2.walk_of (l := l) (n := n) (k := k) (x := "script") (K := K) (CX := fun w => L2.CX l.prog w) (sp := fun w => liftSp (K w.params) (XR w) 1 sp) hn hn2 hdf hr hY ?_ ?_ ?_
  · intro w mg fa h KX G hmg
    rw [hd] at hmg
    obtain ⟨f1, fd, a, F⟩ := dd w
    have e := hmg.symm.trans (PySem.W.mg_of KX G a)
    cases e
    refine ⟨fd, ?_, fun base _ _ => C w mg base h KX G _ fd F⟩
    obtain ⟨oc, od, kV, doc, pm, an, cdv, ct, osl, rfl, lk, hcd⟩ := F.ex
    exact fun s u => hb s u kV doc pm an cdv ct
  · intro w H a ns hl hO hS
    refine ⟨[.flst (ns.map D.int)], M00, fun v _ => v = .bl true, noX, rfl, ?_, ?_, hsp ns hl, ?_, ?_⟩
    · refine RpL.one ⟨a, ns.map V.int, rfl, ?_, ?_⟩
      · rcases hS with (hS | ⟨o, hS⟩) | hS
        · rcases hO a with h0 | ⟨o, xs, h0⟩
          · rw [h0] at hS; cases hS
          · rw [h0] at hS; cases hS
        · exact .inl ⟨o, rfl, hS⟩
        · exact .inr hS
      · clear hl hS
        induction ns with
        | nil => rfl
        | cons x r ih => exact ⟨.int x, r.map V.int, rfl, rfl, ih⟩
    · intro a o h; cases h
    · intro d M' v H' e r _ _
      have e : d = .bl true := e
      subst e
      exact r
    · intro x M' H' cls d h; exact h.elim
  · intro w H s e s' h
    obtain ⟨_, _, _, _, _, _, _, _, _, _, _, _, z⟩ := h
    exact z.elim
end Z

namespace Z
open PySem PySem.Spec PyProof.Rows L2

theorem rt_same {Q : Q3} {d : D} {M : MH} (h : Q d M) : RT Q d M := ⟨M, Sub.refl M, h⟩
theorem rt_sub {Q : Q3} {d : D} {M M' : MH} (s : Sub M' M) (h : Q d M') : RT Q d M := ⟨M', s, h⟩
def noXR : XRel := fun _ _ _ _ _ => False
/-! ### loops -/
theorem turns_inv {tg : Tg} {body : TS3} {Z : Ends3} (I : List D → En → MH → Prop)
    (step : ∀ x r e M (nx : En → MH → Prop), I (x :: r) e M → (∀ e' M', I r e' M' → nx e' M') → ∃ e1, bindT tg x e = some e1 ∧ body { nx := nx, rt := Z.rt, bk := Z.nx, ct := nx } e1 M)
    (done : ∀ e M, I [] e M → Z.nx e M) : ∀ (items : List D) (e : En) (M : MH), I items e M → turns3 tg body Z items e M
  | [], e, M, h => done e M h
  | x :: r, e, M, h => by
    obtain ⟨e1, h1, h2⟩ := step x r e M (turns3 tg body Z r) h fun e' M' h' => turns_inv I step done r e' M' h'
    show match bindT tg x e with
      | some e1 => body { nx := turns3 tg body Z r, rt := Z.rt, bk := Z.nx, ct := turns3 tg body Z r } e1 M
      | none => False
    rw [h1]
    exact h2
theorem while_inv {c : TB3} {body : TS3} {D0 : Ends3} (I : Nat → En → MH → Prop)
    (step : ∀ n e M (nx : En → MH → Prop), I n e M → (∀ m e' M', m < n → I m e' M' → nx e' M') → c e M fun b M1 => match b with | true => body { nx := nx, rt := D0.rt, bk := D0.nx, ct := nx } e M1 | false => D0.nx e M1) {n : Nat} {e : En} {M : MH} (h : I n e M) : while3 c body D0 e M := by
  refine ⟨n + 1, ?_⟩
  have key : ∀ k n e M, n < k → I n e M → whileN c body D0 k e M := by
    intro k
    induction k with
    | zero => intro n e M h; omega
    | succ k ih => exact fun n e M hn h => step n e M (whileN c body D0 k) h fun m e' M' hm h' => ih m e' M' (by omega) h'
  exact key (n + 1) n e M (by omega) h
theorem compW_inv {tg : Tg} {tt : TB3} {te : T3} {e : En} {p : Addr} {K : List D → MH → Prop} (I : List D → List D → MH → Prop)
    (step : ∀ x r acc M (k : List D → MH → Prop), I (x :: r) acc M → (∀ acc' M', I r acc' M' → k acc' M') → ∃ e1, bindT tg x e = some e1 ∧ tt e1 M fun b M2 => match b with
      | true => te e1 M2 fun y M3 => M3 p = some (.lst acc) ∧ k (acc ++ [y]) (up M3 p (.lst (acc ++ [y])))
      | false => k acc M2)
    (done : ∀ acc M, I [] acc M → M p = some (.lst acc) ∧ K acc M) : ∀ (items acc : List D) (M : MH), I items acc M → compW tg tt te e p K items acc M
  | [], acc, M, h => done acc M h
  | x :: r, acc, M, h => by
    obtain ⟨e1, h1, h2⟩ := step x r acc M (compW tg tt te e p K r) h fun acc' M' h' => compW_inv I step done r acc' M' h'
    show match bindT tg x e with
      | some e1 => tt e1 M fun b M2 => match b with
        | true => te e1 M2 fun y M3 => M3 p = some (.lst acc) ∧ compW tg tt te e p K r (acc ++ [y]) (up M3 p (.lst (acc ++ [y])))
        | false => compW tg tt te e p K r acc M2
      | none => False
    rw [h1]
    exact h2
/-- a loop that gathers -/
theorem turns_acc {tg : Tg} {body : TS3} {Z : Ends3} {R : List D → En → MH → Prop} (f : D → List D) (c B : Nat) : ∀ (items : List D) (acc : List D) (e : En) (M : MH)
    (_ : ∀ x ∈ items, (f x).length ≤ c) (_ : acc.length + items.length * c ≤ B)
    (_ : ∀ x ∈ items, ∀ acc e M (nx : En → MH → Prop), acc.length + c ≤ B → R acc e M → (∀ e' M', R (acc ++ f x) e' M' → nx e' M') → ∃ e1, bindT tg x e = some e1 ∧ body { nx := nx, rt := Z.rt, bk := Z.nx, ct := nx } e1 M)
    (_ : R acc e M) (_ : ∀ e' M', R (acc ++ items.flatMap f) e' M' → Z.nx e' M'), turns3 tg body Z items e M
  | [], acc, e, M, _, _, _, h, done => done e M (by simpa using h)
  | x :: r, acc, e, M, hc, hB, step, h, done => by
    rw [List.length_cons, Nat.add_mul, Nat.one_mul] at hB
    have hx := hc x (by simp)
    obtain ⟨e1, h1, h2⟩ := step x (by simp) acc e M (turns3 tg body Z r) (by omega) h fun e' M' h' => turns_acc f c B r (acc ++ f x) e' M' (fun y hy => hc y (List.mem_cons_of_mem _ hy)) (by rw [List.length_append]; omega)
      (fun y hy => step y (List.mem_cons_of_mem _ hy)) h' fun e2 M2 h2 => done e2 M2 (by simpa [List.append_assoc] using h2)
    show match bindT tg x e with
      | some e1 => body { nx := turns3 tg body Z r, rt := Z.rt, bk := Z.nx, ct := turns3 tg body Z r } e1 M
      | none => False
    rw [h1]
    exact h2
/-- each item by a test and a value, nothing else touched -/
theorem compW_fm {tg : Tg} {tt : TB3} {te : T3} {e : En} {p : Addr} {K : List D → MH → Prop} {M : MH} (b : D → Bool) (f : D → D) : ∀ (items acc : List D)
    (_ : ∀ x ∈ items, ∃ e1, bindT tg x e = some e1 ∧ (∀ l (k : Bool → MH → Prop), k (b x) (up M p (.lst l)) → tt e1 (up M p (.lst l)) k) ∧ (b x = true → ∀ l (k : Q3), k (f x) (up M p (.lst l)) → te e1 (up M p (.lst l)) k))
    (_ : K (acc ++ (items.filter b).map f) (up M p (.lst (acc ++ (items.filter b).map f)))), compW tg tt te e p K items acc (up M p (.lst acc))
  | [], acc, h, q => ⟨up_same, by simpa using q⟩
  | x :: r, acc, h, q => by
    obtain ⟨e1, h1, h2, h3⟩ := h x (by simp)
    show match bindT tg x e with
      | some e1 => tt e1 (up M p (.lst acc)) fun b M2 => match b with
        | true => te e1 M2 fun y M3 => M3 p = some (.lst acc) ∧ compW tg tt te e p K r (acc ++ [y]) (up M3 p (.lst (acc ++ [y])))
        | false => compW tg tt te e p K r acc M2
      | none => False
    rw [h1]
    refine h2 _ _ ?_
    have ih := fun acc' => compW_fm (K := K) b f r acc' fun y hy => h y (List.mem_cons_of_mem _ hy)
    cases hb : b x with
    | true =>
      refine h3 hb _ _ ⟨up_same, ?_⟩
      rw [up_up]
      refine ih _ ?_
      simpa [List.filter_cons, hb] using q
    | false =>
      refine ih _ ?_
      simpa [List.filter_cons, hb] using q
theorem comp3_fm {it : TL3} {tg : Tg} {tt : TB3} {te : T3} {own : List Nat} {e : En} {M : MH} {Q : Q3} {items : List D} (b : D → Bool) (f : D → D) (hit : ∀ k : List D → MH → Prop, k items M → it e M k)
    (h : ∀ x ∈ items, ∃ e1, bindT tg x (wipeE e own) = some e1 ∧ ∀ p l, M p = none → (∀ (k : Bool → MH → Prop), k (b x) (up M p (.lst l)) → tt e1 (up M p (.lst l)) k) ∧ (b x = true → ∀ (k : Q3), k (f x) (up M p (.lst l)) → te e1 (up M p (.lst l)) k))
    (q : Q (.lst ((items.filter b).map f)) M) : comp3 false it tg tt te own e M Q := by
  refine hit _ fun p hp => ?_
  refine compW_fm b f items [] (fun x hx => ?_) ?_
  · obtain ⟨e1, h1, h2⟩ := h x hx
    exact ⟨e1, h1, fun l => (h2 p l hp).1, fun hb l => (h2 p l hp).2 hb⟩
  · rw [List.nil_append]
    show Q _ (er (up M p _) p)
    rw [er_up hp]
    exact q
theorem comp3_map {it : TL3} {tg : Tg} {te : T3} {own : List Nat} {e : En} {M : MH} {Q : Q3} {items : List D} (f : D → D) (hit : ∀ k : List D → MH → Prop, k items M → it e M k)
    (h : ∀ x ∈ items, ∃ e1, bindT tg x (wipeE e own) = some e1 ∧ ∀ p l, M p = none → ∀ (k : Q3), k (f x) (up M p (.lst l)) → te e1 (up M p (.lst l)) k)
    (q : Q (.lst (items.map f)) M) : comp3 false it tg yes3 te own e M Q := by
  refine comp3_fm (fun _ => true) f hit (fun x hx => ?_) (by rw [List.filter_eq_self.mpr fun _ _ => rfl]; exact q)
  obtain ⟨e1, h1, h2⟩ := h x hx
  exact ⟨e1, h1, fun p l hp => ⟨fun k hk => hk, fun _ => h2 p l hp⟩⟩
/-! ### types -/
def isInt : D → Bool | .int _ => true | _ => false
/-- plain at sight -/
def pln : D → Bool | .non | .bl _ | .int _ | .str _ | .tp _ _ | .lst _ => true | _ => false
/-- plain through and through -/
def dpl : D → Bool
  | .non => true
  | .bl _ => true
  | .int _ => true
  | .str x => PyData.strOk x && decide (x.length ≤ sizeLine)
  | .tp .t ds => dplL ds
  | .lst ds => dplL ds
  | _ => false
where dplL : List D → Bool
  | [] => true
  | d :: r => dpl d && dplL r
theorem dplL_all : ∀ ds : List D, dpl.dplL ds = ds.all dpl
  | [] => by simp [dpl.dplL]
  | d :: r => by simp [dpl.dplL, dplL_all r]
theorem dpl_pln {d : D} (h : dpl d = true) : pln d = true := by
  cases d <;> first | rfl | (simp [dpl] at h)
theorem pln_rd {d : D} {M : MH} (h : pln d = true) : rdL M d = d := by
  cases d <;> first | rfl | (simp [pln] at h)
theorem isTy_int {d : D} {M : MH} (h : pln d = true) : isTy M d .tint = some (match d with | .int _ => true | .bl _ => true | _ => false) := by
  cases d <;> first | rfl | (simp [pln] at h)
theorem isTy_bool {d : D} {M : MH} (h : pln d = true) : isTy M d .tbool = some (match d with | .bl _ => true | _ => false) := by
  cases d <;> first | rfl | (simp [pln] at h)
theorem isTy_str {d : D} {M : MH} (h : pln d = true) : isTy M d .tstr = some (match d with | .str _ => true | _ => false) := by
  cases d <;> first | rfl | (simp [pln] at h)
theorem isTy_tup {d : D} {M : MH} (h : pln d = true) : isTy M d .ttup = some (match d with | .tp _ _ => true | _ => false) := by
  cases d <;> first | rfl | (simp [pln] at h)
theorem blsOf_mapF {α : Type} (b : α → Bool) : ∀ xs : List α, blsOf (xs.map fun x => D.bl (b x)) = some (xs.map b)
  | [] => rfl
  | x :: r => by
    show (match blsOf (r.map fun x => D.bl (b x)) with | some bs => some (b x :: bs) | none => none) = _
    rw [blsOf_mapF b r]; rfl
theorem allA_map {α : Type} {M : MH} (b : α → Bool) (xs : List α) : allA M (.lst (xs.map fun x => D.bl (b x))) = some (.bl (xs.all b)) := by
  unfold allA
  show (match blsOf (xs.map fun x => D.bl (b x)) with | some bs => some (D.bl (bs.all id)) | none => none) = _
  rw [blsOf_mapF]
  simp [List.all_map, Function.comp_def]
theorem anyA_map {α : Type} {M : MH} (b : α → Bool) (xs : List α) : anyA M (.lst (xs.map fun x => D.bl (b x))) = some (.bl (xs.any b)) := by
  unfold anyA
  show (match blsOf (xs.map fun x => D.bl (b x)) with | some bs => some (D.bl (bs.any id)) | none => none) = _
  rw [blsOf_mapF]
  simp [List.any_map, Function.comp_def]
/-! ### orders -/
/-- may stand in an order, by itself -/
def ordD (d : D) : Bool := notNon d && pd 60 d
theorem pd_pln {d : D} {n : Nat} (h : pd n d = true) : pln d = true := by
  cases d <;> first | rfl | (cases n <;> simp [pd] at h)
theorem lt3_ok {x y : D} {M : MH} {Q : Q3} (hx : ordD x = true) (hy : ordD y = true) (hl : likeD x y = true) (q : Q (.bl (ltD x y)) M) : lt3 x y M Q := by
  obtain ⟨x1, x2⟩ := b2 hx
  obtain ⟨y1, y2⟩ := b2 hy
  unfold lt3
  split
  · simpa [ltD] using q
  · rw [pln_rd (pd_pln x2), pln_rd (pd_pln y2)]
    refine ⟨?_, q⟩
    unfold ltOk
    rw [pln_rd (pd_pln x2), pln_rd (pd_pln y2), hl, x1, x2, y2]; rfl
theorem le3_ok {x y : D} {M : MH} {Q : Q3} (hx : ordD x = true) (hy : ordD y = true) (hl : likeD x y = true) (q : Q (.bl (!ltD y x)) M) : le3 x y M Q := by
  obtain ⟨x1, x2⟩ := b2 hx
  obtain ⟨y1, y2⟩ := b2 hy
  unfold le3
  split
  · rename_i i j
    have : decide (i ≤ j) = !decide (j < i) := by
      by_cases h : i ≤ j
      · rw [decide_eq_true h, decide_eq_false (by omega)]; rfl
      · rw [decide_eq_false h, decide_eq_true (by omega)]; rfl
    rw [this]
    simpa [ltD] using q
  · rw [pln_rd (pd_pln x2), pln_rd (pd_pln y2)]
    refine ⟨?_, q⟩
    unfold ltOk
    rw [pln_rd (pd_pln x2), pln_rd (pd_pln y2), hl, x1, x2, y2]; rfl
def ascB : List D → Bool
  | x :: y :: r => ltD x y && ascB (y :: r)
  | _ => true
theorem rngD_mem {lo : Int} {x : D} : ∀ {n : Nat}, x ∈ rngD lo n → ∃ i : Nat, i < n ∧ x = .int (lo + i) := by
  intro n h
  obtain ⟨i, hi, e⟩ := List.mem_iff_getElem.mp h
  rw [rngD_len] at hi
  have := rngD_get lo n i hi
  rw [List.getElem?_eq_getElem (by rw [rngD_len]; exact hi)] at this
  exact ⟨i, hi, by rw [← e]; exact Option.some.inj this⟩
theorem rngD_eq : ∀ (n lo : Nat), rngD (lo : Int) n = (List.range' lo n).map fun i => D.int (i : Nat)
  | 0, lo => rfl
  | n + 1, lo => by
    show D.int (lo : Nat) :: rngD ((lo : Int) + 1) n = _
    rw [List.range'_succ, List.map_cons]
    have : ((lo : Int) + 1) = ((lo + 1 : Nat) : Int) := by omega
    rw [this, rngD_eq n (lo + 1)]
theorem rngD0 (n : Nat) : rngD 0 n = (List.range n).map fun i => D.int (i : Nat) := by
  rw [show (0 : Int) = ((0 : Nat) : Int) from rfl, rngD_eq, List.range_eq_range']
theorem ascB_range : ∀ ds : List D, ((List.range (ds.length - 1)).all fun i => match ds[i]?, ds[i + 1]? with | some x, some y => ltD x y | _, _ => false) = ascB ds
  | [] => rfl
  | [_] => rfl
  | x :: y :: r => by
    have ih := ascB_range (y :: r)
    show ((List.range (r.length + 1)).all _) = _
    rw [List.range_succ_eq_map, List.all_cons, List.all_map]
    show (ltD x y && _) = (ltD x y && ascB (y :: r))
    rw [← ih]
    rfl
theorem atI_get {α : Type} {xs : List α} {i : Nat} (h : i < xs.length) : atI xs (i : Nat) = xs[i]? := by
  rw [List.getElem?_eq_getElem h]
  exact atI_nat (List.getElem?_eq_getElem h)
theorem truA_bl {M : MH} {b : Bool} : truA M (.bl b) = some b := rfl
theorem lenA_tp {M : MH} {k : TK} {ds : List D} : lenA M (.tp k ds) = some (.int ds.length) := rfl
theorem lenA_lst {M : MH} {ds : List D} : lenA M (.lst ds) = some (.int ds.length) := rfl
theorem lenA_ref {M : MH} {a : Addr} {ds : List D} (h : M a = some (.lst ds)) : lenA M (.ref a) = some (.int ds.length) := by
  show (match seqM M (.ref a) with | some ds => some (D.int ds.length) | none => none) = _
  have : seqM M (.ref a) = some ds := by
    show (match M a with | some (.lst ds) => some ds | _ => none) = some ds
    rw [h]
  rw [this]
theorem app_ok {te : TL3} {e : En} {M : MH} {Q : Q3} {i : Nat} {a : Addr} {ds : List D} {x : D} (he : getE e i = some (.ref a)) (ht : ∀ k : List D → MH → Prop, k [x] M → te e M k) (hm : M a = some (.lst ds)) (hl : ds.length < sizeLine) (q : Q .non (up M a (.lst (ds ++ [x])))) : mth3 .append (loc3 i) te e M Q := by
  unfold mth3 loc3
  rw [he]
  dsimp only
  refine ⟨?_, ht _ ?_⟩
  · show (match M a with | some (.lst ds) => some ds | _ => none).isSome = true
    rw [hm]; rfl
  · have : mthA .append M (.ref a) [x] = some (.non, up M a (.lst (ds ++ [x]))) := by
      show (match M a with
        | some (.lst ds) => if ds.length < sizeLine then some (D.non, up M a (.lst (ds ++ [x]))) else none
        | _ => none) = _
      rw [hm]
      exact if_pos hl
    rw [this]
    exact q
/-! ### draws: one marked thing moves on -/
def All2 {α β : Type} (ok : α → β → Prop) : List α → List β → Prop
  | [], [] => True
  | x :: xs, y :: ys => ok x y ∧ All2 ok xs ys
  | _, _ => False
theorem All2.len {α β : Type} {ok : α → β → Prop} : ∀ {xs : List α} {ys : List β}, All2 ok xs ys → ys.length = xs.length
  | [], [], _ => rfl
  | x :: xs, y :: ys, h => by rw [List.length_cons, List.length_cons, All2.len h.2]
  | [], _ :: _, h => h.elim
  | _ :: _, [], h => h.elim
theorem All2.snoc {α β : Type} {ok : α → β → Prop} {x : α} {y : β} (hxy : ok x y) : ∀ {xs : List α} {ys : List β}, All2 ok xs ys → All2 ok (xs ++ [x]) (ys ++ [y])
  | [], [], _ => ⟨hxy, trivial⟩
  | x :: xs, y :: ys, h => ⟨h.1, All2.snoc hxy h.2⟩
  | [], _ :: _, h => h.elim
  | _ :: _, [], h => h.elim
theorem All2.mem {α β : Type} {ok : α → β → Prop} : ∀ {xs : List α} {ys : List β}, All2 ok xs ys → ∀ y ∈ ys, ∃ x ∈ xs, ok x y
  | [], [], _, y, h => by simp at h
  | x :: xs, z :: ys, h, y, hy => by
    rcases List.mem_cons.mp hy with rfl | hy
    · exact ⟨x, by simp, h.1⟩
    · obtain ⟨w, h1, h2⟩ := All2.mem h.2 y hy
      exact ⟨w, List.mem_cons_of_mem _ h1, h2⟩
  | [], _ :: _, h, _, _ => h.elim
  | _ :: _, [], h, _, _ => h.elim
theorem up_self {M : MH} {a : Addr} {o : MO} (h : M a = some o) : up M a o = M := by
  funext b
  unfold up
  by_cases e : b = a
  · rw [if_pos e, e, h]
  · rw [if_neg e]
theorem up_swap {M : MH} {a b : Addr} {o u : MO} (h : a ≠ b) : up (up M a o) b u = up (up M b u) a o := by
  funext c
  unfold up
  by_cases e1 : c = b
  · by_cases e2 : c = a
    · exact absurd (e2.symm.trans e1) h
    · rw [if_pos e1, if_neg e2, if_pos e1]
  · by_cases e2 : c = a
    · rw [if_neg e1, if_pos e2, if_pos e2]
    · rw [if_neg e1, if_neg e2, if_neg e2, if_neg e1]
/-- a thing at a, of a kind -/
def At (M : MH) (a : Addr) (S : MO → Prop) : Prop := ∃ o, M a = some o ∧ S o
theorem At.up {M : MH} {a : Addr} {S : MO → Prop} {o : MO} (h : S o) : At (Z.up M a o) a S := ⟨o, up_same, h⟩
/-- what else is marked stays -/
def Rest (M M' : MH) (a : Addr) : Prop := ∀ b, b ≠ a → M b ≠ none → M' b = M b
theorem compW_draw {tg : Tg} {te : T3} {e : En} {p a : Addr} {K : List D → MH → Prop} {M : MH} {S : MO → Prop} (ok : D → D → Prop) {items : List D} (hp : M p = none) (ha : At M a S)
    (h : ∀ x ∈ items, ∃ e1, bindT tg x e = some e1 ∧ ∀ M', At M' a S → Rest M M' a → ∀ k : Q3, (∀ y o, ok x y → S o → k y (up M' a o)) → te e1 M' k)
    (q : ∀ ys o, All2 ok items ys → S o → K ys (up (up M a o) p (.lst ys))) : compW tg yes3 te e p K items [] (up M p (.lst [])) := by
  obtain ⟨o0, h0, s0⟩ := ha
  have hpa : p ≠ a := fun z => by rw [z, h0] at hp; cases hp
  refine compW_inv (fun r acc M' => ∃ done o, items = done ++ r ∧ All2 ok done acc ∧ S o ∧ M' = up (up M a o) p (.lst acc)) ?_ ?_ items [] _ ⟨[], o0, rfl, trivial, s0, by rw [up_self h0]⟩
  · rintro x r acc _ k ⟨done, o, hi, ha2, so, rfl⟩ hk
    obtain ⟨e1, h1, h2⟩ := h x (by rw [hi]; simp)
    refine ⟨e1, h1, h2 _ ⟨o, by rw [up_ne hpa.symm, up_same], so⟩ (fun b hb hn => ?_) _ fun y o' hy so' => ⟨?_, ?_⟩⟩
    · have hbp : b ≠ p := fun z => by rw [z] at hn; exact hn hp
      rw [up_ne hbp, up_ne hb]
    · rw [up_ne hpa, up_same]
    · refine hk _ _ ⟨done ++ [x], o', by rw [hi]; simp, ha2.snoc hy, so', ?_⟩
      rw [up_swap hpa, up_up, up_up]
  · rintro acc _ ⟨done, o, hi, ha2, so, rfl⟩
    rw [List.append_nil] at hi
    subst hi
    exact ⟨up_same, q acc o ha2 so⟩
theorem comp3_draw {it : TL3} {tg : Tg} {te : T3} {own : List Nat} {e : En} {M : MH} {Q : Q3} {items : List D} {a : Addr} {S : MO → Prop} (ok : D → D → Prop) (ha : At M a S) (hit : ∀ k : List D → MH → Prop, k items M → it e M k)
    (h : ∀ x ∈ items, ∃ e1, bindT tg x (wipeE e own) = some e1 ∧ ∀ M', At M' a S → Rest M M' a → ∀ k : Q3, (∀ y o, ok x y → S o → k y (up M' a o)) → te e1 M' k)
    (q : ∀ ys o, All2 ok items ys → S o → Q (.lst ys) (up M a o)) : comp3 false it tg yes3 te own e M Q := by
  refine hit _ fun p hp => compW_draw ok hp ha h fun ys o h1 h2 => ?_
  show Q (.lst ys) (er (up (up M a o) p _) p)
  obtain ⟨o0, h0, s0⟩ := ha
  have hpa : p ≠ a := fun z => by rw [z, h0] at hp; cases hp
  rw [er_up (by rw [up_ne hpa]; exact hp)]
  exact q ys o h1 h2
theorem asc_of {ds : List D} (h : ds.Pairwise fun x y => ltD x y = true) : ascB ds = true := by
  induction ds with
  | nil => rfl
  | cons x r ih =>
    cases r with
    | nil => rfl
    | cons y r =>
      rw [List.pairwise_cons] at h
      show (ltD x y && ascB (y :: r)) = true
      rw [h.1 y (by simp), ih h.2]; rfl
theorem Each.nil {α : Type u} {p : α → Prop} : Each p [] := trivial
theorem Each.cons {α : Type u} {p : α → Prop} {x : α} {r : List α} (h : p x) (t : Each p r) : Each p (x :: r) := ⟨h, t⟩
end Z

/-! V1: a reading by functions: values, the store, results; operators. -/
namespace Z
open PySem PySem.Spec PyProof.Rows L2

/-- plain data, or a mutable thing by its number -/
inductive W where
  | v (d : D)
  | r (i : Nat)
  deriving Inhabited
abbrev WEn := List (Option W)
inductive VO where
  | lst (ds : List D)
  | dK (kvs : List (Key × W))
  | dT (kvs : List (List Key × W))
  | ins (C : Addr) (fs : List (Str × W))
  deriving Inhabited
abbrev Sto := List (Option VO)
def getS (S : Sto) (i : Nat) : Option VO := (S[i]?).join
inductive Rs (α : Type) where
  | ok (a : α) (S : Sto)
  | ex (x : Exc) (S : Sto)
  | no
def Rs.bind {α β : Type} (r : Rs α) (f : α → Sto → Rs β) : Rs β := match r with
  | .ok a S => f a S
  | .ex x S => .ex x S
  | .no => .no
@[simp] theorem Rs.bind_ok {α β : Type} {a : α} {S : Sto} {f : α → Sto → Rs β} : (Rs.ok a S).bind f = f a S := rfl
@[simp] theorem Rs.bind_ex {α β : Type} {x : Exc} {S : Sto} {f : α → Sto → Rs β} : (Rs.ex x S : Rs α).bind f = .ex x S := rfl
@[simp] theorem Rs.bind_no {α β : Type} {f : α → Sto → Rs β} : (Rs.no : Rs α).bind f = .no := rfl
/-- an answer, the store unchanged -/
def lft {α : Type} (S : Sto) : Option α → Rs α
  | some a => .ok a S
  | none => .no
@[simp] theorem lft_some {α : Type} {S : Sto} {a : α} : lft S (some a) = .ok a S := rfl
@[simp] theorem lft_none {α : Type} {S : Sto} : lft S (none : Option α) = .no := rfl
def lfv (S : Sto) : Option D → Rs W
  | some a => .ok (.v a) S
  | none => .no
@[simp] theorem lfv_some {S : Sto} {a : D} : lfv S (some a) = .ok (.v a) S := rfl
@[simp] theorem lfv_none {S : Sto} : lfv S none = .no := rfl
/-- no exception gets out -/
def calm {α : Type} : Rs α → Rs α
  | .ex _ _ => .no
  | r => r
@[simp] theorem calm_ok {α : Type} {a : α} {S : Sto} : calm (.ok a S) = .ok a S := rfl
@[simp] theorem calm_no {α : Type} : calm (.no : Rs α) = .no := rfl

/-- plain, or a list by its content -/
def rdW (S : Sto) : W → Option D
  | .v d => match d with | .ref _ => none | d => some d
  | .r i => match getS S i with | some (.lst ds) => some (.lst ds) | _ => none
/-- plain -/
def plW : W → Option D
  | .v d => match d with | .ref _ => none | d => some d
  | .r _ => none
def rd1 (S : Sto) (w : W) (f : D → Option D) : Option D := match rdW S w with | some d => f d | none => none
def rd2 (S : Sto) (x y : W) (f : D → D → Option D) : Option D := match rdW S x, rdW S y with | some d, some e => f d e | _, _ => none

def vadd : D → D → Option D
  | .int i, .int j => some (.int (i + j))
  | .str a, .str b => if a.length + b.length ≤ sizeLine then some (.str (a ++ b)) else none
  | .tp .t a, .tp .t b => if a.length + b.length ≤ sizeLine then some (.tup (a ++ b)) else none
  | .lst a, .lst b => if a.length + b.length ≤ sizeLine then some (.lst (a ++ b)) else none
  | _, _ => none
def vsub : D → D → Option D
  | .int i, .int j => some (.int (i - j))
  | _, _ => none
def mulOk (i j : Int) : Bool := !(decide (Builtin.Int.intBits i > shortFactorBits) && decide (Builtin.Int.intBits j > shortFactorBits) && Builtin.Int.intTooBig (Builtin.Int.intBits i + Builtin.Int.intBits j))
def vmul : D → D → Option D
  | .int i, .int j => if mulOk i j = true then some (.int (i * j)) else none
  | .tp .t a, .int k => if a ≠ [] ∧ 2 ≤ k ∧ a.length * k.toNat ≤ 1000000 then some (.tup (List.replicate k.toNat a).flatten) else none
  | .str a, .int k => if 0 ≤ k ∧ k ≤ 1000 ∧ a.length ≤ 1000 then some (.str (Txt.mul a k)) else none
  | .lst a, .int k => if -(2 ^ 63) ≤ k ∧ k < 2 ^ 63 ∧ a.length * k.toNat ≤ sizeLine then some (.lst (List.replicate k.toNat a).flatten) else none
  | _, _ => none
def vfdv : D → D → Option D
  | .int i, .int j => if j ≠ 0 ∧ j.natAbs < 1073741824 then some (.int (i.fdiv j)) else none
  | _, _ => none
def vmod : D → D → Option D
  | .int i, .int j => if j ≠ 0 then some (.int (i.fmod j)) else none
  | _, _ => none
def vpow : D → D → Option D
  | .int i, .int j => if 0 ≤ j ∧ j ≤ 1000000 ∧ i.natAbs < 2 ^ 64 then some (.int (i ^ j.toNat)) else none
  | _, _ => none
def BOp.vo : BOp → D → D → Option D
  | .add => vadd | .sub => vsub | .mul => vmul | .fdv => vfdv | .mod => vmod | .pow => vpow
def veqOk (x y : D) : Bool := sc2 x y || (lay 60 x && lay 60 y)
def veq (x y : D) : Option D := if veqOk x y = true then some (.bl (eqv x y)) else none
def vne (x y : D) : Option D := if veqOk x y = true then some (.bl (!eqv x y)) else none
def vltOk (x y : D) : Bool := likeD x y && notNon x && pd 60 x && pd 60 y
def vlt (x y : D) : Option D := match x, y with
  | .int i, .int j => some (.bl (decide (i < j)))
  | x, y => if vltOk x y = true then some (.bl (ltD x y)) else none
def vle (x y : D) : Option D := match x, y with
  | .int i, .int j => some (.bl (decide (i ≤ j)))
  | x, y => if vltOk x y = true then some (.bl (!ltD y x)) else none
def vgt (x y : D) : Option D := match x, y with
  | .int i, .int j => some (.bl (decide (j < i)))
  | x, y => if vltOk x y = true then some (.bl (ltD y x)) else none
def vge (x y : D) : Option D := match x, y with
  | .int i, .int j => some (.bl (decide (j ≤ i)))
  | x, y => if vltOk x y = true then some (.bl (!ltD x y)) else none
section
variable {κ : Type} {α : Type} [DecidableEq κ]
def valG (kvs : List (κ × α)) (k : κ) : Option α := (kvs.find? fun kv => decide (kv.1 = k)).map (·.2)
def putG (kvs : List (κ × α)) (k : κ) (v : α) : List (κ × α) :=
  if (kvs.any fun kv => decide (kv.1 = k)) = true then kvs.map (fun kv => if kv.1 = k then (kv.1, v) else kv) else kvs ++ [(k, v)]
end
/-- a look-up: the dict, the key -/
def dfW (S : Sto) (x : W) (y : D) : Option (Option W) := match x with
  | .v (.dK ks ds) => match keyK y with | some k => some ((valG (ks.zip ds) k).map W.v) | none => none
  | .v (.dT ks ds) => match keyT y with | some k => some ((valG (ks.zip ds) k).map W.v) | none => none
  | .v _ => none
  | .r i => match getS S i with
    | some (.dK kvs) => match keyK y with | some k => some (valG kvs k) | none => none
    | some (.dT kvs) => match keyT y with | some k => some (valG kvs k) | none => none
    | _ => none
/-- a tuple or a list by its content -/
def sqW (S : Sto) (w : W) : Option (List D) := match rdW S w with
  | some (.tp _ ds) => some ds
  | some (.lst ds) => some ds
  | some (.flst ds) => some ds
  | _ => none
def inW (S : Sto) (x y : W) : Option Bool := match plW x with
  | none => none
  | some x => match y with
    | .v (.str z) => match x with | .str i => some (!(Builtin.Str.occurrences z i 0 z.length 1).isEmpty) | _ => none
    | y => match sqW S y with
      | some ds => if inOk x ds = true then some (ds.any fun z => eqv z x) else none
      | none => match dfW S y x with
        | some o => some o.isSome
        | none => none
def ixW (S : Sto) (x y : W) : Option W := match plW y with
  | none => none
  | some (.int i) => match x with
    | .v (.str z) => if z.length ≤ sizeLine then (match atI z.cps.toList i with | some c => some (.v (.str ⟨#[c]⟩)) | none => none) else none
    | x => match sqW S x with
      | some ds => (atI ds i).map W.v
      | none => (dfW S x (.int i)).join
  | some y => (dfW S x y).join
def nonW : W → Bool
  | .v .non => true
  | _ => false
def blO (o : Option Bool) : Option D := match o with | some b => some (.bl b) | none => none
def COp.vo (S : Sto) : COp → W → W → Option D
  | .eq, x, y => rd2 S x y veq
  | .ne, x, y => rd2 S x y vne
  | .lt, x, y => rd2 S x y vlt
  | .le, x, y => rd2 S x y vle
  | .gt, x, y => rd2 S x y vgt
  | .ge, x, y => rd2 S x y vge
  | .isin, x, y => blO (inW S x y)
  | .notin, x, y => blO ((inW S x y).map not)
  | .is, x, y => if nonW y = true then some (.bl (nonW x)) else none
  | .isnot, x, y => if nonW y = true then some (.bl (!nonW x)) else none
def vneg : D → Option D
  | .int i => some (.int (-i))
  | _ => none
def truW (S : Sto) (w : W) : Option Bool := match w with
  | .v .non => some false
  | .v (.bl b) => some b
  | .v (.int i) => some (i != 0)
  | .v (.str y) => if y.length ≤ sizeLine then some ((y.length : Int) != 0) else none
  | w => match sqW S w with
    | some ds => some (!ds.isEmpty)
    | none => match w with
      | .r i => match getS S i with | some (.dK kvs) => some (!kvs.isEmpty) | _ => none
      | _ => none
def blW : W → Option Bool
  | .v (.bl b) => some b
  | _ => none
/-- plain lists of arguments -/
def likeB (ds : List D) : Bool := ds.all fun d => ds.all fun e => likeD d e
def tup1 : D → Bool | .tp _ (_ :: _) => true | _ => false
def notTp : D → Bool | .non => false | .tp _ _ => false | _ => true
def sortB (ds : List D) : Bool := likeB ds && ds.all (pd 60) && (ds.all tup1 || ds.all notTp)
def vsrt : D → Option D
  | .lst ds => if sortB ds = true then some (.lst (sortD ds)) else none
  | .flst ds => if sortB ds = true then some (.lst (sortD ds)) else none
  | _ => none
def lstW (S : Sto) (w : W) : Option (List D) := match sqW S w with
  | some ds => some ds
  | none => match w with
    | .v (.dK ks ds) => some ((ks.zip ds).map fun kv => kD kv.1)
    | .v (.dT ks ds) => some ((ks.zip ds).map fun kv => D.tup (kv.1.map kD))
    | .r i => match getS S i with
      | some (.dK kvs) => some (kvs.map fun kv => kD kv.1)
      | some (.dT kvs) => some (kvs.map fun kv => D.tup (kv.1.map kD))
      | _ => none
    | _ => none
/-- a new thing -/
def newW (S : Sto) (o : VO) : Rs W := .ok (.r S.length) (S ++ [some o])
def vtupT : D → Option D
  | .tp k ds => some (.tp k ds)
  | .lst ds => some (.tup ds)
  | .flst ds => some (.tup ds)
  | _ => none
def vtupK : D → Option D
  | .lst ds => some (.tp .k ds)
  | .flst ds => some (.tp .k ds)
  | _ => none
def Bt.wo (b : Bt) (S : Sto) (ws : List W) : Rs W := match b, ws with
  | .len, [w] => lfv S (rd1 S w (lenA M00))
  | .int, [w] => lfv S (rd1 S w (intA M00))
  | .abs, [w] => lfv S (rd1 S w (absA M00))
  | .strI, [w] => lfv S (rd1 S w (strA M00))
  | .min2, [x, y] => lfv S (rd2 S x y (minA M00))
  | .max2, [x, y] => lfv S (rd2 S x y (maxA M00))
  | .minL, [w] => lfv S (rd1 S w (Z.minL M00))
  | .minP, [w] => lfv S (rd1 S w (Z.minPA M00))
  | .maxL, [w] => lfv S (rd1 S w (Z.maxL M00))
  | .sum, [w] => lfv S (rd1 S w (sumA M00))
  | .all, [w] => lfv S (rd1 S w (allA M00))
  | .any, [w] => lfv S (rd1 S w (anyA M00))
  | .srt, [w] => lfv S (rd1 S w vsrt)
  | .tupT, [w] => lfv S (rd1 S w vtupT)
  | .tupK, [w] => lfv S (rd1 S w vtupK)
  | .lstF, [w] => match lstW S w with | some ds => .ok (.v (.lst ds)) S | none => .no
  | .lstM, [w] => match lstW S w with | some ds => newW S (.lst ds) | none => .no
  | _, _ => .no
def setS (S : Sto) (i : Nat) (o : Option VO) : Sto := S.set i o
def Mt.wo (m : Mt) (S : Sto) (o : W) (ws : List W) : Rs W := match m, o, ws with
  | .append, .r a, [.v x] => match getS S a with
    | some (.lst ds) => if ds.length < sizeLine then .ok (.v .non) (setS S a (some (.lst (ds ++ [x])))) else .no
    | _ => .no
  | .extend, .r a, [x] => match getS S a, rdW S x with
    | some (.lst ds), some (.lst es) => if ds.length + es.length ≤ sizeLine then .ok (.v .non) (setS S a (some (.lst (ds ++ es)))) else .no
    | _, _ => .no
  | .get, o, [.v k, z] => match dfW S o k with
    | some r => .ok (r.getD z) S
    | none => .no
  | .setdefault, .r a, [.v k, z] => match getS S a, keyK k with
    | some (.dK kvs), some k => if kvs.length < sizeLine then (match valG kvs k with
      | some v => .ok v S
      | none => .ok z (setS S a (some (.dK (putG kvs k z))))) else .no
    | _, _ => .no
  | .index, o, [.v x] => match rdW S o with
    | some (.lst ds) => if lay 59 x && layL 59 ds then (match findD x ds 0 with | some j => .ok (.v (.int j)) S | none => .no) else .no
    | _ => .no
  | .indexT, .v (.tp .k ds), [.v (.str x)] => match strsOf ds with
    | some ys => match findS x ys 0 with | some j => .ok (.v (.int j)) S | none => .no
    | none => .no
  | .join, .v (.str z), [x] => match sqW S x with
    | some ds => match strsOf ds with
      | some ys => if (ys.map (·.length)).sum + ys.length * z.length ≤ 16777216 then .ok (.v (.str (Txt.join z ys))) S else .no
      | none => .no
    | none => .no
  | .split, .v (.str a), [.v (.str b)] => if (b.length == 0) = false ∧ a.length + 2 ≤ sizeLine then .ok (.v (.lst ((Txt.split a b).map D.str))) S else .no
  | .startswith, .v (.str a), [.v (.str b)] => .ok (.v (.bl (Txt.startswith a b))) S
  | .partition, .v (.str a), [.v (.str b)] => if (b.length == 0) = false ∧ a.length ≤ sizeLine then .ok (.v (.tup [.str (Txt.partition a b).1, .str (Txt.partition a b).2.1, .str (Txt.partition a b).2.2])) S else .no
  | _, _, _ => .no
def tyW (m : Mt) (S : Sto) (o : W) : Bool := match m with
  | .append | .extend | .index => (match rdW S o with | some (.lst _) => true | _ => false)
  | .get | .setdefault => (match o with
    | .v (.dK _ _) => true
    | .v (.dT _ _) => true
    | .r i => (match getS S i with | some (.dK _) => true | some (.dT _) => true | _ => false)
    | _ => false)
  | .indexT => (match o with | .v (.tp .k _) => true | _ => false)
  | .join | .split | .startswith | .partition => (match o with | .v (.str _) => true | _ => false)
def vsl (x : D) (lo hi : Option Int) : Option D := match x with
  | .str z => if z.length ≤ sizeLine then some (.str (cutS z lo hi)) else none
  | .tp .t ds => some (.tup (cutD ds lo hi))
  | .lst ds => some (.lst (cutD ds lo hi))
  | .flst ds => some (.lst (cutD ds lo hi))
  | _ => none
def vrev : D → Option D
  | .lst ds => some (.lst ds.reverse)
  | .flst ds => some (.lst ds.reverse)
  | _ => none
/-! ### slots, targets -/
def getV : WEn → Nat → Option W
  | [], _ => none
  | x :: _, 0 => x
  | _ :: r, n + 1 => getV r n
def setV2 : WEn → Nat → W → WEn
  | [], _, _ => []
  | _ :: r, 0, d => some d :: r
  | x :: r, n + 1, d => x :: setV2 r n d
def wipeV1 : WEn → Nat → WEn
  | [], _ => []
  | _ :: r, 0 => none :: r
  | x :: r, n + 1 => x :: wipeV1 r n
def wipeV : WEn → List Nat → WEn
  | e, [] => e
  | e, v :: vs => wipeV1 (wipeV e vs) v
def setAllV : WEn → List Nat → List D → Option WEn
  | e, [], [] => some e
  | e, i :: is, d :: ds => setAllV (setV2 e i (.v d)) is ds
  | _, _, _ => none
def bindV : Tg → W → WEn → Option WEn
  | .nm i, w, e => some (setV2 e i w)
  | .tp is, w, e => match w with
    | .v (.tp _ ds) => setAllV e is ds
    | _ => none
inductive Oc where
  | nx (e : WEn)
  | rt (w : W)
  | bk (e : WEn)
  | ct (e : WEn)
  deriving Inhabited
/-! ### walks -/
def itmW (w : W) : Option (List D) := match w with
  | .v d => itemsA d
  | .r _ => none
def itW (ik : IK) (ws : List W) : Option (List D) := match ik, ws with
  | .seq, [w] => itmW w
  | .rng1, [.v (.int j)] => if -16777216 ≤ j ∧ j ≤ 16777216 then some (rngD 0 j.toNat) else none
  | .rng2, [.v (.int i), .v (.int j)] => if -16777216 ≤ i ∧ i ≤ 16777216 ∧ -16777216 ≤ j ∧ j ≤ 16777216 ∧ j - i ≤ 16777216 then some (rngD i (j - i).toNat) else none
  | .enm, [.v (.lst ds)] => if ds.length ≤ sizeLine then some (enumD 0 ds) else none
  | _, _ => none
abbrev WF (α : Type) := WEn → Sto → Rs α
def compV (tg : Tg) (tt : WF Bool) (te : WF W) (en : WEn) : List D → Sto → Rs (List D)
  | [], S => .ok [] S
  | x :: r, S => match bindV tg (.v x) en with
    | none => .no
    | some e1 => (tt e1 S).bind fun b S1 => match b with
      | true => (te e1 S1).bind fun w S2 => match w with
        | .v y => (compV tg tt te en r S2).bind fun ys S3 => .ok (y :: ys) S3
        | .r _ => .no
      | false => compV tg tt te en r S1
def compR (m : Bool) (r : Rs (List D)) : Rs W := r.bind fun ys S => match m with
  | true => newW S (.lst ys)
  | false => .ok (.v (.lst ys)) S
def turnsV (tg : Tg) (body : WF Oc) : List D → WF Oc
  | [], en, S => .ok (.nx en) S
  | x :: r, en, S => match bindV tg (.v x) en with
    | none => .no
    | some e1 => (body e1 S).bind fun o S1 => match o with
      | .nx e => turnsV tg body r e S1
      | .ct e => turnsV tg body r e S1
      | .bk e => .ok (.nx e) S1
      | .rt w => .ok (.rt w) S1
def whN (c : WF Bool) (body : WF Oc) : Nat → WF Oc
  | 0, _, _ => .no
  | n + 1, en, S => (c en S).bind fun b S1 => match b with
    | true => (body en S1).bind fun o S2 => match o with
      | .nx e => whN c body n e S2
      | .ct e => whN c body n e S2
      | .bk e => .ok (.nx e) S2
      | .rt w => .ok (.rt w) S2
    | false => .ok (.nx en) S1
open Classical in
noncomputable def whV (c : WF Bool) (body : WF Oc) : WF Oc := fun en S => if h : ∃ n, whN c body n en S ≠ .no then whN c body h.choose en S else .no
/-! ### dict displays -/
def keysW : List (W × W) → Option (List (Key × W))
  | [] => some []
  | (k, v) :: r => match k with
    | .v k => match keyK k, keysW r with
      | some k, some r => some ((k, v) :: r)
      | _, _ => none
    | _ => none
def mergeG {α : Type} (kvs more : List (Key × α)) : List (Key × α) := more.foldl (fun acc kv => putG acc kv.1 kv.2) kvs
def plnW : List W → Option (List D)
  | [] => some []
  | .v d :: r => match plnW r with | some ds => some (d :: ds) | none => none
  | .r _ :: _ => none
def disW (m : Bool) (S : Sto) (ps : List (W × W)) : Rs W := match keysW ps with
  | some kvs => if kvs.length ≤ 15 then (match m with
    | true => newW S (.dK (mergeG [] kvs))
    | false => match plnW ((mergeG [] kvs).map (·.2)) with
      | some ds => .ok (.v (.dK ((mergeG [] kvs).map (·.1)) ds)) S
      | none => .no) else .no
  | none => .no
/-- o[i] = v -/
def putW (S : Sto) (o i v : W) : Option Sto := match o, i with
  | .r a, .v i => match getS S a with
    | some (.lst ds) => match i, v with
      | .int k, .v d => match ixN ds.length k with
        | some j => some (setS S a (some (.lst (ds.set j d))))
        | none => none
      | _, _ => none
    | some (.dK kvs) => match keyK i with
      | some k => if kvs.length < sizeLine then some (setS S a (some (.dK (putG kvs k v)))) else none
      | none => none
    | some (.dT kvs) => match keyT i with
      | some k => if kvs.length < sizeLine then some (setS S a (some (.dT (putG kvs k v)))) else none
      | none => none
    | _ => none
  | _, _ => none
def fzV (i : Nat) (en : WEn) (S : Sto) : Option (WEn × Sto) := match getV en i with
  | some (.r a) => match getS S a with
    | some (.lst ds) => some (setV2 en i (.v (.lst ds)), setS S a none)
    | some (.dK kvs) => match plnW (kvs.map (·.2)) with | some ds => some (setV2 en i (.v (.dK (kvs.map (·.1)) ds)), setS S a none) | none => none
    | some (.dT kvs) => match plnW (kvs.map (·.2)) with | some ds => some (setV2 en i (.v (.dT (kvs.map (·.1)) ds)), setS S a none) | none => none
    | _ => none
  | _ => none
def viadd : D → D → Option D
  | .int i, .int j => some (.int (i + j))
  | .str a, .str b => if a.length + b.length ≤ sizeLine then some (.str (a ++ b)) else none
  | _, _ => none
def visub : D → D → Option D
  | .int i, .int j => some (.int (i - j))
  | _, _ => none
def vfmt : D → Option D
  | .str y => if y.length ≤ sizeLine then some (.str y) else none
  | .int i => if i.natAbs.log2 < 1920 then some (.str (toString i)) else none
  | _ => none
/-- a text more -/
def jsV (acc : Str) (x : W) (k : Str → Rs W) : Rs W := match x with
  | .v (.str y) => if (acc ++ y).length ≤ sizeLine then k (acc ++ y) else .no
  | _ => .no
/-- an error caught: the word and the number -/
def catchV (k : Str) (r : Rs Oc) : Rs Oc := match r with
  | .ex x S => match x.arg with
    | some a => if x.cls = ("InvalidLine" : Str) then .ok (.rt (.v (.tup [.str k, a]))) S else .no
    | none => .no
  | r => r
@[simp] theorem catchV_ok {k : Str} {o : Oc} {S : Sto} : catchV k (.ok o S) = .ok o S := rfl
def addMV (S : Sto) (x y : W) : Rs W := match rdW S x, rdW S y with
  | some (.lst a), some (.lst b) => if a.length + b.length ≤ sizeLine then newW S (.lst (a ++ b)) else .no
  | _, _ => .no
def pairB : D → Bool
  | .tp .t [.str _, .str _] => true
  | _ => false
def vsrt2 : D → Option D
  | .lst ds => if ds.all pairB = true ∧ ds.length < 64 then some (.lst (sortD (uq ds))) else none
  | .flst ds => if ds.all pairB = true ∧ ds.length < 64 then some (.lst (sortD (uq ds))) else none
  | _ => none
/-! ### the reading -/
structure GV where
  fns : List (Str × Nat × (List W → Sto → Rs W))
  cst : List (Str × D)
  bn : List Str
  er : Bool
def callV (G : GV) (j : Nat) (r : Rs (List W)) : Rs W := match nth G.fns j with
  | some (_, n, f) => r.bind fun ws S => if ws.length = n then f ws S else .no
  | none => .no
def cstV (G : GV) (j : Nat) (S : Sto) : Rs W := match nth G.cst j with
  | some (_, d) => .ok (.v d) S
  | none => .no
/-- a bool -/
def tstV (r : Rs W) : Rs Bool := r.bind fun w S => lft S (blW w)
def truV (r : Rs W) : Rs Bool := r.bind fun w S => lft S (truW S w)
mutual
def evE (G : GV) : Ex → WEn → Sto → Rs W
  | .loc i, en, S => lft S (getV en i)
  | .non, _, S => .ok (.v .non) S
  | .bl b, _, S => .ok (.v (.bl b)) S
  | .int i, _, S => .ok (.v (.int i)) S
  | .str x, _, S => .ok (.v (.str x)) S
  | .glo j, _, S => cstV G j S
  | .bin o a b, en, S => (evE G a en S).bind fun x S1 => (evE G b en S1).bind fun y S2 => lfv S2 (rd2 S2 x y o.vo)
  | .srt2 a, en, S => (evE G a en S).bind fun x S1 => lfv S1 (rd1 S1 x vsrt2)
  | .addM a b, en, S => (evE G a en S).bind fun x S1 => (evE G b en S1).bind fun y S2 => addMV S2 x y
  | .neg a, en, S => (evE G a en S).bind fun x S1 => lfv S1 (rd1 S1 x vneg)
  | .cmp o a b, en, S => (evE G a en S).bind fun x S1 => (evE G b en S1).bind fun y S2 => lfv S2 (o.vo S2 x y)
  | .chn o o' a b c, en, S => (evE G a en S).bind fun x S1 => (evE G b en S1).bind fun y S2 => match o.vo S2 x y with
    | some (.bl true) => (evE G c en S2).bind fun z S3 => lfv S3 (o'.vo S3 y z)
    | some (.bl false) => .ok (.v (.bl false)) S2
    | _ => .no
  | .bol k es, en, S => evV G k es en S
  | .nt a, en, S => (evE G a en S).bind fun x S1 => lfv S1 (blO ((blW x).map not))
  | .ite c a b, en, S => (evT G c en S).bind fun k S1 => match k with | true => evE G a en S1 | false => evE G b en S1
  | .tup es, en, S => (evL G es en S).bind fun ws S1 => match plnW ws with
    | some ds => if ds.length ≤ sizeLine then .ok (.v (.tup ds)) S1 else .no
    | none => .no
  | .tupF es, en, S => (evL G es en S).bind fun ws S1 => match plnW ws with
    | some ds => if ds.length ≤ sizeLine then .ok (.v (.tp .k ds)) S1 else .no
    | none => .no
  | .lst m es, en, S => (evL G es en S).bind fun ws S1 => match plnW ws with
    | some ds => if ds.length ≤ sizeLine then (match m with | true => newW S1 (.lst ds) | false => .ok (.v (.lst ds)) S1) else .no
    | none => .no
  | .idx a b, en, S => (evE G a en S).bind fun x S1 => (evE G b en S1).bind fun y S2 => lft S2 (ixW S2 x y)
  | .sli a lo hi, en, S => (evE G a en S).bind fun x S1 => (evO G lo en S1).bind fun l S2 => (evO G hi en S2).bind fun h S3 => lfv S3 (rd1 S3 x fun d => vsl d l h)
  | .rev a, en, S => (evE G a en S).bind fun x S1 => lfv S1 (rd1 S1 x vrev)
  | .call j e es, en, S => callV G j ((evE G e en S).bind fun x S1 => (evL G es en S1).bind fun xs S2 => .ok (x :: xs) S2)
  | .blt b e es, en, S => (evE G e en S).bind fun x S1 => (evL G es en S1).bind fun xs S2 => b.wo S2 (x :: xs)
  | .isi T e, en, S => (evE G e en S).bind fun x S1 => lfv S1 (rd1 S1 x fun d => blO (isTy M00 d T))
  | .mth m o e es, en, S => (evE G o en S).bind fun x S1 => match tyW m S1 x with
    | true => (evE G e en S1).bind fun y S2 => (evL G es en S2).bind fun ys S3 => m.wo S3 x (y :: ys)
    | false => .no
  | .comp m elt tg ik its ifs own, en, S => (evL G its en S).bind fun ws S1 => match itW ik ws with
    | some items => compR m (calm (compV tg (evC G ifs) (evE G elt) (wipeV en (own.map (·.2))) items S1))
    | none => .no
  | .newK m, _, S => match m with | true => newW S (.dK []) | false => .ok (.v (.dK [] [])) S
  | .newT, _, S => newW S (.dT [])
  | .dis m kvs, en, S => (calm (evP G kvs en S)).bind fun ps S1 => disW m S1 ps
  | .fmt e, en, S => (evE G e en S).bind fun x S1 => lfv S1 (rd1 S1 x vfmt)
  | .js e e2 es, en, S => (evE G e en S).bind fun x S1 => jsV Str.empty x fun a1 => (evE G e2 en S1).bind fun y S2 => jsV a1 y fun a2 => evJ G es a2 en S2
def evT (G : GV) : Ex → WEn → Sto → Rs Bool
  | .cmp o a b, en, S => (evE G a en S).bind fun x S1 => (evE G b en S1).bind fun y S2 => lft S2 (match o.vo S2 x y with | some (.bl b) => some b | _ => none)
  | .chn o o' a b c, en, S => (evE G a en S).bind fun x S1 => (evE G b en S1).bind fun y S2 => match o.vo S2 x y with
    | some (.bl true) => (evE G c en S2).bind fun z S3 => lft S3 (match o'.vo S3 y z with | some (.bl b) => some b | _ => none)
    | some (.bl false) => .ok false S2
    | _ => .no
  | .bol k es, en, S => evB G k es en S
  | .nt a, en, S => (evT G a en S).bind fun b S1 => .ok (!b) S1
  | .loc i, en, S => truV (lft S (getV en i))
  | .non, _, S => .ok false S
  | .bl b, _, S => .ok b S
  | .int i, _, S => .ok (i != 0) S
  | .str x, _, S => truV (.ok (.v (.str x)) S)
  | .idx a b, en, S => truV ((evE G a en S).bind fun x S1 => (evE G b en S1).bind fun y S2 => lft S2 (ixW S2 x y))
  | .call j e es, en, S => truV (callV G j ((evE G e en S).bind fun x S1 => (evL G es en S1).bind fun xs S2 => .ok (x :: xs) S2))
  | .blt b e es, en, S => truV ((evE G e en S).bind fun x S1 => (evL G es en S1).bind fun xs S2 => b.wo S2 (x :: xs))
  | .isi T e, en, S => truV ((evE G e en S).bind fun x S1 => lfv S1 (rd1 S1 x fun d => blO (isTy M00 d T)))
  | .mth m o e es, en, S => truV ((evE G o en S).bind fun x S1 => match tyW m S1 x with
    | true => (evE G e en S1).bind fun y S2 => (evL G es en S2).bind fun ys S3 => m.wo S3 x (y :: ys)
    | false => .no)
  | _, _, _ => .no
def evL (G : GV) : List Ex → WEn → Sto → Rs (List W)
  | [], _, S => .ok [] S
  | e :: es, en, S => (evE G e en S).bind fun x S1 => (evL G es en S1).bind fun xs S2 => .ok (x :: xs) S2
def evV (G : GV) : Bool → List Ex → WEn → Sto → Rs W
  | _, [], _, _ => .no
  | _, [e], en, S => evE G e en S
  | true, e :: es, en, S => (evE G e en S).bind fun x S1 => match blW x with | some true => evV G true es en S1 | some false => .ok (.v (.bl false)) S1 | none => .no
  | false, e :: es, en, S => (evE G e en S).bind fun x S1 => match blW x with | some true => .ok (.v (.bl true)) S1 | some false => evV G false es en S1 | none => .no
def evB (G : GV) : Bool → List Ex → WEn → Sto → Rs Bool
  | _, [], _, _ => .no
  | _, [e], en, S => evT G e en S
  | true, e :: es, en, S => (evT G e en S).bind fun b S1 => match b with | true => evB G true es en S1 | false => .ok false S1
  | false, e :: es, en, S => (evT G e en S).bind fun b S1 => match b with | true => .ok true S1 | false => evB G false es en S1
def evO (G : GV) : List Ex → WEn → Sto → Rs (Option Int)
  | [], _, S => .ok none S
  | e :: _, en, S => (evE G e en S).bind fun x S1 => match x with | .v (.int i) => .ok (some i) S1 | _ => .no
def evC (G : GV) : List Ex → WEn → Sto → Rs Bool
  | [], _, S => .ok true S
  | e :: _, en, S => evT G e en S
def evJ (G : GV) : List Ex → Str → WEn → Sto → Rs W
  | [], acc, _, S => .ok (.v (.str acc)) S
  | e :: es, acc, en, S => (evE G e en S).bind fun x S1 => jsV acc x fun a => evJ G es a en S1
def evP (G : GV) : List Ex → WEn → Sto → Rs (List (W × W))
  | k :: v :: r, en, S => (evE G k en S).bind fun x S1 => (evE G v en S1).bind fun y S2 => (evP G r en S2).bind fun ps S3 => .ok ((x, y) :: ps) S3
  | _, _, S => .ok [] S
end
mutual
noncomputable def evS (G : GV) : Sx → WEn → Sto → Rs Oc
  | .asg tg e, en, S => (evE G e en S).bind fun w S1 => match bindV tg w en with | some e' => .ok (.nx e') S1 | none => .no
  | .par i j a b, en, S => (evE G a en S).bind fun x S1 => (evE G b en S1).bind fun y S2 => .ok (.nx (setV2 (setV2 en i x) j y)) S2
  | .sput o i e, en, S => (evE G e en S).bind fun v S1 => (evE G o en S1).bind fun x S2 => (evE G i en S2).bind fun k S3 => match putW S3 x k v with | some S4 => .ok (.nx en) S4 | none => .no
  | .aug i k e, en, S => match getV en i with
    | some d => (evE G e en S).bind fun d2 S1 => match rd2 S1 d d2 (match k with | true => viadd | false => visub) with | some r => .ok (.nx (setV2 en i (.v r))) S1 | none => .no
    | none => .no
  | .expr e, en, S => (evE G e en S).bind fun _ S1 => .ok (.nx en) S1
  | .ret e, en, S => (evE G e en S).bind fun w S1 => .ok (.rt w) S1
  | .retN, _, S => .ok (.rt (.v .non)) S
  | .ifs c a b, en, S => (evT G c en S).bind fun k S1 => match k with | true => evSs G a en S1 | false => evSs G b en S1
  | .fors tg ik its body, en, S => (evL G its en S).bind fun ws S1 => match itW ik ws with
    | some items => turnsV tg (evSs G body) items en S1
    | none => .no
  | .whl c body, en, S => whV (evT G c) (evSs G body) en S
  | .brk, en, S => .ok (.bk en) S
  | .cnt, en, S => .ok (.ct en) S
  | .pss, en, S => .ok (.nx en) S
  | .fz i, en, S => match fzV i en S with | some (e, S1) => .ok (.nx e) S1 | none => .no
  | .rse e, en, S => (evE G e en S).bind fun w S1 => match w with | .v d => .ex ⟨"InvalidLine", some d⟩ S1 | .r _ => .no
  | .rseN, _, _ => .no
  | .tryR body k _, en, S => catchV k (evSs G body en S)
noncomputable def evSs (G : GV) : List Sx → WEn → Sto → Rs Oc
  | [], en, S => .ok (.nx en) S
  | s :: r, en, S => (evS G s en S).bind fun o S1 => match o with
    | .nx e => evSs G r e S1
    | o => .ok o S1
end
/-- a body's end -/
def Rs.out (r : Rs Oc) : Rs W := r.bind fun o S => match o with
  | .nx _ => .ok (.v .non) S
  | .rt w => .ok w S
  | _ => .no
def startV (n : Nat) (ws : List W) : WEn := ws.map some ++ List.replicate (n - ws.length) none
/-- a def as a function -/
noncomputable def runV (G : GV) (n : Nat) (B : List Sx) : List W → Sto → Rs W := fun ws S => (evSs G B (startV n ws) S).out
end Z

/-! V2: numbers for addresses; what stays; operators are sound. -/
namespace Z
open PySem PySem.Spec PyProof.Rows L2

abbrev Nm := Nat → Addr
def rnW (ι : Nm) : W → D
  | .v d => d
  | .r i => .ref (ι i)
def rnO (ι : Nm) : VO → MO
  | .lst ds => .lst ds
  | .dK kvs => .dK (kvs.map fun kv => (kv.1, rnW ι kv.2))
  | .dT kvs => .dT (kvs.map fun kv => (kv.1, rnW ι kv.2))
  | .ins C fs => .ins C (fs.map fun kv => (kv.1, rnW ι kv.2))
def rnE (ι : Nm) (en : WEn) : En := en.map (Option.map (rnW ι))
def wfW (n : Nat) : W → Prop
  | .v _ => True
  | .r i => i < n
def wfO (n : Nat) : VO → Prop
  | .lst _ => True
  | .dK kvs => ∀ kv ∈ kvs, wfW n kv.2
  | .dT kvs => ∀ kv ∈ kvs, wfW n kv.2
  | .ins _ fs => ∀ kv ∈ fs, wfW n kv.2
def wfE (n : Nat) (en : WEn) : Prop := ∀ w, some w ∈ en → wfW n w
def wfL (n : Nat) (ws : List W) : Prop := ∀ w ∈ ws, wfW n w
theorem wfW.le {n m : Nat} {w : W} (h : wfW n w) (l : n ≤ m) : wfW m w := by
  cases w with
  | v d => trivial
  | r i => exact Nat.lt_of_lt_of_le h l
theorem wfO.le {n m : Nat} {o : VO} (h : wfO n o) (l : n ≤ m) : wfO m o := by
  cases o with
  | lst ds => trivial
  | dK kvs => exact fun kv hk => (h kv hk).le l
  | dT kvs => exact fun kv hk => (h kv hk).le l
  | ins C kvs => exact fun kv hk => (h kv hk).le l
theorem wfE.le {n m : Nat} {e : WEn} (h : wfE n e) (l : n ≤ m) : wfE m e := fun w hw => (h w hw).le l
theorem wfL.le {n m : Nat} {e : List W} (h : wfL n e) (l : n ≤ m) : wfL m e := fun w hw => (h w hw).le l
structure Emb (ι : Nm) (S : Sto) (M : MH) : Prop where
  at' : ∀ i o, getS S i = some o → M (ι i) = some (rnO ι o)
  inj : ∀ i j o u, getS S i = some o → getS S j = some u → ι i = ι j → i = j
  wf : ∀ i o, getS S i = some o → wfO S.length o
structure Ext (ι : Nm) (S : Sto) (M : MH) (ι' : Nm) (S' : Sto) (M' : MH) : Prop where
  emb : Emb ι' S' M'
  agr : ∀ i, i < S.length → ι' i = ι i
  len : S.length ≤ S'.length
  own : ∀ i o, getS S' i = some o → M (ι' i) = none ∨ ∃ j u, getS S j = some u ∧ ι j = ι' i
  frm : ∀ a, M a ≠ none → (∀ i o, getS S i = some o → ι i ≠ a) → M' a = M a
theorem Ext.refl {ι : Nm} {S : Sto} {M : MH} (e : Emb ι S M) : Ext ι S M ι S M := ⟨e, fun _ _ => rfl, Nat.le_refl _, fun i o h => .inr ⟨i, o, h, rfl⟩, fun _ _ _ => rfl⟩
theorem Ext.trans {ι ι1 ι2 : Nm} {S S1 S2 : Sto} {M M1 M2 : MH} (a : Ext ι S M ι1 S1 M1) (b : Ext ι1 S1 M1 ι2 S2 M2) : Ext ι S M ι2 S2 M2 where
  emb := b.emb
  agr := fun i h => (b.agr i (Nat.lt_of_lt_of_le h a.len)).trans (a.agr i h)
  len := Nat.le_trans a.len b.len
  own := fun i o h => by
    rcases b.own i o h with z | ⟨j, u, z1, z2⟩
    · by_cases q : M (ι2 i) = none
      · exact .inl q
      · refine .inr ?_
        apply Classical.byContradiction
        intro hn
        have := a.frm (ι2 i) q fun j u hj e => hn ⟨j, u, hj, e⟩
        rw [z] at this
        exact q this.symm
    · rcases a.own j u z1 with z | ⟨k, u2, y1, y2⟩
      · rw [← z2]; exact .inl z
      · exact .inr ⟨k, u2, y1, y2.trans z2⟩
  frm := fun c h1 h2 => by
    have e1 := a.frm c h1 h2
    rw [← e1]
    refine b.frm c (by rw [e1]; exact h1) fun i o h e => ?_
    rcases a.own i o h with z | ⟨k, u2, y1, y2⟩
    · rw [e] at z; exact h1 z
    · exact h2 k u2 y1 (y2.trans e)
theorem rnW_agr {ι ι' : Nm} {n : Nat} (h : ∀ i, i < n → ι' i = ι i) {w : W} (hw : wfW n w) : rnW ι' w = rnW ι w := by
  cases w with
  | v d => rfl
  | r i => show D.ref (ι' i) = D.ref (ι i); rw [h i hw]
theorem rnE_agr {ι ι' : Nm} {n : Nat} (h : ∀ i, i < n → ι' i = ι i) {e : WEn} (hw : wfE n e) : rnE ι' e = rnE ι e := by
  refine List.map_congr_left fun x hx => ?_
  cases x with
  | none => rfl
  | some w => show some (rnW ι' w) = some (rnW ι w); rw [rnW_agr h (hw w hx)]
theorem rnL_agr {ι ι' : Nm} {n : Nat} (h : ∀ i, i < n → ι' i = ι i) {ws : List W} (hw : wfL n ws) : ws.map (rnW ι') = ws.map (rnW ι) := List.map_congr_left fun x hx => rnW_agr h (hw x hx)
theorem rnO_agr {ι ι' : Nm} {n : Nat} (h : ∀ i, i < n → ι' i = ι i) {o : VO} (hw : wfO n o) : rnO ι' o = rnO ι o := by
  cases o with
  | lst ds => rfl
  | dK kvs => show MO.dK _ = MO.dK _; congr 1; exact List.map_congr_left fun kv hk => by rw [rnW_agr h (hw kv hk)]
  | dT kvs => show MO.dT _ = MO.dT _; congr 1; exact List.map_congr_left fun kv hk => by rw [rnW_agr h (hw kv hk)]
  | ins C kvs => show MO.ins _ _ = MO.ins _ _; congr 1; exact List.map_congr_left fun kv hk => by rw [rnW_agr h (hw kv hk)]
theorem getS_lt {S : Sto} {i : Nat} {o : VO} (h : getS S i = some o) : i < S.length := by
  unfold getS at h
  by_cases q : i < S.length
  · exact q
  · rw [List.getElem?_eq_none (by omega)] at h; cases h
theorem getS_new {S : Sto} {o : VO} : getS (S ++ [some o]) S.length = some o := by
  unfold getS; simp
theorem getS_old {S : Sto} {o : VO} {i : Nat} (h : i ≠ S.length) : getS (S ++ [some o]) i = getS S i := by
  unfold getS
  by_cases q : i < S.length
  · rw [List.getElem?_append_left q]
  · rw [List.getElem?_eq_none (l := S) (by omega), List.getElem?_eq_none (l := S ++ [some o]) (by rw [List.length_append, List.length_singleton]; omega)]
theorem getS_set {S : Sto} {i : Nat} {o : Option VO} (h : i < S.length) : getS (setS S i o) i = o := by
  unfold getS setS; rw [List.getElem?_set_self h]; rfl
theorem getS_ne {S : Sto} {i j : Nat} {o : Option VO} (h : j ≠ i) : getS (setS S i o) j = getS S j := by
  unfold getS setS; rw [List.getElem?_set_ne (Ne.symm h)]
/-- a new thing -/
def pin (ι : Nm) (n : Nat) (p : Addr) : Nm := fun i => if i = n then p else ι i
theorem pin_at {ι : Nm} {n : Nat} {p : Addr} : pin ι n p n = p := if_pos rfl
theorem pin_ne {ι : Nm} {n i : Nat} {p : Addr} (h : i ≠ n) : pin ι n p i = ι i := if_neg h
theorem Ext.new {ι : Nm} {S : Sto} {M : MH} (e : Emb ι S M) {p : Addr} (hp : M p = none) {o : VO} (w : wfO S.length o) : Ext ι S M (pin ι S.length p) (S ++ [some o]) (up M p (rnO ι o)) := by
  have agr : ∀ i, i < S.length → pin ι S.length p i = ι i := fun i h => pin_ne (Nat.ne_of_lt h)
  have ne : ∀ i u, getS S i = some u → ι i ≠ p := fun i u h q => by
    have := e.at' i u h
    rw [q, hp] at this; cases this
  have hl : S.length ≤ (S ++ [some o]).length := by rw [List.length_append]; omega
  refine ⟨⟨fun i u h => ?_, fun i j u v h1 h2 q => ?_, fun i u h => ?_⟩, agr, hl, fun i u h => ?_, fun a h1 h2 => ?_⟩
  · by_cases q : i = S.length
    · subst q
      rw [getS_new] at h
      cases h
      rw [pin_at, up_same, rnO_agr agr w]
    · rw [getS_old q] at h
      rw [pin_ne q, up_ne (ne i u h), e.at' i u h, rnO_agr agr (e.wf i u h)]
  · by_cases q1 : i = S.length
    · by_cases q2 : j = S.length
      · rw [q1, q2]
      · rw [getS_old q2] at h2
        rw [q1, pin_at, pin_ne q2] at q
        exact absurd q.symm (ne j v h2)
    · rw [getS_old q1] at h1
      by_cases q2 : j = S.length
      · rw [q2, pin_at, pin_ne q1] at q
        exact absurd q (ne i u h1)
      · rw [getS_old q2] at h2
        rw [pin_ne q1, pin_ne q2] at q
        exact e.inj i j u v h1 h2 q
  · by_cases q : i = S.length
    · subst q
      rw [getS_new] at h
      cases h
      exact w.le hl
    · rw [getS_old q] at h
      exact (e.wf i u h).le hl
  · by_cases q : i = S.length
    · rw [q, pin_at]; exact .inl hp
    · rw [getS_old q] at h
      exact .inr ⟨i, u, h, (pin_ne q).symm⟩
  · exact up_ne fun z => by subst z; exact h1 hp
/-- a thing is written -/
theorem Ext.put {ι : Nm} {S : Sto} {M : MH} (e : Emb ι S M) {i : Nat} {o u : VO} (h : getS S i = some u) (w : wfO S.length o) : Ext ι S M ι (setS S i (some o)) (up M (ι i) (rnO ι o)) := by
  have hi := getS_lt h
  have hl : (setS S i (some o)).length = S.length := List.length_set
  have old : ∀ j v, getS (setS S i (some o)) j = some v → (j = i ∧ v = o) ∨ (j ≠ i ∧ getS S j = some v) := fun j v hj => by
    by_cases q : j = i
    · subst q
      rw [getS_set hi] at hj
      exact .inl ⟨rfl, (Option.some.inj hj).symm⟩
    · rw [getS_ne q] at hj
      exact .inr ⟨q, hj⟩
  have liv : ∀ j v, getS (setS S i (some o)) j = some v → ∃ v', getS S j = some v' := fun j v hj => by
    rcases old j v hj with ⟨rfl, _⟩ | ⟨_, q⟩
    · exact ⟨_, h⟩
    · exact ⟨_, q⟩
  refine ⟨⟨fun j v hj => ?_, fun j k v v' h1 h2 q => ?_, fun j v hj => ?_⟩, fun _ _ => rfl, Nat.le_of_eq hl.symm, fun j v hj => ?_, fun a h1 h2 => ?_⟩
  · rcases old j v hj with ⟨rfl, rfl⟩ | ⟨q, hj⟩
    · exact up_same
    · rw [up_ne fun z => q (e.inj j i v u hj h z)]
      exact e.at' j v hj
  · obtain ⟨_, z1⟩ := liv j v h1
    obtain ⟨_, z2⟩ := liv k v' h2
    exact e.inj j k _ _ z1 z2 q
  · rw [hl]
    rcases old j v hj with ⟨rfl, rfl⟩ | ⟨q, hj⟩
    · exact w
    · exact e.wf j v hj
  · obtain ⟨v', z⟩ := liv j v hj
    exact .inr ⟨j, v', z, rfl⟩
  · exact up_ne fun z => h2 i u h z.symm
/-- a thing is frozen -/
theorem Ext.del {ι : Nm} {S : Sto} {M : MH} (e : Emb ι S M) {i : Nat} {u : VO} (h : getS S i = some u) : Ext ι S M ι (setS S i none) (er M (ι i)) := by
  have hi := getS_lt h
  have hl : (setS S i none).length = S.length := List.length_set
  have old : ∀ j v, getS (setS S i none) j = some v → (j ≠ i ∧ getS S j = some v) := fun j v hj => by
    by_cases q : j = i
    · subst q
      rw [getS_set hi] at hj; cases hj
    · rw [getS_ne q] at hj
      exact ⟨q, hj⟩
  have erne : ∀ a, a ≠ ι i → er M (ι i) a = M a := fun a q => by unfold er; rw [if_neg q]
  refine ⟨⟨fun j v hj => ?_, fun j k v v' h1 h2 q => ?_, fun j v hj => ?_⟩, fun _ _ => rfl, Nat.le_of_eq hl.symm, fun j v hj => ?_, fun a h1 h2 => ?_⟩
  · obtain ⟨q, hj⟩ := old j v hj
    rw [erne _ fun z => q (e.inj j i v u hj h z)]
    exact e.at' j v hj
  · exact e.inj j k _ _ (old j v h1).2 (old k v' h2).2 q
  · rw [hl]
    exact e.wf j v (old j v hj).2
  · exact .inr ⟨j, v, (old j v hj).2, rfl⟩
  · exact erne _ fun z => h2 i u h z.symm
/-- a mark that is not ours is put aside -/
theorem Ext.aside {ι ι' : Nm} {S S' : Sto} {M M' : MH} {p : Addr} (x : Ext ι S M ι' S' M') (hp : M p ≠ none) (hn : ∀ i o, getS S i = some o → ι i ≠ p) : Ext ι S (er M p) ι' S' (er M' p) ∧ M' p = M p ∧ ∀ i o, getS S' i = some o → ι' i ≠ p := by
  have ne : ∀ i o, getS S' i = some o → ι' i ≠ p := fun i o h q => by
    rcases x.own i o h with z | ⟨j, u, z1, z2⟩
    · rw [q] at z; exact hp z
    · exact hn j u z1 (z2.trans q)
  have erne : ∀ (M : MH) a, a ≠ p → er M p a = M a := fun M a q => by unfold er; rw [if_neg q]
  refine ⟨⟨⟨fun i o h => ?_, x.emb.inj, x.emb.wf⟩, x.agr, x.len, fun i o h => ?_, fun a h1 h2 => ?_⟩, x.frm p hp hn, ne⟩
  · rw [erne _ _ (ne i o h)]; exact x.emb.at' i o h
  · rw [erne _ _ (ne i o h)]; exact x.own i o h
  · by_cases q : a = p
    · subst q; exact absurd er_none h1
    · rw [erne _ _ q] at h1 ⊢
      rw [erne _ _ q]
      exact x.frm a h1 h2
/-- .. and marked again -/
theorem Emb.mark {ι : Nm} {S : Sto} {M : MH} {p : Addr} {o : MO} (e : Emb ι S M) (hn : ∀ i o, getS S i = some o → ι i ≠ p) : Emb ι S (up M p o) :=
  ⟨fun i u h => by rw [up_ne (hn i u h)]; exact e.at' i u h, e.inj, e.wf⟩
theorem Emb.fresh {ι : Nm} {S : Sto} {M : MH} {p : Addr} (e : Emb ι S M) (hp : M p = none) : ∀ i o, getS S i = some o → ι i ≠ p := fun i u h q => by
  have := e.at' i u h
  rw [q, hp] at this; cases this
theorem er_up' {M : MH} {p : Addr} {o : MO} : er (up M p o) p = er M p := by
  funext a; unfold er up
  by_cases q : a = p
  · rw [if_pos q, if_pos q]
  · rw [if_neg q, if_neg q, if_neg q]
theorem er_self {M : MH} {p : Addr} (h : M p = none) : er M p = M := by
  funext a; unfold er
  by_cases q : a = p
  · rw [if_pos q, q, h]
  · rw [if_neg q]
theorem up_er {M : MH} {p : Addr} {o : MO} (h : M p = some o) : up (er M p) p o = M := by
  funext a; unfold er up
  by_cases q : a = p
  · simp [q, h]
  · simp [q]

/-! ### slots -/
theorem getV_eq : ∀ (e : WEn) (i : Nat), getV e i = (e[i]?).join
  | [], i => by simp [getV]
  | x :: r, 0 => by cases x <;> simp [getV]
  | x :: r, n + 1 => by show getV r n = _; rw [getV_eq r n]; simp
theorem getE_rn {ι : Nm} : ∀ (e : WEn) (i : Nat), getE (rnE ι e) i = (getV e i).map (rnW ι)
  | [], _ => rfl
  | x :: _, 0 => rfl
  | _ :: r, n + 1 => getE_rn r n
theorem setE_rn {ι : Nm} : ∀ (e : WEn) (i : Nat) (w : W), setE (rnE ι e) i (rnW ι w) = rnE ι (setV2 e i w)
  | [], _, _ => rfl
  | x :: _, 0, _ => rfl
  | x :: r, n + 1, w => by
    show (x.map (rnW ι)) :: setE (rnE ι r) n (rnW ι w) = _
    rw [setE_rn r n w]; rfl
theorem wipeE1_rn {ι : Nm} : ∀ (e : WEn) (i : Nat), wipeE1 (rnE ι e) i = rnE ι (wipeV1 e i)
  | [], _ => rfl
  | x :: _, 0 => rfl
  | x :: r, n + 1 => by
    show (x.map (rnW ι)) :: wipeE1 (rnE ι r) n = _
    rw [wipeE1_rn r n]; rfl
theorem wipeE_rn {ι : Nm} (e : WEn) : ∀ (vs : List Nat), wipeE (rnE ι e) vs = rnE ι (wipeV e vs)
  | [] => rfl
  | v :: vs => by
    show wipeE1 (wipeE (rnE ι e) vs) v = rnE ι (wipeV1 (wipeV e vs) v)
    rw [wipeE_rn e vs, wipeE1_rn]
theorem wfE_get {n : Nat} : ∀ {e : WEn} {i : Nat} {w : W}, wfE n e → getV e i = some w → wfW n w
  | [], _, _, _, h => by cases h
  | x :: r, 0, w, h, q => h w (by have q : x = some w := q; rw [q]; simp)
  | x :: r, i + 1, w, h, q => wfE_get (e := r) (fun u hu => h u (List.mem_cons_of_mem _ hu)) q
theorem wfE_set {n : Nat} {w : W} (hw : wfW n w) : ∀ {e : WEn} {i : Nat}, wfE n e → wfE n (setV2 e i w)
  | [], _, h => h
  | x :: r, 0, h => fun u hu => by
    rcases List.mem_cons.mp (show some u ∈ some w :: r from hu) with q | q
    · cases q; exact hw
    · exact h u (List.mem_cons_of_mem _ q)
  | x :: r, i + 1, h => fun u hu => by
    rcases List.mem_cons.mp (show some u ∈ x :: setV2 r i w from hu) with q | q
    · exact h u (by rw [q]; simp)
    · exact wfE_set hw (e := r) (fun u hu => h u (List.mem_cons_of_mem _ hu)) u q
theorem wfE_wipe1 {n : Nat} : ∀ {e : WEn} {i : Nat}, wfE n e → wfE n (wipeV1 e i)
  | [], _, h => h
  | x :: r, 0, h => fun u hu => by
    rcases List.mem_cons.mp (show some u ∈ none :: r from hu) with q | q
    · cases q
    · exact h u (List.mem_cons_of_mem _ q)
  | x :: r, i + 1, h => fun u hu => by
    rcases List.mem_cons.mp (show some u ∈ x :: wipeV1 r i from hu) with q | q
    · exact h u (by rw [q]; simp)
    · exact wfE_wipe1 (e := r) (fun u hu => h u (List.mem_cons_of_mem _ hu)) u q
theorem wfE_wipe {n : Nat} {e : WEn} (h : wfE n e) : ∀ (vs : List Nat), wfE n (wipeV e vs)
  | [] => h
  | v :: vs => wfE_wipe1 (wfE_wipe h vs)
theorem setAll_rn {ι : Nm} : ∀ (is : List Nat) (ds : List D) (e e' : WEn), setAllV e is ds = some e' → setAll (rnE ι e) is ds = some (rnE ι e')
  | [], [], e, e', h => by cases h; rfl
  | [], _ :: _, _, _, h => by cases h
  | _ :: _, [], _, _, h => by cases h
  | i :: is, d :: ds, e, e', h => by
    show setAll (setE (rnE ι e) i d) is ds = _
    have := setE_rn (ι := ι) e i (.v d)
    rw [show setE (rnE ι e) i d = rnE ι (setV2 e i (.v d)) from this]
    exact setAll_rn is ds _ _ h
theorem setAll_wf {n : Nat} : ∀ (is : List Nat) (ds : List D) (e e' : WEn), wfE n e → setAllV e is ds = some e' → wfE n e'
  | [], [], e, e', w, h => by cases h; exact w
  | [], _ :: _, _, _, _, h => by cases h
  | _ :: _, [], _, _, _, h => by cases h
  | i :: is, d :: ds, e, e', w, h => setAll_wf is ds _ _ (wfE_set (w := .v d) trivial w) h
theorem bind_rn {ι : Nm} {n : Nat} {tg : Tg} {w : W} {e e' : WEn} (he : wfE n e) (hw : wfW n w) (h : bindV tg w e = some e') : bindT tg (rnW ι w) (rnE ι e) = some (rnE ι e') ∧ wfE n e' := by
  cases tg with
  | nm i =>
    cases h
    exact ⟨congrArg some (setE_rn e i w), wfE_set hw he⟩
  | tp is =>
    cases w with
    | r i => cases h
    | v d =>
      cases d with
      | tp k ds =>
        have h : setAllV e is ds = some e' := h
        exact ⟨setAll_rn is ds e e' h, setAll_wf is ds e e' he h⟩
      | _ => cases h

/-! ### reading -/
section
variable {ι : Nm} {S : Sto} {M : MH} {w x y : W} {d : D}
theorem rdW_cases (h : rdW S w = some d) : (w = .v d ∧ ∀ a, d ≠ .ref a) ∨ ∃ i ds, w = .r i ∧ getS S i = some (.lst ds) ∧ d = .lst ds := by
  cases w with
  | v d' =>
    left
    cases d' with
    | ref a => cases h
    | _ => cases h; exact ⟨rfl, fun a q => by cases q⟩
  | r i =>
    right
    have h : (match getS S i with | some (.lst ds) => some (D.lst ds) | _ => none) = some d := h
    split at h
    · rename_i ds q
      cases h
      exact ⟨i, ds, rfl, q, rfl⟩
    · cases h
theorem rdW_at (e : Emb ι S M) {i : Nat} {ds : List D} (h : getS S i = some (.lst ds)) : M (ι i) = some (.lst ds) := e.at' i _ h
theorem rd_rdL (e : Emb ι S M) (h : rdW S w = some d) : rdL M (rnW ι w) = d := by
  rcases rdW_cases h with ⟨rfl, q⟩ | ⟨i, ds, rfl, g, rfl⟩
  · cases d <;> first | rfl | exact absurd rfl (q _)
  · show (match M (ι i) with | some (.lst ds) => D.lst ds | _ => .ref (ι i)) = _
    rw [rdW_at e g]
theorem rd_asL (e : Emb ι S M) (h : rdW S w = some d) : asL M (rnW ι w) = asL M00 d := by
  rcases rdW_cases h with ⟨rfl, q⟩ | ⟨i, ds, rfl, g, rfl⟩
  · cases d <;> first | rfl | exact absurd rfl (q _)
  · show (match M (ι i) with | some (.lst ds) => some ds | _ => none) = some ds
    rw [rdW_at e g]
theorem rd_exL (e : Emb ι S M) (h : rdW S w = some d) : exL M (rnW ι w) = exL M00 d := by
  rcases rdW_cases h with ⟨rfl, q⟩ | ⟨i, ds, rfl, g, rfl⟩
  · cases d <;> first | rfl | exact absurd rfl (q _)
  · show (match M (ι i) with | some (.lst ds) => some ds | _ => none) = some ds
    rw [rdW_at e g]
theorem rd_asT (h : rdW S w = some d) : asT (rnW ι w) = asT d := by
  rcases rdW_cases h with ⟨rfl, q⟩ | ⟨i, ds, rfl, g, rfl⟩
  · rfl
  · rfl
theorem rd_seqM (e : Emb ι S M) (h : rdW S w = some d) : seqM M (rnW ι w) = seqM M00 d := by
  unfold seqM
  rw [rd_asT h, rd_asL e h]
theorem rdL_pl {M : MH} (h : ∀ a, d ≠ .ref a) : rdL M d = d := by
  cases d <;> first | rfl | exact absurd rfl (h _)
theorem sq_seqM (e : Emb ι S M) {ds : List D} (h : sqW S w = some ds) : seqM M (rnW ι w) = some ds := by
  unfold sqW at h
  cases q : rdW S w with
  | none => rw [q] at h; cases h
  | some d =>
    rw [q] at h
    rw [rd_seqM e q]
    cases d <;> first | exact h | cases h
theorem plW_eq (h : plW w = some d) : w = .v d ∧ ∀ a, d ≠ .ref a := by
  cases w with
  | r i => cases h
  | v d' =>
    cases d' with
    | ref a => cases h
    | _ => cases h; exact ⟨rfl, fun a q => by cases q⟩
theorem valD_G {κ : Type} [DecidableEq κ] {kvs : List (κ × D)} {k : κ} : valD kvs k = valG kvs k := rfl
theorem valG_map {κ α β : Type} [DecidableEq κ] (f : α → β) (k : κ) : ∀ kvs : List (κ × α), valG (kvs.map fun kv => (kv.1, f kv.2)) k = (valG kvs k).map f
  | [] => rfl
  | kv :: r => by
    have ih := valG_map f k r
    unfold valG at ih ⊢
    rw [List.map_cons]
    by_cases q : kv.1 = k
    · rw [List.find?_cons_of_pos (by exact decide_eq_true q), List.find?_cons_of_pos (by exact decide_eq_true q)]; rfl
    · rw [List.find?_cons_of_neg (by simpa using q), List.find?_cons_of_neg (by simpa using q)]; exact ih
theorem putG_map {κ α β : Type} [DecidableEq κ] (f : α → β) (k : κ) (v : α) (kvs : List (κ × α)) : putG (kvs.map fun kv => (kv.1, f kv.2)) k (f v) = (putG kvs k v).map fun kv => (kv.1, f kv.2) := by
  unfold putG
  rw [List.any_map]
  by_cases q : (kvs.any fun kv => decide (kv.1 = k)) = true
  · rw [if_pos q, if_pos (by exact q), List.map_map, List.map_map]
    refine List.map_congr_left fun kv _ => ?_
    show (if kv.1 = k then _ else _) = _
    show _ = ((if kv.1 = k then (kv.1, v) else kv).1, f (if kv.1 = k then (kv.1, v) else kv).2)
    by_cases z : kv.1 = k
    · rw [if_pos z, if_pos z]
    · rw [if_neg z, if_neg z]
  · rw [if_neg q, if_neg (by exact q), List.map_append]; rfl
theorem valG_mem {κ α : Type} [DecidableEq κ] {kvs : List (κ × α)} {k : κ} {v : α} (h : valG kvs k = some v) : (k, v) ∈ kvs := by
  unfold valG at h
  cases q : kvs.find? fun kv => decide (kv.1 = k) with
  | none => rw [q] at h; cases h
  | some e =>
    rw [q] at h
    have h : e.2 = v := Option.some.inj h
    have h1 : decide (e.1 = k) = true := List.find?_some (p := fun kv : κ × α => decide (kv.1 = k)) q
    have h1 := of_decide_eq_true h1
    have h2 := List.mem_of_find?_eq_some q
    rw [← h1, ← h]; exact h2
theorem putG_mem {κ α : Type} [DecidableEq κ] {kvs : List (κ × α)} {k : κ} {v : α} {e : κ × α} (h : e ∈ putG kvs k v) : e ∈ kvs ∨ e = (k, v) := by
  unfold putG at h
  split at h
  · obtain ⟨e0, h0, h1⟩ := List.mem_map.mp h
    split at h1
    · rename_i z
      rw [← h1, ← z]; exact .inr rfl
    · rw [← h1]; exact .inl h0
  · rcases List.mem_append.mp h with h | h
    · exact .inl h
    · exact .inr (List.mem_singleton.mp h)
theorem rnd_v {kvs : List (Key × D)} {k : Key} : ((valG kvs k).map W.v).map (rnW ι) = valG kvs k := by
  cases valG kvs k <;> rfl
theorem rnd_vT {kvs : List (List Key × D)} {k : List Key} : ((valG kvs k).map W.v).map (rnW ι) = valG kvs k := by
  cases valG kvs k <;> rfl
theorem df_dfind (e : Emb ι S M) {o : Option W} (h : dfW S y d = some o) : dfind M (rnW ι y) d = some (o.map (rnW ι)) ∧ seqM M (rnW ι y) = none ∧ ∀ w, o = some w → wfW S.length w := by
  cases y with
  | v z =>
    cases z with
    | dK ks ds =>
      have h : (match keyK d with | some k => some ((valG (ks.zip ds) k).map W.v) | none => none) = some o := h
      split at h
      · rename_i k hk
        cases h
        refine ⟨?_, rfl, ?_⟩
        · show (match (some (ks.zip ds)), keyK d with | some kvs, some k => some (valD kvs k) | _, _ => _) = _
          rw [hk, rnd_v]; rfl
        · intro w hw
          cases q : valG (ks.zip ds) k with
          | none => rw [q] at hw; cases hw
          | some v => rw [q] at hw; cases hw; trivial
      · cases h
    | dT ks ds =>
      have h : (match keyT d with | some k => some ((valG (ks.zip ds) k).map W.v) | none => none) = some o := h
      split at h
      · rename_i k hk
        cases h
        refine ⟨?_, rfl, ?_⟩
        · have : dfind M (D.dT ks ds) d = (match some (ks.zip ds), keyT d with | some kvs, some k => some (valD kvs k) | _, _ => none) := by
            unfold dfind; rfl
          show dfind M (D.dT ks ds) d = _
          rw [this, hk, rnd_vT]; rfl
        · intro w hw
          cases q : valG (ks.zip ds) k with
          | none => rw [q] at hw; cases hw
          | some v => rw [q] at hw; cases hw; trivial
      · cases h
    | _ => cases h
  | r i =>
    have h : (match getS S i with
      | some (.dK kvs) => (match keyK d with | some k => some (valG kvs k) | none => none)
      | some (.dT kvs) => (match keyT d with | some k => some (valG kvs k) | none => none)
      | _ => none) = some o := h
    split at h
    · rename_i kvs g
      split at h
      · rename_i k hk
        cases h
        have hM := e.at' i _ g
        refine ⟨?_, ?_, fun w hw => e.wf i _ g _ (valG_mem hw)⟩
        · have : asK M (.ref (ι i)) = some (kvs.map fun kv => (kv.1, rnW ι kv.2)) := by
            show (match M (ι i) with | some (.dK kvs) => some kvs | _ => none) = _
            rw [hM]; rfl
          show dfind M (.ref (ι i)) d = _
          unfold dfind
          rw [this, hk, ← valG_map]; rfl
        · show (match M (ι i) with | some (.lst ds) => some ds | _ => none) = none
          rw [hM]; rfl
      · cases h
    · rename_i kvs g
      split at h
      · rename_i k hk
        cases h
        have hM := e.at' i _ g
        refine ⟨?_, ?_, fun w hw => e.wf i _ g _ (valG_mem hw)⟩
        · have h1 : asK M (.ref (ι i)) = none := by
            show (match M (ι i) with | some (.dK kvs) => some kvs | _ => none) = _
            rw [hM]; rfl
          have h2 : asD M (.ref (ι i)) = some (kvs.map fun kv => (kv.1, rnW ι kv.2)) := by
            show (match M (ι i) with | some (.dT kvs) => some kvs | _ => none) = _
            rw [hM]; rfl
          show dfind M (.ref (ι i)) d = _
          unfold dfind
          rw [h1, h2, hk, ← valG_map]; rfl
        · show (match M (ι i) with | some (.lst ds) => some ds | _ => none) = none
          rw [hM]; rfl
      · cases h
    · cases h
end
end Z

/-! V3: operators and constructs: the functions are sound for the reading of data. -/
namespace Z
open PySem PySem.Spec PyProof.Rows L2

/-- what is left to show behind a result -/
def Post {α : Type} (ι : Nm) (S : Sto) (M : MH) (E : X3) (r : Rs α) (K : α → Nm → Sto → MH → Prop) : Prop := match r with
  | .ok a S' => ∀ ι' M', Ext ι S M ι' S' M' → K a ι' S' M'
  | .ex x S' => ∀ ι' M', Ext ι S M ι' S' M' → E x M'
  | .no => False
section
variable {α β : Type} {ι ι1 : Nm} {S S1 : Sto} {M M1 : MH} {E : X3} {r : Rs α} {K K' : α → Nm → Sto → MH → Prop}
theorem Post.from (x : Ext ι S M ι1 S1 M1) (h : Post ι S M E r K) : Post ι1 S1 M1 E r K := by
  cases r with
  | ok a S' => exact fun ι' M' y => h ι' M' (x.trans y)
  | ex e S' => exact fun ι' M' y => h ι' M' (x.trans y)
  | no => exact h
theorem Post.bind {g : α → Sto → Rs β} {K : β → Nm → Sto → MH → Prop} (h : Post ι S M E (r.bind g) K) : Post ι S M E r fun a ι' S' M' => Post ι' S' M' E (g a S') K := by
  cases r with
  | ok a S' => exact fun ι' M' x => Post.from x (show Post ι S M E (g a S') K from h)
  | ex e S' => exact h
  | no => exact h
theorem Post.imp (h : Post ι S M E r K) (f : ∀ a ι' S' M', Ext ι S M ι' S' M' → K a ι' S' M' → K' a ι' S' M') : Post ι S M E r K' := by
  cases r with
  | ok a S' => exact fun ι' M' x => f a ι' S' M' x (h ι' M' x)
  | ex e S' => exact h
  | no => exact h
theorem Post.now {a : α} (e : Emb ι S M) (h : Post ι S M E (.ok a S) K) : K a ι S M := h ι M (Ext.refl e)
theorem Post.lft {o : Option α} (e : Emb ι S M) (h : Post ι S M E (lft S o) K) : ∃ a, o = some a ∧ K a ι S M := by
  cases o with
  | none => exact h.elim
  | some a => exact ⟨a, rfl, Post.now e h⟩
theorem Post.lfv {o : Option D} {K : W → Nm → Sto → MH → Prop} (e : Emb ι S M) (h : Post ι S M E (lfv S o) K) : ∃ a, o = some a ∧ K (.v a) ι S M := by
  cases o with
  | none => exact h.elim
  | some a => exact ⟨a, rfl, Post.now e h⟩
end
def SndE (E : X3) (t : T3) (f : WF W) : Prop := ∀ en S ι M Q, wfE S.length en → Emb ι S M → Post ι S M E (f en S) (fun w ι' S' M' => wfW S'.length w → Q (rnW ι' w) M') → t (rnE ι en) M Q
def SndT (E : X3) (t : TB3) (f : WF Bool) : Prop := ∀ en S ι M Q, wfE S.length en → Emb ι S M → Post ι S M E (f en S) (fun b _ _ M' => Q b M') → t (rnE ι en) M Q
def SndL (E : X3) (t : TL3) (f : WF (List W)) : Prop := ∀ en S ι M Q, wfE S.length en → Emb ι S M → Post ι S M E (f en S) (fun ws ι' S' M' => wfL S'.length ws → Q (ws.map (rnW ι')) M') → t (rnE ι en) M Q
def SndO (E : X3) (t : TO3) (f : WF (Option Int)) : Prop := ∀ en S ι M Q, wfE S.length en → Emb ι S M → Post ι S M E (f en S) (fun b _ _ M' => Q b M') → t (rnE ι en) M Q
def SndI (E : X3) (t : TL3) (f : WF (List D)) : Prop := ∀ en S ι M Q, wfE S.length en → Emb ι S M → Post ι S M E (f en S) (fun ds _ _ M' => Q ds M') → t (rnE ι en) M Q
def OpS (o : O2) (f : Sto → W → W → Option D) : Prop := ∀ S ι M x y r Q, Emb ι S M → f S x y = some r → Q r M → o (rnW ι x) (rnW ι y) M Q
def OpW (o : O2) (f : Sto → W → W → Option W) : Prop := ∀ S ι M x y r Q, Emb ι S M → f S x y = some r → (wfW S.length r → Q (rnW ι r) M) → o (rnW ι x) (rnW ι y) M Q
def Op1 (o : O1) (f : Sto → W → Option D) : Prop := ∀ S ι M x r Q, Emb ι S M → f S x = some r → Q r M → o (rnW ι x) M Q
section
variable {E : X3} {ta tb tc : T3} {fa fb fc : WF W}
theorem wf_ext {ι ι1 : Nm} {S S1 : Sto} {M M1 : MH} (x : Ext ι S M ι1 S1 M1) {en : WEn} (h : wfE S.length en) : wfE S1.length en ∧ rnE ι en = rnE ι1 en := ⟨h.le x.len, (rnE_agr x.agr h).symm⟩
theorem rd1_some {S : Sto} {w : W} {f : D → Option D} {r : D} (h : rd1 S w f = some r) : ∃ d, rdW S w = some d ∧ f d = some r := by
  unfold rd1 at h
  cases q : rdW S w with
  | none => rw [q] at h; cases h
  | some d => rw [q] at h; exact ⟨d, rfl, h⟩
theorem rd2_some {S : Sto} {x y : W} {f : D → D → Option D} {r : D} (h : rd2 S x y f = some r) : ∃ d e, rdW S x = some d ∧ rdW S y = some e ∧ f d e = some r := by
  unfold rd2 at h
  cases q : rdW S x with
  | none => rw [q] at h; cases h
  | some d =>
    cases q2 : rdW S y with
    | none => rw [q, q2] at h; cases h
    | some e => rw [q, q2] at h; exact ⟨d, e, rfl, rfl, h⟩
theorem rdW_v {S : Sto} {w : W} {d : D} (h : rdW S w = some d) (hn : ∀ ds, d ≠ .lst ds) : w = .v d := by
  rcases rdW_cases h with ⟨rfl, _⟩ | ⟨i, ds, rfl, g, rfl⟩
  · rfl
  · exact absurd rfl (hn ds)
/-! ### operators -/
theorem os_bin (o : BOp) : OpS o.o2 (fun S x y => rd2 S x y o.vo) := by
  intro S ι M x y r Q em h q
  obtain ⟨d, e, hx, hy, hf⟩ := rd2_some h
  cases o with
  | add =>
    change vadd d e = some r at hf
    show add3 _ _ _ _
    unfold vadd at hf
    split at hf
    · rw [rdW_v hx (fun _ z => by cases z), rdW_v hy (fun _ z => by cases z)]
      cases hf; exact q
    · rw [rdW_v hx (fun _ z => by cases z), rdW_v hy (fun _ z => by cases z)]
      split at hf
      · rename_i hl
        cases hf; exact ⟨hl, q⟩
      · cases hf
    · rw [rdW_v hx (fun _ z => by cases z), rdW_v hy (fun _ z => by cases z)]
      split at hf
      · rename_i hl
        cases hf; exact ⟨hl, q⟩
      · cases hf
    · rename_i a b
      split at hf
      · rename_i hl
        cases hf
        have h1 := rd_exL em hx
        have h2 := rd_exL em hy
        have key : ∀ u v : D, exL M u = some a → exL M v = some b → add3 u v M Q := by
          intro u v h1 h2
          unfold add3
          split
          · cases h1
          · cases h1
          · cases h1
          · rw [h1, h2]; exact ⟨hl, q⟩
        exact key _ _ h1 h2
      · cases hf
    · cases hf
  | sub =>
    change vsub d e = some r at hf
    unfold vsub at hf
    split at hf
    · rw [rdW_v hx (fun _ z => by cases z), rdW_v hy (fun _ z => by cases z)]
      cases hf; exact q
    · cases hf
  | mul =>
    change vmul d e = some r at hf
    show mul3 _ _ _ _
    unfold vmul at hf
    split at hf
    · rw [rdW_v hx (fun _ z => by cases z), rdW_v hy (fun _ z => by cases z)]
      split at hf
      · rename_i hl
        cases hf
        refine ⟨?_, q⟩
        unfold mulOk at hl
        show IntMulOk _ _
        unfold IntMulOk
        rw [Bool.not_eq_true'] at hl
        rw [hl]; simp
      · cases hf
    · rw [rdW_v hx (fun _ z => by cases z), rdW_v hy (fun _ z => by cases z)]
      split at hf
      · rename_i hl
        cases hf
        exact ⟨hl.1, hl.2.1, hl.2.2, q⟩
      · cases hf
    · rw [rdW_v hx (fun _ z => by cases z), rdW_v hy (fun _ z => by cases z)]
      split at hf
      · rename_i hl
        cases hf
        exact ⟨hl, q⟩
      · cases hf
    · rename_i a k
      rw [rdW_v hy (fun _ z => by cases z)]
      split at hf
      · rename_i hl
        cases hf
        have h1 := rd_exL em hx
        have key : ∀ u : D, exL M u = some a → mul3 u (.int k) M Q := by
          intro u h1
          unfold mul3
          split
          · cases h1
          · cases h1
          · cases h1
          · rename_i z
            cases z
            rw [h1]; exact ⟨hl.1, hl.2.1, hl.2.2, q⟩
          · rename_i h7 h8 h9 h10
            first | exact (h10 _ rfl).elim | exact (h9 _ rfl).elim | exact (h8 _ rfl).elim | exact (h7 _ rfl).elim
        exact key _ h1
      · cases hf
    · cases hf
  | fdv =>
    change vfdv d e = some r at hf
    unfold vfdv at hf
    split at hf
    · rw [rdW_v hx (fun _ z => by cases z), rdW_v hy (fun _ z => by cases z)]
      split at hf
      · rename_i hl
        cases hf; exact ⟨hl, q⟩
      · cases hf
    · cases hf
  | mod =>
    change vmod d e = some r at hf
    unfold vmod at hf
    split at hf
    · rw [rdW_v hx (fun _ z => by cases z), rdW_v hy (fun _ z => by cases z)]
      split at hf
      · rename_i hl
        cases hf; exact ⟨hl, q⟩
      · cases hf
    · cases hf
  | pow =>
    change vpow d e = some r at hf
    unfold vpow at hf
    split at hf
    · rw [rdW_v hx (fun _ z => by cases z), rdW_v hy (fun _ z => by cases z)]
      split at hf
      · rename_i hl
        cases hf; exact ⟨hl, q⟩
      · cases hf
    · cases hf
theorem eqOk_of {S : Sto} {ι : Nm} {M : MH} {x y : W} {d e : D} (em : Emb ι S M) (hx : rdW S x = some d) (hy : rdW S y = some e) (h : veqOk d e = true) : eqOk M (rnW ι x) (rnW ι y) = true := by
  unfold eqOk
  rw [rd_rdL em hx, rd_rdL em hy]
  unfold veqOk at h
  rw [Bool.or_eq_true] at h ⊢
  rcases h with h | h
  · left
    have : (∀ ds, d ≠ .lst ds) ∧ ∀ ds, e ≠ .lst ds := by
      constructor <;> intro ds z <;> subst z
      · exact absurd h (by simp [sc2])
      · cases d <;> exact absurd h (by simp [sc2])
    rw [rdW_v hx this.1, rdW_v hy this.2]; exact h
  · right; exact h
theorem ltOk_of {S : Sto} {ι : Nm} {M : MH} {x y : W} {d e : D} (em : Emb ι S M) (hx : rdW S x = some d) (hy : rdW S y = some e) (h : vltOk d e = true) : ltOk M (rnW ι x) (rnW ι y) = true := by
  unfold ltOk
  rw [rd_rdL em hx, rd_rdL em hy]; exact h
theorem rdW_int {S : Sto} {x : W} {ι : Nm} {M : MH} {d : D} (em : Emb ι S M) (hx : rdW S x = some d) {i : Int} (h : rnW ι x = .int i) : d = .int i := by
  rcases rdW_cases hx with ⟨rfl, _⟩ | ⟨j, ds, rfl, g, rfl⟩
  · exact h
  · cases h
theorem inW_ok {S : Sto} {ι : Nm} {M : MH} {x y : W} {b : Bool} (em : Emb ι S M) (h : inW S x y = some b) : inAns M (rnW ι x) (rnW ι y) = some b := by
  unfold inW at h
  split at h
  · cases h
  · rename_i d hx
    obtain ⟨rfl, _⟩ := plW_eq hx
    show inAns M d (rnW ι y) = some b
    split at h
    · rename_i z
      exact h
    · rename_i hny
      have key : ∀ Y : D, (∀ z, Y ≠ .str z) → inAns M d Y = (match seqM M Y with
          | some ds => if inOk d ds = true then some (ds.any fun z => eqv z d) else none
          | none => match dfind M Y d with
            | some o => some o.isSome
            | none => none) := by
        intro Y hY
        unfold inAns
        split
        · exact absurd rfl (hY _)
        · rfl
      have hY : ∀ z, rnW ι y ≠ .str z := by
        intro z e
        cases y with
        | r i => cases e
        | v d' => exact hny z (by rw [show d' = .str z from e])
      rw [key _ hY]
      split at h
      · rename_i ds hs
        rw [sq_seqM em hs]; exact h
      · split at h
        · rename_i o ho
          obtain ⟨h1, h2, _⟩ := df_dfind em ho
          rw [h1, h2]
          cases h
          cases o <;> rfl
        · cases h
theorem ixW_ok {S : Sto} {ι : Nm} {M : MH} {x y r : W} (em : Emb ι S M) (h : ixW S x y = some r) : ixAns M (rnW ι x) (rnW ι y) = some (rnW ι r) ∧ wfW S.length r := by
  unfold ixW at h
  split at h
  · cases h
  · rename_i i hy
    obtain ⟨rfl, _⟩ := plW_eq hy
    show ixAns M (rnW ι x) (.int i) = _ ∧ _
    split at h
    · rename_i z
      split at h
      · rename_i hl
        split at h
        · rename_i c hc
          cases h
          refine ⟨?_, trivial⟩
          show (if z.length ≤ sizeLine then (match atI z.cps.toList i with | some c => some (D.str ⟨#[c]⟩) | none => none) else none) = _
          rw [if_pos hl, hc]; rfl
        · cases h
      · cases h
    · rename_i hnx
      have key : ∀ Y : D, (∀ z, Y ≠ .str z) → ixAns M Y (.int i) = (match seqM M Y with
          | some ds => atI ds i
          | none => (dfind M Y (.int i)).join) := by
        intro Y hY
        show (match Y with
          | .str z => if z.length ≤ sizeLine then (match atI z.cps.toList i with | some c => some (D.str ⟨#[c]⟩) | none => none) else none
          | x => match seqM M x with
            | some ds => atI ds i
            | none => (dfind M x (.int i)).join) = _
        split
        · exact absurd rfl (hY _)
        · rfl
      have hY : ∀ z, rnW ι x ≠ .str z := by
        intro z e
        cases x with
        | r i => cases e
        | v d' => exact hnx z (by rw [show d' = .str z from e])
      rw [key _ hY]
      split at h
      · rename_i ds hs
        rw [sq_seqM em hs]
        cases q : atI ds i with
        | none => rw [q] at h; cases h
        | some d => rw [q] at h; cases h; exact ⟨q, trivial⟩
      · cases q : dfW S x (.int i) with
        | none => rw [q] at h; cases h
        | some o =>
          rw [q] at h
          obtain ⟨h1, h2, h3⟩ := df_dfind em q
          have h : o = some r := h
          subst h
          rw [h1, h2]
          exact ⟨rfl, h3 r rfl⟩
  · rename_i d hni hy
    obtain ⟨rfl, _⟩ := plW_eq hy
    cases q : dfW S x d with
    | none => rw [q] at h; cases h
    | some o =>
      rw [q] at h
      obtain ⟨h1, h2, h3⟩ := df_dfind em q
      have h : o = some r := h
      subst h
      refine ⟨?_, h3 r rfl⟩
      show ixAns M (rnW ι x) d = _
      unfold ixAns
      split
      · exact absurd rfl (hni _)
      · rw [h1]; rfl
theorem os_cmp (o : COp) : OpS o.o2 (fun S x y => o.vo S x y) := by
  intro S ι M x y r Q em h q
  cases o with
  | eq =>
    obtain ⟨d, e, hx, hy, hf⟩ := rd2_some (show rd2 S x y veq = some r from h)
    unfold veq at hf
    split at hf
    · rename_i hl
      cases hf
      refine ⟨eqOk_of em hx hy hl, ?_⟩
      rw [rd_rdL em hx, rd_rdL em hy]; exact q
    · cases hf
  | ne =>
    obtain ⟨d, e, hx, hy, hf⟩ := rd2_some (show rd2 S x y vne = some r from h)
    unfold vne at hf
    split at hf
    · rename_i hl
      cases hf
      refine ⟨eqOk_of em hx hy hl, ?_⟩
      rw [rd_rdL em hx, rd_rdL em hy]; exact q
    · cases hf
  | lt =>
    obtain ⟨d, e, hx, hy, hf⟩ := rd2_some (show rd2 S x y vlt = some r from h)
    show lt3 _ _ _ _
    unfold lt3
    split
    · rename_i i j h1 h2
      cases rdW_int em hx h1
      cases rdW_int em hy h2
      cases hf; exact q
    · rename_i hno
      rw [rd_rdL em hx, rd_rdL em hy]
      unfold vlt at hf
      split at hf
      · exact (hno _ _ (by rw [rdW_v hx (fun _ z => by cases z)]; rfl) (by rw [rdW_v hy (fun _ z => by cases z)]; rfl)).elim
      · split at hf
        · rename_i hl
          cases hf
          exact ⟨ltOk_of em hx hy hl, q⟩
        · cases hf
  | le =>
    obtain ⟨d, e, hx, hy, hf⟩ := rd2_some (show rd2 S x y vle = some r from h)
    show le3 _ _ _ _
    unfold le3
    split
    · rename_i i j h1 h2
      cases rdW_int em hx h1
      cases rdW_int em hy h2
      cases hf; exact q
    · rename_i hno
      rw [rd_rdL em hx, rd_rdL em hy]
      unfold vle at hf
      split at hf
      · exact (hno _ _ (by rw [rdW_v hx (fun _ z => by cases z)]; rfl) (by rw [rdW_v hy (fun _ z => by cases z)]; rfl)).elim
      · split at hf
        · rename_i hl
          cases hf
          exact ⟨ltOk_of em hx hy hl, q⟩
        · cases hf
  | gt =>
    obtain ⟨d, e, hx, hy, hf⟩ := rd2_some (show rd2 S x y vgt = some r from h)
    show gt3 _ _ _ _
    unfold gt3
    split
    · rename_i i j h1 h2
      cases rdW_int em hx h1
      cases rdW_int em hy h2
      cases hf; exact q
    · rename_i hno
      rw [rd_rdL em hx, rd_rdL em hy]
      unfold vgt at hf
      split at hf
      · exact (hno _ _ (by rw [rdW_v hx (fun _ z => by cases z)]; rfl) (by rw [rdW_v hy (fun _ z => by cases z)]; rfl)).elim
      · split at hf
        · rename_i hl
          cases hf
          exact ⟨ltOk_of em hx hy hl, q⟩
        · cases hf
  | ge =>
    obtain ⟨d, e, hx, hy, hf⟩ := rd2_some (show rd2 S x y vge = some r from h)
    show ge3 _ _ _ _
    unfold ge3
    split
    · rename_i i j h1 h2
      cases rdW_int em hx h1
      cases rdW_int em hy h2
      cases hf; exact q
    · rename_i hno
      rw [rd_rdL em hx, rd_rdL em hy]
      unfold vge at hf
      split at hf
      · exact (hno _ _ (by rw [rdW_v hx (fun _ z => by cases z)]; rfl) (by rw [rdW_v hy (fun _ z => by cases z)]; rfl)).elim
      · split at hf
        · rename_i hl
          cases hf
          exact ⟨ltOk_of em hx hy hl, q⟩
        · cases hf
  | isin =>
    have h : blO (inW S x y) = some r := h
    cases z : inW S x y with
    | none => rw [z] at h; cases h
    | some b =>
      rw [z] at h
      cases h
      show (match inAns M (rnW ι x) (rnW ι y) with | some b => Q (.bl b) M | none => False)
      rw [inW_ok em z]; exact q
  | notin =>
    have h : blO ((inW S x y).map not) = some r := h
    cases z : inW S x y with
    | none => rw [z] at h; cases h
    | some b =>
      rw [z] at h
      cases h
      show (match inAns M (rnW ι x) (rnW ι y) with | some b => Q (.bl (!b)) M | none => False)
      rw [inW_ok em z]; exact q
  | «is» =>
    have h : (if nonW y = true then some (D.bl (nonW x)) else none) = some r := h
    split at h
    · rename_i hl
      cases h
      have hy : y = .v .non := by
        cases y with
        | r i => cases hl
        | v d => cases d <;> first | rfl | cases hl
      subst hy
      show Q (.bl (isNon (rnW ι x))) M
      have : isNon (rnW ι x) = nonW x := by
        cases x with
        | r i => rfl
        | v d => cases d <;> rfl
      rw [this]; exact q
    · cases h
  | «isnot» =>
    have h : (if nonW y = true then some (D.bl (!nonW x)) else none) = some r := h
    split at h
    · rename_i hl
      cases h
      have hy : y = .v .non := by
        cases y with
        | r i => cases hl
        | v d => cases d <;> first | rfl | cases hl
      subst hy
      show Q (.bl (!isNon (rnW ι x))) M
      have : isNon (rnW ι x) = nonW x := by
        cases x with
        | r i => rfl
        | v d => cases d <;> rfl
      rw [this]; exact q
    · cases h
end
end Z

/-! V4: constructs of expressions are sound. -/
namespace Z
open PySem PySem.Spec PyProof.Rows L2
section
variable {E : X3} {ta tb tc : T3} {fa fb fc : WF W} {tl : TL3} {fl : WF (List W)}
theorem sd_loc (i : Nat) : SndE E (loc3 i) (fun en S => lft S (getV en i)) := by
  intro en S ι M Q we em h
  obtain ⟨w, hw, k⟩ := Post.lft em h
  unfold loc3
  rw [getE_rn, hw]
  exact k (wfE_get we hw)
theorem sd_con (d : D) : SndE E (con3 d) (fun _ S => .ok (.v d) S) := fun en S ι M Q we em h => Post.now em h trivial
theorem sd_bin {o : O2} {f : Sto → W → W → Option D} (ho : OpS o f) (ha : SndE E ta fa) (hb : SndE E tb fb) : SndE E (op2 o ta tb) (fun en S => (fa en S).bind fun x S1 => (fb en S1).bind fun y S2 => lfv S2 (f S2 x y)) := by
  intro en S ι M Q we em h
  refine ha en S ι M _ we em ((Post.bind h).imp fun x ι1 S1 M1 x1 h1 wx => ?_)
  obtain ⟨we1, e1⟩ := wf_ext x1 we
  rw [e1]
  refine hb en S1 ι1 M1 _ we1 x1.emb ((Post.bind h1).imp fun y ι2 S2 M2 x2 h2 wy => ?_)
  obtain ⟨r, hr, k⟩ := Post.lfv x2.emb h2
  rw [← rnW_agr x2.agr wx]
  exact ho S2 ι2 M2 x y r Q x2.emb hr (k trivial)
theorem sd_binW {o : O2} {f : Sto → W → W → Option W} (ho : OpW o f) (ha : SndE E ta fa) (hb : SndE E tb fb) : SndE E (op2 o ta tb) (fun en S => (fa en S).bind fun x S1 => (fb en S1).bind fun y S2 => lft S2 (f S2 x y)) := by
  intro en S ι M Q we em h
  refine ha en S ι M _ we em ((Post.bind h).imp fun x ι1 S1 M1 x1 h1 wx => ?_)
  obtain ⟨we1, e1⟩ := wf_ext x1 we
  rw [e1]
  refine hb en S1 ι1 M1 _ we1 x1.emb ((Post.bind h1).imp fun y ι2 S2 M2 x2 h2 wy => ?_)
  obtain ⟨r, hr, k⟩ := Post.lft x2.emb h2
  rw [← rnW_agr x2.agr wx]
  exact ho S2 ι2 M2 x y r Q x2.emb hr k
theorem sd_un {o : O1} {f : Sto → W → Option D} (ho : Op1 o f) (ha : SndE E ta fa) : SndE E (op1 o ta) (fun en S => (fa en S).bind fun x S1 => lfv S1 (f S1 x)) := by
  intro en S ι M Q we em h
  refine ha en S ι M _ we em ((Post.bind h).imp fun x ι1 S1 M1 x1 h1 wx => ?_)
  obtain ⟨r, hr, k⟩ := Post.lfv x1.emb h1
  exact ho S1 ι1 M1 x r Q x1.emb hr (k trivial)
theorem ow_ix : OpW ix3 ixW := by
  intro S ι M x y r Q em h q
  obtain ⟨h1, h2⟩ := ixW_ok em h
  unfold ix3
  rw [h1]; exact q h2
theorem o1_neg : Op1 neg3 (fun S x => rd1 S x vneg) := by
  intro S ι M x r Q em h q
  obtain ⟨d, hx, hf⟩ := rd1_some h
  unfold vneg at hf
  split at hf
  · rw [rdW_v hx (fun _ z => by cases z)]
    cases hf; exact q
  · cases hf
theorem asL_not {d : D} {M : MH} (h : ∀ a, d ≠ .ref a) : asL M d = asL M00 d := by
  cases d <;> first | rfl | exact absurd rfl (h _)
theorem isTy_rd {S : Sto} {ι : Nm} {M : MH} {x : W} {d : D} {T : Ty} (em : Emb ι S M) (hx : rdW S x = some d) : isTy M (rnW ι x) T = isTy M00 d T := by
  rcases rdW_cases hx with ⟨rfl, q⟩ | ⟨i, ds, rfl, g, rfl⟩
  · cases d <;> first | rfl | exact absurd rfl (q _)
  · show (match asL M (.ref (ι i)) with | some _ => some (decide (T = .tlst)) | none => none) = some (decide (T = .tlst))
    have : asL M (.ref (ι i)) = some ds := by
      show (match M (ι i) with | some (.lst ds) => some ds | _ => none) = some ds
      rw [rdW_at em g]
    rw [this]
theorem o1_isi (T : Ty) : Op1 (isi3 T) (fun S x => rd1 S x fun d => blO (isTy M00 d T)) := by
  intro S ι M x r Q em h q
  obtain ⟨d, hx, hf⟩ := rd1_some h
  unfold isi3
  rw [isTy_rd em hx]
  cases z : isTy M00 d T with
  | none => rw [z] at hf; cases hf
  | some b => rw [z] at hf; cases hf; exact q
theorem o1_rev : Op1 rev3 (fun S x => rd1 S x vrev) := by
  intro S ι M x r Q em h q
  obtain ⟨d, hx, hf⟩ := rd1_some h
  unfold rev3
  rw [rd_asL em hx]
  unfold vrev at hf
  split at hf
  · cases hf; exact q
  · cases hf; exact q
  · cases hf
theorem blW_some {w : W} {b : Bool} (h : blW w = some b) : w = .v (.bl b) := by
  cases w with
  | r i => cases h
  | v d => cases d <;> first | (cases h; done) | (cases h; rfl)
theorem sd_not (ha : SndE E ta fa) : SndE E (notV3 ta) (fun en S => (fa en S).bind fun x S1 => lfv S1 (blO ((blW x).map not))) := by
  intro en S ι M Q we em h
  refine ha en S ι M _ we em ((Post.bind h).imp fun x ι1 S1 M1 x1 h1 wx => ?_)
  obtain ⟨r, hr, k⟩ := Post.lfv x1.emb h1
  cases z : blW x with
  | none => rw [z] at hr; cases hr
  | some b =>
    rw [z] at hr
    cases hr
    rw [blW_some z]
    exact k trivial
theorem bl_of {o : Option D} {r : Bool} (h : (match o with | some (.bl b) => some b | _ => none) = some r) : o = some (.bl r) := by
  split at h
  · cases h; rfl
  · cases h
theorem sd_tcmp {o : O2} {f : Sto → W → W → Option D} (ho : OpS o f) (ha : SndE E ta fa) (hb : SndE E tb fb) : SndT E (tst (op2 o ta tb)) (fun en S => (fa en S).bind fun x S1 => (fb en S1).bind fun y S2 => lft S2 (match f S2 x y with | some (.bl b) => some b | _ => none)) := by
  intro en S ι M Q we em h
  refine ha en S ι M _ we em ((Post.bind h).imp fun x ι1 S1 M1 x1 h1 wx => ?_)
  obtain ⟨we1, e1⟩ := wf_ext x1 we
  rw [e1]
  refine hb en S1 ι1 M1 _ we1 x1.emb ((Post.bind h1).imp fun y ι2 S2 M2 x2 h2 wy => ?_)
  obtain ⟨r, hr, k⟩ := Post.lft x2.emb h2
  rw [← rnW_agr x2.agr wx]
  exact ho S2 ι2 M2 x y _ _ x2.emb (bl_of hr) k
theorem sd_chain {o o' : O2} {f f' : Sto → W → W → Option D} (ho : OpS o f) (ho' : OpS o' f') (ha : SndE E ta fa) (hb : SndE E tb fb) (hc : SndE E tc fc) :
    SndE E (chain3 o o' ta tb tc) (fun en S => (fa en S).bind fun x S1 => (fb en S1).bind fun y S2 => match f S2 x y with
      | some (.bl true) => (fc en S2).bind fun z S3 => lfv S3 (f' S3 y z)
      | some (.bl false) => .ok (.v (.bl false)) S2
      | _ => .no) := by
  intro en S ι M Q we em h
  refine ha en S ι M _ we em ((Post.bind h).imp fun x ι1 S1 M1 x1 h1 wx => ?_)
  obtain ⟨we1, e1⟩ := wf_ext x1 we
  rw [e1]
  refine hb en S1 ι1 M1 _ we1 x1.emb ((Post.bind h1).imp fun y ι2 S2 M2 x2 h2 wy => ?_)
  rw [← rnW_agr x2.agr wx]
  split at h2
  · rename_i hr
    refine ho S2 ι2 M2 x y _ _ x2.emb hr ?_
    obtain ⟨we2, e2⟩ := wf_ext x2 we1
    rw [e2]
    refine hc en S2 ι2 M2 _ we2 x2.emb ((Post.bind h2).imp fun z ι3 S3 M3 x3 h3 wz => ?_)
    obtain ⟨r, hr, k⟩ := Post.lfv x3.emb h3
    rw [← rnW_agr x3.agr wy]
    exact ho' S3 ι3 M3 y z r Q x3.emb hr (k trivial)
  · rename_i hr
    refine ho S2 ι2 M2 x y _ _ x2.emb hr ?_
    exact Post.now x2.emb h2 trivial
  · exact h2.elim
theorem sd_tchain {o o' : O2} {f f' : Sto → W → W → Option D} (ho : OpS o f) (ho' : OpS o' f') (ha : SndE E ta fa) (hb : SndE E tb fb) (hc : SndE E tc fc) :
    SndT E (tst (chain3 o o' ta tb tc)) (fun en S => (fa en S).bind fun x S1 => (fb en S1).bind fun y S2 => match f S2 x y with
      | some (.bl true) => (fc en S2).bind fun z S3 => lft S3 (match f' S3 y z with | some (.bl b) => some b | _ => none)
      | some (.bl false) => .ok false S2
      | _ => .no) := by
  intro en S ι M Q we em h
  refine ha en S ι M _ we em ((Post.bind h).imp fun x ι1 S1 M1 x1 h1 wx => ?_)
  obtain ⟨we1, e1⟩ := wf_ext x1 we
  rw [e1]
  refine hb en S1 ι1 M1 _ we1 x1.emb ((Post.bind h1).imp fun y ι2 S2 M2 x2 h2 wy => ?_)
  rw [← rnW_agr x2.agr wx]
  split at h2
  · rename_i hr
    refine ho S2 ι2 M2 x y _ _ x2.emb hr ?_
    obtain ⟨we2, e2⟩ := wf_ext x2 we1
    rw [e2]
    refine hc en S2 ι2 M2 _ we2 x2.emb ((Post.bind h2).imp fun z ι3 S3 M3 x3 h3 wz => ?_)
    obtain ⟨r, hr, k⟩ := Post.lft x3.emb h3
    rw [← rnW_agr x3.agr wy]
    exact ho' S3 ι3 M3 y z _ _ x3.emb (bl_of hr) k
  · rename_i hr
    refine ho S2 ι2 M2 x y _ _ x2.emb hr ?_
    exact Post.now x2.emb h2
  · exact h2.elim
/-! #### and, or, not, if -/
variable {tA tB : TB3} {fA fB : WF Bool}
theorem sd_and (ha : SndT E tA fA) (hb : SndT E tB fB) : SndT E (and3 tA tB) (fun en S => (fA en S).bind fun b S1 => match b with | true => fB en S1 | false => .ok false S1) := by
  intro en S ι M Q we em h
  refine ha en S ι M _ we em ((Post.bind h).imp fun b ι1 S1 M1 x1 h1 => ?_)
  obtain ⟨we1, e1⟩ := wf_ext x1 we
  rw [e1]
  cases b with
  | true => exact hb en S1 ι1 M1 _ we1 x1.emb h1
  | false => exact Post.now x1.emb h1
theorem sd_or (ha : SndT E tA fA) (hb : SndT E tB fB) : SndT E (or3 tA tB) (fun en S => (fA en S).bind fun b S1 => match b with | true => .ok true S1 | false => fB en S1) := by
  intro en S ι M Q we em h
  refine ha en S ι M _ we em ((Post.bind h).imp fun b ι1 S1 M1 x1 h1 => ?_)
  obtain ⟨we1, e1⟩ := wf_ext x1 we
  rw [e1]
  cases b with
  | false => exact hb en S1 ι1 M1 _ we1 x1.emb h1
  | true => exact Post.now x1.emb h1
theorem sd_tnot (ha : SndT E tA fA) : SndT E (not3 tA) (fun en S => (fA en S).bind fun b S1 => .ok (!b) S1) := by
  intro en S ι M Q we em h
  exact ha en S ι M _ we em ((Post.bind h).imp fun b ι1 S1 M1 x1 h1 => Post.now x1.emb h1)
theorem sd_ite (hc : SndT E tA fA) (ha : SndE E ta fa) (hb : SndE E tb fb) : SndE E (ite3 tA ta tb) (fun en S => (fA en S).bind fun k S1 => match k with | true => fa en S1 | false => fb en S1) := by
  intro en S ι M Q we em h
  refine hc en S ι M _ we em ((Post.bind h).imp fun b ι1 S1 M1 x1 h1 => ?_)
  obtain ⟨we1, e1⟩ := wf_ext x1 we
  rw [e1]
  cases b with
  | true => exact ha en S1 ι1 M1 _ we1 x1.emb h1
  | false => exact hb en S1 ι1 M1 _ we1 x1.emb h1
theorem sd_andV (ha : SndE E ta fa) (hb : SndE E tb fb) : SndE E (andV3 ta tb) (fun en S => (fa en S).bind fun x S1 => match blW x with | some true => fb en S1 | some false => .ok (.v (.bl false)) S1 | none => .no) := by
  intro en S ι M Q we em h
  refine ha en S ι M _ we em ((Post.bind h).imp fun x ι1 S1 M1 x1 h1 wx => ?_)
  obtain ⟨we1, e1⟩ := wf_ext x1 we
  rw [e1]
  split at h1
  · rename_i hz
    rw [blW_some hz]
    exact hb en S1 ι1 M1 _ we1 x1.emb h1
  · rename_i hz
    rw [blW_some hz]
    exact Post.now x1.emb h1 trivial
  · exact h1.elim
theorem sd_orV (ha : SndE E ta fa) (hb : SndE E tb fb) : SndE E (orV3 ta tb) (fun en S => (fa en S).bind fun x S1 => match blW x with | some true => .ok (.v (.bl true)) S1 | some false => fb en S1 | none => .no) := by
  intro en S ι M Q we em h
  refine ha en S ι M _ we em ((Post.bind h).imp fun x ι1 S1 M1 x1 h1 wx => ?_)
  obtain ⟨we1, e1⟩ := wf_ext x1 we
  rw [e1]
  split at h1
  · rename_i hz
    rw [blW_some hz]
    exact Post.now x1.emb h1 trivial
  · rename_i hz
    rw [blW_some hz]
    exact hb en S1 ι1 M1 _ we1 x1.emb h1
  · exact h1.elim
/-! #### truth -/
theorem truW_ok {S : Sto} {ι : Nm} {M : MH} {w : W} {b : Bool} (em : Emb ι S M) (h : truW S w = some b) : truA M (rnW ι w) = some b := by
  cases w with
  | v d =>
    cases d <;> first | exact h | cases h
  | r i =>
    have h : (match sqW S (.r i) with
      | some ds => some (!ds.isEmpty)
      | none => match getS S i with | some (.dK kvs) => some (!kvs.isEmpty) | _ => none) = some b := h
    show (match seqM M (.ref (ι i)) with
      | some ds => some (!ds.isEmpty)
      | none => (match M (ι i) with | some (.dK kvs) => some (!kvs.isEmpty) | _ => none)) = some b
    split at h
    · rename_i ds hs
      rw [show seqM M (.ref (ι i)) = some ds from sq_seqM em hs]; exact h
    · split at h
      · rename_i kvs g
        have hM := em.at' i _ g
        have h1 : seqM M (.ref (ι i)) = none := by
          show (match M (ι i) with | some (.lst ds) => some ds | _ => none) = none
          rw [hM]; rfl
        rw [h1, hM]
        cases h
        cases kvs <;> rfl
      · cases h
theorem sd_tru (ha : SndE E ta fa) : SndT E (tru3 ta) (fun en S => truV (fa en S)) := by
  intro en S ι M Q we em h
  refine ha en S ι M _ we em ((Post.bind h).imp fun x ι1 S1 M1 x1 h1 wx => ?_)
  obtain ⟨r, hr, k⟩ := Post.lft x1.emb h1
  rw [truW_ok x1.emb hr]; exact k
/-! #### lists of arguments, displays -/
theorem sd_nil : SndL E nil3 (fun _ S => .ok [] S) := fun en S ι M Q we em h => Post.now em h fun w hw => nomatch hw
theorem sd_cons (ha : SndE E ta fa) (hl : SndL E tl fl) : SndL E (cons3 ta tl) (fun en S => (fa en S).bind fun x S1 => (fl en S1).bind fun xs S2 => .ok (x :: xs) S2) := by
  intro en S ι M Q we em h
  refine ha en S ι M _ we em ((Post.bind h).imp fun x ι1 S1 M1 x1 h1 wx => ?_)
  obtain ⟨we1, e1⟩ := wf_ext x1 we
  rw [e1]
  refine hl en S1 ι1 M1 _ we1 x1.emb ((Post.bind h1).imp fun xs ι2 S2 M2 x2 h2 wxs => ?_)
  rw [← rnW_agr x2.agr wx]
  refine Post.now x2.emb h2 fun w hw => ?_
  rcases List.mem_cons.mp hw with rfl | hw
  · exact wx.le x2.len
  · exact wxs w hw
theorem plnW_ok {ι : Nm} : ∀ {ws : List W} {ds : List D}, plnW ws = some ds → ws.map (rnW ι) = ds
  | [], _, h => by cases h; rfl
  | .r i :: r, _, h => by cases h
  | .v d :: r, ds, h => by
    have h : (match plnW r with | some ds => some (d :: ds) | none => none) = some ds := h
    split at h
    · rename_i es he
      cases h
      rw [List.map_cons, plnW_ok he]; rfl
    · cases h
theorem sd_tup (hl : SndL E tl fl) : SndE E (tup3 tl) (fun en S => (fl en S).bind fun ws S1 => match plnW ws with
    | some ds => if ds.length ≤ sizeLine then .ok (.v (.tup ds)) S1 else .no
    | none => .no) := by
  intro en S ι M Q we em h
  refine hl en S ι M _ we em ((Post.bind h).imp fun xs ι1 S1 M1 x1 h1 wxs => ?_)
  split at h1
  · rename_i ds hds
    split at h1
    · rename_i hz
      rw [plnW_ok hds]
      exact ⟨hz, Post.now x1.emb h1 trivial⟩
    · exact h1.elim
  · exact h1.elim
theorem sd_tupF (hl : SndL E tl fl) : SndE E (tupF3 tl) (fun en S => (fl en S).bind fun ws S1 => match plnW ws with
    | some ds => if ds.length ≤ sizeLine then .ok (.v (.tp .k ds)) S1 else .no
    | none => .no) := by
  intro en S ι M Q we em h
  refine hl en S ι M _ we em ((Post.bind h).imp fun xs ι1 S1 M1 x1 h1 wxs => ?_)
  split at h1
  · rename_i ds hds
    split at h1
    · rename_i hz
      rw [plnW_ok hds]
      exact ⟨hz, Post.now x1.emb h1 trivial⟩
    · exact h1.elim
  · exact h1.elim
theorem sd_lst (hl : SndL E tl fl) : SndE E (lst3 tl) (fun en S => (fl en S).bind fun ws S1 => match plnW ws with
    | some ds => if ds.length ≤ sizeLine then .ok (.v (.lst ds)) S1 else .no
    | none => .no) := by
  intro en S ι M Q we em h
  refine hl en S ι M _ we em ((Post.bind h).imp fun xs ι1 S1 M1 x1 h1 wxs => ?_)
  split at h1
  · rename_i ds hds
    split at h1
    · rename_i hz
      rw [plnW_ok hds]
      exact ⟨hz, Post.now x1.emb h1 trivial⟩
    · exact h1.elim
  · exact h1.elim
theorem post_new {ι : Nm} {S : Sto} {M : MH} {o : VO} {K : W → Nm → Sto → MH → Prop} (em : Emb ι S M) (w : wfO S.length o) (h : Post ι S M E (newW S o) K) {p : Addr} (hp : M p = none) : K (.r S.length) (pin ι S.length p) (S ++ [some o]) (up M p (rnO ι o)) :=
  h _ _ (Ext.new em hp w)
theorem lt_new {S : Sto} {o : VO} : wfW (S ++ [some o]).length (.r S.length) := by
  show S.length < (S ++ [some o]).length
  rw [List.length_append]; simp
theorem sd_lstM (hl : SndL E tl fl) : SndE E (lstM3 tl) (fun en S => (fl en S).bind fun ws S1 => match plnW ws with
    | some ds => if ds.length ≤ sizeLine then newW S1 (.lst ds) else .no
    | none => .no) := by
  intro en S ι M Q we em h
  refine hl en S ι M _ we em ((Post.bind h).imp fun xs ι1 S1 M1 x1 h1 wxs => ?_)
  split at h1
  · rename_i ds hds
    split at h1
    · rename_i hz
      rw [plnW_ok hds]
      refine ⟨hz, fun p hp => ?_⟩
      have := post_new (o := .lst ds) x1.emb trivial h1 hp lt_new
      have e : rnW (pin ι1 S1.length p) (.r S1.length) = .ref p := congrArg D.ref pin_at
      rw [e] at this
      exact this
    · exact h1.elim
  · exact h1.elim
theorem sd_addM (ha : SndE E ta fa) (hb : SndE E tb fb) : SndE E (op2 addM3 ta tb) (fun en S => (fa en S).bind fun x S1 => (fb en S1).bind fun y S2 => addMV S2 x y) := by
  intro en S ι M Q we em h
  refine ha en S ι M _ we em ((Post.bind h).imp fun x ι1 S1 M1 x1 h1 wx => ?_)
  obtain ⟨we1, e1⟩ := wf_ext x1 we
  rw [e1]
  refine hb en S1 ι1 M1 _ we1 x1.emb ((Post.bind h1).imp fun y ι2 S2 M2 x2 h2 wy => ?_)
  rw [← rnW_agr x2.agr wx]
  unfold addMV at h2
  split at h2
  · rename_i a b hx hy
    split at h2
    · rename_i hz
      have k1 := rd_exL x2.emb hx
      have k2 := rd_exL x2.emb hy
      unfold addM3
      rw [k1, k2]
      refine ⟨hz, fun p hp => ?_⟩
      have := post_new (o := .lst (a ++ b)) x2.emb trivial h2 hp lt_new
      have e : rnW (pin ι2 S2.length p) (.r S2.length) = .ref p := congrArg D.ref pin_at
      rw [e] at this
      exact this
    · exact h2.elim
  · exact h2.elim
theorem sd_newK (m : Bool) : SndE E (newK3 m) (fun _ S => match m with | true => newW S (.dK []) | false => .ok (.v (.dK [] [])) S) := by
  intro en S ι M Q we em h
  cases m with
  | true =>
    intro p hp
    have := post_new (o := .dK []) em (fun kv hk => nomatch hk) h hp lt_new
    have e : rnW (pin ι S.length p) (.r S.length) = .ref p := congrArg D.ref pin_at
    rw [e] at this
    exact this
  | false => exact Post.now em h trivial
theorem sd_newT : SndE E newT3 (fun _ S => newW S (.dT [])) := by
  intro en S ι M Q we em h p hp
  have := post_new (o := .dT []) em (fun kv hk => nomatch hk) h hp lt_new
  have e : rnW (pin ι S.length p) (.r S.length) = .ref p := congrArg D.ref pin_at
  rw [e] at this
  exact this
/-! #### slices -/
variable {to1 to2 : TO3} {fo1 fo2 : WF (Option Int)}
theorem sd_noP : SndO E noP3 (fun _ S => .ok none S) := fun en S ι M Q we em h => Post.now em h
theorem sd_part (ha : SndE E ta fa) : SndO E (part3 ta) (fun en S => (fa en S).bind fun x S1 => match x with | .v (.int i) => .ok (some i) S1 | _ => .no) := by
  intro en S ι M Q we em h
  refine ha en S ι M _ we em ((Post.bind h).imp fun x ι1 S1 M1 x1 h1 wx => ?_)
  split at h1
  · exact Post.now x1.emb h1
  · exact h1.elim
theorem vsl_ok {S : Sto} {ι : Nm} {M : MH} {x : W} {d r : D} {l h : Option Int} (em : Emb ι S M) (hx : rdW S x = some d) (hf : vsl d l h = some r) : slA M (rnW ι x) l h = some r := by
  unfold vsl at hf
  have key : ∀ (u : D) (ds : List D), asL M u = some ds → slA M u l h = some (.lst (cutD ds l h)) := by
    intro u ds hu
    unfold slA
    split
    · cases hu
    · cases hu
    · rw [hu]
  split at hf
  · rw [rdW_v hx (fun _ z => by cases z)]; exact hf
  · rw [rdW_v hx (fun _ z => by cases z)]; exact hf
  · rw [key _ _ (by rw [rd_asL em hx]; rfl)]; exact hf
  · rw [key _ _ (by rw [rd_asL em hx]; rfl)]; exact hf
  · cases hf
theorem sd_sl (ha : SndE E ta fa) (h1 : SndO E to1 fo1) (h2 : SndO E to2 fo2) : SndE E (sl3 ta to1 to2) (fun en S => (fa en S).bind fun x S1 => (fo1 en S1).bind fun l S2 => (fo2 en S2).bind fun h S3 => lfv S3 (rd1 S3 x fun d => vsl d l h)) := by
  intro en S ι M Q we em h
  refine ha en S ι M _ we em ((Post.bind h).imp fun x ι1 S1 M1 x1 g1 wx => ?_)
  obtain ⟨we1, e1⟩ := wf_ext x1 we
  rw [e1]
  refine h1 en S1 ι1 M1 _ we1 x1.emb ((Post.bind g1).imp fun l ι2 S2 M2 x2 g2 => ?_)
  obtain ⟨we2, e2⟩ := wf_ext x2 we1
  rw [e2]
  refine h2 en S2 ι2 M2 _ we2 x2.emb ((Post.bind g2).imp fun hh ι3 S3 M3 x3 g3 => ?_)
  obtain ⟨r, hr, k⟩ := Post.lfv x3.emb g3
  obtain ⟨d, hx, hf⟩ := rd1_some hr
  rw [← rnW_agr (x2.trans x3).agr wx, vsl_ok x3.emb hx hf]
  exact k trivial
end
end Z

/-! V5: built-ins, methods, walks, comprehensions, displays of dicts, calls are sound. -/
namespace Z
open PySem PySem.Spec PyProof.Rows L2
section
variable {E : X3} {ta tb tc : T3} {fa fb fc : WF W} {tl : TL3} {fl : WF (List W)}
/-- a function of a plain value or a list -/
def RdOk (f : MH → D → Option D) : Prop := ∀ {S : Sto} {ι : Nm} {M : MH} {x : W} {d : D}, Emb ι S M → rdW S x = some d → f M (rnW ι x) = f M00 d
theorem rd_len : RdOk lenA := by
  intro S ι M x d em hx
  rcases rdW_cases hx with ⟨rfl, q⟩ | ⟨i, ds, rfl, g, rfl⟩
  · cases d <;> first | rfl | exact absurd rfl (q _)
  · show (match seqM M (.ref (ι i)) with | some ds => some (D.int ds.length) | none => none) = _
    rw [show seqM M (.ref (ι i)) = some ds from rd_seqM em hx]; rfl
theorem rd_int : RdOk intA := by
  intro S ι M x d em hx
  rcases rdW_cases hx with ⟨rfl, q⟩ | ⟨i, ds, rfl, g, rfl⟩ <;> rfl
theorem rd_abs : RdOk absA := by
  intro S ι M x d em hx
  rcases rdW_cases hx with ⟨rfl, q⟩ | ⟨i, ds, rfl, g, rfl⟩ <;> rfl
theorem rd_str : RdOk strA := by
  intro S ι M x d em hx
  rcases rdW_cases hx with ⟨rfl, q⟩ | ⟨i, ds, rfl, g, rfl⟩ <;> rfl
theorem rd_sum : RdOk sumA := by
  intro S ι M x d em hx; unfold sumA; rw [rd_asL em hx]
theorem rd_all : RdOk allA := by
  intro S ι M x d em hx; unfold allA; rw [rd_asL em hx]
theorem rd_any : RdOk anyA := by
  intro S ι M x d em hx; unfold anyA; rw [rd_asL em hx]
theorem rd_minL : RdOk Z.minL := by
  intro S ι M x d em hx; unfold Z.minL; rw [rd_asL em hx]
theorem rd_minP : RdOk Z.minPA := by
  intro S ι M x d em hx; unfold Z.minPA; rw [rd_asL em hx]
theorem rd_maxL : RdOk Z.maxL := by
  intro S ι M x d em hx; unfold Z.maxL; rw [rd_asL em hx]
theorem o1_ofO {f : MH → D → Option D} (hf : RdOk f) : Op1 (ofO f) (fun S x => rd1 S x (f M00)) := by
  intro S ι M x r Q em h q
  obtain ⟨d, hx, h1⟩ := rd1_some h
  unfold ofO
  rw [hf em hx, h1]; exact q
theorem os_ofO2 {f : MH → D → D → Option D} (hf : ∀ (M : MH) (d e r : D), f M00 d e = some r → f M d e = some r ∧ (∀ ds, d ≠ .lst ds) ∧ ∀ ds, e ≠ .lst ds) : OpS (ofO2 f) (fun S x y => rd2 S x y (f M00)) := by
  intro S ι M x y r Q em h q
  obtain ⟨d, e, hx, hy, h1⟩ := rd2_some h
  obtain ⟨h2, h3, h4⟩ := hf M d e r h1
  unfold ofO2
  rw [rdW_v hx h3, rdW_v hy h4]
  show (match f M d e with | some r => Q r M | none => False)
  rw [h2]; exact q
theorem os_min : OpS (ofO2 minA) (fun S x y => rd2 S x y (minA M00)) := os_ofO2 fun M d e r h => by
  unfold minA at h
  split at h
  · exact ⟨h, (by intro ds z; cases z), (by intro ds z; cases z)⟩
  · cases h
theorem os_max : OpS (ofO2 maxA) (fun S x y => rd2 S x y (maxA M00)) := os_ofO2 fun M d e r h => by
  unfold maxA at h
  split at h
  · exact ⟨h, (by intro ds z; cases z), (by intro ds z; cases z)⟩
  · cases h
theorem sortB_ok {ds : List D} (h : sortB ds = true) : sortOk ds := by
  unfold sortB at h
  obtain ⟨h, h3⟩ := b2 h
  obtain ⟨h1, h2⟩ := b2 h
  refine ⟨fun d hd e he => List.all_eq_true.mp (List.all_eq_true.mp h1 d hd) e he, fun d hd => List.all_eq_true.mp h2 d hd, ?_⟩
  rw [Bool.or_eq_true] at h3
  rcases h3 with h3 | h3
  · left
    intro d hd
    have := List.all_eq_true.mp h3 d hd
    unfold tup1 at this
    split at this
    · exact ⟨_, _, _, rfl⟩
    · cases this
  · right
    intro d hd
    have := List.all_eq_true.mp h3 d hd
    refine ⟨fun z => ?_, fun k xs z => ?_⟩ <;> subst z <;> cases this
theorem o1_srt : Op1 srtA (fun S x => rd1 S x vsrt) := by
  intro S ι M x r Q em h q
  obtain ⟨d, hx, hf⟩ := rd1_some h
  unfold srtA
  rw [rd_asL em hx]
  unfold vsrt at hf
  split at hf
  · split at hf
    · rename_i hz
      cases hf; exact ⟨sortB_ok hz, q⟩
    · cases hf
  · split at hf
    · rename_i hz
      cases hf; exact ⟨sortB_ok hz, q⟩
    · cases hf
  · cases hf
theorem pairB_ok {ds : List D} (h : ds.all pairB = true) : ∀ d ∈ ds, pairT d := fun d hd => by
  have := List.all_eq_true.mp h d hd
  unfold pairB at this
  split at this
  · exact ⟨_, _, rfl⟩
  · cases this
theorem o1_srt2 : Op1 srt2 (fun S x => rd1 S x vsrt2) := by
  intro S ι M x r Q em h q
  obtain ⟨d, hx, hf⟩ := rd1_some h
  unfold srt2
  rw [rd_asL em hx]
  unfold vsrt2 at hf
  split at hf
  · split at hf
    · rename_i hz
      cases hf; exact ⟨pairB_ok hz.1, hz.2, q⟩
    · cases hf
  · split at hf
    · rename_i hz
      cases hf; exact ⟨pairB_ok hz.1, hz.2, q⟩
    · cases hf
  · cases hf
theorem tupA_asL {k : TK} (hk : k ≠ .s) {d : D} {M : MH} {ds : List D} {Q : Q3} (h : asL M d = some ds) (q : Q (.tp k ds) M) : tupA k d M Q := by
  unfold tupA
  split
  · cases h
  · rw [h]; exact q
  · rw [h]; exact q
  · exact absurd rfl hk
theorem o1_tupT : Op1 (tupA .t) (fun S x => rd1 S x vtupT) := by
  intro S ι M x r Q em h q
  obtain ⟨d, hx, hf⟩ := rd1_some h
  unfold vtupT at hf
  split at hf
  · rw [rdW_v hx (fun _ z => by cases z)]
    cases hf; exact q
  · cases hf
    exact tupA_asL (by decide) (by rw [rd_asL em hx]; rfl) q
  · cases hf
    exact tupA_asL (by decide) (by rw [rd_asL em hx]; rfl) q
  · cases hf
theorem o1_tupK : Op1 (tupA .k) (fun S x => rd1 S x vtupK) := by
  intro S ι M x r Q em h q
  obtain ⟨d, hx, hf⟩ := rd1_some h
  unfold vtupK at hf
  split at hf
  · cases hf
    exact tupA_asL (by decide) (by rw [rd_asL em hx]; rfl) q
  · cases hf
    exact tupA_asL (by decide) (by rw [rd_asL em hx]; rfl) q
  · cases hf
/-- what list() reads -/
def lstD (M : MH) (d : D) : Option (List D) := match seqM M d with
  | some ds => some ds
  | none => match asD M d with
    | some kvs => some (kvs.map fun kv => D.tup (kv.1.map kD))
    | none => match asK M d with
      | some kvs => some (kvs.map fun kv => kD kv.1)
      | none => none
theorem lstA_D {m : Bool} {d : D} {M : MH} {Q : Q3} {ds : List D} (h : lstD M d = some ds) (q : resL m ds M Q) : lstA m d M Q := by
  unfold lstD at h
  unfold lstA
  split at h
  · rename_i e; try rw [e]
    cases h; exact q
  · rename_i e
    try rw [e]
    split at h
    · rename_i e2; cases h; try rw [e2]
      exact q
    · rename_i e2
      try rw [e2]
      split at h
      · rename_i e3; cases h; try rw [e3]
        exact q
      · cases h
theorem lstW_ok {S : Sto} {ι : Nm} {M : MH} {w : W} {ds : List D} (em : Emb ι S M) (h : lstW S w = some ds) : lstD M (rnW ι w) = some ds := by
  unfold lstW at h
  unfold lstD
  split at h
  · rename_i e
    rw [sq_seqM em e]; exact h
  · split at h
    · exact h
    · exact h
    · rename_i i e
      split at h
      · rename_i kvs g
        have hM := em.at' i _ g
        have h1 : seqM M (.ref (ι i)) = none := by
          show (match M (ι i) with | some (.lst ds) => some ds | _ => none) = none
          rw [hM]; rfl
        have h2 : asD M (.ref (ι i)) = none := by
          show (match M (ι i) with | some (.dT kvs) => some kvs | _ => none) = _
          rw [hM]; rfl
        have h3 : asK M (.ref (ι i)) = some (kvs.map fun kv => (kv.1, rnW ι kv.2)) := by
          show (match M (ι i) with | some (.dK kvs) => some kvs | _ => none) = _
          rw [hM]; rfl
        show (match seqM M (.ref (ι i)) with
          | some ds => some ds
          | none => match asD M (.ref (ι i)) with
            | some kvs => some (kvs.map fun (kv : List Key × D) => D.tup (kv.1.map kD))
            | none => match asK M (.ref (ι i)) with
              | some kvs => some (kvs.map fun (kv : Key × D) => kD kv.1)
              | none => none) = _
        rw [h1, h2, h3]
        cases h
        simp
      · rename_i kvs g
        have hM := em.at' i _ g
        have h1 : seqM M (.ref (ι i)) = none := by
          show (match M (ι i) with | some (.lst ds) => some ds | _ => none) = none
          rw [hM]; rfl
        have h2 : asD M (.ref (ι i)) = some (kvs.map fun kv => (kv.1, rnW ι kv.2)) := by
          show (match M (ι i) with | some (.dT kvs) => some kvs | _ => none) = _
          rw [hM]; rfl
        show (match seqM M (.ref (ι i)) with
          | some ds => some ds
          | none => match asD M (.ref (ι i)) with
            | some kvs => some (kvs.map fun (kv : List Key × D) => D.tup (kv.1.map kD))
            | none => match asK M (.ref (ι i)) with
              | some kvs => some (kvs.map fun (kv : Key × D) => kD kv.1)
              | none => none) = _
        rw [h1, h2]
        cases h
        simp
      · cases h
    · cases h
/-- behind an operation -/
def PW (ι : Nm) (S : Sto) (M : MH) (E : X3) (r : Rs W) (Q : Q3) : Prop := Post ι S M E r fun w ι' S' M' => wfW S'.length w → Q (rnW ι' w) M'
theorem pw_lfv {ι : Nm} {S : Sto} {M : MH} {o : Option D} {Q : Q3} (em : Emb ι S M) (h : PW ι S M E (lfv S o) Q) : ∃ d, o = some d ∧ Q d M := by
  obtain ⟨d, h1, h2⟩ := Post.lfv em h
  exact ⟨d, h1, h2 trivial⟩
theorem pw_new {ι : Nm} {S : Sto} {M : MH} {o : VO} {Q : Q3} (em : Emb ι S M) (w : wfO S.length o) (h : PW ι S M E (newW S o) Q) : ∀ p, M p = none → Q (.ref p) (up M p (rnO (pin ι S.length p) o)) := by
  intro p hp
  have := post_new em w h hp lt_new
  have e : rnW (pin ι S.length p) (.r S.length) = .ref p := congrArg D.ref pin_at
  rw [e] at this
  have e2 : rnO (pin ι S.length p) o = rnO ι o := rnO_agr (fun i h => pin_ne (Nat.ne_of_lt h)) w
  rw [e2]
  exact this
theorem bt_ok {b : Bt} {ι : Nm} {S : Sto} {M : MH} {ws : List W} {Q : Q3} (em : Emb ι S M) (h : PW ι S M E (b.wo S ws) Q) : b.ol (ws.map (rnW ι)) M Q := by
  unfold Bt.wo at h
  split at h
  · obtain ⟨d, h1, h2⟩ := pw_lfv em h; exact o1_ofO rd_len S ι M _ d Q em h1 h2
  · obtain ⟨d, h1, h2⟩ := pw_lfv em h; exact o1_ofO rd_int S ι M _ d Q em h1 h2
  · obtain ⟨d, h1, h2⟩ := pw_lfv em h; exact o1_ofO rd_abs S ι M _ d Q em h1 h2
  · obtain ⟨d, h1, h2⟩ := pw_lfv em h; exact o1_ofO rd_str S ι M _ d Q em h1 h2
  · obtain ⟨d, h1, h2⟩ := pw_lfv em h; exact os_min S ι M _ _ d Q em h1 h2
  · obtain ⟨d, h1, h2⟩ := pw_lfv em h; exact os_max S ι M _ _ d Q em h1 h2
  · obtain ⟨d, h1, h2⟩ := pw_lfv em h; exact o1_ofO rd_minL S ι M _ d Q em h1 h2
  · obtain ⟨d, h1, h2⟩ := pw_lfv em h; exact o1_ofO rd_minP S ι M _ d Q em h1 h2
  · obtain ⟨d, h1, h2⟩ := pw_lfv em h; exact o1_ofO rd_maxL S ι M _ d Q em h1 h2
  · obtain ⟨d, h1, h2⟩ := pw_lfv em h; exact o1_ofO rd_sum S ι M _ d Q em h1 h2
  · obtain ⟨d, h1, h2⟩ := pw_lfv em h; exact o1_ofO rd_all S ι M _ d Q em h1 h2
  · obtain ⟨d, h1, h2⟩ := pw_lfv em h; exact o1_ofO rd_any S ι M _ d Q em h1 h2
  · obtain ⟨d, h1, h2⟩ := pw_lfv em h; exact o1_srt S ι M _ d Q em h1 h2
  · obtain ⟨d, h1, h2⟩ := pw_lfv em h; exact o1_tupT S ι M _ d Q em h1 h2
  · obtain ⟨d, h1, h2⟩ := pw_lfv em h; exact o1_tupK S ι M _ d Q em h1 h2
  · split at h
    · rename_i ds hd
      exact lstA_D (lstW_ok em hd) (Post.now em h trivial)
    · exact h.elim
  · split at h
    · rename_i ds hd
      exact lstA_D (lstW_ok em hd) (pw_new (o := .lst ds) em trivial h)
    · exact h.elim
  · exact h.elim
theorem sd_blt {b : Bt} (ha : SndL E tl fl) : SndE E (opL b.ol tl) (fun en S => (fl en S).bind fun xs S2 => b.wo S2 xs) := by
  intro en S ι M Q we em h
  exact ha en S ι M _ we em ((Post.bind h).imp fun xs ι1 S1 M1 x1 h1 wxs => bt_ok x1.emb h1)
theorem bind_assoc {α β γ : Type} {r : Rs α} {f : α → Sto → Rs β} {g : β → Sto → Rs γ} : (r.bind f).bind g = r.bind fun a S => (f a S).bind g := by
  cases r <;> rfl
/-! #### methods -/
theorem tyOk_of {m : Mt} {S : Sto} {ι : Nm} {M : MH} {o : W} {ws : List W} (em : Emb ι S M) (h : m.wo S o ws ≠ .no) : True := trivial
theorem pw_put {ι : Nm} {S : Sto} {M : MH} {a : Nat} {u o : VO} {Q : Q3} {w : W} (em : Emb ι S M) (g : getS S a = some u) (wo : wfO S.length o) (h : PW ι S M E (.ok w (setS S a (some o))) Q) (hw : wfW S.length w) : Q (rnW ι w) (up M (ι a) (rnO ι o)) :=
  h _ _ (Ext.put em g wo) (by rw [show (setS S a (some o)).length = S.length from List.length_set]; exact hw)
theorem mt_ok {m : Mt} {ι : Nm} {S : Sto} {M : MH} {o : W} {ws : List W} {Q : Q3} (em : Emb ι S M) (wws : wfL S.length ws) (h : PW ι S M E (m.wo S o ws) Q) :
    tyOk m M (rnW ι o) = true ∧ (match mthA m M (rnW ι o) (ws.map (rnW ι)) with | some (r, M3) => Q r M3 | none => False) := by
  unfold Mt.wo at h
  split at h
  · rename_i a x
    split at h
    · rename_i ds g
      split at h
      · rename_i hl
        have hM : M (ι a) = some (.lst ds) := em.at' a _ g
        refine ⟨?_, ?_⟩
        · show (match M (ι a) with | some (.lst ds) => some ds | _ => none).isSome = true
          rw [hM]; rfl
        · have : mthA .append M (.ref (ι a)) [x] = some (.non, up M (ι a) (.lst (ds ++ [x]))) := by
            show (match M (ι a) with
              | some (.lst ds) => if ds.length < sizeLine then some (D.non, up M (ι a) (.lst (ds ++ [x]))) else none
              | _ => none) = _
            rw [hM]; exact if_pos hl
          show (match mthA .append M (.ref (ι a)) [x] with | some (r, M3) => Q r M3 | none => False)
          rw [this]
          exact pw_put (o := .lst (ds ++ [x])) em g trivial h trivial
      · exact h.elim
    · exact h.elim
  · rename_i a x
    split at h
    · rename_i ds es g hx
      split at h
      · rename_i hl
        have hM : M (ι a) = some (.lst ds) := em.at' a _ g
        have hX : exL M (rnW ι x) = some es := by rw [rd_exL em hx]; rfl
        refine ⟨?_, ?_⟩
        · show (match M (ι a) with | some (.lst ds) => some ds | _ => none).isSome = true
          rw [hM]; rfl
        · have : mthA .extend M (.ref (ι a)) [rnW ι x] = some (.non, up M (ι a) (.lst (ds ++ es))) := by
            show (match M (ι a) with
              | some (.lst ds) => (match exL M (rnW ι x) with
                | some es => if ds.length + es.length ≤ sizeLine then some (D.non, up M (ι a) (.lst (ds ++ es))) else none
                | none => none)
              | _ => none) = _
            rw [hM, hX]; exact if_pos hl
          show (match mthA .extend M (.ref (ι a)) [rnW ι x] with | some (r, M3) => Q r M3 | none => False)
          rw [this]
          exact pw_put (o := .lst (ds ++ es)) em g trivial h trivial
      · exact h.elim
    · exact h.elim
  · rename_i k z
    split at h
    · rename_i r hr
      obtain ⟨h1, h2, h3⟩ := df_dfind em hr
      refine ⟨?_, ?_⟩
      · show ((asK M (rnW ι o)).isSome || (asD M (rnW ι o)).isSome) = true
        unfold dfind at h1
        rw [Bool.or_eq_true]
        split at h1
        · rename_i e _; left; rw [e]; rfl
        · split at h1
          · rename_i e _; right; rw [e]; rfl
          · cases h1
      · have : mthA .get M (rnW ι o) [k, rnW ι z] = some ((r.map (rnW ι)).getD (rnW ι z), M) := by
          show (match dfind M (rnW ι o) k with | some r => some (r.getD (rnW ι z), M) | none => none) = _
          rw [h1]
        show (match mthA .get M (rnW ι o) [k, rnW ι z] with | some (r, M3) => Q r M3 | none => False)
        rw [this]
        have wz : wfW S.length z := wws z (by simp)
        have := Post.now em h
        cases r with
        | none => exact this wz
        | some r => exact this (h3 r rfl)
    · exact h.elim
  · rename_i a k z
    split at h
    · rename_i kvs k' g hk
      split at h
      · rename_i hl
        have hM : M (ι a) = some (.dK (kvs.map fun kv => (kv.1, rnW ι kv.2))) := em.at' a _ g
        have wz : wfW S.length z := wws z (by simp)
        refine ⟨?_, ?_⟩
        · show ((match M (ι a) with | some (.dK kvs) => some kvs | _ => none).isSome || _) = true
          rw [hM]; rfl
        · have hlen : (kvs.map fun kv => (kv.1, rnW ι kv.2)).length < sizeLine := by rw [List.length_map]; exact hl
          have e0 : mthA .setdefault M (.ref (ι a)) [k, rnW ι z] = (match valD (kvs.map fun kv => (kv.1, rnW ι kv.2)) k' with
                | some v => some (v, M)
                | none => some (rnW ι z, up M (ι a) (.dK (putD (kvs.map fun kv => (kv.1, rnW ι kv.2)) k' (rnW ι z))))) := by
            show (match M (ι a), keyK k with
              | some (.dK kvs), some k => if kvs.length < sizeLine then (match valD kvs k with
                | some v => some (v, M)
                | none => some (rnW ι z, up M (ι a) (.dK (putD kvs k (rnW ι z))))) else none
              | _, _ => none) = _
            rw [hM, hk]
            exact if_pos hlen
          show (match mthA .setdefault M (.ref (ι a)) [k, rnW ι z] with | some (r, M3) => Q r M3 | none => False)
          rw [e0, valD_G, valG_map]
          split at h
          · rename_i v hv
            rw [hv]
            exact Post.now em h (em.wf a _ g _ (valG_mem hv))
          · rename_i hv
            rw [hv]
            have := pw_put (o := .dK (putG kvs k' z)) em g (fun kv hkv => by
              rcases putG_mem hkv with q | q
              · exact em.wf a _ g _ q
              · rw [q]; exact wz) h wz
            have e : putD (kvs.map fun kv => (kv.1, rnW ι kv.2)) k' (rnW ι z) = (putG kvs k' z).map fun kv => (kv.1, rnW ι kv.2) := putG_map (rnW ι) k' z kvs
            show Q (rnW ι z) (up M (ι a) (.dK (putD (kvs.map fun kv => (kv.1, rnW ι kv.2)) k' (rnW ι z))))
            rw [e]
            exact this
      · exact h.elim
    · exact h.elim
  · rename_i x
    split at h
    · rename_i ds hx
      split at h
      · rename_i hl
        have hX : exL M (rnW ι o) = some ds := by rw [rd_exL em hx]; rfl
        refine ⟨?_, ?_⟩
        · show (exL M (rnW ι o)).isSome = true
          rw [hX]; rfl
        · have : mthA .index M (rnW ι o) [x] = (match findD x ds 0 with | some j => some (.int j, M) | none => none) := by
            show (match exL M (rnW ι o) with
              | some ds => if lay 59 x && layL 59 ds then (match findD x ds 0 with | some j => some (D.int j, M) | none => none) else none
              | none => none) = _
            rw [hX]; exact if_pos hl
          show (match mthA .index M (rnW ι o) [x] with | some (r, M3) => Q r M3 | none => False)
          rw [this]
          split at h
          · rename_i j hj
            try rw [hj]
            exact Post.now em h trivial
          · exact h.elim
      · exact h.elim
    · exact h.elim
  · rename_i ds x
    split at h
    · rename_i ys hy
      split at h
      · rename_i j hj
        refine ⟨rfl, ?_⟩
        have : mthA .indexT M (.tp .k ds) [.str x] = some (.int j, M) := by
          show (match strsOf ds with
            | some ys => (match findS x ys 0 with | some j => some (D.int j, M) | none => none)
            | none => none) = _
          rw [hy]; show (match findS x ys 0 with | some j => some (D.int j, M) | none => none) = _; rw [hj]
        show (match mthA .indexT M (.tp .k ds) [.str x] with | some (r, M3) => Q r M3 | none => False)
        rw [this]
        exact Post.now em h trivial
      · exact h.elim
    · exact h.elim
  · rename_i z x
    split at h
    · rename_i ds hs
      split at h
      · rename_i ys hy
        split at h
        · rename_i hl
          refine ⟨rfl, ?_⟩
          have : mthA .join M (.str z) [rnW ι x] = some (.str (Txt.join z ys), M) := by
            simp only [mthA, sq_seqM em hs, hy]
            exact if_pos hl
          show (match mthA .join M (.str z) [rnW ι x] with | some (r, M3) => Q r M3 | none => False)
          rw [this]
          exact Post.now em h trivial
        · exact h.elim
      · exact h.elim
    · exact h.elim
  · rename_i a b
    split at h
    · rename_i hl
      refine ⟨rfl, ?_⟩
      have : mthA .split M (.str a) [.str b] = some (.lst ((Txt.split a b).map D.str), M) := if_pos hl
      show (match mthA .split M (.str a) [.str b] with | some (r, M3) => Q r M3 | none => False)
      rw [this]
      exact Post.now em h trivial
    · exact h.elim
  · exact ⟨rfl, Post.now em h trivial⟩
  · rename_i a b
    split at h
    · rename_i hl
      refine ⟨rfl, ?_⟩
      have : mthA .partition M (.str a) [.str b] = some (.tup [.str (Txt.partition a b).1, .str (Txt.partition a b).2.1, .str (Txt.partition a b).2.2], M) := if_pos hl
      show (match mthA .partition M (.str a) [.str b] with | some (r, M3) => Q r M3 | none => False)
      rw [this]
      exact Post.now em h trivial
    · exact h.elim
  · exact h.elim
end
end Z

/-! V6: walks, comprehensions, displays of dicts, calls, statements are sound. -/
namespace Z
open PySem PySem.Spec PyProof.Rows L2
section
variable {E : X3} {ta tb tc : T3} {fa fb fc : WF W} {tl : TL3} {fl : WF (List W)}
/-! #### walks -/
def itF (ik : IK) (fl : WF (List W)) : WF (List D) := fun en S => (fl en S).bind fun ws S1 => lft S1 (itW ik ws)
theorem it_seq {ws : List W} {ds : List D} (h : itW .seq ws = some ds) : ∃ d, ws = [.v d] ∧ itemsA d = some ds := by
  unfold itW at h
  split at h <;> first | contradiction | skip
  rename_i w _
  cases w with
  | r i => cases h
  | v d => exact ⟨d, rfl, h⟩
theorem it_rng1 {ws : List W} {ds : List D} (h : itW .rng1 ws = some ds) : ∃ j, ws = [.v (.int j)] ∧ (-16777216 ≤ j ∧ j ≤ 16777216) ∧ rngD 0 j.toNat = ds := by
  unfold itW at h
  split at h <;> first | contradiction | skip
  split at h
  · rename_i j _ hz; exact ⟨j, rfl, hz, Option.some.inj h⟩
  · cases h
theorem it_rng2 {ws : List W} {ds : List D} (h : itW .rng2 ws = some ds) : ∃ i j, ws = [.v (.int i), .v (.int j)] ∧ (-16777216 ≤ i ∧ i ≤ 16777216 ∧ -16777216 ≤ j ∧ j ≤ 16777216 ∧ j - i ≤ 16777216) ∧ rngD i (j - i).toNat = ds := by
  unfold itW at h
  split at h <;> first | contradiction | skip
  split at h
  · rename_i i j _ hz; exact ⟨i, j, rfl, hz, Option.some.inj h⟩
  · cases h
theorem it_enm {ws : List W} {ds : List D} (h : itW .enm ws = some ds) : ∃ es, ws = [.v (.lst es)] ∧ es.length ≤ sizeLine ∧ enumD 0 es = ds := by
  unfold itW at h
  split at h <;> first | contradiction | skip
  split at h
  · rename_i es _ hz; exact ⟨es, rfl, hz, Option.some.inj h⟩
  · cases h
theorem sd_it (ik : IK) (hl : SndL E tl fl) : SndI E (wi ik tl) (itF ik fl) := by
  intro en S ι M Q we em h
  have h0 : Post ι S M E (fl en S) (fun ws ι1 S1 M1 => ∃ ds, itW ik ws = some ds ∧ Q ds M1) := (Post.bind h).imp fun ws ι1 S1 M1 x1 h1 => by
    obtain ⟨ds, h2, h3⟩ := Post.lft x1.emb h1
    exact ⟨ds, h2, h3⟩
  cases ik with
  | seq =>
    refine hl en S ι M _ we em (h0.imp fun ws ι1 S1 M1 x1 ⟨ds, h2, q⟩ _ => ?_)
    obtain ⟨d, rfl, h3⟩ := it_seq h2
    show (match itemsA d with | some ds => Q ds M1 | none => False)
    rw [h3]; exact q
  | rng1 =>
    refine hl en S ι M _ we em (h0.imp fun ws ι1 S1 M1 x1 ⟨ds, h2, q⟩ _ => ?_)
    obtain ⟨j, rfl, hz, rfl⟩ := it_rng1 h2
    exact ⟨hz, q⟩
  | rng2 =>
    refine hl en S ι M _ we em (h0.imp fun ws ι1 S1 M1 x1 ⟨ds, h2, q⟩ _ => ?_)
    obtain ⟨i, j, rfl, hz, rfl⟩ := it_rng2 h2
    exact ⟨hz, q⟩
  | enm =>
    refine hl en S ι M _ we em (h0.imp fun ws ι1 S1 M1 x1 ⟨ds, h2, q⟩ _ => ?_)
    obtain ⟨es, rfl, hz, rfl⟩ := it_enm h2
    exact ⟨trivial, hz, q⟩
/-! #### aside -/
theorem Emb.er {ι : Nm} {S : Sto} {M : MH} {p : Addr} (e : Emb ι S M) (hn : ∀ i o, getS S i = some o → ι i ≠ p) : Emb ι S (Z.er M p) :=
  ⟨fun i u h => by unfold Z.er; rw [if_neg (hn i u h)]; exact e.at' i u h, e.inj, e.wf⟩
theorem post_aside {α : Type} {ι : Nm} {S : Sto} {M : MH} {p : Addr} {r : Rs α} {K : α → Nm → Sto → MH → Prop} (hp : M p ≠ none) (hn : ∀ i o, getS S i = some o → ι i ≠ p) (h : Post ι S (Z.er M p) noX r K) :
    Post ι S M noX r fun a ι' S' M' => K a ι' S' (Z.er M' p) ∧ M' p = M p ∧ ∀ i o, getS S' i = some o → ι' i ≠ p := by
  cases r with
  | ok a S' => exact fun ι' M' x => let ⟨y, z1, z2⟩ := x.aside hp hn; ⟨h ι' _ y, z1, z2⟩
  | ex e S' => exact fun ι' M' x => let ⟨y, z1, z2⟩ := x.aside hp hn; (id (h ι' (Z.er M' p) y) : False)
  | no => exact h
theorem post_calm {α : Type} {ι : Nm} {S : Sto} {M : MH} {E E' : X3} {r : Rs α} {K : α → Nm → Sto → MH → Prop} (h : Post ι S M E (calm r) K) : Post ι S M E' r K := by
  cases r with
  | ok a S' => exact h
  | ex e S' => exact h.elim
  | no => exact h
theorem cw_ok {tg : Tg} {tt : TB3} {te : T3} {ft : WF Bool} {fe : WF W} (hT : SndT noX tt ft) (hE : SndE noX te fe) {en : WEn} {p : Addr} {Kc : List D → MH → Prop} :
    ∀ (items acc : List D) (S : Sto) (ι : Nm) (M : MH), wfE S.length en → Emb ι S M → (∀ i o, getS S i = some o → ι i ≠ p) → M p = some (.lst acc) →
      Post ι S (Z.er M p) noX (compV tg ft fe en items S) (fun ys ι' S' N => N p = none → Kc (acc ++ ys) (up N p (.lst (acc ++ ys)))) → compW tg tt te (rnE ι en) p Kc items acc M
  | [], acc, S, ι, M, we, em, hn, hp, h => by
    have := Post.now (Emb.er em hn) h er_none
    rw [List.append_nil, up_er hp] at this
    exact ⟨hp, this⟩
  | x :: r, acc, S, ι, M, we, em, hn, hp, h => by
    have hp0 : M p ≠ none := by rw [hp]; intro z; cases z
    unfold compV at h
    unfold compW
    cases q : bindV tg (.v x) en with
    | none => rw [q] at h; exact h.elim
    | some e1 =>
      rw [q] at h
      obtain ⟨b1, we1⟩ := bind_rn (ι := ι) (w := .v x) we trivial q
      rw [show bindT tg x (rnE ι en) = some (rnE ι e1) from b1]
      refine hT e1 S ι M _ we1 em ((post_aside hp0 hn (Post.bind h)).imp fun b ι1 S1 M1 x1 ⟨h1, p1, n1⟩ => ?_)
      have em1 := x1.emb
      have hp1 : M1 p = some (.lst acc) := p1.trans hp
      have hp01 : M1 p ≠ none := by rw [hp1]; intro z; cases z
      have we1' := we.le x1.len
      cases b with
      | false =>
        show compW tg tt te (rnE ι en) p Kc r acc M1
        rw [← rnE_agr x1.agr we]
        exact cw_ok hT hE r acc S1 ι1 M1 we1' em1 n1 hp1 h1
      | true =>
        show te (rnE ι e1) M1 _
        rw [← rnE_agr x1.agr we1]
        refine hE e1 S1 ι1 M1 _ (we1.le x1.len) em1 ((post_aside hp01 n1 (Post.bind h1)).imp fun w ι2 S2 M2 x2 ⟨h2, p2, n2⟩ ww => ?_)
        have hp2 : M2 p = some (.lst acc) := p2.trans hp1
        refine ⟨hp2, ?_⟩
        cases w with
        | r i => exact h2.elim
        | v y =>
          show compW tg tt te (rnE ι en) p Kc r (acc ++ [y]) (up M2 p (.lst (acc ++ [y])))
          rw [← rnE_agr (x1.trans x2).agr we]
          refine cw_ok hT hE r (acc ++ [y]) S2 ι2 _ (we.le (x1.trans x2).len) (Emb.mark x2.emb n2) n2 up_same ?_
          rw [er_up']
          refine (Post.bind (show Post ι2 S2 (Z.er M2 p) noX ((compV tg ft fe en r S2).bind fun ys S3 => .ok (y :: ys) S3) _ from h2)).imp fun ys ι3 S3 M3 x3 h3 hN => ?_
          have := Post.now x3.emb h3 hN
          rw [List.append_assoc]
          exact this
theorem post_it {α : Type} {ik : IK} {r : Rs (List W)} {g : List D → Sto → Rs α} {ι : Nm} {S : Sto} {M : MH} {K : α → Nm → Sto → MH → Prop}
    (h : Post ι S M E (r.bind fun ws S1 => match itW ik ws with | some items => g items S1 | none => .no) K) : Post ι S M E (r.bind fun ws S1 => lft S1 (itW ik ws)) fun items ι1 S1 M1 => Post ι1 S1 M1 E (g items S1) K := by
  cases r with
  | no => exact h
  | ex e S' => exact h
  | ok ws S1 =>
    rw [Rs.bind_ok] at h ⊢
    cases q : itW ik ws with
    | none => rw [q] at h; exact h.elim
    | some items => rw [q] at h; exact fun ι1 M1 x1 => Post.from x1 h
def endC (m : Bool) (p : Addr) (Q : Q3) : List D → MH → Prop := fun acc M2 => match m with | true => Q (.ref p) M2 | false => Q (.lst acc) (Z.er M2 p)
theorem sd_comp {m : Bool} {ik : IK} {tg : Tg} {own : List Nat} {tt : TB3} {te : T3} {ft : WF Bool} {fe : WF W} (hl : SndL E tl fl) (hT : SndT noX tt ft) (hE : SndE noX te fe) :
    SndE E (comp3 m (wi ik tl) tg tt te own) (fun en S => (fl en S).bind fun ws S1 => match itW ik ws with
      | some items => compR m (calm (compV tg ft fe (wipeV en own) items S1))
      | none => .no) := by
  intro en S ι M Q we em h
  show wi ik tl (rnE ι en) M fun items M1 => ∀ p, M1 p = none → compW tg tt te (wipeE (rnE ι en) own) p (endC m p Q) items [] (up M1 p (.lst []))
  refine sd_it ik hl en S ι M _ we em ((post_it h).imp fun items ι1 S1 M1 x1 h1 p hp => ?_)
  have ww := wfE_wipe (we.le x1.len) own
  rw [wipeE_rn, ← rnE_agr x1.agr (wfE_wipe we own)]
  have fr := Emb.fresh x1.emb hp
  refine cw_ok hT hE items [] S1 ι1 (up M1 p (.lst [])) ww (Emb.mark x1.emb fr) fr up_same ?_
  rw [er_up', er_self hp]
  refine (post_calm (Post.bind h1)).imp fun ys ι2 S2 N x2 h2 hN => ?_
  rw [List.nil_append]
  cases m with
  | true => exact pw_new (o := .lst ys) x2.emb trivial h2 p hN
  | false =>
    show Q (.lst ys) (Z.er (up N p (.lst ys)) p)
    rw [er_up', er_self hN]
    exact Post.now x2.emb h2 trivial
/-! #### displays of dicts -/
def SndP (E : X3) (t : List (T3 × T3)) (f : WF (List (W × W))) : Prop := ∀ en S ι M Q, wfE S.length en → Emb ι S M → Post ι S M E (f en S) (fun ps ι' S' M' => (∀ q ∈ ps, wfW S'.length q.1 ∧ wfW S'.length q.2) → Q (ps.map fun q => (rnW ι' q.1, rnW ι' q.2)) M') → pairs3 t (rnE ι en) M Q
theorem sd_pnil : SndP E [] (fun _ S => .ok [] S) := fun en S ι M Q we em h => Post.now em h fun q hq => nomatch hq
theorem sd_pcons {t : List (T3 × T3)} {fp : WF (List (W × W))} (ha : SndE E ta fa) (hb : SndE E tb fb) (hp : SndP E t fp) : SndP E ((ta, tb) :: t) (fun en S => (fa en S).bind fun x S1 => (fb en S1).bind fun y S2 => (fp en S2).bind fun ps S3 => .ok ((x, y) :: ps) S3) := by
  intro en S ι M Q we em h
  refine ha en S ι M _ we em ((Post.bind h).imp fun x ι1 S1 M1 x1 h1 wx => ?_)
  obtain ⟨we1, e1⟩ := wf_ext x1 we
  rw [e1]
  refine hb en S1 ι1 M1 _ we1 x1.emb ((Post.bind h1).imp fun y ι2 S2 M2 x2 h2 wy => ?_)
  obtain ⟨we2, e2⟩ := wf_ext x2 we1
  rw [e2]
  refine hp en S2 ι2 M2 _ we2 x2.emb ((Post.bind h2).imp fun ps ι3 S3 M3 x3 h3 wps => ?_)
  rw [← rnW_agr (x2.trans x3).agr wx, ← rnW_agr x3.agr wy]
  refine Post.now x3.emb h3 fun q hq => ?_
  rcases List.mem_cons.mp hq with rfl | hq
  · exact ⟨wx.le (x2.trans x3).len, wy.le x3.len⟩
  · exact wps q hq
theorem keysW_ok {ι : Nm} {n : Nat} : ∀ {ps : List (W × W)} {kvs : List (Key × W)}, keysW ps = some kvs → (∀ q ∈ ps, wfW n q.1 ∧ wfW n q.2) → keysD (ps.map fun q => (rnW ι q.1, rnW ι q.2)) = some (kvs.map fun kv => (kv.1, rnW ι kv.2)) ∧ ∀ kv ∈ kvs, wfW n kv.2
  | [], kvs, h, _ => by cases h; exact ⟨rfl, fun kv hk => nomatch hk⟩
  | (k, v) :: r, kvs, h, w => by
    cases k with
    | r i => cases h
    | v k =>
      have h : (match keyK k, keysW r with
        | some k, some r => some ((k, v) :: r)
        | _, _ => none) = some kvs := h
      split at h
      · rename_i k' r' h1 h2
        cases h
        obtain ⟨i1, i2⟩ := keysW_ok (ι := ι) h2 fun q hq => w q (List.mem_cons_of_mem _ hq)
        refine ⟨?_, fun kv hk => ?_⟩
        · show (match keyK k, keysD (r.map fun q => (rnW ι q.1, rnW ι q.2)) with
            | some k, some r => some ((k, rnW ι v) :: r)
            | _, _ => none) = _
          rw [h1, i1]; rfl
        · rcases List.mem_cons.mp hk with rfl | hk
          · exact (w (W.v k, v) (by simp)).2
          · exact i2 kv hk
      · cases h
theorem merge_map {ι : Nm} : ∀ (more kvs : List (Key × W)), mergeD (kvs.map fun kv => (kv.1, rnW ι kv.2)) (more.map fun kv => (kv.1, rnW ι kv.2)) = (mergeG kvs more).map fun kv => (kv.1, rnW ι kv.2)
  | [], kvs => rfl
  | kv :: r, kvs => by
    show mergeD (putD (kvs.map fun kv => (kv.1, rnW ι kv.2)) kv.1 (rnW ι kv.2)) (r.map fun kv => (kv.1, rnW ι kv.2)) = _
    rw [show putD (kvs.map fun kv => (kv.1, rnW ι kv.2)) kv.1 (rnW ι kv.2) = (putG kvs kv.1 kv.2).map fun kv => (kv.1, rnW ι kv.2) from putG_map (rnW ι) kv.1 kv.2 kvs, merge_map r]
    rfl
theorem merge_wf {n : Nat} : ∀ (more kvs : List (Key × W)), (∀ kv ∈ kvs, wfW n kv.2) → (∀ kv ∈ more, wfW n kv.2) → ∀ kv ∈ mergeG kvs more, wfW n kv.2
  | [], kvs, h, _ => h
  | kv :: r, kvs, h, g => merge_wf r _ (fun e he => by
      rcases putG_mem he with q | q
      · exact h e q
      · rw [q]; exact g kv (by simp)) fun e he => g e (List.mem_cons_of_mem _ he)
theorem sd_dis {m : Bool} {t : List (T3 × T3)} {fp : WF (List (W × W))} (hp : SndP E t fp) : SndE E (disp3 m t) (fun en S => (calm (fp en S)).bind fun ps S1 => disW m S1 ps) := by
  intro en S ι M Q we em h p hpn
  replace h : Post ι S M E ((calm (fp en S)).bind fun ps S1 => disW m S1 ps) (fun w ι' S' M' => wfW S'.length w → Q (rnW ι' w) M') := h
  have fr := Emb.fresh em hpn
  have h0 : Post ι S (Z.er (up M p (.dK [])) p) noX (fp en S) (fun ps ι1 S1 N => Post ι1 S1 N E (disW m S1 ps) fun w ι' S' M' => wfW S'.length w → Q (rnW ι' w) M') := by
    rw [er_up', er_self hpn]
    exact post_calm (Post.bind h)
  have h1 := post_aside (M := up M p (.dK [])) (by rw [up_same]; intro z; cases z) fr h0
  have h2 : Post ι S (up M p (.dK [])) E (fp en S) (fun ps ι1 S1 M1 => Post ι1 S1 (Z.er M1 p) E (disW m S1 ps) (fun w ι' S' M' => wfW S'.length w → Q (rnW ι' w) M') ∧ M1 p = some (.dK []) ∧ ∀ i o, getS S1 i = some o → ι1 i ≠ p) := by
    cases hr : fp en S with
    | no => rw [hr] at h1; exact h1
    | ex e S' => rw [hr] at h; exact h.elim
    | ok ps S1 =>
      rw [hr] at h1
      intro ι' M' x
      obtain ⟨a, b, c⟩ := h1 ι' M' x
      exact ⟨a, b.trans up_same, c⟩
  refine hp en S ι (up M p (.dK [])) _ we (Emb.mark em fr) (h2.imp fun ps ι1 S1 M1 x1 ⟨h3, p3, n3⟩ wps => ?_)
  refine ⟨p3, ?_⟩
  unfold disW at h3
  split at h3
  · rename_i kvs hk
    obtain ⟨k1, k2⟩ := keysW_ok (ι := ι1) hk wps
    rw [k1]
    split at h3
    · rename_i hl
      refine ⟨by rw [List.length_map]; exact hl, ?_⟩
      have hm : mergeD [] (kvs.map fun kv => (kv.1, rnW ι1 kv.2)) = (mergeG [] kvs).map fun kv => (kv.1, rnW ι1 kv.2) := merge_map kvs []
      rw [hm]
      have wm := merge_wf kvs [] (fun kv hk => nomatch hk) k2
      have em1 := Emb.er x1.emb n3
      cases m with
      | true =>
        have := pw_new (o := .dK (mergeG [] kvs)) em1 wm h3 p er_none
        have e2 : rnO (pin ι1 S1.length p) (.dK (mergeG [] kvs)) = .dK ((mergeG [] kvs).map fun kv => (kv.1, rnW ι1 kv.2)) := rnO_agr (ι := ι1) (o := .dK (mergeG [] kvs)) (fun i h => pin_ne (Nat.ne_of_lt h)) wm
        rw [e2] at this
        have e3 : ∀ o, up (Z.er M1 p) p o = up M1 p o := fun o => by
          funext a; unfold up Z.er
          by_cases q : a = p
          · simp [q]
          · simp [q]
        rw [e3] at this
        exact this
      | false =>
        dsimp only at h3
        split at h3
        · rename_i ds hds
          have h4 : Post ι1 S1 (Z.er M1 p) E (.ok (.v (.dK ((mergeG [] kvs).map (·.1)) ds)) S1) (fun w ι' S' M' => wfW S'.length w → Q (rnW ι' w) M') := h3
          have := Post.now em1 h4 trivial
          have e : ((mergeG [] kvs).map fun kv => (kv.1, rnW ι1 kv.2)).map (·.2) = ds := by
            rw [← plnW_ok (ι := ι1) hds, List.map_map, List.map_map]; rfl
          have e' : ((mergeG [] kvs).map fun kv => (kv.1, rnW ι1 kv.2)).map (·.1) = (mergeG [] kvs).map (·.1) := by
            rw [List.map_map]; rfl
          show Q (.dK (((mergeG [] kvs).map fun kv => (kv.1, rnW ι1 kv.2)).map (·.1)) (((mergeG [] kvs).map fun kv => (kv.1, rnW ι1 kv.2)).map (·.2))) (Z.er M1 p)
          rw [e, e']
          exact this
        · exact h3.elim
    · exact h3.elim
  · exact h3.elim
/-! #### methods, calls -/
theorem ty_lst {S : Sto} {ι : Nm} {M : MH} {o : W} (em : Emb ι S M) (h : (match rdW S o with | some (.lst _) => true | _ => false) = true) : (exL M (rnW ι o)).isSome = true := by
  split at h
  · rename_i ds hx
    rw [rd_exL em hx]; rfl
  · cases h
theorem ty_dct {S : Sto} {ι : Nm} {M : MH} {o : W} (em : Emb ι S M) (h : (match o with
    | .v (.dK _ _) => true
    | .v (.dT _ _) => true
    | .r i => (match getS S i with | some (.dK _) => true | some (.dT _) => true | _ => false)
    | _ => false) = true) : ((asK M (rnW ι o)).isSome || (asD M (rnW ι o)).isSome) = true := by
  split at h
  · rfl
  · rfl
  · rename_i i
    split at h
    · rename_i kvs g
      show ((match M (ι i) with | some (.dK kvs) => some kvs | _ => none).isSome || _) = true
      rw [em.at' i _ g]; rfl
    · rename_i kvs g
      rw [Bool.or_eq_true]; right
      show (match M (ι i) with | some (.dT kvs) => some kvs | _ => none).isSome = true
      rw [em.at' i _ g]; rfl
    · cases h
  · cases h
theorem ty_str {ι : Nm} {o : W} (h : (match o with | .v (.str _) => true | _ => false) = true) : isStrD (rnW ι o) = true := by
  split at h
  · rfl
  · cases h
theorem ty_tk {ι : Nm} {o : W} (h : (match o with | .v (.tp .k _) => true | _ => false) = true) : isTk (rnW ι o) = true := by
  split at h
  · rfl
  · cases h
theorem tyW_ok {m : Mt} {S : Sto} {ι : Nm} {M : MH} {o : W} (em : Emb ι S M) (h : tyW m S o = true) : tyOk m M (rnW ι o) = true := by
  cases m with
  | append => exact ty_lst em h
  | extend => exact ty_lst em h
  | index => exact ty_lst em h
  | get => exact ty_dct em h
  | setdefault => exact ty_dct em h
  | indexT => exact ty_tk h
  | join => exact ty_str h
  | split => exact ty_str h
  | startswith => exact ty_str h
  | partition => exact ty_str h
theorem sd_mth {m : Mt} (ho : SndE E ta fa) (hl : SndL E tl fl) : SndE E (mth3 m ta tl) (fun en S => (fa en S).bind fun x S1 => match tyW m S1 x with
    | true => (fl en S1).bind fun ws S2 => m.wo S2 x ws
    | false => .no) := by
  intro en S ι M Q we em h
  refine ho en S ι M _ we em ((Post.bind h).imp fun x ι1 S1 M1 x1 h1 wx => ?_)
  obtain ⟨we1, e1⟩ := wf_ext x1 we
  rw [e1]
  split at h1
  · rename_i ht
    refine ⟨tyW_ok x1.emb ht, ?_⟩
    refine hl en S1 ι1 M1 _ we1 x1.emb ((Post.bind h1).imp fun ws ι2 S2 M2 x2 h2 wws => ?_)
    rw [← rnW_agr x2.agr wx]
    exact (mt_ok x2.emb wws h2).2
  · exact h1.elim
/-- a def's promise, of its function -/
def spV (F : List W → Sto → Rs W) : Sp3 := fun ds M Q E => ∃ ws S ι, ds = ws.map (rnW ι) ∧ wfL S.length ws ∧ Emb ι S M ∧ PW ι S M E (F ws S) Q
theorem sd_call {n : Nat} {F : List W → Sto → Rs W} (hl : SndL E tl fl) : SndE E (call3 n (spV F) E tl) (fun en S => (fl en S).bind fun ws S2 => if ws.length = n then F ws S2 else .no) := by
  intro en S ι M Q we em h
  refine hl en S ι M _ we em ((Post.bind h).imp fun ws ι1 S1 M1 x1 h4 wws => ?_)
  split at h4
  · rename_i h3
    exact ⟨by rw [List.length_map]; exact h3, ws, S1, ι1, rfl, wws, x1.emb, h4⟩
  · exact h4.elim
end
end Z

/-! V7: statements; THE END: the reading by functions is sound. -/
namespace Z
open PySem PySem.Spec PyProof.Rows L2
def wfC (n : Nat) : Oc → Prop
  | .nx e => wfE n e
  | .rt w => wfW n w
  | .bk e => wfE n e
  | .ct e => wfE n e
def oQ (D3 : Ends3) (ι : Nm) (o : Oc) (M : MH) : Prop := match o with
  | .nx e => D3.nx (rnE ι e) M
  | .rt w => D3.rt (rnW ι w) M
  | .bk e => D3.bk (rnE ι e) M
  | .ct e => D3.ct (rnE ι e) M
def SndS (E : X3) (t : TS3) (f : WF Oc) : Prop := ∀ D3 en S ι M, wfE S.length en → Emb ι S M → Post ι S M E (f en S) (fun o ι' S' M' => wfC S'.length o → oQ D3 ι' o M') → t D3 (rnE ι en) M
section
variable {E : X3} {ta tb tc : T3} {fa fb fc : WF W} {tl : TL3} {fl : WF (List W)} {t u : TS3} {f g : WF Oc}
theorem SndE.congr {t : T3} {f g : WF W} (h : SndE E t f) (e : ∀ en S, f en S = g en S) : SndE E t g := by
  have : f = g := by funext en S; exact e en S
  rw [← this]; exact h
theorem ss_seq (h1 : SndS E t f) (h2 : SndS E u g) : SndS E (seq3 t u) (fun en S => (f en S).bind fun o S1 => match o with | .nx e => g e S1 | o => .ok o S1) := by
  intro D3 en S ι M we em h
  refine h1 _ en S ι M we em ((Post.bind h).imp fun o ι1 S1 M1 x1 h1 wo => ?_)
  cases o with
  | nx e => exact h2 D3 e S1 ι1 M1 wo x1.emb h1
  | rt w => exact Post.now x1.emb h1 wo
  | bk e => exact Post.now x1.emb h1 wo
  | ct e => exact Post.now x1.emb h1 wo
theorem ss_next : SndS E next3 (fun en S => .ok (.nx en) S) := fun D3 en S ι M we em h => Post.now em h we
theorem ss_brk : SndS E brk3 (fun en S => .ok (.bk en) S) := fun D3 en S ι M we em h => Post.now em h we
theorem ss_cnt : SndS E cnt3 (fun en S => .ok (.ct en) S) := fun D3 en S ι M we em h => Post.now em h we
theorem ss_drop (ha : SndE E ta fa) : SndS E (drop3 ta) (fun en S => (fa en S).bind fun _ S1 => .ok (.nx en) S1) := by
  intro D3 en S ι M we em h
  refine ha en S ι M _ we em ((Post.bind h).imp fun x ι1 S1 M1 x1 h1 wx => ?_)
  obtain ⟨we1, e1⟩ := wf_ext x1 we
  rw [e1]
  exact Post.now x1.emb h1 we1
theorem ss_ret (ha : SndE E ta fa) : SndS E (ret3 ta) (fun en S => (fa en S).bind fun w S1 => .ok (.rt w) S1) := by
  intro D3 en S ι M we em h
  refine ha en S ι M _ we em ((Post.bind h).imp fun x ι1 S1 M1 x1 h1 wx => ?_)
  exact Post.now x1.emb h1 wx
theorem ss_retN : SndS E retN3 (fun _ S => .ok (.rt (.v .non)) S) := fun D3 en S ι M we em h => Post.now em h trivial
theorem ss_if {tA : TB3} {fA : WF Bool} (hc : SndT E tA fA) (h1 : SndS E t f) (h2 : SndS E u g) : SndS E (if3 tA t u) (fun en S => (fA en S).bind fun k S1 => match k with | true => f en S1 | false => g en S1) := by
  intro D3 en S ι M we em h
  refine hc en S ι M _ we em ((Post.bind h).imp fun b ι1 S1 M1 x1 g1 => ?_)
  obtain ⟨we1, e1⟩ := wf_ext x1 we
  rw [e1]
  cases b with
  | true => exact h1 D3 en S1 ι1 M1 we1 x1.emb g1
  | false => exact h2 D3 en S1 ι1 M1 we1 x1.emb g1
theorem ss_asg {tg : Tg} (ha : SndE E ta fa) : SndS E (asg3 ta tg) (fun en S => (fa en S).bind fun w S1 => match bindV tg w en with | some e' => .ok (.nx e') S1 | none => .no) := by
  intro D3 en S ι M we em h
  refine ha en S ι M _ we em ((Post.bind h).imp fun w ι1 S1 M1 x1 h1 ww => ?_)
  obtain ⟨we1, e1⟩ := wf_ext x1 we
  rw [e1]
  split at h1
  · rename_i e' hb
    obtain ⟨b1, b2⟩ := bind_rn (ι := ι1) we1 ww hb
    rw [b1]
    exact Post.now x1.emb h1 b2
  · exact h1.elim
theorem ss_par {i j : Nat} (ha : SndE E ta fa) (hb : SndE E tb fb) : SndS E (par3 i j (cons3 ta (cons3 tb nil3))) (fun en S => (fa en S).bind fun x S1 => (fb en S1).bind fun y S2 => .ok (.nx (setV2 (setV2 en i x) j y)) S2) := by
  intro D3 en S ι M we em h
  refine ha en S ι M _ we em ((Post.bind h).imp fun x ι1 S1 M1 x1 h1 wx => ?_)
  obtain ⟨we1, e1⟩ := wf_ext x1 we
  rw [e1]
  refine hb en S1 ι1 M1 _ we1 x1.emb ((Post.bind h1).imp fun y ι2 S2 M2 x2 h2 wy => ?_)
  obtain ⟨we2, e2⟩ := wf_ext x2 we1
  show D3.nx (setE (setE (rnE ι1 en) i (rnW ι1 x)) j (rnW ι2 y)) M2
  rw [← rnW_agr x2.agr wx, e2, setE_rn, setE_rn]
  exact Post.now x2.emb h2 (wfE_set wy (wfE_set (wx.le x2.len) we2))
theorem put3_ref {M : MH} {a : Addr} {i v : D} : put3 M (.ref a) i v = (match M a with
        | some (.lst ds) => (match i with
          | .int k => (match ixN ds.length k with
            | some j => some (up M a (.lst (ds.set j v)))
            | none => none)
          | _ => none)
        | some (.dK kvs) => (match keyK i with
          | some k => if kvs.length < sizeLine then some (up M a (.dK (putD kvs k v))) else none
          | none => none)
        | some (.dT kvs) => (match keyT i with
          | some k => if kvs.length < sizeLine then some (up M a (.dT (putD kvs k v))) else none
          | none => none)
        | _ => none) := rfl
theorem putW_ok {S S' : Sto} {ι : Nm} {M : MH} {o i v : W} (em : Emb ι S M) (wv : wfW S.length v) (h : putW S o i v = some S') : ∃ M', put3 M (rnW ι o) (rnW ι i) (rnW ι v) = some M' ∧ Ext ι S M ι S' M' := by
  unfold putW at h
  split at h
  · rename_i a i
    show ∃ M', put3 M (.ref (ι a)) i (rnW ι v) = some M' ∧ _
    have red := put3_ref (M := M) (a := ι a) (i := i) (v := rnW ι v)
    split at h
    · rename_i ds g
      have hM : M (ι a) = some (.lst ds) := em.at' a _ g
      split at h
      · rename_i k d
        split at h
        · rename_i j hj
          cases h
          refine ⟨_, ?_, Ext.put em g (o := .lst (ds.set j d)) trivial⟩
          rw [red, hM]
          show (match ixN ds.length k with | some j => some (up M (ι a) (.lst (ds.set j d))) | none => none) = _
          rw [hj]; rfl
        · cases h
      · cases h
    · rename_i kvs g
      have hM : M (ι a) = some (.dK (kvs.map fun kv => (kv.1, rnW ι kv.2))) := em.at' a _ g
      split at h
      · rename_i k hk
        split at h
        · rename_i hl
          cases h
          refine ⟨_, ?_, Ext.put em g (o := .dK (putG kvs k v)) fun kv hkv => ?_⟩
          · rw [red, hM]
            show (match keyK i with
              | some k => if (kvs.map fun (kv : Key × W) => (kv.1, rnW ι kv.2)).length < sizeLine then some (up M (ι a) (.dK (putD (kvs.map fun (kv : Key × W) => (kv.1, rnW ι kv.2)) k (rnW ι v)))) else none
              | none => none) = _
            rw [hk]
            show (if (kvs.map fun kv => (kv.1, rnW ι kv.2)).length < sizeLine then _ else none) = _
            rw [if_pos (by rw [List.length_map]; exact hl), show putD (kvs.map fun kv => (kv.1, rnW ι kv.2)) k (rnW ι v) = (putG kvs k v).map fun kv => (kv.1, rnW ι kv.2) from putG_map (rnW ι) k v kvs]
            rfl
          · rcases putG_mem hkv with q | q
            · exact em.wf a _ g kv q
            · rw [q]; exact wv
        · cases h
      · cases h
    · rename_i kvs g
      have hM : M (ι a) = some (.dT (kvs.map fun kv => (kv.1, rnW ι kv.2))) := em.at' a _ g
      split at h
      · rename_i k hk
        split at h
        · rename_i hl
          cases h
          refine ⟨_, ?_, Ext.put em g (o := .dT (putG kvs k v)) fun kv hkv => ?_⟩
          · rw [red, hM]
            show (match keyT i with
              | some k => if (kvs.map fun (kv : List Key × W) => (kv.1, rnW ι kv.2)).length < sizeLine then some (up M (ι a) (.dT (putD (kvs.map fun (kv : List Key × W) => (kv.1, rnW ι kv.2)) k (rnW ι v)))) else none
              | none => none) = _
            rw [hk]
            show (if (kvs.map fun kv => (kv.1, rnW ι kv.2)).length < sizeLine then _ else none) = _
            rw [if_pos (by rw [List.length_map]; exact hl), show putD (kvs.map fun kv => (kv.1, rnW ι kv.2)) k (rnW ι v) = (putG kvs k v).map fun kv => (kv.1, rnW ι kv.2) from putG_map (rnW ι) k v kvs]
            rfl
          · rcases putG_mem hkv with q | q
            · exact em.wf a _ g kv q
            · rw [q]; exact wv
        · cases h
      · cases h
    · cases h
  · cases h
theorem ss_sput (ho : SndE E ta fa) (hi : SndE E tb fb) (he : SndE E tc fc) : SndS E (sput3 ta tb tc) (fun en S => (fc en S).bind fun v S1 => (fa en S1).bind fun x S2 => (fb en S2).bind fun k S3 => match putW S3 x k v with | some S4 => .ok (.nx en) S4 | none => .no) := by
  intro D3 en S ι M we em h
  refine he en S ι M _ we em ((Post.bind h).imp fun v ι1 S1 M1 x1 h1 wv => ?_)
  obtain ⟨we1, e1⟩ := wf_ext x1 we
  rw [e1]
  refine ho en S1 ι1 M1 _ we1 x1.emb ((Post.bind h1).imp fun x ι2 S2 M2 x2 h2 wx => ?_)
  obtain ⟨we2, e2⟩ := wf_ext x2 we1
  rw [e2]
  refine hi en S2 ι2 M2 _ we2 x2.emb ((Post.bind h2).imp fun k ι3 S3 M3 x3 h3 wk => ?_)
  obtain ⟨we3, e3⟩ := wf_ext x3 we2
  rw [← rnW_agr (x2.trans x3).agr wv, ← rnW_agr x3.agr wx]
  split at h3
  · rename_i S4 hp
    obtain ⟨M4, p1, p2⟩ := putW_ok x3.emb (wv.le (x2.trans x3).len) hp
    rw [p1, e3]
    exact h3 ι3 M4 p2 (we3.le p2.len)
  · exact h3.elim
theorem ss_aug {i : Nat} {o : O2} {w : D → D → Option D} (hw : ∀ d e r, w d e = some r → (∀ ds, d ≠ .lst ds) ∧ (∀ ds, e ≠ .lst ds) ∧ ∀ (M : MH) (Q : Q3), Q r M → o d e M Q) (ha : SndE E ta fa) : SndS E (aug3 i ta o) (fun en S => match getV en i with
    | some d => (fa en S).bind fun d2 S1 => match rd2 S1 d d2 w with | some r => .ok (.nx (setV2 en i (.v r))) S1 | none => .no
    | none => .no) := by
  intro D3 en S ι M we em h
  unfold aug3
  rw [getE_rn]
  dsimp only at h
  split at h
  · rename_i d hd
    rw [hd]
    refine ha en S ι M _ we em ((Post.bind h).imp fun d2 ι1 S1 M1 x1 h1 ww => ?_)
    obtain ⟨we1, e1⟩ := wf_ext x1 we
    split at h1
    · rename_i r hr
      obtain ⟨x, y, hx, hy, hf⟩ := rd2_some hr
      obtain ⟨n1, n2, n3⟩ := hw x y r hf
      rw [← rnW_agr x1.agr (wfE_get we hd), rdW_v hx n1, rdW_v hy n2]
      refine n3 _ _ ?_
      rw [e1, show setE (rnE ι1 en) i r = rnE ι1 (setV2 en i (.v r)) from setE_rn en i (.v r)]
      exact Post.now x1.emb h1 (wfE_set (w := .v r) trivial we1)
    · exact h1.elim
  · exact h.elim
theorem iadd_ok (d e r : D) (h : viadd d e = some r) : (∀ ds, d ≠ .lst ds) ∧ (∀ ds, e ≠ .lst ds) ∧ ∀ (M : MH) (Q : Q3), Q r M → iadd3 d e M Q := by
  unfold viadd at h
  split at h
  · cases h; exact ⟨(fun _ z => nomatch z), (fun _ z => nomatch z), fun M Q q => q⟩
  · split at h
    · rename_i hl
      cases h; exact ⟨(fun _ z => nomatch z), (fun _ z => nomatch z), fun M Q q => ⟨hl, q⟩⟩
    · cases h
  · cases h
theorem isub_ok (d e r : D) (h : visub d e = some r) : (∀ ds, d ≠ .lst ds) ∧ (∀ ds, e ≠ .lst ds) ∧ ∀ (M : MH) (Q : Q3), Q r M → isub3 d e M Q := by
  unfold visub at h
  split at h
  · cases h; exact ⟨(fun _ z => nomatch z), (fun _ z => nomatch z), fun M Q q => q⟩
  · cases h
theorem turns_ok {tg : Tg} {body : TS3} {fb : WF Oc} {Z : Ends3} (hb : SndS E body fb) : ∀ (items : List D) (en : WEn) (S : Sto) (ι : Nm) (M : MH), wfE S.length en → Emb ι S M →
    Post ι S M E (turnsV tg fb items en S) (fun o ι' S' M' => wfC S'.length o → oQ Z ι' o M') → turns3 tg body Z items (rnE ι en) M
  | [], en, S, ι, M, we, em, h => Post.now em h we
  | x :: r, en, S, ι, M, we, em, h => by
    unfold turnsV at h
    unfold turns3
    cases q : bindV tg (.v x) en with
    | none => rw [q] at h; exact h.elim
    | some e1 =>
      rw [q] at h
      obtain ⟨b1, we1⟩ := bind_rn (ι := ι) (w := .v x) we trivial q
      rw [show bindT tg x (rnE ι en) = some (rnE ι e1) from b1]
      refine hb _ e1 S ι M we1 em ((Post.bind h).imp fun o ι1 S1 M1 x1 h1 wo => ?_)
      cases o with
      | nx e => exact turns_ok hb r e S1 ι1 M1 wo x1.emb h1
      | ct e => exact turns_ok hb r e S1 ι1 M1 wo x1.emb h1
      | bk e => exact Post.now x1.emb h1 wo
      | rt w => exact Post.now x1.emb h1 wo
theorem ss_for {ik : IK} {tg : Tg} {body : TS3} {fb : WF Oc} (hl : SndL E tl fl) (hb : SndS E body fb) : SndS E (for3 (wi ik tl) tg body) (fun en S => (fl en S).bind fun ws S1 => match itW ik ws with
    | some items => turnsV tg fb items en S1
    | none => .no) := by
  intro D3 en S ι M we em h
  refine sd_it ik hl en S ι M _ we em ((post_it (g := fun items S1 => turnsV tg fb items en S1) h).imp fun items ι1 S1 M1 x1 h1 => ?_)
  obtain ⟨we1, e1⟩ := wf_ext x1 we
  rw [e1]
  exact turns_ok hb items en S1 ι1 M1 we1 x1.emb h1
theorem whN_ok {tA : TB3} {fA : WF Bool} {body : TS3} {fb : WF Oc} {D3 : Ends3} (hc : SndT E tA fA) (hb : SndS E body fb) : ∀ (n : Nat) (en : WEn) (S : Sto) (ι : Nm) (M : MH), wfE S.length en → Emb ι S M →
    Post ι S M E (whN fA fb n en S) (fun o ι' S' M' => wfC S'.length o → oQ D3 ι' o M') → whileN tA body D3 n (rnE ι en) M
  | 0, en, S, ι, M, we, em, h => h
  | n + 1, en, S, ι, M, we, em, h => by
    unfold whN at h
    unfold whileN
    refine hc en S ι M _ we em ((Post.bind h).imp fun b ι1 S1 M1 x1 h1 => ?_)
    obtain ⟨we1, e1⟩ := wf_ext x1 we
    rw [e1]
    cases b with
    | false => exact Post.now x1.emb h1 we1
    | true =>
      refine hb _ en S1 ι1 M1 we1 x1.emb ((Post.bind h1).imp fun o ι2 S2 M2 x2 h2 wo => ?_)
      cases o with
      | nx e => exact whN_ok hc hb n e S2 ι2 M2 wo x2.emb h2
      | ct e => exact whN_ok hc hb n e S2 ι2 M2 wo x2.emb h2
      | bk e => exact Post.now x2.emb h2 wo
      | rt w => exact Post.now x2.emb h2 wo
theorem ss_while {tA : TB3} {fA : WF Bool} {body : TS3} {fb : WF Oc} (hc : SndT E tA fA) (hb : SndS E body fb) : SndS E (while3 tA body) (whV fA fb) := by
  intro D3 en S ι M we em h
  unfold whV at h
  split at h
  · rename_i hz
    exact ⟨hz.choose, whN_ok hc hb _ en S ι M we em h⟩
  · exact h.elim
theorem ss_fz {i : Nat} (h2 : SndS E u g) : SndS E (fz3 i u) (fun en S => (match fzV i en S with | some (e, S1) => Rs.ok (.nx e) S1 | none => .no : Rs Oc).bind fun o S1 => match o with | .nx e => g e S1 | o => .ok o S1) := by
  intro D3 en S ι M we em h
  unfold fz3
  rw [getE_rn]
  dsimp only at h
  have key : ∀ (a : Nat) (vo : VO) (d : D), getV en i = some (.r a) → getS S a = some vo → fzV i en S = some (setV2 en i (.v d), setS S a none) → u D3 (setE (rnE ι en) i d) (Z.er M (ι a)) := by
    intro a vo d h1 h3 h4
    rw [h4] at h
    have x := Ext.del em h3
    rw [show setE (rnE ι en) i d = rnE ι (setV2 en i (.v d)) from setE_rn en i (.v d)]
    exact h2 D3 _ _ ι _ ((wfE_set (w := .v d) trivial we).le x.len) x.emb (Post.from x h)
  unfold fzV at h key
  split at h
  · rename_i e S1 hz
    split at hz
    · rename_i a ha
      rw [ha]
      show (match M (ι a) with
        | some (.lst ds) => u D3 (setE (rnE ι en) i (.lst ds)) (Z.er M (ι a))
        | some (.dK kvs) => u D3 (setE (rnE ι en) i (.dK (kvs.map (·.1)) (kvs.map (·.2)))) (Z.er M (ι a))
        | some (.dT kvs) => u D3 (setE (rnE ι en) i (.dT (kvs.map (·.1)) (kvs.map (·.2)))) (Z.er M (ι a))
        | _ => False)
      split at hz
      · rename_i ds g
        rw [show M (ι a) = some (.lst ds) from em.at' a _ g]
        refine key a _ (.lst ds) ha g ?_
        rw [ha]; dsimp only; rw [g]
      · rename_i kvs g
        split at hz
        · rename_i ds hds
          rw [show M (ι a) = some (.dK (kvs.map fun kv => (kv.1, rnW ι kv.2))) from em.at' a _ g]
          have e : (kvs.map fun kv => (kv.1, rnW ι kv.2)).map (·.2) = ds := by
            rw [← plnW_ok (ι := ι) hds, List.map_map, List.map_map]; rfl
          have e' : (kvs.map fun kv => (kv.1, rnW ι kv.2)).map (·.1) = kvs.map (·.1) := by
            rw [List.map_map]; rfl
          show u D3 (setE (rnE ι en) i (.dK ((kvs.map fun kv => (kv.1, rnW ι kv.2)).map (·.1)) ((kvs.map fun kv => (kv.1, rnW ι kv.2)).map (·.2)))) (Z.er M (ι a))
          rw [e, e']
          refine key a _ (.dK (kvs.map (·.1)) ds) ha g ?_
          rw [ha]; dsimp only; rw [g]; dsimp only; rw [hds]
        · cases hz
      · rename_i kvs g
        split at hz
        · rename_i ds hds
          rw [show M (ι a) = some (.dT (kvs.map fun kv => (kv.1, rnW ι kv.2))) from em.at' a _ g]
          have e : (kvs.map fun kv => (kv.1, rnW ι kv.2)).map (·.2) = ds := by
            rw [← plnW_ok (ι := ι) hds, List.map_map, List.map_map]; rfl
          have e' : (kvs.map fun kv => (kv.1, rnW ι kv.2)).map (·.1) = kvs.map (·.1) := by
            rw [List.map_map]; rfl
          show u D3 (setE (rnE ι en) i (.dT ((kvs.map fun kv => (kv.1, rnW ι kv.2)).map (·.1)) ((kvs.map fun kv => (kv.1, rnW ι kv.2)).map (·.2)))) (Z.er M (ι a))
          rw [e, e']
          refine key a _ (.dT (kvs.map (·.1)) ds) ha g ?_
          rw [ha]; dsimp only; rw [g]; dsimp only; rw [hds]
        · cases hz
      · cases hz
    · cases hz
  · exact h.elim
end
end Z

/-! V8: the reading by functions is sound, whole; THE END. -/
namespace Z
open PySem PySem.Spec PyProof.Rows L2
def gtOf (G : GV) : GT := ⟨G.fns.map fun e => (e.1, e.2.1, spV e.2.2), G.cst, G.bn, G.er⟩
theorem nth_map {α β : Type} (f : α → β) : ∀ (l : List α) (j : Nat), nth (l.map f) j = (nth l j).map f
  | [], _ => rfl
  | _ :: _, 0 => rfl
  | _ :: r, n + 1 => nth_map f r n
section
variable {G : GV} {E : X3}
theorem sd_callG {tl : TL3} {fl : WF (List W)} {j : Nat} (hl : SndL E tl fl) : SndE E (callG (gtOf G) j E tl) (fun en S => callV G j (fl en S)) := by
  unfold callG callV
  rw [show (gtOf G).fns = G.fns.map fun e => (e.1, e.2.1, spV e.2.2) from rfl, nth_map]
  cases q : nth G.fns j with
  | none => exact fun en S ι M Q we em h => h
  | some e =>
    obtain ⟨x, n, F⟩ := e
    exact sd_call hl
theorem sd_cst {j : Nat} : SndE E (cstG (gtOf G) j) (fun _ S => cstV G j S) := by
  unfold cstG cstV
  show SndE E (match nth G.cst j with | some (_, d) => con3 d | none => fun _ _ _ => False) _
  cases q : nth G.cst j with
  | none => exact fun en S ι M Q we em h => h
  | some e => exact sd_con e.2
theorem sd_no {t : T3} : SndE E t (fun _ _ => .no) := fun en S ι M Q we em h => h.elim
theorem sd_noT {t : TB3} : SndT E t (fun _ _ => .no) := fun en S ι M Q we em h => h.elim
theorem o1_fmt : Op1 fmt3 (fun S x => rd1 S x vfmt) := by
  intro S ι M x r Q em h q
  obtain ⟨d, hx, hf⟩ := rd1_some h
  unfold vfmt at hf
  split at hf
  · rw [rdW_v hx (fun _ z => by cases z)]
    split at hf
    · rename_i hl
      cases hf; exact ⟨hl, q⟩
    · cases hf
  · rw [rdW_v hx (fun _ z => by cases z)]
    split at hf
    · rename_i hl
      cases hf; exact ⟨hl, q⟩
    · cases hf
  · cases hf
def SndJ (E : X3) (ts : List T3) (acc : Str) (f : WF W) : Prop := ∀ en S ι M (Q : Q3), wfE S.length en → Emb ι S M → Post ι S M E (f en S) (fun w ι' S' M' => wfW S'.length w → Q (rnW ι' w) M') → jsW ts acc (rnE ι en) M (fun out M1 => Q (.str out) M1)
theorem js_step {t : T3} {ts : List T3} {acc : Str} {f : WF W} {g : Str → WF W} (h1 : SndE E t f) (h2 : ∀ a, SndJ E ts a (g a)) : SndJ E (t :: ts) acc (fun en S => (f en S).bind fun x S1 => jsV acc x fun a => g a en S1) := by
  intro en S ι M Q we em h
  refine h1 en S ι M _ we em ((Post.bind h).imp fun x ι1 S1 M1 x1 h3 wx => ?_)
  obtain ⟨we1, e1⟩ := wf_ext x1 we
  rw [e1]
  unfold jsV at h3
  split at h3
  · split at h3
    · rename_i hl
      exact ⟨hl, h2 _ en S1 ι1 M1 Q we1 x1.emb h3⟩
    · exact h3.elim
  · exact h3.elim
mutual
theorem sndE (G : GV) (E : X3) : ∀ e : Ex, SndE E (wpe (gtOf G) e E) (evE G e)
  | .loc i => sd_loc i
  | .non => sd_con .non
  | .bl b => sd_con (.bl b)
  | .int i => sd_con (.int i)
  | .str x => sd_con (.str x)
  | .glo j => sd_cst
  | .bin o a b => sd_bin (os_bin o) (sndE G E a) (sndE G E b)
  | .srt2 a => sd_un o1_srt2 (sndE G E a)
  | .addM a b => sd_addM (sndE G E a) (sndE G E b)
  | .neg a => sd_un o1_neg (sndE G E a)
  | .cmp o a b => sd_bin (os_cmp o) (sndE G E a) (sndE G E b)
  | .chn o o' a b c => sd_chain (os_cmp o) (os_cmp o') (sndE G E a) (sndE G E b) (sndE G E c)
  | .bol k es => sndV G E k es
  | .nt a => sd_not (sndE G E a)
  | .ite c a b => sd_ite (sndT G E c) (sndE G E a) (sndE G E b)
  | .tup es => sd_tup (sndL G E es)
  | .tupF es => sd_tupF (sndL G E es)
  | .lst m es => match m with
    | true => sd_lstM (sndL G E es)
    | false => sd_lst (sndL G E es)
  | .idx a b => sd_binW ow_ix (sndE G E a) (sndE G E b)
  | .sli a lo hi => sd_sl (sndE G E a) (sndO G E lo) (sndO G E hi)
  | .rev a => sd_un o1_rev (sndE G E a)
  | .call j e es => sd_callG (sd_cons (sndE G E e) (sndL G E es))
  | .blt b e es => (sd_blt (b := b) (sd_cons (sndE G E e) (sndL G E es))).congr fun en S => by
    show Rs.bind (Rs.bind _ _) _ = _
    first | (simp only [bind_assoc, Rs.bind_ok]; done) | (simp only [bind_assoc, Rs.bind_ok]; rfl)
  | .isi T e => sd_un (o1_isi T) (sndE G E e)
  | .mth m o e es => (sd_mth (m := m) (sndE G E o) (sd_cons (sndE G E e) (sndL G E es))).congr fun en S => by
    first | (simp only [bind_assoc, Rs.bind_ok]; done) | (simp only [bind_assoc, Rs.bind_ok]; rfl)
  | .comp m elt tg ik its ifs own => sd_comp (sndL G E its) (sndC G noX ifs) (sndE G noX elt)
  | .newK m => sd_newK m
  | .newT => sd_newT
  | .dis m kvs => sd_dis (sndP G E kvs)
  | .fmt e => sd_un o1_fmt (sndE G E e)
  | .js e e2 es => by
    intro en S ι M Q we em h
    show jsW (wpe (gtOf G) e E :: wpe (gtOf G) e2 E :: wpj (gtOf G) es E) Str.empty (rnE ι en) M (fun out M1 => Q (.str out) M1)
    refine js_step (sndE G E e) (fun a1 => js_step (sndE G E e2) (fun a2 => sndJ G E es a2)) en S ι M Q we em ?_
    exact h
theorem sndT (G : GV) (E : X3) : ∀ e : Ex, SndT E (wpt (gtOf G) e E) (evT G e)
  | .cmp o a b => sd_tcmp (os_cmp o) (sndE G E a) (sndE G E b)
  | .chn o o' a b c => sd_tchain (os_cmp o) (os_cmp o') (sndE G E a) (sndE G E b) (sndE G E c)
  | .bol k es => sndB G E k es
  | .nt a => sd_tnot (sndT G E a)
  | .loc i => sd_tru (sd_loc i)
  | .non => sd_tru (sd_con .non)
  | .bl b => sd_tru (sd_con (.bl b))
  | .int i => sd_tru (sd_con (.int i))
  | .str x => sd_tru (sd_con (.str x))
  | .idx a b => sd_tru (sd_binW ow_ix (sndE G E a) (sndE G E b))
  | .call j e es => sd_tru (sd_callG (sd_cons (sndE G E e) (sndL G E es)))
  | .blt b e es => sd_tru ((sd_blt (b := b) (sd_cons (sndE G E e) (sndL G E es))).congr fun en S => by
    show Rs.bind (Rs.bind _ _) _ = _
    simp only [bind_assoc, Rs.bind_ok])
  | .isi T e => sd_tru (sd_un (o1_isi T) (sndE G E e))
  | .mth m o e es => sd_tru ((sd_mth (m := m) (sndE G E o) (sd_cons (sndE G E e) (sndL G E es))).congr fun en S => by
    first | (simp only [bind_assoc, Rs.bind_ok]; done) | (simp only [bind_assoc, Rs.bind_ok]; rfl))
  | .glo _ => sd_noT
  | .bin _ _ _ => sd_noT
  | .addM _ _ => sd_noT
  | .srt2 _ => sd_noT
  | .neg _ => sd_noT
  | .ite _ _ _ => sd_noT
  | .tup _ => sd_noT
  | .tupF _ => sd_noT
  | .lst _ _ => sd_noT
  | .sli _ _ _ => sd_noT
  | .rev _ => sd_noT
  | .comp _ _ _ _ _ _ _ => sd_noT
  | .newK _ => sd_noT
  | .newT => sd_noT
  | .dis _ _ => sd_noT
  | .fmt _ => sd_noT
  | .js _ _ _ => sd_noT
theorem sndL (G : GV) (E : X3) : ∀ es : List Ex, SndL E (wpl (gtOf G) es E) (evL G es)
  | [] => sd_nil
  | e :: es => sd_cons (sndE G E e) (sndL G E es)
theorem sndV (G : GV) (E : X3) : ∀ (k : Bool) (es : List Ex), SndE E (wpv (gtOf G) k es E) (evV G k es)
  | true, [] => sd_no
  | false, [] => sd_no
  | true, [e] => sndE G E e
  | false, [e] => sndE G E e
  | true, e :: e' :: es => sd_andV (sndE G E e) (sndV G E true (e' :: es))
  | false, e :: e' :: es => sd_orV (sndE G E e) (sndV G E false (e' :: es))
theorem sndB (G : GV) (E : X3) : ∀ (k : Bool) (es : List Ex), SndT E (wpb (gtOf G) k es E) (evB G k es)
  | true, [] => sd_noT
  | false, [] => sd_noT
  | true, [e] => sndT G E e
  | false, [e] => sndT G E e
  | true, e :: e' :: es => sd_and (sndT G E e) (sndB G E true (e' :: es))
  | false, e :: e' :: es => sd_or (sndT G E e) (sndB G E false (e' :: es))
theorem sndO (G : GV) (E : X3) : ∀ es : List Ex, SndO E (wpo (gtOf G) es E) (evO G es)
  | [] => sd_noP
  | e :: _ => sd_part (sndE G E e)
theorem sndC (G : GV) (E : X3) : ∀ es : List Ex, SndT E (wpc (gtOf G) es E) (evC G es)
  | [] => fun en S ι M Q we em h => Post.now em h
  | e :: _ => sndT G E e
theorem sndJ (G : GV) (E : X3) : ∀ (es : List Ex) (acc : Str), SndJ E (wpj (gtOf G) es E) acc (evJ G es acc)
  | [], acc => fun en S ι M Q we em h => Post.now em h trivial
  | e :: es, acc => js_step (sndE G E e) fun a => sndJ G E es a
theorem sndP (G : GV) (E : X3) : ∀ es : List Ex, SndP E (wpp (gtOf G) es E) (evP G es)
  | [] => sd_pnil
  | [_] => sd_pnil
  | k :: v :: r => sd_pcons (sndE G E k) (sndE G E v) (sndP G E r)
end
mutual
theorem sndS (G : GV) (E : X3) : ∀ s : Sx, (∀ i, s ≠ .fz i) → SndS E (wps (gtOf G) E s) (evS G s)
  | .asg tg e, _ => ss_asg (sndE G E e)
  | .par i j a b, _ => ss_par (sndE G E a) (sndE G E b)
  | .sput o i e, _ => ss_sput (sndE G E o) (sndE G E i) (sndE G E e)
  | .aug i k e, _ => match k with
    | true => ss_aug iadd_ok (sndE G E e)
    | false => ss_aug isub_ok (sndE G E e)
  | .expr e, _ => ss_drop (sndE G E e)
  | .ret e, _ => ss_ret (sndE G E e)
  | .retN, _ => ss_retN
  | .ifs c a b, _ => ss_if (sndT G E c) (sndSs G E a) (sndSs G E b)
  | .fors tg ik its body, _ => ss_for (sndL G E its) (sndSs G E body)
  | .whl c body, _ => ss_while (sndT G E c) (sndSs G E body)
  | .brk, _ => ss_brk
  | .cnt, _ => ss_cnt
  | .pss, _ => ss_next
  | .fz i, h => absurd rfl (h i)
  | .rse e, _ => fun D3 en S ι M we em h => (sndE G E e) en S ι M _ we em ((Post.bind h).imp fun w ι1 S1 M1 x1 h1 ww => by
      cases w with
      | r i => exact h1.elim
      | v d => exact h1 ι1 M1 (Ext.refl x1.emb))
  | .rseN, _ => fun D3 en S ι M we em h => h.elim
  | .tryR body k i, _ => fun D3 en S ι M we em h => by
      refine (sndSs G (excR D3 k) body) D3 en S ι M we em ?_
      have h : Post ι S M E (catchV k (evSs G body en S)) (fun o ι' S' M' => wfC S'.length o → oQ D3 ι' o M') := h
      cases hr : evSs G body en S with
      | no => rw [hr] at h; exact h
      | ok o S1 => rw [hr] at h; exact h
      | ex x S1 =>
        rw [hr] at h
        unfold catchV at h
        dsimp only at h
        split at h
        · rename_i a ha
          split at h
          · rename_i hc
            exact fun ι' M' xx => ⟨hc, a, ha, h ι' M' xx trivial⟩
          · exact h.elim
        · exact h.elim
theorem sndSs (G : GV) (E : X3) : ∀ l : List Sx, SndS E (wpss (gtOf G) E l) (evSs G l)
  | [] => ss_next
  | .fz i :: r => ss_fz (sndSs G E r)
  | .asg tg e :: r => ss_seq (t := wps (gtOf G) E (.asg tg e)) (u := wpss (gtOf G) E r) (f := evS G (.asg tg e)) (g := evSs G r) (sndS G E (.asg tg e) (fun _ => nofun)) (sndSs G E r)
  | .par i j a b :: r => ss_seq (t := wps (gtOf G) E (.par i j a b)) (u := wpss (gtOf G) E r) (f := evS G (.par i j a b)) (g := evSs G r) (sndS G E (.par i j a b) (fun _ => nofun)) (sndSs G E r)
  | .sput o i e :: r => ss_seq (t := wps (gtOf G) E (.sput o i e)) (u := wpss (gtOf G) E r) (f := evS G (.sput o i e)) (g := evSs G r) (sndS G E (.sput o i e) (fun _ => nofun)) (sndSs G E r)
  | .aug i k e :: r => ss_seq (t := wps (gtOf G) E (.aug i k e)) (u := wpss (gtOf G) E r) (f := evS G (.aug i k e)) (g := evSs G r) (sndS G E (.aug i k e) (fun _ => nofun)) (sndSs G E r)
  | .expr e :: r => ss_seq (t := wps (gtOf G) E (.expr e)) (u := wpss (gtOf G) E r) (f := evS G (.expr e)) (g := evSs G r) (sndS G E (.expr e) (fun _ => nofun)) (sndSs G E r)
  | .ret e :: r => ss_seq (t := wps (gtOf G) E (.ret e)) (u := wpss (gtOf G) E r) (f := evS G (.ret e)) (g := evSs G r) (sndS G E (.ret e) (fun _ => nofun)) (sndSs G E r)
  | .retN :: r => ss_seq (t := wps (gtOf G) E .retN) (u := wpss (gtOf G) E r) (f := evS G .retN) (g := evSs G r) (sndS G E .retN (fun _ => nofun)) (sndSs G E r)
  | .ifs c a b :: r => ss_seq (t := wps (gtOf G) E (.ifs c a b)) (u := wpss (gtOf G) E r) (f := evS G (.ifs c a b)) (g := evSs G r) (sndS G E (.ifs c a b) (fun _ => nofun)) (sndSs G E r)
  | .fors tg ik its body :: r => ss_seq (t := wps (gtOf G) E (.fors tg ik its body)) (u := wpss (gtOf G) E r) (f := evS G (.fors tg ik its body)) (g := evSs G r) (sndS G E (.fors tg ik its body) (fun _ => nofun)) (sndSs G E r)
  | .whl c body :: r => ss_seq (t := wps (gtOf G) E (.whl c body)) (u := wpss (gtOf G) E r) (f := evS G (.whl c body)) (g := evSs G r) (sndS G E (.whl c body) (fun _ => nofun)) (sndSs G E r)
  | .brk :: r => ss_seq (t := wps (gtOf G) E .brk) (u := wpss (gtOf G) E r) (f := evS G .brk) (g := evSs G r) (sndS G E .brk (fun _ => nofun)) (sndSs G E r)
  | .cnt :: r => ss_seq (t := wps (gtOf G) E .cnt) (u := wpss (gtOf G) E r) (f := evS G .cnt) (g := evSs G r) (sndS G E .cnt (fun _ => nofun)) (sndSs G E r)
  | .rse e :: r => ss_seq (t := wps (gtOf G) E (.rse e)) (u := wpss (gtOf G) E r) (f := evS G (.rse e)) (g := evSs G r) (sndS G E (.rse e) (fun _ => nofun)) (sndSs G E r)
  | .rseN :: r => ss_seq (t := wps (gtOf G) E .rseN) (u := wpss (gtOf G) E r) (f := evS G .rseN) (g := evSs G r) (sndS G E .rseN (fun _ => nofun)) (sndSs G E r)
  | .tryR b k i :: r => ss_seq (t := wps (gtOf G) E (.tryR b k i)) (u := wpss (gtOf G) E r) (f := evS G (.tryR b k i)) (g := evSs G r) (sndS G E (.tryR b k i) (fun _ => nofun)) (sndSs G E r)
  | .pss :: r => ss_seq (t := wps (gtOf G) E .pss) (u := wpss (gtOf G) E r) (f := evS G .pss) (g := evSs G r) (sndS G E .pss (fun _ => nofun)) (sndSs G E r)
end
theorem start_rn {ι : Nm} {n : Nat} {ws : List W} : startE n (ws.map (rnW ι)) = rnE ι (startV n ws) := by
  unfold startE startV rnE
  rw [List.map_append, List.map_map, List.map_map, List.map_replicate, List.length_map]
  rfl
theorem start_wf {n m : Nat} {ws : List W} (h : wfL m ws) : wfE m (startV n ws) := by
  intro w hw
  unfold startV at hw
  rcases List.mem_append.mp hw with q | q
  · obtain ⟨u, h1, h2⟩ := List.mem_map.mp q
    cases h2; exact h w h1
  · have := List.eq_of_mem_replicate q
    cases this
/-- a def keeps the promise of its function -/
theorem pV (G : GV) (n : Nat) (B : List Sx) (ds : List D) (M : MH) (Q : Q3) (E : X3) (h : spV (runV G n B) ds M Q E) : wpss (gtOf G) E B (bodyEnds Q) (startE n ds) M := by
  obtain ⟨ws, S, ι, rfl, wws, em, h⟩ := h
  rw [start_rn]
  refine sndSs G E B (bodyEnds Q) _ S ι M (start_wf wws) em ?_
  refine (Post.bind h).imp fun o ι1 S1 M1 x1 h1 wo => ?_
  cases o with
  | nx e => exact ⟨M1, Sub.refl _, Post.now x1.emb h1 trivial⟩
  | rt w => exact ⟨M1, Sub.refl _, Post.now x1.emb h1 wo⟩
  | bk e => exact h1.elim
  | ct e => exact h1.elim
theorem emb0 : Emb (fun _ => 0) [] M00 := ⟨(fun i o h => nomatch h), (fun i j o u h => nomatch h), (fun i o h => nomatch h)⟩
/-- THE END: the law answers True -/
theorem lawV {F : List W → Sto → Rs W} {ns : List Int} {S' : Sto} (h : F [.v (.flst (ns.map D.int))] [] = .ok (.v (.bl true)) S') : spV F [.flst (ns.map D.int)] M00 (fun v _ => v = .bl true) noX := by
  refine ⟨[.v (.flst (ns.map D.int))], [], fun _ => 0, rfl, fun w hw => ?_, emb0, ?_⟩
  · have := List.mem_singleton.mp hw
    subst this; trivial
  · unfold PW
    rw [h]
    exact fun ι' M' x _ => rfl
end
end Z

set_option autoImplicit true
/-! V9: the reading's equations, for simp. -/
namespace Z
open PySem PySem.Spec PyProof.Rows L2
@[simp] theorem evE_1 : evE G (.loc i) en S = lft S (getV en i) := by rfl
@[simp] theorem evE_2 : evE G .non z1 S = .ok (.v .non) S := by rfl
@[simp] theorem evE_3 : evE G (.bl b) z1 S = .ok (.v (.bl b)) S := by rfl
@[simp] theorem evE_4 : evE G (.int i) z1 S = .ok (.v (.int i)) S := by rfl
@[simp] theorem evE_5 : evE G (.str x) z1 S = .ok (.v (.str x)) S := by rfl
@[simp] theorem evE_6 : evE G (.glo j) z1 S = cstV G j S := by rfl
@[simp] theorem evE_7 : evE G (.bin o a b) en S = (evE G a en S).bind fun x S1 => (evE G b en S1).bind fun y S2 => lfv S2 (rd2 S2 x y o.vo) := by rfl
@[simp] theorem evE_8 : evE G (.neg a) en S = (evE G a en S).bind fun x S1 => lfv S1 (rd1 S1 x vneg) := by rfl
@[simp] theorem evE_9 : evE G (.cmp o a b) en S = (evE G a en S).bind fun x S1 => (evE G b en S1).bind fun y S2 => lfv S2 (o.vo S2 x y) := by rfl
@[simp] theorem evE_10 : evE G (.chn o o' a b c) en S = (evE G a en S).bind fun x S1 => (evE G b en S1).bind fun y S2 => match o.vo S2 x y with
    | some (.bl true) => (evE G c en S2).bind fun z S3 => lfv S3 (o'.vo S3 y z)
    | some (.bl false) => .ok (.v (.bl false)) S2
    | _ => .no := by rfl
@[simp] theorem evE_11 : evE G (.bol k es) en S = evV G k es en S := by rfl
@[simp] theorem evE_12 : evE G (.nt a) en S = (evE G a en S).bind fun x S1 => lfv S1 (blO ((blW x).map not)) := by rfl
@[simp] theorem evE_13 : evE G (.ite c a b) en S = (evT G c en S).bind fun k S1 => match k with | true => evE G a en S1 | false => evE G b en S1 := by rfl
@[simp] theorem evE_14 : evE G (.tup es) en S = (evL G es en S).bind fun ws S1 => match plnW ws with
    | some ds => if ds.length ≤ sizeLine then .ok (.v (.tup ds)) S1 else .no
    | none => .no := by rfl
@[simp] theorem evE_14f : evE G (.tupF es) en S = (evL G es en S).bind fun ws S1 => match plnW ws with
    | some ds => if ds.length ≤ sizeLine then .ok (.v (.tp .k ds)) S1 else .no
    | none => .no := by rfl
@[simp] theorem evE_15 : evE G (.lst m es) en S = (evL G es en S).bind fun ws S1 => match plnW ws with
    | some ds => if ds.length ≤ sizeLine then (match m with | true => newW S1 (.lst ds) | false => .ok (.v (.lst ds)) S1) else .no
    | none => .no := by rfl
@[simp] theorem evE_16 : evE G (.idx a b) en S = (evE G a en S).bind fun x S1 => (evE G b en S1).bind fun y S2 => lft S2 (ixW S2 x y) := by rfl
@[simp] theorem evE_17 : evE G (.sli a lo0 hi0) en S = (evE G a en S).bind fun x S1 => (evO G lo0 en S1).bind fun l S2 => (evO G hi0 en S2).bind fun h S3 => lfv S3 (rd1 S3 x fun d => vsl d l h) := by rfl
@[simp] theorem evE_18 : evE G (.rev a) en S = (evE G a en S).bind fun x S1 => lfv S1 (rd1 S1 x vrev) := by rfl
@[simp] theorem evE_19 : evE G (.call j e es) en S = callV G j ((evE G e en S).bind fun x S1 => (evL G es en S1).bind fun xs S2 => .ok (x :: xs) S2) := by rfl
@[simp] theorem evE_20 : evE G (.blt b e es) en S = (evE G e en S).bind fun x S1 => (evL G es en S1).bind fun xs S2 => b.wo S2 (x :: xs) := by rfl
@[simp] theorem evE_21 : evE G (.isi T e) en S = (evE G e en S).bind fun x S1 => lfv S1 (rd1 S1 x fun d => blO (isTy M00 d T)) := by rfl
@[simp] theorem evE_22 : evE G (.mth m o e es) en S = (evE G o en S).bind fun x S1 => match tyW m S1 x with
    | true => (evE G e en S1).bind fun y S2 => (evL G es en S2).bind fun ys S3 => m.wo S3 x (y :: ys)
    | false => .no := by rfl
@[simp] theorem evE_23 : evE G (.comp m elt tg ik its ifs own) en S = (evL G its en S).bind fun ws S1 => match itW ik ws with
    | some items => compR m (calm (compV tg (evC G ifs) (evE G elt) (wipeV en (own.map (·.2))) items S1))
    | none => .no := by rfl
@[simp] theorem evE_24 : evE G (.newK m) z1 S = match m with | true => newW S (.dK []) | false => .ok (.v (.dK [] [])) S := by rfl
@[simp] theorem evE_25 : evE G .newT z1 S = newW S (.dT []) := by rfl
@[simp] theorem evE_26 : evE G (.dis m kvs) en S = (calm (evP G kvs en S)).bind fun ps S1 => disW m S1 ps := by rfl
@[simp] theorem evE_27 : evE G (.fmt e) en S = (evE G e en S).bind fun x S1 => lfv S1 (rd1 S1 x vfmt) := by rfl
@[simp] theorem evE_28 : evE G (.js e e2 es) en S = (evE G e en S).bind fun x S1 => jsV Str.empty x fun a1 => (evE G e2 en S1).bind fun y S2 => jsV a1 y fun a2 => evJ G es a2 en S2 := by rfl
@[simp] theorem evT_1 : evT G (.cmp o a b) en S = (evE G a en S).bind fun x S1 => (evE G b en S1).bind fun y S2 => lft S2 (match o.vo S2 x y with | some (.bl b) => some b | _ => none) := by rfl
@[simp] theorem evT_2 : evT G (.chn o o' a b c) en S = (evE G a en S).bind fun x S1 => (evE G b en S1).bind fun y S2 => match o.vo S2 x y with
    | some (.bl true) => (evE G c en S2).bind fun z S3 => lft S3 (match o'.vo S3 y z with | some (.bl b) => some b | _ => none)
    | some (.bl false) => .ok false S2
    | _ => .no := by rfl
@[simp] theorem evT_3 : evT G (.bol k es) en S = evB G k es en S := by rfl
@[simp] theorem evT_4 : evT G (.nt a) en S = (evT G a en S).bind fun b S1 => .ok (!b) S1 := by rfl
@[simp] theorem evT_5 : evT G (.loc i) en S = truV (lft S (getV en i)) := by rfl
@[simp] theorem evT_6 : evT G .non z1 S = .ok false S := by rfl
@[simp] theorem evT_7 : evT G (.bl b) z1 S = .ok b S := by rfl
@[simp] theorem evT_8 : evT G (.int i) z1 S = .ok (i != 0) S := by rfl
@[simp] theorem evT_9 : evT G (.str x) z1 S = truV (.ok (.v (.str x)) S) := by rfl
@[simp] theorem evT_10 : evT G (.idx a b) en S = truV ((evE G a en S).bind fun x S1 => (evE G b en S1).bind fun y S2 => lft S2 (ixW S2 x y)) := by rfl
@[simp] theorem evT_11 : evT G (.call j e es) en S = truV (callV G j ((evE G e en S).bind fun x S1 => (evL G es en S1).bind fun xs S2 => .ok (x :: xs) S2)) := by rfl
@[simp] theorem evT_12 : evT G (.blt b e es) en S = truV ((evE G e en S).bind fun x S1 => (evL G es en S1).bind fun xs S2 => b.wo S2 (x :: xs)) := by rfl
@[simp] theorem evT_13 : evT G (.isi T e) en S = truV ((evE G e en S).bind fun x S1 => lfv S1 (rd1 S1 x fun d => blO (isTy M00 d T))) := by rfl
@[simp] theorem evT_14 : evT G (.mth m o e es) en S = truV ((evE G o en S).bind fun x S1 => match tyW m S1 x with
    | true => (evE G e en S1).bind fun y S2 => (evL G es en S2).bind fun ys S3 => m.wo S3 x (y :: ys)
    | false => .no) := by rfl
@[simp] theorem evL_1 : evL G [] z1 S = .ok [] S := by rfl
@[simp] theorem evL_2 : evL G (e :: es) en S = (evE G e en S).bind fun x S1 => (evL G es en S1).bind fun xs S2 => .ok (x :: xs) S2 := by rfl
@[simp] theorem evV_1 : evV G z1 [] z2 z3 = .no := by rfl
@[simp] theorem evV_2 : evV G z1 [e] en S = evE G e en S := by rfl
@[simp] theorem evV_3 : evV G true (e :: e' :: es) en S = (evE G e en S).bind fun x S1 => match blW x with | some true => evV G true (e' :: es) en S1 | some false => .ok (.v (.bl false)) S1 | none => .no := by rfl
@[simp] theorem evV_4 : evV G false (e :: e' :: es) en S = (evE G e en S).bind fun x S1 => match blW x with | some true => .ok (.v (.bl true)) S1 | some false => evV G false (e' :: es) en S1 | none => .no := by rfl
@[simp] theorem evB_1 : evB G z1 [] z2 z3 = .no := by rfl
@[simp] theorem evB_2 : evB G z1 [e] en S = evT G e en S := by rfl
@[simp] theorem evB_3 : evB G true (e :: e' :: es) en S = (evT G e en S).bind fun b S1 => match b with | true => evB G true (e' :: es) en S1 | false => .ok false S1 := by rfl
@[simp] theorem evB_4 : evB G false (e :: e' :: es) en S = (evT G e en S).bind fun b S1 => match b with | true => .ok true S1 | false => evB G false (e' :: es) en S1 := by rfl
@[simp] theorem evO_1 : evO G [] z1 S = .ok none S := by rfl
@[simp] theorem evO_2 : evO G (e :: z1) en S = (evE G e en S).bind fun x S1 => match x with | .v (.int i) => .ok (some i) S1 | _ => .no := by rfl
@[simp] theorem evC_1 : evC G [] z1 S = .ok true S := by rfl
@[simp] theorem evC_2 : evC G (e :: z1) en S = evT G e en S := by rfl
@[simp] theorem evJ_1 : evJ G [] acc z1 S = .ok (.v (.str acc)) S := by rfl
@[simp] theorem evJ_2 : evJ G (e :: es) acc en S = (evE G e en S).bind fun x S1 => jsV acc x fun a => evJ G es a en S1 := by rfl
@[simp] theorem evP_1 : evP G (k :: v :: r) en S = (evE G k en S).bind fun x S1 => (evE G v en S1).bind fun y S2 => (evP G r en S2).bind fun ps S3 => .ok ((x, y) :: ps) S3 := by rfl
@[simp] theorem evP_2 : evP G [] en S = .ok [] S := by rfl
@[simp] theorem evS_1 : evS G (.asg tg e) en S = (evE G e en S).bind fun w S1 => match bindV tg w en with | some e' => .ok (.nx e') S1 | none => .no := by rfl
@[simp] theorem evS_2 : evS G (.par i j a b) en S = (evE G a en S).bind fun x S1 => (evE G b en S1).bind fun y S2 => .ok (.nx (setV2 (setV2 en i x) j y)) S2 := by rfl
@[simp] theorem evS_3 : evS G (.sput o i e) en S = (evE G e en S).bind fun v S1 => (evE G o en S1).bind fun x S2 => (evE G i en S2).bind fun k S3 => match putW S3 x k v with | some S4 => .ok (.nx en) S4 | none => .no := by rfl
@[simp] theorem evS_4 : evS G (.aug i k e) en S = match getV en i with
    | some d => (evE G e en S).bind fun d2 S1 => match rd2 S1 d d2 (match k with | true => viadd | false => visub) with | some r => .ok (.nx (setV2 en i (.v r))) S1 | none => .no
    | none => .no := by rfl
@[simp] theorem evS_5 : evS G (.expr e) en S = (evE G e en S).bind fun _ S1 => .ok (.nx en) S1 := by rfl
@[simp] theorem evS_6 : evS G (.ret e) en S = (evE G e en S).bind fun w S1 => .ok (.rt w) S1 := by rfl
@[simp] theorem evS_7 : evS G .retN z1 S = .ok (.rt (.v .non)) S := by rfl
@[simp] theorem evS_8 : evS G (.ifs c a b) en S = (evT G c en S).bind fun k S1 => match k with | true => evSs G a en S1 | false => evSs G b en S1 := by rfl
@[simp] theorem evS_9 : evS G (.fors tg ik its body) en S = (evL G its en S).bind fun ws S1 => match itW ik ws with
    | some items => turnsV tg (evSs G body) items en S1
    | none => .no := by rfl
@[simp] theorem evS_10 : evS G (.whl c body) en S = whV (evT G c) (evSs G body) en S := by rfl
@[simp] theorem evS_11 : evS G .brk en S = .ok (.bk en) S := by rfl
@[simp] theorem evS_12 : evS G .cnt en S = .ok (.ct en) S := by rfl
@[simp] theorem evS_13 : evS G .pss en S = .ok (.nx en) S := by rfl
@[simp] theorem evS_14 : evS G (.fz i) en S = match fzV i en S with | some (e, S1) => .ok (.nx e) S1 | none => .no := by rfl
@[simp] theorem evS_15 : evS G (.rse e) en S = (evE G e en S).bind fun w S1 => match w with | .v d => .ex ⟨"InvalidLine", some d⟩ S1 | .r _ => .no := by rfl
@[simp] theorem evS_16 : evS G .rseN z1 z2 = .no := by rfl
@[simp] theorem evS_17 : evS G (.tryR body k z1) en S = catchV k (evSs G body en S) := by rfl
@[simp] theorem evSs_1 : evSs G [] en S = .ok (.nx en) S := by rfl
@[simp] theorem evSs_2 : evSs G (s :: r) en S = (evS G s en S).bind fun o S1 => match o with
    | .nx e => evSs G r e S1
    | o => .ok o S1 := by rfl

@[simp] theorem evE_7m : evE G (.addM a b) en S = (evE G a en S).bind fun x S1 => (evE G b en S1).bind fun y S2 => addMV S2 x y := by rfl
@[simp] theorem evE_7s : evE G (.srt2 a) en S = (evE G a en S).bind fun x S1 => lfv S1 (rd1 S1 x vsrt2) := by rfl
/-! readers at constructors -/
section
variable {S : Sto}
@[simp] theorem rdW_non : rdW S (.v .non) = some .non := rfl
@[simp] theorem rdW_bl {b : Bool} : rdW S (.v (.bl b)) = some (.bl b) := rfl
@[simp] theorem rdW_i {i : Int} : rdW S (.v (.int i)) = some (.int i) := rfl
@[simp] theorem rdW_str {x : Str} : rdW S (.v (.str x)) = some (.str x) := rfl
@[simp] theorem rdW_tp {k : TK} {ds : List D} : rdW S (.v (.tp k ds)) = some (.tp k ds) := rfl
@[simp] theorem rdW_lst {ds : List D} : rdW S (.v (.lst ds)) = some (.lst ds) := rfl
@[simp] theorem rdW_flst {ds : List D} : rdW S (.v (.flst ds)) = some (.flst ds) := rfl
theorem rdW_pl {d : D} (h : pln d = true) : rdW S (.v d) = some d := by cases d <;> first | rfl | (simp [pln] at h)
@[simp] theorem plW_non : plW (.v .non) = some .non := rfl
@[simp] theorem plW_bl {b : Bool} : plW (.v (.bl b)) = some (.bl b) := rfl
@[simp] theorem plW_int {i : Int} : plW (.v (.int i)) = some (.int i) := rfl
@[simp] theorem plW_str {x : Str} : plW (.v (.str x)) = some (.str x) := rfl
@[simp] theorem plW_tp {k : TK} {ds : List D} : plW (.v (.tp k ds)) = some (.tp k ds) := rfl
@[simp] theorem plW_lst {ds : List D} : plW (.v (.lst ds)) = some (.lst ds) := rfl
@[simp] theorem blW_bl {b : Bool} : blW (.v (.bl b)) = some b := rfl
@[simp] theorem sqW_tp {k : TK} {ds : List D} : sqW S (.v (.tp k ds)) = some ds := rfl
@[simp] theorem sqW_lst {ds : List D} : sqW S (.v (.lst ds)) = some ds := rfl
@[simp] theorem sqW_flst {ds : List D} : sqW S (.v (.flst ds)) = some ds := rfl
@[simp] theorem truW_non : truW S (.v .non) = some false := rfl
@[simp] theorem truW_bl {b : Bool} : truW S (.v (.bl b)) = some b := rfl
@[simp] theorem truW_int {i : Int} : truW S (.v (.int i)) = some (i != 0) := rfl
@[simp] theorem truW_tp {k : TK} {ds : List D} : truW S (.v (.tp k ds)) = some (!ds.isEmpty) := rfl
@[simp] theorem truW_lst {ds : List D} : truW S (.v (.lst ds)) = some (!ds.isEmpty) := rfl
@[simp] theorem nonW_non : nonW (.v .non) = true := rfl
@[simp] theorem nonW_int {i : Int} : nonW (.v (.int i)) = false := rfl
@[simp] theorem nonW_str {i : Str} : nonW (.v (.str i)) = false := rfl
@[simp] theorem nonW_bl {i : Bool} : nonW (.v (.bl i)) = false := rfl
@[simp] theorem nonW_tp {k : TK} {ds : List D} : nonW (.v (.tp k ds)) = false := rfl
@[simp] theorem nonW_lst {ds : List D} : nonW (.v (.lst ds)) = false := rfl
@[simp] theorem nonW_r {i : Nat} : nonW (.r i) = false := rfl
@[simp] theorem itW_tp {k : TK} {ds : List D} : itW .seq [.v (.tp k ds)] = some ds := rfl
@[simp] theorem itW_lst {ds : List D} : itW .seq [.v (.lst ds)] = some ds := rfl
@[simp] theorem itW_flst {ds : List D} : itW .seq [.v (.flst ds)] = some ds := rfl
@[simp] theorem plnW_nil : plnW [] = some [] := rfl
@[simp] theorem plnW_cons {d : D} {r : List W} : plnW (.v d :: r) = (match plnW r with | some ds => some (d :: ds) | none => none) := rfl
@[simp] theorem getV_0 {x : Option W} {r : WEn} : getV (x :: r) 0 = x := rfl
@[simp] theorem getV_s {x : Option W} {r : WEn} {n : Nat} : getV (x :: r) (n + 1) = getV r n := rfl
@[simp] theorem setV2_0 {x : Option W} {r : WEn} {d : W} : setV2 (x :: r) 0 d = some d :: r := rfl
@[simp] theorem setV2_s {x : Option W} {r : WEn} {n : Nat} {d : W} : setV2 (x :: r) (n + 1) d = x :: setV2 r n d := rfl
@[simp] theorem wipeV_nil {e : WEn} : wipeV e [] = e := rfl
@[simp] theorem wipeV_cons {e : WEn} {v : Nat} {vs : List Nat} : wipeV e (v :: vs) = wipeV1 (wipeV e vs) v := rfl
@[simp] theorem wipeV1_0 {x : Option W} {r : WEn} : wipeV1 (x :: r) 0 = none :: r := rfl
@[simp] theorem wipeV1_s {x : Option W} {r : WEn} {n : Nat} : wipeV1 (x :: r) (n + 1) = x :: wipeV1 r n := rfl
@[simp] theorem bindV_nm {i : Nat} {w : W} {e : WEn} : bindV (.nm i) w e = some (setV2 e i w) := rfl
@[simp] theorem bindV_tp {is : List Nat} {k : TK} {ds : List D} {e : WEn} : bindV (.tp is) (.v (.tp k ds)) e = setAllV e is ds := rfl
@[simp] theorem setAllV_nil {e : WEn} : setAllV e [] [] = some e := rfl
@[simp] theorem setAllV_cons {e : WEn} {i : Nat} {is : List Nat} {d : D} {ds : List D} : setAllV e (i :: is) (d :: ds) = setAllV (setV2 e i (.v d)) is ds := rfl
@[simp] theorem nth_0 {α : Type u} {x : α} {r : List α} : nth (x :: r) 0 = some x := rfl
@[simp] theorem nth_s {α : Type u} {x : α} {r : List α} {n : Nat} : nth (x :: r) (n + 1) = nth r n := rfl
@[simp] theorem out_nx {e : WEn} : Rs.out (.ok (.nx e) S) = .ok (.v .non) S := rfl
@[simp] theorem out_rt {w : W} : Rs.out (.ok (.rt w) S) = .ok w S := rfl
@[simp] theorem out_ex {x : Exc} : Rs.out (.ex x S) = .ex x S := rfl
@[simp] theorem rd1_some' {w : W} {f : D → Option D} {d : D} (h : rdW S w = some d) : rd1 S w f = f d := by unfold rd1; rw [h]
@[simp] theorem rd2_some' {x y : W} {f : D → D → Option D} {d e : D} (h : rdW S x = some d) (g : rdW S y = some e) : rd2 S x y f = f d e := by unfold rd2; rw [h, g]
@[simp] theorem blO_some {b : Bool} : blO (some b) = some (.bl b) := rfl
@[simp] theorem turnsV_nil {tg : Tg} {body : WF Oc} {en : WEn} : turnsV tg body [] en S = .ok (.nx en) S := rfl
@[simp] theorem compV_nil {tg : Tg} {tt : WF Bool} {te : WF W} {en : WEn} : compV tg tt te en [] S = .ok [] S := rfl
@[simp] theorem compR_ok {ys : List D} : compR false (.ok ys S) = .ok (.v (.lst ys)) S := rfl
@[simp] theorem compR_okM {ys : List D} : compR true (.ok ys S) = newW S (.lst ys) := rfl
@[simp] theorem truV_ok {w : W} : truV (.ok w S) = lft S (truW S w) := rfl
@[simp] theorem truV_ex {x : Exc} : truV (.ex x S) = .ex x S := rfl
theorem compV_fm {tg : Tg} {tt : WF Bool} {te : WF W} {en : WEn} (b : D → Bool) (f : D → D) : ∀ (items : List D), (∀ x ∈ items, ∃ e1, bindV tg (.v x) en = some e1 ∧ tt e1 S = .ok (b x) S ∧ (b x = true → te e1 S = .ok (.v (f x)) S)) → compV tg tt te en items S = .ok ((items.filter b).map f) S
  | [], _ => rfl
  | x :: r, h => by
    obtain ⟨e1, h1, h2, h3⟩ := h x (by simp)
    have ih := compV_fm (tg := tg) (tt := tt) (te := te) (en := en) b f r fun y hy => h y (List.mem_cons_of_mem _ hy)
    unfold compV
    rw [h1]
    simp only [h2, Rs.bind_ok]
    cases q : b x with
    | true => simp only [h3 q, Rs.bind_ok, ih, List.filter_cons_of_pos q, List.map_cons]
    | false => rw [List.filter_cons_of_neg (by rw [q]; simp)]; exact ih
theorem compV_map {tg : Tg} {tt : WF Bool} {te : WF W} {en : WEn} (f : D → D) (items : List D) (h : ∀ x ∈ items, ∃ e1, bindV tg (.v x) en = some e1 ∧ tt e1 S = .ok true S ∧ te e1 S = .ok (.v (f x)) S) : compV tg tt te en items S = .ok (items.map f) S := by
  have := compV_fm (S := S) (tg := tg) (tt := tt) (te := te) (en := en) (fun _ => true) f items fun x hx => by
    obtain ⟨e1, h1, h2, h3⟩ := h x hx
    exact ⟨e1, h1, h2, fun _ => h3⟩
  rw [this, List.filter_eq_self.mpr fun _ _ => rfl]
end
/-! a while, step by step -/
theorem whN_mono {c : WF Bool} {b : WF Oc} : ∀ (n : Nat) (en : WEn) (S : Sto), whN c b n en S ≠ .no → whN c b (n + 1) en S = whN c b n en S
  | 0, en, S, h => absurd rfl h
  | n + 1, en, S, h => by
    unfold whN at h
    conv => lhs; unfold whN
    conv => rhs; unfold whN
    cases hc : c en S with
    | no => rfl
    | ex x S1 => rfl
    | ok k S1 =>
      rw [hc] at h
      simp only [Rs.bind_ok] at h ⊢
      cases k with
      | false => rfl
      | true =>
        dsimp only at h ⊢
        cases hb : b en S1 with
        | no => rfl
        | ex x S2 => rfl
        | ok o S2 =>
          rw [hb] at h
          simp only [Rs.bind_ok] at h ⊢
          cases o with
          | nx e => exact whN_mono n e S2 h
          | ct e => exact whN_mono n e S2 h
          | bk e => rfl
          | rt w => rfl
theorem whN_le {c : WF Bool} {b : WF Oc} {n : Nat} {en : WEn} {S : Sto} (h : whN c b n en S ≠ .no) : ∀ m, n ≤ m → whN c b m en S = whN c b n en S
  | 0, l => by have : n = 0 := by omega
               subst this; rfl
  | m + 1, l => by
    by_cases e : n = m + 1
    · rw [e]
    · have := whN_le h m (by omega)
      rw [whN_mono m en S (by rw [this]; exact h), this]
theorem whV_of {c : WF Bool} {b : WF Oc} {n : Nat} {en : WEn} {S : Sto} (h : whN c b n en S ≠ .no) : whV c b en S = whN c b n en S := by
  have ex : ∃ n, whN c b n en S ≠ .no := ⟨n, h⟩
  unfold whV
  rw [dif_pos ex]
  have h2 := ex.choose_spec
  rcases Nat.le_total n ex.choose with l | l
  · exact whN_le h _ l
  · exact (whN_le h2 _ l).symm
/-- one turn of a while -/
theorem whV_step {c : WF Bool} {b : WF Oc} {en : WEn} {S : Sto} : whV c b en S = (c en S).bind fun k S1 => match k with
    | true => (b en S1).bind fun o S2 => match o with
      | .nx e => whV c b e S2
      | .ct e => whV c b e S2
      | .bk e => .ok (.nx e) S2
      | .rt w => .ok (.rt w) S2
    | false => .ok (.nx en) S1 := by
  have go : ∀ n e S2, whN c b n e S2 ≠ .no → whV c b e S2 = whN c b n e S2 := fun n e S2 h => whV_of h
  by_cases ex : ∃ n, whN c b n en S ≠ .no
  · obtain ⟨n, h⟩ := ex
    rw [whV_of h]
    cases n with
    | zero => exact absurd rfl h
    | succ n =>
      unfold whN at h ⊢
      cases hc : c en S with
      | no => rfl
      | ex x S1 => rfl
      | ok k S1 =>
        rw [hc] at h
        simp only [Rs.bind_ok] at h ⊢
        cases k with
        | false => rfl
        | true =>
          dsimp only at h ⊢
          cases hb : b en S1 with
          | no => rfl
          | ex x S2 => rfl
          | ok o S2 =>
            rw [hb] at h
            simp only [Rs.bind_ok] at h ⊢
            cases o with
            | nx e => exact (go n e S2 h).symm
            | ct e => exact (go n e S2 h).symm
            | bk e => rfl
            | rt w => rfl
  · have no : ∀ n, whN c b n en S = .no := fun n => Classical.byContradiction fun z => ex ⟨n, z⟩
    have e0 : whV c b en S = .no := by unfold whV; rw [dif_neg ex]
    rw [e0]
    have n1 := fun n => no (n + 1)
    cases hc : c en S with
    | no => rfl
    | ex x S1 =>
      have := n1 0
      unfold whN at this
      rw [hc] at this; cases this
    | ok k S1 =>
      simp only [Rs.bind_ok]
      cases k with
      | false =>
        have := n1 0
        unfold whN at this
        rw [hc] at this; cases this
      | true =>
        dsimp only
        cases hb : b en S1 with
        | no => rfl
        | ex x S2 =>
          have := n1 0
          unfold whN at this
          rw [hc] at this
          simp only [Rs.bind_ok, hb] at this
          cases this
        | ok o S2 =>
          simp only [Rs.bind_ok]
          have key : ∀ e, (∀ n, whN c b n e S2 = .no) → whV c b e S2 = .no := fun e hn => by
            unfold whV
            rw [dif_neg (fun ⟨n, z⟩ => z (hn n))]
          cases o with
          | nx e =>
            refine (key e fun n => ?_).symm
            have := n1 n
            unfold whN at this
            rw [hc] at this
            simpa only [Rs.bind_ok, hb] using this
          | ct e =>
            refine (key e fun n => ?_).symm
            have := n1 n
            unfold whN at this
            rw [hc] at this
            simpa only [Rs.bind_ok, hb] using this
          | bk e =>
            have := n1 0
            unfold whN at this
            rw [hc] at this
            simp only [Rs.bind_ok, hb] at this
            cases this
          | rt w =>
            have := n1 0
            unfold whN at this
            rw [hc] at this
            simp only [Rs.bind_ok, hb] at this
            cases this
/-- a tuple of texts of the written part -/
def toksOf : List D → List Value → Prop
  | [], us => us = []
  | d :: r, us => match d with
    | .str x => ∃ t us', us = .str x t :: us' ∧ toksOf r us'
    | .non => ∃ us', us = .none :: us' ∧ toksOf r us'
    | _ => False
theorem toksOf_len : ∀ {ds : List D} {us : List Value}, toksOf ds us → us.length = ds.length
  | [], us, h => by have h : us = [] := h; rw [h]; rfl
  | d :: r, us, h => by
    cases d with
    | str x =>
      obtain ⟨t, us', h1, h2⟩ := h
      rw [h1, List.length_cons, List.length_cons, toksOf_len h2]
    | non =>
      obtain ⟨us', h1, h2⟩ := h
      rw [h1, List.length_cons, List.length_cons, toksOf_len h2]
    | _ => exact h.elim
theorem toksOf_vals {K : PySem.W.Frag} {M : MH} {H : Hp} : ∀ {ds : List D} {us : List Value}, toksOf ds us → ∃ vs, Vals vs us ∧ RpL K M H ds vs
  | [], us, h => by
    have h : us = [] := h
    subst h
    exact ⟨[], .nil, rfl⟩
  | d :: r, us, h => by
    cases d with
    | str x =>
      obtain ⟨t, us', h1, h2⟩ := h
      subst h1
      obtain ⟨vs, g1, g2⟩ := toksOf_vals (K := K) (M := M) (H := H) h2
      exact ⟨.str x :: vs, .cons ⟨t, rfl⟩ g1, .str x, vs, rfl, rfl, g2⟩
    | non =>
      obtain ⟨us', h1, h2⟩ := h
      subst h1
      obtain ⟨vs, g1, g2⟩ := toksOf_vals (K := K) (M := M) (H := H) h2
      exact ⟨.non :: vs, .cons rfl g1, .non, vs, rfl, rfl, g2⟩
    | _ => exact h.elim
theorem DC.tup {K : PySem.W.Frag} {x : Str} {a : Addr} {od : Option Addr} {its : Array Value} {n : Nat} {sl : Array (Option Value)} {ds : List D} (h : PySem.W.nsIn K mainGlobals x = some (some (.ref a))) (l : K.lookup a = some ⟨.type "tuple", od, .seq its n, sl⟩) (r : toksOf ds its.toList) (hn : ds.length ≤ sizeLine := by decide) : DC K x (.tp .s ds) := by
  refine ⟨.ref a, .ref a, h, rfl, fun M H => ?_⟩
  obtain ⟨vs, g1, g2⟩ := toksOf_vals (K := K) (M := M) (H := H) r
  refine ⟨a, vs, rfl, ⟨_, its, n, l, rfl, rfl, ?_, g1⟩, g2⟩
  have := toksOf_len r
  rw [← Array.length_toList, this]; exact hn

end Z

/-! V10: texts, lines, methods at sight. -/
namespace Z
open PySem PySem.Spec PyProof.Rows L2
abbrev tl (x : Str) : List Nat := x.cps.toList
def lns (ws : List Str) : D := .lst (ws.map D.str)
/-! ### plain facts of texts -/
theorem eqvL_str : ∀ a b : List Str, eqvL (a.map D.str) (b.map D.str) = decide (a = b)
  | [], [] => rfl
  | [], _ :: _ => rfl
  | _ :: _, [] => rfl
  | x :: a, y :: b => by
    show (eqv (.str x) (.str y) && eqvL (a.map D.str) (b.map D.str)) = _
    rw [eqvL_str a b]
    show ((x == y) && _) = _
    by_cases h : x = y
    · subst h; simp
    · have : (x == y) = false := by simpa using h
      rw [this]; simp [h]
theorem layL_str (n : Nat) : ∀ a : List Str, (∀ x ∈ a, PyData.strOk x = true) → layL n (a.map D.str) = true
  | [], _ => by simp [layL]
  | x :: a, h => by
    rw [List.map_cons, layL, layL_str n a fun y hy => h y (List.mem_cons_of_mem _ hy)]
    simp [lay, h x (by simp)]
def okS (x : Str) : Prop := PyData.strOk x = true
theorem okS_of {x : Str} (h : ∀ c ∈ tl x, c < 128) : okS x := by
  show PyData.strOk x = true
  unfold PyData.strOk
  rw [← Array.all_toList, List.all_eq_true]
  intro c hc
  have := h c hc
  exact decide_eq_true (by omega)
theorem veq_lns {a b : List Str} (ha : ∀ x ∈ a, okS x) (hb : ∀ x ∈ b, okS x) : veq (lns a) (lns b) = some (.bl (decide (a = b))) := by
  unfold veq veqOk lns
  have h1 : lay 60 (D.lst (a.map D.str)) = true := layL_str 59 a ha
  have h2 : lay 60 (D.lst (b.map D.str)) = true := layL_str 59 b hb
  rw [h1, h2]
  simp only [Bool.and_self, Bool.or_true, if_true]
  show some (D.bl (eqvL _ _)) = _
  rw [eqvL_str]
theorem vne_lns {a b : List Str} (ha : ∀ x ∈ a, okS x) (hb : ∀ x ∈ b, okS x) : vne (lns a) (lns b) = some (.bl (!decide (a = b))) := by
  unfold vne veqOk lns
  have h1 : lay 60 (D.lst (a.map D.str)) = true := layL_str 59 a ha
  have h2 : lay 60 (D.lst (b.map D.str)) = true := layL_str 59 b hb
  rw [h1, h2]
  simp only [Bool.and_self, Bool.or_true, if_true]
  show some (D.bl (!eqvL _ _)) = _
  rw [eqvL_str]
@[simp] theorem veq_str {x y : Str} : veq (.str x) (.str y) = some (.bl (decide (x = y))) := by
  show some (D.bl (x == y)) = _
  congr 2
@[simp] theorem vne_str {x y : Str} : vne (.str x) (.str y) = some (.bl (!decide (x = y))) := by
  show some (D.bl (!(x == y))) = _
  congr 2
@[simp] theorem veq_int {x y : Int} : veq (.int x) (.int y) = some (.bl (decide (x = y))) := by
  show some (D.bl (x == y)) = _
  congr 2
@[simp] theorem vne_int {x y : Int} : vne (.int x) (.int y) = some (.bl (!decide (x = y))) := by
  show some (D.bl (!(x == y))) = _
  congr 2
@[simp] theorem vlt_int {x y : Int} : vlt (.int x) (.int y) = some (.bl (decide (x < y))) := rfl
@[simp] theorem vle_int {x y : Int} : vle (.int x) (.int y) = some (.bl (decide (x ≤ y))) := rfl
@[simp] theorem vgt_int {x y : Int} : vgt (.int x) (.int y) = some (.bl (decide (y < x))) := rfl
@[simp] theorem vge_int {x y : Int} : vge (.int x) (.int y) = some (.bl (decide (y ≤ x))) := rfl
@[simp] theorem vadd_int {x y : Int} : vadd (.int x) (.int y) = some (.int (x + y)) := rfl
@[simp] theorem vsub_int {x y : Int} : vsub (.int x) (.int y) = some (.int (x - y)) := rfl
theorem vle_chr {a b : Nat} : vle (.str ⟨#[a]⟩) (.str ⟨#[b]⟩) = some (.bl (decide (a ≤ b))) := by
  show (if vltOk (.str ⟨#[a]⟩) (.str ⟨#[b]⟩) = true then some (D.bl (!ltD (.str ⟨#[b]⟩) (.str ⟨#[a]⟩))) else none) = _
  rw [if_pos (show vltOk (.str ⟨#[a]⟩) (.str ⟨#[b]⟩) = true from rfl)]
  congr 2
  show (!decide ([b] < [a])) = decide (a ≤ b)
  have : ([b] < [a]) ↔ b < a := by
    constructor
    · intro h
      cases h with
      | rel h => exact h
      | cons h => cases h
    · intro h
      exact .rel h
  by_cases h : a ≤ b
  · rw [decide_eq_true h, decide_eq_false (by rw [this]; omega)]; rfl
  · rw [decide_eq_false h, decide_eq_true (by rw [this]; omega)]; rfl
theorem c_sp : (" " : Str) = ⟨#[32]⟩ := by decide +kernel
theorem c_ti : ("~" : Str) = ⟨#[126]⟩ := by decide +kernel
theorem c_0 : ("0" : Str) = ⟨#[48]⟩ := by decide +kernel
theorem c_9 : ("9" : Str) = ⟨#[57]⟩ := by decide +kernel
theorem c_a : ("a" : Str) = ⟨#[97]⟩ := by decide +kernel
theorem c_z : ("z" : Str) = ⟨#[122]⟩ := by decide +kernel
theorem c_nl : ("\n" : Str) = ⟨#[10]⟩ := by decide +kernel
theorem c_sl : ("/" : Str) = ⟨#[47]⟩ := by decide +kernel
theorem c_mi : ("-" : Str) = ⟨#[45]⟩ := by decide +kernel
/-- all signs within bounds, as the program asks -/
def rngS (a b : Nat) (x : Str) : Bool := (tl x).all fun c => decide (a ≤ c) && decide (c ≤ b)
def rngL (a b : Nat) (x : Str) : List D := (tl x).map fun c => D.bl (decide (a ≤ c) && decide (c ≤ b))
@[simp] theorem rng_all {a b : Nat} {x : Str} : allA M00 (.lst (rngL a b x)) = some (.bl (rngS a b x)) := allA_map _ _
theorem all_chars {S : Sto} {G : GV} {en : WEn} {lo hi : Str} {a b : Nat} (i : Nat) (x : Str) (hl : lo = ⟨#[a]⟩) (hh : hi = ⟨#[b]⟩) (hi' : ∀ d, getV (setV2 en i (.v d)) i = some (.v d)) :
    compV (.nm i) (evC G []) (evE G (.chn .le .le (.str lo) (.loc i) (.str hi))) en (charsD x) S = .ok (rngL a b x) S := by
  have := compV_map (S := S) (tg := .nm i) (tt := evC G []) (te := evE G (.chn .le .le (.str lo) (.loc i) (.str hi))) (en := en) (fun d => match d with | .str z => (match tl z with | [c] => .bl (decide (a ≤ c) && decide (c ≤ b)) | _ => .non) | _ => .non) (charsD x) (fun d hd => by
    obtain ⟨c, hc, rfl⟩ := List.mem_map.mp hd
    refine ⟨_, rfl, rfl, ?_⟩
    simp only [evE_10, evE_2, evE_3, evE_4, evE_5, evE_1, hi', Rs.bind_ok, lft_some, COp.vo, rd2, rdW_str, hl, hh, vle_chr]
    by_cases h1 : a ≤ c
    · simp [h1, vle_chr]
    · simp [h1])
  rw [this]
  congr 1
  unfold charsD rngL
  rw [List.map_map]
  rfl
/-! ### methods at sight -/
section
variable {S : Sto}
@[simp] theorem tyW_split {x : Str} : tyW .split S (.v (.str x)) = true := rfl
@[simp] theorem tyW_join {x : Str} : tyW .join S (.v (.str x)) = true := rfl
@[simp] theorem tyW_part {x : Str} : tyW .partition S (.v (.str x)) = true := rfl
theorem wo_part {a b : Str} (h1 : (b.length == 0) = false) (h2 : a.length ≤ sizeLine) : Mt.partition.wo S (.v (.str a)) [.v (.str b)] = .ok (.v (.tup [.str (Txt.partition a b).1, .str (Txt.partition a b).2.1, .str (Txt.partition a b).2.2])) S := if_pos ⟨h1, h2⟩
@[simp] theorem tyW_starts {x : Str} : tyW .startswith S (.v (.str x)) = true := rfl
theorem tyW_app {i : Nat} {ds : List D} (h : getS S i = some (.lst ds)) : tyW .append S (.r i) = true := by
  show (match (match getS S i with | some (.lst ds) => some (D.lst ds) | _ => none) with | some (.lst _) => true | _ => false) = true
  rw [h]
theorem tyW_ext {i : Nat} {ds : List D} (h : getS S i = some (.lst ds)) : tyW .extend S (.r i) = true := by
  show (match (match getS S i with | some (.lst ds) => some (D.lst ds) | _ => none) with | some (.lst _) => true | _ => false) = true
  rw [h]
theorem wo_split {a b : Str} (h1 : (b.length == 0) = false) (h2 : a.length + 2 ≤ sizeLine) : Mt.split.wo S (.v (.str a)) [.v (.str b)] = .ok (.v (lns (Txt.split a b))) S := if_pos ⟨h1, h2⟩
@[simp] theorem wo_starts {a b : Str} : Mt.startswith.wo S (.v (.str a)) [.v (.str b)] = .ok (.v (.bl (Txt.startswith a b))) S := rfl
theorem wo_join {z : Str} {ys : List Str} (h : (ys.map (·.length)).sum + ys.length * z.length ≤ 16777216) : Mt.join.wo S (.v (.str z)) [.v (lns ys)] = .ok (.v (.str (Txt.join z ys))) S := by
  unfold Mt.wo
  simp only [sqW_lst, lns, strsOf_map]
  exact if_pos h
theorem wo_append {i : Nat} {ds : List D} {x : D} (h : getS S i = some (.lst ds)) (hl : ds.length < sizeLine) : Mt.append.wo S (.r i) [.v x] = .ok (.v .non) (setS S i (some (.lst (ds ++ [x])))) := by
  show (match getS S i with
    | some (.lst ds) => if ds.length < sizeLine then Rs.ok (W.v D.non) (setS S i (some (.lst (ds ++ [x])))) else .no
    | _ => .no) = _
  rw [h]; exact if_pos hl
theorem wo_extend {i : Nat} {ds es : List D} (h : getS S i = some (.lst ds)) (hl : ds.length + es.length ≤ sizeLine) : Mt.extend.wo S (.r i) [.v (.lst es)] = .ok (.v .non) (setS S i (some (.lst (ds ++ es)))) := by
  show (match getS S i, some (D.lst es) with
    | some (.lst ds), some (.lst es) => if ds.length + es.length ≤ sizeLine then Rs.ok (W.v D.non) (setS S i (some (.lst (ds ++ es)))) else .no
    | _, _ => .no) = _
  rw [h]; exact if_pos hl
@[simp] theorem rdW_lns {ws : List Str} : rdW S (.v (lns ws)) = some (lns ws) := rfl
@[simp] theorem plW_lns {ws : List Str} : plW (.v (lns ws)) = some (lns ws) := rfl
@[simp] theorem sqW_lns {ws : List Str} : sqW S (.v (lns ws)) = some (ws.map D.str) := rfl
@[simp] theorem nonW_lns {ws : List Str} : nonW (.v (lns ws)) = false := rfl
@[simp] theorem itW_lns {ws : List Str} : itW .seq [.v (lns ws)] = some (ws.map D.str) := rfl
@[simp] theorem len_lns {ws : List Str} : lenA M00 (lns ws) = some (.int ws.length) := by show some (D.int (ws.map D.str).length) = _; rw [List.length_map]
theorem ix_lns {ws : List Str} {i : Nat} {x : Str} (h : ws[i]? = some x) : ixW S (.v (lns ws)) (.v (.int i)) = some (.v (.str x)) := by
  show (atI (ws.map D.str) (i : Int)).map W.v = _
  rw [atI_get (by rw [List.length_map]; exact (List.getElem?_eq_some_iff.mp h).1), List.getElem?_map, h]; rfl
theorem ix_lst {ds : List D} {i : Nat} {x : D} (h : ds[i]? = some x) : ixW S (.v (.lst ds)) (.v (.int i)) = some (.v x) := by
  show (atI ds (i : Int)).map W.v = _
  rw [atI_get (List.getElem?_eq_some_iff.mp h).1, h]; rfl
theorem ix_tp {k : TK} {ds : List D} {i : Nat} {x : D} (h : ds[i]? = some x) : ixW S (.v (.tp k ds)) (.v (.int i)) = some (.v x) := by
  show (atI ds (i : Int)).map W.v = _
  rw [atI_get (List.getElem?_eq_some_iff.mp h).1, h]; rfl
end
theorem mem_joinL {S : List Nat} : ∀ {parts : List (List Nat)} {p : List Nat} {c : Nat}, p ∈ parts → c ∈ p → c ∈ TL.joinL S parts
  | [], _, _, h, _ => nomatch h
  | [q], p, c, h, hc => by
    have : p = q := by simpa using h
    subst this; exact hc
  | q :: r :: rs, p, c, h, hc => by
    show c ∈ q ++ (S ++ TL.joinL S (r :: rs))
    rcases List.mem_cons.mp h with e | h
    · subst e; simp [hc]
    · have := mem_joinL (S := S) h hc
      simp [this]
theorem split_mem {x y w : Str} (h : w ∈ Txt.split x y) {c : Nat} (hc : c ∈ tl w) : c ∈ tl x := by
  have e := StrLaws.join_split x y
  have : tl x = TL.joinL (tl y) ((Txt.split x y).map tl) := by
    have := TL.tl_join y (Txt.split x y)
    rw [e] at this
    exact this
  rw [this]
  exact mem_joinL (List.mem_map.mpr ⟨w, h, rfl⟩) hc
theorem joinL_len {S : List Nat} : ∀ {parts : List (List Nat)}, 1 ≤ S.length → parts.length ≤ (TL.joinL S parts).length + 1
  | [], _ => by simp [TL.joinL]
  | [q], _ => by simp
  | q :: r :: rs, h => by
    have := joinL_len (S := S) (parts := r :: rs) h
    show _ ≤ (q ++ (S ++ TL.joinL S (r :: rs))).length + 1
    simp only [List.length_append, List.length_cons] at this ⊢
    omega
theorem split_len {x y : Str} (hy : 1 ≤ y.length) : (Txt.split x y).length ≤ x.length + 1 := by
  have e := StrLaws.join_split x y
  have h1 := TL.tl_join y (Txt.split x y)
  rw [e] at h1
  have := joinL_len (S := TL.tl y) (parts := (Txt.split x y).map TL.tl) (by rw [← TL.len_tl]; exact hy)
  rw [← h1, List.length_map, ← TL.len_tl] at this
  exact this
theorem part_len {S : List Nat} : ∀ {parts : List (List Nat)} {p : List Nat}, p ∈ parts → p.length ≤ (TL.joinL S parts).length
  | [], _, h => nomatch h
  | [q], p, h => by
    have : p = q := by simpa using h
    subst this; exact Nat.le_refl _
  | q :: r :: rs, p, h => by
    show _ ≤ (q ++ (S ++ TL.joinL S (r :: rs))).length
    rw [List.length_append, List.length_append]
    rcases List.mem_cons.mp h with e | h
    · subst e; omega
    · have := part_len (S := S) h
      omega
theorem split_part {x y w : Str} (h : w ∈ Txt.split x y) : w.length ≤ x.length := by
  have e := StrLaws.join_split x y
  have h1 := TL.tl_join y (Txt.split x y)
  rw [e] at h1
  have := part_len (S := TL.tl y) (p := TL.tl w) (List.mem_map.mpr ⟨w, h, rfl⟩)
  rw [← h1, ← TL.len_tl, ← TL.len_tl] at this
  exact this
end Z

/-! V11: operators at sight. -/
namespace Z
open PySem PySem.Spec PyProof.Rows L2
@[simp] theorem bo_add {x y : D} : BOp.add.vo x y = vadd x y := rfl
@[simp] theorem bo_sub {x y : D} : BOp.sub.vo x y = vsub x y := rfl
@[simp] theorem bo_mul {x y : D} : BOp.mul.vo x y = vmul x y := rfl
@[simp] theorem bo_fdv {x y : D} : BOp.fdv.vo x y = vfdv x y := rfl
@[simp] theorem bo_mod {x y : D} : BOp.mod.vo x y = vmod x y := rfl
@[simp] theorem bo_pow {x y : D} : BOp.pow.vo x y = vpow x y := rfl
section
variable {S : Sto} {w x y : W} {ws : List W}
@[simp] theorem co_eq : COp.eq.vo S x y = rd2 S x y veq := rfl
@[simp] theorem co_ne : COp.ne.vo S x y = rd2 S x y vne := rfl
@[simp] theorem co_lt : COp.lt.vo S x y = rd2 S x y vlt := rfl
@[simp] theorem co_le : COp.le.vo S x y = rd2 S x y vle := rfl
@[simp] theorem co_gt : COp.gt.vo S x y = rd2 S x y vgt := rfl
@[simp] theorem co_ge : COp.ge.vo S x y = rd2 S x y vge := rfl
@[simp] theorem co_in : COp.isin.vo S x y = blO (inW S x y) := rfl
@[simp] theorem co_nin : COp.notin.vo S x y = blO ((inW S x y).map not) := rfl
@[simp] theorem co_is : COp.is.vo S x y = if nonW y = true then some (.bl (nonW x)) else none := rfl
@[simp] theorem co_isn : COp.isnot.vo S x y = if nonW y = true then some (.bl (!nonW x)) else none := rfl
@[simp] theorem bt_len : Bt.len.wo S [w] = lfv S (rd1 S w (lenA M00)) := rfl
@[simp] theorem bt_int : Bt.int.wo S [w] = lfv S (rd1 S w (intA M00)) := rfl
@[simp] theorem bt_abs : Bt.abs.wo S [w] = lfv S (rd1 S w (absA M00)) := rfl
@[simp] theorem bt_strI : Bt.strI.wo S [w] = lfv S (rd1 S w (strA M00)) := rfl
@[simp] theorem bt_all : Bt.all.wo S [w] = lfv S (rd1 S w (allA M00)) := rfl
@[simp] theorem bt_any : Bt.any.wo S [w] = lfv S (rd1 S w (anyA M00)) := rfl
@[simp] theorem bt_sum : Bt.sum.wo S [w] = lfv S (rd1 S w (sumA M00)) := rfl
@[simp] theorem bt_srt : Bt.srt.wo S [w] = lfv S (rd1 S w vsrt) := rfl
@[simp] theorem bt_tupT : Bt.tupT.wo S [w] = lfv S (rd1 S w vtupT) := rfl
@[simp] theorem bt_min2 : Bt.min2.wo S [x, y] = lfv S (rd2 S x y (minA M00)) := rfl
@[simp] theorem bt_max2 : Bt.max2.wo S [x, y] = lfv S (rd2 S x y (maxA M00)) := rfl
@[simp] theorem bt_minL : Bt.minL.wo S [w] = lfv S (rd1 S w (Z.minL M00)) := rfl
@[simp] theorem bt_minP : Bt.minP.wo S [w] = lfv S (rd1 S w (Z.minPA M00)) := rfl
@[simp] theorem bt_maxL : Bt.maxL.wo S [w] = lfv S (rd1 S w (Z.maxL M00)) := rfl
@[simp] theorem bt_lstF : Bt.lstF.wo S [w] = match lstW S w with | some ds => .ok (.v (.lst ds)) S | none => .no := rfl
@[simp] theorem bt_lstM : Bt.lstM.wo S [w] = match lstW S w with | some ds => newW S (.lst ds) | none => .no := rfl
@[simp] theorem newW_eq {o : VO} : newW S o = .ok (.r S.length) (S ++ [some o]) := rfl
@[simp] theorem tup_lst {ds : List D} : vtupT (.lst ds) = some (.tup ds) := rfl
@[simp] theorem tup_tp {k : TK} {ds : List D} : vtupT (.tp k ds) = some (.tp k ds) := rfl
@[simp] theorem lenA_lst' {ds : List D} : lenA M00 (.lst ds) = some (.int ds.length) := rfl
@[simp] theorem lenA_flst {ds : List D} : lenA M00 (.flst ds) = some (.int ds.length) := rfl
@[simp] theorem lenA_tp' {k : TK} {ds : List D} : lenA M00 (.tp k ds) = some (.int ds.length) := rfl
@[simp] theorem int_int {i : Int} : intA M00 (.int i) = some (.int i) := rfl
@[simp] theorem int_bl {i : Bool} : intA M00 (.bl i) = some (.int (if i then 1 else 0)) := rfl
@[simp] theorem sl_0 : (0 : Nat) ≤ sizeLine := by decide
@[simp] theorem sl_1 : (1 : Nat) ≤ sizeLine := by decide
@[simp] theorem sl_2 : (2 : Nat) ≤ sizeLine := by decide
@[simp] theorem sl_3 : (3 : Nat) ≤ sizeLine := by decide
@[simp] theorem sl_4 : (4 : Nat) ≤ sizeLine := by decide
@[simp] theorem sl_5 : (5 : Nat) ≤ sizeLine := by decide
@[simp] theorem sl_6 : (6 : Nat) ≤ sizeLine := by decide
@[simp] theorem sl_8 : (8 : Nat) ≤ sizeLine := by decide
@[simp] theorem sl_11 : (11 : Nat) ≤ sizeLine := by decide
@[simp] theorem sl_12 : (12 : Nat) ≤ sizeLine := by decide
end
/-! things in the store -/
section
variable {S J : Sto} {o : Option VO}
@[simp] theorem getS_app0 {x : Option VO} {r : Sto} : getS (x :: r) 0 = x := by cases x <;> rfl
theorem getS_last : getS (S ++ [o]) S.length = o := by unfold getS; simp
theorem getS_mid : getS (S ++ o :: J) S.length = o := by unfold getS; simp
theorem setS_last {o' : Option VO} : setS (S ++ [o]) S.length o' = S ++ [o'] := by unfold setS; simp
theorem setS_mid {o' : Option VO} : setS (S ++ o :: J) S.length o' = S ++ o' :: J := by unfold setS; simp
theorem rdW_mid {ds : List D} : rdW (S ++ some (.lst ds) :: J) (.r S.length) = some (.lst ds) := by
  show (match getS (S ++ some (.lst ds) :: J) S.length with | some (.lst ds) => some (D.lst ds) | _ => none) = _
  rw [getS_mid]
theorem sqW_mid {ds : List D} : sqW (S ++ some (.lst ds) :: J) (.r S.length) = some ds := by
  unfold sqW; rw [rdW_mid]
theorem truW_mid {ds : List D} : truW (S ++ some (.lst ds) :: J) (.r S.length) = some (!ds.isEmpty) := by
  unfold truW
  simp only [sqW_mid]
theorem ixW_mid {ds : List D} {i : Int} {x : D} (h : atI ds i = some x) : ixW (S ++ some (.lst ds) :: J) (.r S.length) (.v (.int i)) = some (.v x) := by
  unfold ixW
  simp only [plW_int, sqW_mid, h]; rfl
theorem ty_app_mid {ds : List D} : tyW .append (S ++ some (.lst ds) :: J) (.r S.length) = true := tyW_app getS_mid
theorem ty_ext_mid {ds : List D} : tyW .extend (S ++ some (.lst ds) :: J) (.r S.length) = true := tyW_ext getS_mid
theorem wo_app_mid {ds : List D} {x : D} (hl : ds.length < sizeLine) : Mt.append.wo (S ++ some (.lst ds) :: J) (.r S.length) [.v x] = .ok (.v .non) (S ++ some (.lst (ds ++ [x])) :: J) := by
  rw [wo_append getS_mid hl, setS_mid]
theorem wo_ext_mid {ds es : List D} (hl : ds.length + es.length ≤ sizeLine) : Mt.extend.wo (S ++ some (.lst ds) :: J) (.r S.length) [.v (.lst es)] = .ok (.v .non) (S ++ some (.lst (ds ++ es)) :: J) := by
  rw [wo_extend getS_mid hl, setS_mid]
end
end Z

/-! V12: a body statement by statement; small things at sight. -/
namespace Z
open PySem PySem.Spec PyProof.Rows L2
/-- one statement of a def's body, the rest not looked at -/
theorem out_step {G : GV} {s : Sx} {r : List Sx} {en e1 : WEn} {S S1 : Sto} {x : Rs W} (h : evS G s en S = .ok (.nx e1) S1) (k : (evSs G r e1 S1).out = x) : (evSs G (s :: r) en S).out = x := by
  rw [evSs_2, h]; exact k
theorem out_ret {G : GV} {s : Sx} {r : List Sx} {en : WEn} {S S1 : Sto} {w : W} (h : evS G s en S = .ok (.rt w) S1) : (evSs G (s :: r) en S).out = .ok w S1 := by
  rw [evSs_2, h]; rfl
theorem out_exs {G : GV} {s : Sx} {r : List Sx} {en : WEn} {S S1 : Sto} {x : Exc} (h : evS G s en S = .ex x S1) : (evSs G (s :: r) en S).out = .ex x S1 := by
  rw [evSs_2, h]; rfl
/-- the same inside a body -/
theorem nx_step {G : GV} {s : Sx} {r : List Sx} {en e1 : WEn} {S S1 : Sto} {x : Rs Oc} (h : evS G s en S = .ok (.nx e1) S1) (k : evSs G r e1 S1 = x) : evSs G (s :: r) en S = x := by
  rw [evSs_2, h]; exact k
theorem rt_step {G : GV} {s : Sx} {r : List Sx} {en : WEn} {S S1 : Sto} {w : W} (h : evS G s en S = .ok (.rt w) S1) : evSs G (s :: r) en S = .ok (.rt w) S1 := by
  rw [evSs_2, h]; rfl
theorem ex_step {G : GV} {s : Sx} {r : List Sx} {en : WEn} {S S1 : Sto} {x : Exc} (h : evS G s en S = .ex x S1) : evSs G (s :: r) en S = .ex x S1 := by
  rw [evSs_2, h]; rfl
theorem if_tt {G : GV} {c : Ex} {a b : List Sx} {en : WEn} {S S1 : Sto} {x : Rs Oc} (h : evT G c en S = .ok true S1) (k : evSs G a en S1 = x) : evS G (.ifs c a b) en S = x := by
  rw [evS_8, h]; exact k
theorem if_ff {G : GV} {c : Ex} {a b : List Sx} {en : WEn} {S S1 : Sto} {x : Rs Oc} (h : evT G c en S = .ok false S1) (k : evSs G b en S1 = x) : evS G (.ifs c a b) en S = x := by
  rw [evS_8, h]; exact k
end Z

namespace CM
open PySem PySem.Spec PyProof.Rows L2 Z
/-! is_integer -/
def Nis_integer : List Str := ["value"]
def Bis_integer : List Sx := [.ret (.bol true [(.isi .tint (.loc 0)), (.nt (.isi .tbool (.loc 0)))])]
noncomputable def Gis_integer : GV := ⟨[], [], ["isinstance", "int", "bool"], false⟩
noncomputable def Fis_integer : List W → Sto → Rs W := runV Gis_integer 1 Bis_integer
theorem eis_integer {w0 : W} {S : Sto} : Fis_integer [w0] S = (evSs Gis_integer Bis_integer [some w0] S).out := rfl
/-! is_row -/
def Nis_row : List Str := ["value", "size"]
def Bis_row : List Sx := [.ret (.bol true [(.isi .ttup (.loc 0)), (.cmp .eq (.blt .len (.loc 0) []) (.loc 1))])]
noncomputable def Gis_row : GV := ⟨[], [], ["isinstance", "tuple", "len"], false⟩
noncomputable def Fis_row : List W → Sto → Rs W := runV Gis_row 2 Bis_row
theorem eis_row {w0 w1 : W} {S : Sto} : Fis_row [w0, w1] S = (evSs Gis_row Bis_row [some w0, some w1] S).out := rfl
/-! is_name -/
def Nis_name : List Str := ["value", "sign"]
def Bis_name : List Sx := [.ifs (.bol false [(.nt (.isi .tstr (.loc 0))), (.nt (.chn .le .le (.int 1) (.blt .len (.loc 0) []) (.int 12)))])
    [.ret (.bl false)]
    [], .ret (.blt .all (.comp false (.chn .le .le (.str "a") (.loc 1) (.str "z")) (.nm 1) .seq [(.loc 0)] [] [("sign", 1)]) [])]
noncomputable def Gis_name : GV := ⟨[], [], ["isinstance", "str", "len", "all"], false⟩
noncomputable def Fis_name : List W → Sto → Rs W := runV Gis_name 2 Bis_name
theorem eis_name {w0 : W} {S : Sto} : Fis_name [w0] S = (evSs Gis_name Bis_name [some w0, none] S).out := rfl
/-! is_figures -/
def Nis_figures : List Str := ["text", "sign"]
def Bis_figures : List Sx := [.ret (.bol true [(.cmp .ne (.loc 0) (.str "")), (.blt .all (.comp false (.chn .le .le (.str "0") (.loc 1) (.str "9")) (.nm 1) .seq [(.loc 0)] [] [("sign", 1)]) [])])]
noncomputable def Gis_figures : GV := ⟨[], [], ["all"], false⟩
noncomputable def Fis_figures : List W → Sto → Rs W := runV Gis_figures 2 Bis_figures
theorem eis_figures {w0 : W} {S : Sto} : Fis_figures [w0] S = (evSs Gis_figures Bis_figures [some w0, none] S).out := rfl
/-! is_ascending -/
def Nis_ascending : List Str := ["row", "at"]
def Bis_ascending : List Sx := [.ret (.blt .all (.comp false (.cmp .lt (.idx (.loc 0) (.loc 1)) (.idx (.loc 0) (.bin .add (.loc 1) (.int 1)))) (.nm 1) .rng1 [(.bin .sub (.blt .len (.loc 0) []) (.int 1))] [] [("at", 1)]) [])]
noncomputable def Gis_ascending : GV := ⟨[], [], ["all", "range", "len"], false⟩
noncomputable def Fis_ascending : List W → Sto → Rs W := runV Gis_ascending 2 Bis_ascending
theorem eis_ascending {w0 : W} {S : Sto} : Fis_ascending [w0] S = (evSs Gis_ascending Bis_ascending [some w0, none] S).out := rfl
/-! is_names -/
def Nis_names : List Str := ["value", "least", "most", "name"]
def Bis_names : List Sx := [.ifs (.bol false [(.nt (.isi .ttup (.loc 0))), (.nt (.chn .le .le (.loc 1) (.blt .len (.loc 0) []) (.loc 2)))])
    [.ret (.bl false)]
    [], .ret (.bol true [(.blt .all (.comp false (.call 0 (.loc 3) []) (.nm 3) .seq [(.loc 0)] [] [("name", 3)]) []), (.call 1 (.loc 0) [])])]
noncomputable def Gis_names : GV := ⟨[("is_name", 1, Fis_name), ("is_ascending", 1, Fis_ascending)], [], ["isinstance", "tuple", "len", "all"], false⟩
noncomputable def Fis_names : List W → Sto → Rs W := runV Gis_names 4 Bis_names
theorem eis_names {w0 w1 w2 : W} {S : Sto} : Fis_names [w0, w1, w2] S = (evSs Gis_names Bis_names [some w0, some w1, some w2, none] S).out := rfl
/-! is_bound -/
def Nis_bound : List Str := ["value"]
def Bis_bound : List Sx := [.ret (.bol false [(.cmp .is (.loc 0) .non), (.call 0 (.loc 0) [])])]
noncomputable def Gis_bound : GV := ⟨[("is_integer", 1, Fis_integer)], [], [], false⟩
noncomputable def Fis_bound : List W → Sto → Rs W := runV Gis_bound 1 Bis_bound
theorem eis_bound {w0 : W} {S : Sto} : Fis_bound [w0] S = (evSs Gis_bound Bis_bound [some w0] S).out := rfl
/-! _is_pair -/
def N_is_pair : List Str := ["pair", "value", "step"]
def B_is_pair : List Sx := [.ifs (.bol false [(.nt (.isi .ttup (.loc 0))), (.cmp .ne (.blt .len (.loc 0) []) (.int 2))])
    [.ret (.bl false)]
    [], .asg (.tp [1, 2]) (.loc 0), .ifs (.cmp .is (.loc 1) .non)
    [.ret (.bol true [(.call 0 (.loc 2) []), (.cmp .eq (.loc 2) (.int 0))])]
    [], .ret (.bol true [(.call 0 (.loc 1) []), (.call 0 (.loc 2) [])])]
noncomputable def G_is_pair : GV := ⟨[("is_integer", 1, Fis_integer)], [], ["isinstance", "tuple", "len"], false⟩
noncomputable def F_is_pair : List W → Sto → Rs W := runV G_is_pair 3 B_is_pair
theorem e_is_pair {w0 : W} {S : Sto} : F_is_pair [w0] S = (evSs G_is_pair B_is_pair [some w0, none, none] S).out := rfl
/-! form_fault -/
def Nform_fault : List Str := ["form", "head", "tail", "value", "pair"]
def Bform_fault : List Sx := [.ifs (.bol false [(.nt (.isi .ttup (.loc 0))), (.cmp .ne (.blt .len (.loc 0) []) (.int 2))])
    [.ret (.str "form")]
    [], .asg (.tp [1, 2]) (.loc 0), .ifs (.bol false [(.nt (.isi .ttup (.loc 1))), (.nt (.isi .ttup (.loc 2)))])
    [.ret (.str "form")]
    [], .ifs (.bol false [(.cmp .gt (.blt .len (.loc 1) []) (.glo 0)), (.nt (.blt .all (.comp false (.call 0 (.loc 3) []) (.nm 3) .seq [(.loc 1)] [] [("value", 3)]) []))])
    [.ret (.str "head")]
    [], .ifs (.bol false [(.nt (.chn .le .le (.int 1) (.blt .len (.loc 2) []) (.glo 1))), (.nt (.blt .all (.comp false (.call 1 (.loc 4) []) (.nm 4) .seq [(.loc 2)] [] [("pair", 4)]) []))])
    [.ret (.str "tail")]
    [], .ret .non]
noncomputable def Gform_fault : GV := ⟨[("is_bound", 1, Fis_bound), ("_is_pair", 1, F_is_pair)], [("MAX_HEAD", D.int 4000), ("MAX_PERIOD", D.int 1000)], ["isinstance", "tuple", "len", "all"], false⟩
noncomputable def Fform_fault : List W → Sto → Rs W := runV Gform_fault 5 Bform_fault
theorem eform_fault {w0 : W} {S : Sto} : Fform_fault [w0] S = (evSs Gform_fault Bform_fault [some w0, none, none, none, none] S).out := rfl
/-! words_of -/
def Nwords_of : List Str := ["line", "sign", "words"]
def Bwords_of : List Sx := [.ifs (.nt (.blt .all (.comp false (.chn .le .le (.str " ") (.loc 1) (.str "~")) (.nm 1) .seq [(.loc 0)] [] [("sign", 1)]) []))
    [.ret .non]
    [], .asg (.nm 2) (.mth .split (.loc 0) (.str " ") []), .ifs (.cmp .isin (.str "") (.loc 2))
    [.ret .non]
    [], .ret (.loc 2)]
noncomputable def Gwords_of : GV := ⟨[], [], ["all"], false⟩
noncomputable def Fwords_of : List W → Sto → Rs W := runV Gwords_of 3 Bwords_of
theorem ewords_of {w0 : W} {S : Sto} : Fwords_of [w0] S = (evSs Gwords_of Bwords_of [some w0, none, none] S).out := rfl
/-! integer_of -/
def Ninteger_of : List Str := ["word", "figures"]
def Binteger_of : List Sx := [.asg (.nm 1) (.ite (.mth .startswith (.loc 0) (.str "-") []) (.sli (.loc 0) [(.int 1)] []) (.loc 0)), .ifs (.bol false [(.cmp .gt (.blt .len (.loc 0) []) (.glo 0)), (.nt (.call 0 (.loc 1) []))])
    [.ret .non]
    [], .ifs (.cmp .ne (.blt .strI (.blt .int (.loc 0) []) []) (.loc 0))
    [.ret .non]
    [], .ret (.blt .int (.loc 0) [])]
noncomputable def Ginteger_of : GV := ⟨[("is_figures", 1, Fis_figures)], [("MAX_SIGNS", D.int 40)], ["len", "str", "int"], false⟩
noncomputable def Finteger_of : List W → Sto → Rs W := runV Ginteger_of 2 Binteger_of
theorem einteger_of {w0 : W} {S : Sto} : Finteger_of [w0] S = (evSs Ginteger_of Binteger_of [some w0, none] S).out := rfl
/-! optional_of -/
def Noptional_of : List Str := ["word", "none", "number"]
def Boptional_of : List Sx := [.ifs (.cmp .eq (.loc 0) (.loc 1))
    [.ret .non]
    [], .asg (.nm 2) (.call 0 (.loc 0) []), .ret (.ite (.cmp .is (.loc 2) .non) (.loc 0) (.loc 2))]
noncomputable def Goptional_of : GV := ⟨[("integer_of", 1, Finteger_of)], [], [], false⟩
noncomputable def Foptional_of : List W → Sto → Rs W := runV Goptional_of 3 Boptional_of
theorem eoptional_of {w0 w1 : W} {S : Sto} : Foptional_of [w0, w1] S = (evSs Goptional_of Boptional_of [some w0, some w1, none] S).out := rfl
/-! optional_word -/
def Noptional_word : List Str := ["number", "none"]
def Boptional_word : List Sx := [.ifs (.cmp .is (.loc 0) .non)
    [.ret (.loc 1)]
    [], .ret (.blt .strI (.loc 0) [])]
noncomputable def Goptional_word : GV := ⟨[], [], ["str"], false⟩
noncomputable def Foptional_word : List W → Sto → Rs W := runV Goptional_word 2 Boptional_word
theorem eoptional_word {w0 w1 : W} {S : Sto} : Foptional_word [w0, w1] S = (evSs Goptional_word Boptional_word [some w0, some w1] S).out := rfl
/-! words_at -/
def Nwords_at : List Str := ["lines", "at", "words"]
def Bwords_at : List Sx := [.asg (.nm 2) (.ite (.cmp .lt (.loc 1) (.blt .len (.loc 0) [])) (.call 0 (.idx (.loc 0) (.loc 1)) []) .non), .ifs (.cmp .is (.loc 2) .non)
    [.rse (.loc 1)]
    [], .ret (.loc 2)]
noncomputable def Gwords_at : GV := ⟨[("words_of", 1, Fwords_of)], [], ["len"], true⟩
noncomputable def Fwords_at : List W → Sto → Rs W := runV Gwords_at 3 Bwords_at
theorem ewords_at {w0 w1 : W} {S : Sto} : Fwords_at [w0, w1] S = (evSs Gwords_at Bwords_at [some w0, some w1, none] S).out := rfl
/-! begin -/
def Nbegin : List Str := ["text", "first", "lines"]
def Bbegin : List Sx := [.asg (.nm 2) (.mth .split (.loc 0) (.str "\n") []), .ifs (.cmp .ne (.call 0 (.loc 2) [(.int 0)]) (.loc 1))
    [.rse (.int 0)]
    [], .ret (.loc 2)]
noncomputable def Gbegin : GV := ⟨[("words_at", 2, Fwords_at)], [], [], true⟩
noncomputable def Fbegin : List W → Sto → Rs W := runV Gbegin 3 Bbegin
theorem ebegin {w0 w1 : W} {S : Sto} : Fbegin [w0, w1] S = (evSs Gbegin Bbegin [some w0, some w1, none] S).out := rfl
/-! finish -/
def Nfinish : List Str := ["lines", "at"]
def Bfinish : List Sx := [.ifs (.cmp .ne (.call 0 (.loc 0) [(.loc 1)]) (.lst false [(.str "end")]))
    [.rse (.loc 1)]
    [], .ifs (.cmp .lt (.bin .add (.loc 1) (.int 1)) (.blt .len (.loc 0) []))
    [.rse (.bin .add (.loc 1) (.int 1))]
    []]
noncomputable def Gfinish : GV := ⟨[("words_at", 2, Fwords_at)], [], ["len"], true⟩
noncomputable def Ffinish : List W → Sto → Rs W := runV Gfinish 2 Bfinish
theorem efinish {w0 w1 : W} {S : Sto} : Ffinish [w0, w1] S = (evSs Gfinish Bfinish [some w0, some w1] S).out := rfl
/-! _pair_word -/
def N_pair_word : List Str := ["pair", "value", "step"]
def B_pair_word : List Sx := [.asg (.tp [1, 2]) (.loc 0), .ret (.ite (.cmp .is (.loc 1) .non) (.str "none") (.js (.fmt (.loc 1)) (.str "/") [(.fmt (.loc 2))]))]
noncomputable def G_pair_word : GV := ⟨[], [], [], false⟩
noncomputable def F_pair_word : List W → Sto → Rs W := runV G_pair_word 3 B_pair_word
theorem e_pair_word {w0 : W} {S : Sto} : F_pair_word [w0] S = (evSs G_pair_word B_pair_word [some w0, none, none] S).out := rfl
/-! form_lines -/
def Nform_lines : List Str := ["form", "head", "value", "tail", "pair"]
def Bform_lines : List Sx := [.asg (.nm 1) (.bin .add (.lst false [(.str "head")]) (.comp false (.call 0 (.loc 2) [(.str "none")]) (.nm 2) .seq [(.idx (.loc 0) (.int 0))] [] [("value", 2)])), .asg (.nm 3) (.bin .add (.lst false [(.str "tail")]) (.comp false (.call 1 (.loc 4) []) (.nm 4) .seq [(.idx (.loc 0) (.int 1))] [] [("pair", 4)])), .ret (.lst false [(.mth .join (.str " ") (.loc 1) []), (.mth .join (.str " ") (.loc 3) [])])]
noncomputable def Gform_lines : GV := ⟨[("optional_word", 2, Foptional_word), ("_pair_word", 1, F_pair_word)], [], [], false⟩
noncomputable def Fform_lines : List W → Sto → Rs W := runV Gform_lines 5 Bform_lines
theorem eform_lines {w0 : W} {S : Sto} : Fform_lines [w0] S = (evSs Gform_lines Bform_lines [some w0, none, none, none, none] S).out := rfl
/-! _pair_of -/
def N_pair_of : List Str := ["word", "parts", "value", "step"]
def B_pair_of : List Sx := [.ifs (.cmp .eq (.loc 0) (.str "none"))
    [.ret (.tup [.non, (.int 0)])]
    [], .asg (.nm 1) (.mth .split (.loc 0) (.str "/") []), .ifs (.cmp .ne (.blt .len (.loc 1) []) (.int 2))
    [.ret .non]
    [], .asg (.nm 2) (.call 0 (.idx (.loc 1) (.int 0)) []), .asg (.nm 3) (.call 0 (.idx (.loc 1) (.int 1)) []), .ret (.ite (.bol false [(.cmp .is (.loc 2) .non), (.cmp .is (.loc 3) .non)]) .non (.tup [(.loc 2), (.loc 3)]))]
noncomputable def G_pair_of : GV := ⟨[("integer_of", 1, Finteger_of)], [], ["len"], false⟩
noncomputable def F_pair_of : List W → Sto → Rs W := runV G_pair_of 4 B_pair_of
theorem e_pair_of {w0 : W} {S : Sto} : F_pair_of [w0] S = (evSs G_pair_of B_pair_of [some w0, none, none, none] S).out := rfl
/-! read_form -/
def Nread_form : List Str := ["lines", "at", "words", "head", "word", "form"]
def Bread_form : List Sx := [.asg (.nm 2) (.call 0 (.loc 0) [(.loc 1)]), .asg (.nm 3) (.blt .tupT (.comp false (.call 1 (.loc 4) [(.str "none")]) (.nm 4) .seq [(.sli (.loc 2) [(.int 1)] [])] [] [("word", 4)]) []), .ifs (.bol false [(.cmp .ne (.idx (.loc 2) (.int 0)) (.str "head")), (.cmp .isnot (.call 2 (.tup [(.loc 3), (.tup [(.tup [.non, (.int 0)])])]) []) .non)])
    [.rse (.loc 1)]
    [], .asg (.nm 2) (.call 0 (.loc 0) [(.bin .add (.loc 1) (.int 1))]), .asg (.nm 5) (.tup [(.loc 3), (.blt .tupT (.comp false (.call 3 (.loc 4) []) (.nm 4) .seq [(.sli (.loc 2) [(.int 1)] [])] [] [("word", 4)]) [])]), .ifs (.bol false [(.cmp .ne (.idx (.loc 2) (.int 0)) (.str "tail")), (.cmp .isnot (.call 2 (.loc 5) []) .non)])
    [.rse (.bin .add (.loc 1) (.int 1))]
    [], .ret (.loc 5)]
noncomputable def Gread_form : GV := ⟨[("words_at", 2, Fwords_at), ("optional_of", 2, Foptional_of), ("form_fault", 1, Fform_fault), ("_pair_of", 1, F_pair_of)], [], ["tuple"], true⟩
noncomputable def Fread_form : List W → Sto → Rs W := runV Gread_form 6 Bread_form
theorem eread_form {w0 w1 : W} {S : Sto} : Fread_form [w0, w1] S = (evSs Gread_form Bread_form [some w0, some w1, none, none, none, none] S).out := rfl
/-! _is_leg -/
def N_is_leg : List Str := ["offices", "leg"]
def B_is_leg : List Sx := [.ifs (.bol false [(.nt (.call 0 (.loc 1) [(.int 3)])), (.cmp .notin (.idx (.loc 1) (.int 0)) (.loc 0)), (.cmp .notin (.idx (.loc 1) (.int 1)) (.loc 0))])
    [.ret (.bl false)]
    [], .ret (.bol true [(.cmp .ne (.idx (.loc 1) (.int 0)) (.idx (.loc 1) (.int 1))), (.cmp .is (.call 1 (.idx (.loc 1) (.int 2)) []) .non)])]
noncomputable def G_is_leg : GV := ⟨[("is_row", 2, Fis_row), ("form_fault", 1, Fform_fault)], [], [], false⟩
noncomputable def F_is_leg : List W → Sto → Rs W := runV G_is_leg 2 B_is_leg
theorem e_is_leg {w0 w1 : W} {S : Sto} : F_is_leg [w0, w1] S = (evSs G_is_leg B_is_leg [some w0, some w1] S).out := rfl
/-! _are_legs -/
def N_are_legs : List Str := ["offices", "legs", "leg", "pairs", "at"]
def B_are_legs : List Sx := [.ifs (.bol false [(.cmp .gt (.blt .len (.loc 1) []) (.glo 0)), (.nt (.blt .all (.comp false (.call 0 (.loc 0) [(.loc 2)]) (.nm 2) .seq [(.loc 1)] [] [("leg", 2)]) []))])
    [.ret (.bl false)]
    [], .asg (.nm 3) (.comp false (.sli (.loc 2) [] [(.int 2)]) (.nm 2) .seq [(.loc 1)] [] [("leg", 2)]), .ret (.blt .all (.comp false (.cmp .le (.idx (.loc 3) (.loc 4)) (.idx (.loc 3) (.bin .add (.loc 4) (.int 1)))) (.nm 4) .rng1 [(.bin .sub (.blt .len (.loc 3) []) (.int 1))] [] [("at", 4)]) [])]
noncomputable def G_are_legs : GV := ⟨[("_is_leg", 2, F_is_leg)], [("MAX_LEGS", D.int 30)], ["len", "all", "range"], false⟩
noncomputable def F_are_legs : List W → Sto → Rs W := runV G_are_legs 5 B_are_legs
theorem e_are_legs {w0 w1 : W} {S : Sto} : F_are_legs [w0, w1] S = (evSs G_are_legs B_are_legs [some w0, some w1, none, none, none] S).out := rfl
/-! has_debts -/
def Nhas_debts : List Str := ["form", "value", "step"]
def Bhas_debts : List Sx := [.ifs (.blt .any (.comp false (.bol true [(.cmp .isnot (.loc 1) .non), (.cmp .lt (.loc 1) (.int 0))]) (.nm 1) .seq [(.idx (.loc 0) (.int 0))] [] [("value", 1)]) [])
    [.ret (.bl true)]
    [], .ret (.blt .any (.comp false (.bol true [(.cmp .isnot (.loc 1) .non), (.bol false [(.cmp .lt (.loc 1) (.int 0)), (.cmp .lt (.loc 2) (.int 0))])]) (.tp [1, 2]) .seq [(.idx (.loc 0) (.int 1))] [] [("step", 2), ("value", 1)]) [])]
noncomputable def Ghas_debts : GV := ⟨[], [], ["any"], false⟩
noncomputable def Fhas_debts : List W → Sto → Rs W := runV Ghas_debts 3 Bhas_debts
theorem ehas_debts {w0 : W} {S : Sto} : Fhas_debts [w0] S = (evSs Ghas_debts Bhas_debts [some w0, none, none] S).out := rfl
/-! network_fault -/
def Nnetwork_fault : List Str := ["network", "offices", "legs", "leg"]
def Bnetwork_fault : List Sx := [.ifs (.bol false [(.nt (.call 0 (.loc 0) [(.int 2)])), (.nt (.isi .ttup (.idx (.loc 0) (.int 0)))), (.nt (.isi .ttup (.idx (.loc 0) (.int 1))))])
    [.ret (.str "form")]
    [], .asg (.tp [1, 2]) (.loc 0), .ifs (.nt (.call 1 (.loc 1) [(.int 1), (.glo 0)]))
    [.ret (.str "offices")]
    [], .ifs (.nt (.call 2 (.loc 1) [(.loc 2)]))
    [.ret (.str "legs")]
    [], .ret (.ite (.blt .any (.comp false (.call 3 (.idx (.loc 3) (.int 2)) []) (.nm 3) .seq [(.loc 2)] [] [("leg", 3)]) []) (.str "values") .non)]
noncomputable def Gnetwork_fault : GV := ⟨[("is_row", 2, Fis_row), ("is_names", 3, Fis_names), ("_are_legs", 2, F_are_legs), ("has_debts", 1, Fhas_debts)], [("MAX_OFFICES", D.int 8)], ["isinstance", "tuple", "any"], false⟩
noncomputable def Fnetwork_fault : List W → Sto → Rs W := runV Gnetwork_fault 4 Bnetwork_fault
theorem enetwork_fault {w0 : W} {S : Sto} : Fnetwork_fault [w0] S = (evSs Gnetwork_fault Bnetwork_fault [some w0, none, none, none] S).out := rfl
/-! _law_state -/
def N_law_state : List Str := ["script"]
def B_law_state : List Sx := [.ret (.lst true [(.blt .lstF (.loc 0) []), (.int 0), (.int 0), (.int 0), (.bl false)])]
noncomputable def G_law_state : GV := ⟨[], [], ["list"], false⟩
noncomputable def F_law_state : List W → Sto → Rs W := runV G_law_state 1 B_law_state
theorem e_law_state {w0 : W} {S : Sto} : F_law_state [w0] S = (evSs G_law_state B_law_state [some w0] S).out := rfl
/-! _law_draw -/
def N_law_draw : List Str := ["state", "limit", "cell", "digit", "mixed"]
def B_law_draw : List Sx := [.ifs (.cmp .eq (.idx (.loc 0) (.int 3)) (.int 0))
    [.ifs (.cmp .ge (.idx (.loc 0) (.int 1)) (.blt .len (.idx (.loc 0) (.int 0)) []))
    [.ret (.int 0)]
    [], .asg (.nm 2) (.idx (.idx (.loc 0) (.int 0)) (.idx (.loc 0) (.int 1))), .ifs (.cmp .lt (.loc 2) (.int 0))
    [.asg (.nm 2) (.bin .sub (.neg (.int 1)) (.loc 2))]
    [], .sput (.loc 0) (.int 1) (.bin .add (.idx (.loc 0) (.int 1)) (.int 1)), .sput (.loc 0) (.int 2) (.loc 2), .sput (.loc 0) (.int 4) (.cmp .ge (.loc 2) (.bin .pow (.int 10) (.int 18))), .sput (.loc 0) (.int 3) (.int 6), .ifs (.idx (.loc 0) (.int 4))
    [.sput (.loc 0) (.int 3) (.int 60)]
    []]
    [], .sput (.loc 0) (.int 3) (.bin .sub (.idx (.loc 0) (.int 3)) (.int 1)), .ifs (.idx (.loc 0) (.int 4))
    [.asg (.nm 3) (.bin .mod (.blt .int (.idx (.loc 0) (.int 2)) []) (.loc 1)), .sput (.loc 0) (.int 2) (.bin .fdv (.idx (.loc 0) (.int 2)) (.loc 1)), .ifs (.cmp .eq (.idx (.loc 0) (.int 2)) (.int 0))
    [.sput (.loc 0) (.int 3) (.int 0)]
    [], .ret (.loc 3)]
    [], .asg (.nm 4) (.bin .mod (.blt .int (.bin .add (.bin .add (.bin .mul (.idx (.loc 0) (.int 2)) (.int 48271)) (.bin .mul (.idx (.loc 0) (.int 3)) (.int 69621))) (.int 7)) []) (.int 2147483647)), .asg (.nm 4) (.bin .mod (.blt .int (.bin .add (.bin .add (.bin .mul (.loc 4) (.loc 4)) (.bin .mul (.idx (.loc 0) (.int 2)) (.int 31))) (.idx (.loc 0) (.int 3))) []) (.int 1000003)), .ret (.bin .mod (.blt .int (.loc 4) []) (.loc 1))]
noncomputable def G_law_draw : GV := ⟨[], [], ["len", "int"], false⟩
noncomputable def F_law_draw : List W → Sto → Rs W := runV G_law_draw 5 B_law_draw
theorem e_law_draw {w0 w1 : W} {S : Sto} : F_law_draw [w0, w1] S = (evSs G_law_draw B_law_draw [some w0, some w1, none, none, none] S).out := rfl
/-! _law_number -/
def N_law_number : List Str := ["state", "kind"]
def B_law_number : List Sx := [.asg (.nm 1) (.call 0 (.loc 0) [(.int 8)]), .ifs (.cmp .lt (.loc 1) (.int 5))
    [.ret (.bin .sub (.call 0 (.loc 0) [(.int 9)]) (.int 3))]
    [], .ifs (.cmp .lt (.loc 1) (.int 7))
    [.ret (.bin .sub (.call 0 (.loc 0) [(.int 241)]) (.int 120))]
    [], .ret (.bin .add (.bin .mul (.bin .sub (.call 0 (.loc 0) [(.int 2001)]) (.int 1000)) (.bin .pow (.int 10) (.int 24))) (.call 0 (.loc 0) [(.int 1000)]))]
noncomputable def G_law_number : GV := ⟨[("_law_draw", 2, F_law_draw)], [], [], false⟩
noncomputable def F_law_number : List W → Sto → Rs W := runV G_law_number 2 B_law_number
theorem e_law_number {w0 : W} {S : Sto} : F_law_number [w0] S = (evSs G_law_number B_law_number [some w0, none] S).out := rfl
/-! _law_name -/
def N_law_name : List Str := ["state", "letters", "size", "name", "k"]
def B_law_name : List Sx := [.asg (.nm 1) (.str "abcdefghijklmnopqrstuvwxyz"), .asg (.nm 2) (.bin .add (.int 1) (.idx (.lst false [(.call 0 (.loc 0) [(.int 3)]), (.call 0 (.loc 0) [(.int 12)])]) (.call 0 (.loc 0) [(.int 2)]))), .asg (.nm 3) (.str ""), .fors (.nm 4) .rng1 [(.loc 2)]
    [.asg (.nm 3) (.bin .add (.loc 3) (.idx (.loc 1) (.call 0 (.loc 0) [(.int 26)])))], .ret (.loc 3)]
noncomputable def G_law_name : GV := ⟨[("_law_draw", 2, F_law_draw)], [], ["range"], false⟩
noncomputable def F_law_name : List W → Sto → Rs W := runV G_law_name 5 B_law_name
theorem e_law_name {w0 : W} {S : Sto} : F_law_name [w0] S = (evSs G_law_name B_law_name [some w0, none, none, none, none] S).out := rfl
/-! _law_offices -/
def N_law_offices : List Str := ["state", "count", "found", "k", "spare", "letter", "name"]
def B_law_offices : List Sx := [.asg (.nm 2) (.lst true []), .fors (.nm 3) .rng1 [(.loc 1)]
    [.asg (.nm 4) (.bin .add (.lst false [(.call 0 (.loc 0) [])]) (.comp false (.bin .add (.str "q") (.loc 5)) (.nm 5) .seq [(.str "abcdefghijklmnopqrstuvwxyz")] [] [("letter", 5)])), .expr (.mth .append (.loc 2) (.idx (.comp false (.loc 6) (.nm 6) .seq [(.loc 4)] [(.cmp .notin (.loc 6) (.loc 2))] [("name", 6)]) (.int 0)) [])], .ret (.blt .tupT (.blt .srt (.loc 2) []) [])]
noncomputable def G_law_offices : GV := ⟨[("_law_name", 1, F_law_name)], [], ["range", "tuple", "sorted"], false⟩
noncomputable def F_law_offices : List W → Sto → Rs W := runV G_law_offices 7 B_law_offices
theorem e_law_offices {w0 w1 : W} {S : Sto} : F_law_offices [w0, w1] S = (evSs G_law_offices B_law_offices [some w0, some w1, none, none, none, none, none] S).out := rfl
/-! _law_in_order -/
def N_law_in_order : List Str := ["legs", "found", "pair", "leg"]
def B_law_in_order : List Sx := [.asg (.nm 1) (.lst false []), .fors (.nm 2) .seq [(.srt2 (.comp false (.sli (.loc 3) [] [(.int 2)]) (.nm 3) .seq [(.loc 0)] [] [("leg", 3)]))]
    [.asg (.nm 1) (.bin .add (.loc 1) (.comp false (.loc 3) (.nm 3) .seq [(.loc 0)] [(.cmp .eq (.sli (.loc 3) [] [(.int 2)]) (.loc 2))] [("leg", 3)]))], .ret (.blt .tupT (.loc 1) [])]
noncomputable def G_law_in_order : GV := ⟨[], [], ["sorted", "set", "tuple"], false⟩
noncomputable def F_law_in_order : List W → Sto → Rs W := runV G_law_in_order 4 B_law_in_order
theorem e_law_in_order {w0 : W} {S : Sto} : F_law_in_order [w0] S = (evSs G_law_in_order B_law_in_order [some w0, none, none, none] S).out := rfl
/-! _law_word -/
def N_law_word : List Str := ["value"]
def B_law_word : List Sx := [.ifs (.cmp .is (.loc 0) .non)
    [.ret (.str "none")]
    [], .ret (.blt .strI (.loc 0) [])]
noncomputable def G_law_word : GV := ⟨[], [], ["str"], false⟩
noncomputable def F_law_word : List W → Sto → Rs W := runV G_law_word 1 B_law_word
theorem e_law_word {w0 : W} {S : Sto} : F_law_word [w0] S = (evSs G_law_word B_law_word [some w0] S).out := rfl
/-! _law_form_lines -/
def N_law_form_lines : List Str := ["form", "head", "value", "tail", "step"]
def B_law_form_lines : List Sx := [.asg (.nm 1) (.str "head"), .fors (.nm 2) .seq [(.idx (.loc 0) (.int 0))]
    [.asg (.nm 1) (.bin .add (.bin .add (.loc 1) (.str " ")) (.call 0 (.loc 2) []))], .asg (.nm 3) (.str "tail"), .fors (.tp [2, 4]) .seq [(.idx (.loc 0) (.int 1))]
    [.asg (.nm 3) (.bin .add (.bin .add (.loc 3) (.str " ")) (.idx (.lst false [(.str "none"), (.bin .add (.bin .add (.call 0 (.loc 2) []) (.str "/")) (.blt .strI (.loc 4) []))]) (.blt .int (.cmp .isnot (.loc 2) .non) [])))], .ret (.lst false [(.loc 1), (.loc 3)])]
noncomputable def G_law_form_lines : GV := ⟨[("_law_word", 1, F_law_word)], [], ["str", "int"], false⟩
noncomputable def F_law_form_lines : List W → Sto → Rs W := runV G_law_form_lines 5 B_law_form_lines
theorem e_law_form_lines {w0 : W} {S : Sto} : F_law_form_lines [w0] S = (evSs G_law_form_lines B_law_form_lines [some w0, none, none, none, none] S).out := rfl
/-! _law_long -/
def N_law_long : List Str := ["state", "kind"]
def B_law_long : List Sx := [.asg (.nm 1) (.call 0 (.loc 0) [(.int 12)]), .ifs (.cmp .eq (.loc 1) (.int 0))
    [.ret (.bin .add (.bin .pow (.int 10) (.int 39)) (.call 0 (.loc 0) [(.int 9)]))]
    [], .ifs (.cmp .eq (.loc 1) (.int 1))
    [.ret (.bin .sub (.bin .sub (.int 0) (.bin .pow (.int 10) (.int 38))) (.call 0 (.loc 0) [(.int 9)]))]
    [], .ret (.call 1 (.loc 0) [])]
noncomputable def G_law_long : GV := ⟨[("_law_draw", 2, F_law_draw), ("_law_number", 1, F_law_number)], [], [], false⟩
noncomputable def F_law_long : List W → Sto → Rs W := runV G_law_long 2 B_law_long
theorem e_law_long {w0 : W} {S : Sto} : F_law_long [w0] S = (evSs G_law_long B_law_long [some w0, none] S).out := rfl
/-! _law_text_form -/
def N_law_text_form : List Str := ["state", "head", "k", "tail"]
def B_law_text_form : List Sx := [.asg (.nm 1) (.comp false (.idx (.lst false [.non, (.call 1 (.loc 0) [])]) (.blt .int (.cmp .gt (.call 0 (.loc 0) [(.int 4)]) (.int 0)) [])) (.nm 2) .rng1 [(.call 0 (.loc 0) [(.int 6)])] [] [("k", 2)]), .asg (.nm 3) (.comp false (.idx (.lst false [(.tup [.non, (.int 0)]), (.tup [(.call 1 (.loc 0) []), (.call 1 (.loc 0) [])])]) (.blt .int (.cmp .gt (.call 0 (.loc 0) [(.int 4)]) (.int 0)) [])) (.nm 2) .rng1 [(.bin .add (.int 1) (.call 0 (.loc 0) [(.int 4)]))] [] [("k", 2)]), .ret (.tup [(.blt .tupT (.loc 1) []), (.blt .tupT (.loc 3) [])])]
noncomputable def G_law_text_form : GV := ⟨[("_law_draw", 2, F_law_draw), ("_law_long", 1, F_law_long)], [], ["range", "int", "tuple"], false⟩
noncomputable def F_law_text_form : List W → Sto → Rs W := runV G_law_text_form 4 B_law_text_form
theorem e_law_text_form {w0 : W} {S : Sto} : F_law_text_form [w0] S = (evSs G_law_text_form B_law_text_form [some w0, none, none, none] S).out := rfl
end CM

/-! k82: small functions on any plain value -/
namespace CM
open PySem PySem.Spec PyProof.Rows L2 Z
theorem v_is_integer {S : Sto} {d : D} (h : pln d = true) : Fis_integer [.v d] S = .ok (.v (.bl (Z.isInt d))) S := by
  rw [eis_integer]
  unfold Bis_integer Gis_integer
  cases d <;> first | (simp [pln] at h; done) | simp [isTy, Z.isInt, asL]
def lowS (x : Str) : Bool := decide (1 ≤ x.length) && decide (x.length ≤ 12) && rngS 97 122 x
/-- a name -/
def nmD : D → Bool | .str x => lowS x | _ => false
theorem v_is_name_str {S : Sto} {x : Str} (hl : x.length ≤ sizeLine) : Fis_name [.v (.str x)] S = .ok (.v (.bl (lowS x))) S := by
  rw [eis_name]
  unfold Bis_name Gis_name lowS
  have e1 : lenA M00 (.str x) = some (.int x.length) := if_pos hl
  by_cases h1 : 1 ≤ x.length
  · by_cases h2 : x.length ≤ 12
    · have h1' : (1 : Int) ≤ x.length := by omega
      have h2' : (x.length : Int) ≤ 12 := by omega
      simp [h1', h2', COp.vo, isTy, Bt.wo, e1, itW, itmW, itemsA, hl, h1, h2]
      rw [all_chars 1 x c_a c_z (fun d => rfl)]
      simp [Bt.wo]
    · have h1' : (1 : Int) ≤ x.length := by omega
      have h2' : ¬ (x.length : Int) ≤ 12 := by omega
      simp [h1', h2', COp.vo, isTy, Bt.wo, e1, h2]
  · have h1' : ¬ (1 : Int) ≤ x.length := by omega
    simp [h1', COp.vo, isTy, Bt.wo, e1, h1]
/-- texts that are not too long -/
def szD : D → Bool | .str x => decide (x.length ≤ sizeLine) | _ => true
theorem v_is_name {S : Sto} {d : D} (h : pln d = true) (hs : szD d = true) : Fis_name [.v d] S = .ok (.v (.bl (nmD d))) S := by
  cases d with
  | str x => exact v_is_name_str (of_decide_eq_true hs)
  | ref a => simp [pln] at h
  | dK a b => rw [eis_name]; unfold Bis_name Gis_name nmD; first | (simp [pln] at h; done) | simp [isTy, asL]
  | dT a b => rw [eis_name]; unfold Bis_name Gis_name nmD; first | (simp [pln] at h; done) | simp [isTy, asL]
  | _ => rw [eis_name]; unfold Bis_name Gis_name nmD; first | (simp [pln] at h; done) | simp [isTy, asL]
def bndD (d : D) : Bool := Z.isNon d || Z.isInt d
theorem v_is_bound {S : Sto} {d : D} (h : pln d = true) : Fis_bound [.v d] S = .ok (.v (.bl (bndD d))) S := by
  rw [eis_bound]
  unfold Bis_bound Gis_bound bndD
  have hi := v_is_integer (S := S) h
  cases d <;> first | (simp [pln] at h; done) | (simp [callV, Z.isNon, Z.isInt]; done) | simp [callV, hi, Z.isNon, Z.isInt]
/-- a pair of a tail -/
def prB : D → Bool
  | .tp _ [v, s] => if Z.isNon v = true then (match s with | .int i => decide (i = 0) | _ => false) else Z.isInt v && Z.isInt s
  | _ => false
end CM

/-! k82: draws, names -/
namespace CM
open PySem PySem.Spec PyProof.Rows L2 Z
section
variable {J : Sto} {a b c d e x : D}
theorem q0 : ixW (some (.lst [a, b, c, d, e]) :: J) (.r 0) (.v (.int 0)) = some (.v a) := rfl
theorem q1 : ixW (some (.lst [a, b, c, d, e]) :: J) (.r 0) (.v (.int 1)) = some (.v b) := rfl
theorem q2 : ixW (some (.lst [a, b, c, d, e]) :: J) (.r 0) (.v (.int 2)) = some (.v c) := rfl
theorem q3 : ixW (some (.lst [a, b, c, d, e]) :: J) (.r 0) (.v (.int 3)) = some (.v d) := rfl
theorem q4 : ixW (some (.lst [a, b, c, d, e]) :: J) (.r 0) (.v (.int 4)) = some (.v e) := rfl
theorem u1 : putW (some (.lst [a, b, c, d, e]) :: J) (.r 0) (.v (.int 1)) (.v x) = some (some (.lst [a, x, c, d, e]) :: J) := rfl
theorem u2 : putW (some (.lst [a, b, c, d, e]) :: J) (.r 0) (.v (.int 2)) (.v x) = some (some (.lst [a, b, x, d, e]) :: J) := rfl
theorem u3 : putW (some (.lst [a, b, c, d, e]) :: J) (.r 0) (.v (.int 3)) (.v x) = some (some (.lst [a, b, c, x, e]) :: J) := rfl
theorem u4 : putW (some (.lst [a, b, c, d, e]) :: J) (.r 0) (.v (.int 4)) (.v x) = some (some (.lst [a, b, c, d, x]) :: J) := rfl
end
theorem mulOk_r {i j : Int} (h : Builtin.Int.intBits j ≤ 64) : mulOk i j = true := by
  unfold mulOk
  have : decide (Builtin.Int.intBits j > shortFactorBits) = false := decide_eq_false (by unfold shortFactorBits; omega)
  rw [this]; simp
theorem mo1 {i : Int} : mulOk i 48271 = true := mulOk_r (by decide +kernel)
theorem mo2 {i : Int} : mulOk i 69621 = true := mulOk_r (by decide +kernel)
theorem mo3 {i : Int} : mulOk i 31 = true := mulOk_r (by decide +kernel)
theorem mo4 {m : Int} (h0 : 0 ≤ m) (h : m < 2147483647) : mulOk m m = true := mulOk_r (PySem.intBits_le_iff.mpr (by omega))
theorem dr2 {a : D} {k v c lim : Int} {b : Bool} {o : Option W} {J : Sto} (hv : 0 ≤ v) (h1 : 1 ≤ lim) (h2 : lim < 1073741824) : ∃ r v' c', 0 ≤ r ∧ r < lim ∧ 0 ≤ v' ∧
    evSs G_law_draw (B_law_draw.drop 1) [some (.r 0), some (.v (.int lim)), o, none, none] (some (.lst [a, .int k, .int v, .int c, .bl b]) :: J) = .ok (.rt (.v (.int r))) (some (.lst [a, .int k, .int v', .int c', .bl b]) :: J) := by
  have hl0 : lim ≠ 0 := by omega
  have hl : lim.natAbs < 1073741824 := by omega
  unfold B_law_draw G_law_draw
  cases b with
  | true =>
    by_cases hz : v.fdiv lim = 0
    · refine ⟨v.fmod lim, v.fdiv lim, 0, Int.fmod_nonneg_of_pos v (by omega), Int.fmod_lt_of_pos v (by omega), by omega, ?_⟩
      simp [q0, q1, q2, q3, q4, u1, u2, u3, u4, vmod, vfdv, hl0, hl, hz]
    · refine ⟨v.fmod lim, v.fdiv lim, c - 1, Int.fmod_nonneg_of_pos v (by omega), Int.fmod_lt_of_pos v (by omega), Int.fdiv_nonneg hv (by omega), ?_⟩
      simp [q0, q1, q2, q3, q4, u1, u2, u3, u4, vmod, vfdv, hl0, hl, hz]
  | false =>
    have m1 := Int.fmod_nonneg_of_pos (v * 48271 + (c - 1) * 69621 + 7) (show (0 : Int) < 2147483647 by omega)
    have m2 := Int.fmod_lt_of_pos (v * 48271 + (c - 1) * 69621 + 7) (show (0 : Int) < 2147483647 by omega)
    have m3 := mo4 m1 m2
    generalize hm : (v * 48271 + (c - 1) * 69621 + 7).fmod 2147483647 = m at m1 m2 m3
    refine ⟨((m * m + v * 31 + (c - 1)).fmod 1000003).fmod lim, v, c - 1, Int.fmod_nonneg_of_pos _ (by omega), Int.fmod_lt_of_pos _ (by omega), hv, ?_⟩
    simp [q0, q1, q2, q3, q4, u1, u2, u3, u4, vmod, vmul, hl0, mo1, mo2, mo3, hm, m3]
def sx1 : Sx := .ifs (.cmp .eq (.idx (.loc 0) (.int 3)) (.int 0))
    [.ifs (.cmp .ge (.idx (.loc 0) (.int 1)) (.blt .len (.idx (.loc 0) (.int 0)) []))
    [.ret (.int 0)]
    [], .asg (.nm 2) (.idx (.idx (.loc 0) (.int 0)) (.idx (.loc 0) (.int 1))), .ifs (.cmp .lt (.loc 2) (.int 0))
    [.asg (.nm 2) (.bin .sub (.neg (.int 1)) (.loc 2))]
    [], .sput (.loc 0) (.int 1) (.bin .add (.idx (.loc 0) (.int 1)) (.int 1)), .sput (.loc 0) (.int 2) (.loc 2), .sput (.loc 0) (.int 4) (.cmp .ge (.loc 2) (.bin .pow (.int 10) (.int 18))), .sput (.loc 0) (.int 3) (.int 6), .ifs (.idx (.loc 0) (.int 4))
    [.sput (.loc 0) (.int 3) (.int 60)]
    []]
    []
/-- the law's state -/
structure Stt where
  ns : List Int
  k : Nat
  v : Int
  c : Int
  b : Bool
  hv : 0 ≤ v
def stL (s : Stt) : List D := [.lst (s.ns.map D.int), .int s.k, .int s.v, .int s.c, .bl s.b]
def SS (s : Stt) (J : Sto) : Sto := some (.lst (stL s)) :: J
theorem v_draw (s : Stt) (J : Sto) {lim : Int} (h1 : 1 ≤ lim) (h2 : lim < 1073741824) : ∃ (r : Int) (s' : Stt), 0 ≤ r ∧ r < lim ∧ F_law_draw [.r 0, .v (.int lim)] (SS s J) = .ok (.v (.int r)) (SS s' J) := by
  obtain ⟨ns, k, v, c, b, hv⟩ := s
  have two : ∀ (s : Sx) (r : List Sx) (en : WEn) (S : Sto), evSs G_law_draw (s :: r) en S = (evS G_law_draw s en S).bind fun o S1 => match o with | .nx e => evSs G_law_draw r e S1 | o => .ok o S1 := fun _ _ _ _ => rfl
  have hB : B_law_draw = sx1 :: B_law_draw.drop 1 := rfl
  rw [e_law_draw]
  have go : ∀ (k' : Nat) (v' c' : Int) (b' : Bool) (o : Option W), 0 ≤ v' → evS G_law_draw sx1 [some (.r 0), some (.v (.int lim)), none, none, none] (SS ⟨ns, k, v, c, b, hv⟩ J) = .ok (.nx [some (.r 0), some (.v (.int lim)), o, none, none]) (some (.lst [.lst (ns.map D.int), .int k', .int v', .int c', .bl b']) :: J) → ∃ (r : Int) (s' : Stt), 0 ≤ r ∧ r < lim ∧ (evSs G_law_draw B_law_draw [some (.r 0), some (.v (.int lim)), none, none, none] (SS ⟨ns, k, v, c, b, hv⟩ J)).out = .ok (.v (.int r)) (SS s' J) := by
    intro k' v' c' b' o hv' h
    obtain ⟨r, v2, c2, r1, r2, r3, r4⟩ := dr2 (a := .lst (ns.map D.int)) (k := k') (v := v') (c := c') (b := b') (o := o) (J := J) hv' h1 h2
    refine ⟨r, ⟨ns, k', v2, c2, b', r3⟩, r1, r2, ?_⟩
    rw [hB, two, h]
    simp only [Rs.bind_ok, r4]
    rfl
  by_cases hc : c = 0
  · subst hc
    by_cases hk : k < ns.length
    · have hk' : ¬ ((ns.length : Int) ≤ k) := by omega
      have hx : ∀ {S : Sto}, ixW S (.v (.lst (ns.map D.int))) (.v (.int (k : Int))) = some (.v (.int ns[k])) := fun {S} => ix_lst (by rw [List.getElem?_map, List.getElem?_eq_getElem hk]; rfl)
      generalize ns[k] = z at hx
      have e18 : vpow (.int 10) (.int 18) = some (.int 1000000000000000000) := by simp [vpow]
      have hl : ((ns.map D.int).length : Int) = ns.length := by rw [List.length_map]
      have ek : ((k : Int) + 1) = ((k + 1 : Nat) : Int) := by omega
      by_cases hz : z < 0
      · have hv' : 0 ≤ -1 - z := by omega
        by_cases hb : (1000000000000000000 : Int) ≤ -1 - z
        · refine go (k + 1) (-1 - z) 60 true (some (.v (.int (-1 - z)))) hv' ?_
          unfold sx1 G_law_draw SS stL
          simp [q0, q1, q2, q3, q4, u1, u2, u3, u4, hk', hx, hl, hz, vneg, e18, hb]
        · refine go (k + 1) (-1 - z) 6 false (some (.v (.int (-1 - z)))) hv' ?_
          unfold sx1 G_law_draw SS stL
          simp [q0, q1, q2, q3, q4, u1, u2, u3, u4, hk', hx, hl, hz, vneg, e18, hb]
      · have hv' : 0 ≤ z := by omega
        by_cases hb : (1000000000000000000 : Int) ≤ z
        · refine go (k + 1) z 60 true (some (.v (.int z))) hv' ?_
          unfold sx1 G_law_draw SS stL
          simp [q0, q1, q2, q3, q4, u1, u2, u3, u4, hk', hx, hl, hz, vneg, e18, hb]
        · refine go (k + 1) z 6 false (some (.v (.int z))) hv' ?_
          unfold sx1 G_law_draw SS stL
          simp [q0, q1, q2, q3, q4, u1, u2, u3, u4, hk', hx, hl, hz, vneg, e18, hb]
    · have hk' : ((ns.length : Int) ≤ k) := by omega
      refine ⟨0, ⟨ns, k, v, 0, b, hv⟩, by omega, by omega, ?_⟩
      unfold B_law_draw G_law_draw SS stL
      simp [q0, q1, q2, q3, q4, hk']
  · refine go k v c b none hv ?_
    unfold sx1 G_law_draw SS stL
    simp [q3, hc]
theorem mulOk_l {i j : Int} (h : Builtin.Int.intBits i ≤ 64) : mulOk i j = true := by
  unfold mulOk
  have : decide (Builtin.Int.intBits i > shortFactorBits) = false := decide_eq_false (by unfold shortFactorBits; omega)
  rw [this]; simp
/-- a comprehension with draws -/
theorem comp_dr {tg : Tg} {te : WF W} {G : GV} {en : WEn} {J : Sto} {P : D → Prop} : ∀ (items : List D) (s : Stt), (∀ x ∈ items, ∃ e1, bindV tg (.v x) en = some e1 ∧ ∀ s, ∃ d s', P d ∧ te e1 (SS s J) = .ok (.v d) (SS s' J)) →
    ∃ ds s', (∀ d ∈ ds, P d) ∧ ds.length = items.length ∧ compV tg (evC G []) te en items (SS s J) = .ok ds (SS s' J)
  | [], s, _ => ⟨[], s, by simp, rfl, rfl⟩
  | x :: r, s, h => by
    obtain ⟨e1, b1, h1⟩ := h x (by simp)
    obtain ⟨d, s1, p1, t1⟩ := h1 s
    obtain ⟨ds, s2, p2, l2, t2⟩ := comp_dr (te := te) (G := G) (J := J) (P := P) r s1 fun z hz => h z (List.mem_cons_of_mem _ hz)
    refine ⟨d :: ds, s2, ?_, by rw [List.length_cons, l2, List.length_cons], ?_⟩
    · intro z hz
      rcases List.mem_cons.mp hz with e | hz
      · rw [e]; exact p1
      · exact p2 z hz
    · unfold compV
      rw [b1]
      simp only [evC_1, Rs.bind_ok, t1, t2]
theorem pull {α : Type} {g : α → D} {Q : α → Prop} : ∀ ds : List D, (∀ d ∈ ds, ∃ o, Q o ∧ d = g o) → ∃ os : List α, os.map g = ds ∧ ∀ o ∈ os, Q o
  | [], _ => ⟨[], rfl, by simp⟩
  | d :: r, h => by
    obtain ⟨o, q, e⟩ := h d (by simp)
    obtain ⟨os, e2, q2⟩ := pull r fun z hz => h z (List.mem_cons_of_mem _ hz)
    refine ⟨o :: os, by rw [List.map_cons, e2, e], ?_⟩
    intro z hz
    rcases List.mem_cons.mp hz with e | hz
    · rw [e]; exact q
    · exact q2 z hz
theorem it_rng {j : Int} (h0 : 0 ≤ j) (h : j ≤ 16777216) : itW .rng1 [.v (.int j)] = some (rngD 0 j.toNat) := if_pos ⟨by omega, h⟩
theorem rng_len (i : Int) (n : Nat) : (rngD i n).length = n := rngD_len i n
theorem getS_SS {s : Stt} {J : Sto} {o : Option VO} : getS (SS s (J ++ [o])) (J.length + 1) = o := by
  show getS (some (.lst (stL s)) :: (J ++ [o])) (J.length + 1) = o
  unfold getS
  simp
theorem setS_SS {s : Stt} {J : Sto} {o o' : Option VO} : setS (SS s (J ++ [o])) (J.length + 1) o' = SS s (J ++ [o']) := by
  show (some (.lst (stL s)) :: (J ++ [o])).set (J.length + 1) o' = _
  simp [SS]
theorem vadd_str {a b : Str} (h : a.length + b.length ≤ sizeLine) : vadd (.str a) (.str b) = some (.str (a ++ b)) := if_pos h
theorem len_app (x y : Str) : (x ++ y).length = x.length + y.length := by
  rw [TL.len_tl, TL.len_tl, TL.len_tl, TL.tl_append, List.length_append]
theorem sl1000 : (1000 : Nat) + 2 ≤ sizeLine := by decide
def abc : Str := "abcdefghijklmnopqrstuvwxyz"
theorem abc_tl : tl abc = List.range' 97 26 := by decide +kernel
theorem ix_abc {S : Sto} {k : Nat} (h : k < 26) : ixW S (.v (.str abc)) (.v (.int (k : Nat))) = some (.v (.str ⟨#[97 + k]⟩)) := by
  have hl : abc.length ≤ sizeLine := by decide +kernel
  have e : atI abc.cps.toList ((k : Nat) : Int) = some (97 + k) := by
    rw [show abc.cps.toList = List.range' 97 26 from abc_tl, atI_get (by rw [List.length_range']; exact h)]
    rw [List.getElem?_range' h]; simp
  unfold ixW
  simp only [plW_int, if_pos hl, e]
def azS (x : Str) : Prop := rngS 97 122 x = true
theorem az_app {x : Str} {k : Nat} (h : azS x) (hk : k < 26) : azS (x ++ ⟨#[97 + k]⟩) := by
  unfold azS rngS at *
  rw [show tl (x ++ ⟨#[97 + k]⟩) = tl x ++ tl (⟨#[97 + k]⟩ : Str) from TL.tl_append _ _, List.all_append, h, Bool.true_and]
  show (decide (97 ≤ 97 + k) && decide (97 + k ≤ 122) && true) = true
  rw [decide_eq_true (by omega), decide_eq_true (by omega)]; rfl
def bodyN : List Sx := [.asg (.nm 3) (.bin .add (.loc 3) (.idx (.loc 1) (.call 0 (.loc 0) [(.int 26)])))]
theorem loop_N {o2 : Option W} (J : Sto) : ∀ (items : List D) (s : Stt) (x : Str) (o4 : Option W), azS x → x.length + items.length ≤ 100 → ∃ (s' : Stt) (x' : Str) (o4' : Option W), azS x' ∧ x'.length = x.length + items.length ∧
    turnsV (.nm 4) (evSs G_law_name bodyN) items [some (.r 0), some (.v (.str abc)), o2, some (.v (.str x)), o4] (SS s J) = .ok (.nx [some (.r 0), some (.v (.str abc)), o2, some (.v (.str x')), o4']) (SS s' J)
  | [], s, x, o4, h, _ => ⟨s, x, o4, h, rfl, rfl⟩
  | y :: r, s, x, o4, h, hl => by
    rw [List.length_cons] at hl
    obtain ⟨q, s1, q1, q2, hq⟩ := v_draw s J (lim := 26) (by omega) (by omega)
    obtain ⟨k, rfl⟩ : ∃ k : Nat, q = k := ⟨q.toNat, by omega⟩
    have l1 : (⟨#[97 + k]⟩ : Str).length = 1 := rfl
    have s0 := sl1000
    have a : vadd (.str x) (.str ⟨#[97 + k]⟩) = some (.str (x ++ ⟨#[97 + k]⟩)) := vadd_str (by rw [l1]; omega)
    obtain ⟨s2, x', o4', z1, z2, z3⟩ := loop_N J (o2 := o2) r s1 (x ++ ⟨#[97 + k]⟩) (some (.v y)) (az_app h (by omega)) (by rw [len_app, l1]; omega)
    refine ⟨s2, x', o4', z1, by rw [z2, len_app, l1, List.length_cons]; omega, ?_⟩
    conv => lhs; unfold turnsV
    have b : evSs G_law_name bodyN [some (.r 0), some (.v (.str abc)), o2, some (.v (.str x)), some (.v y)] (SS s J) = .ok (.nx [some (.r 0), some (.v (.str abc)), o2, some (.v (.str (x ++ ⟨#[97 + k]⟩))), some (.v y)]) (SS s1 J) := by
      unfold bodyN G_law_name
      simp [callV, hq, ix_abc (show k < 26 by omega), a]
    simp only [bindV_nm, setV2_s, setV2_0, b, Rs.bind_ok, z3]
theorem ix2 {S : Sto} {x y : D} {q : Int} (h0 : 0 ≤ q) (h : q < 2) : ixW S (.v (.lst [x, y])) (.v (.int q)) = some (.v (if q = 0 then x else y)) := by
  by_cases e : q = 0
  · subst e; exact ix_lst (i := 0) rfl
  · have : q = 1 := by omega
    subst this; exact ix_lst (i := 1) rfl
theorem v_law_name (s : Stt) (J : Sto) : ∃ (x : Str) (s' : Stt), lowS x = true ∧ F_law_name [.r 0] (SS s J) = .ok (.v (.str x)) (SS s' J) := by
  rw [e_law_name]
  have hB : B_law_name = [.asg (.nm 1) (.str "abcdefghijklmnopqrstuvwxyz"), .asg (.nm 2) (.bin .add (.int 1) (.idx (.lst false [(.call 0 (.loc 0) [(.int 3)]), (.call 0 (.loc 0) [(.int 12)])]) (.call 0 (.loc 0) [(.int 2)]))), .asg (.nm 3) (.str ""), .fors (.nm 4) .rng1 [(.loc 2)] bodyN, .ret (.loc 3)] := rfl
  obtain ⟨a, s1, a1, a2, ha⟩ := v_draw s J (lim := 3) (by omega) (by omega)
  obtain ⟨b, s2, b1, b2, hb⟩ := v_draw s1 J (lim := 12) (by omega) (by omega)
  obtain ⟨c, s3, c1, c2, hc⟩ := v_draw s2 J (lim := 2) (by omega) (by omega)
  have key : ∃ n : Int, 0 ≤ n ∧ n < 12 ∧ ∀ S : Sto, ixW S (.v (.lst [.int a, .int b])) (.v (.int c)) = some (.v (.int n)) := by
    by_cases e : c = 0
    · exact ⟨a, by omega, by omega, fun S => by rw [ix2 c1 c2, if_pos e]⟩
    · exact ⟨b, by omega, by omega, fun S => by rw [ix2 c1 c2, if_neg e]⟩
  obtain ⟨n, n0, n1, hn⟩ := key
  obtain ⟨s4, x, o4', z1, z2, z3⟩ := loop_N J (o2 := some (.v (.int (1 + n)))) (rngD 0 (1 + n).toNat) s3 "" none (by show rngS 97 122 "" = true; decide +kernel) (by rw [rng_len, show ("" : Str).length = 0 by decide +kernel]; omega)
  rw [rng_len, show ("" : Str).length = 0 by decide +kernel] at z2
  refine ⟨x, s4, ?_, ?_⟩
  · unfold lowS
    rw [decide_eq_true (by omega), decide_eq_true (by omega), show rngS 97 122 x = true from z1]; rfl
  · have cf : ∀ r, callV G_law_name 0 r = r.bind fun ws S => if ws.length = 2 then F_law_draw ws S else .no := fun r => by unfold G_law_name; rfl
    have z3' : turnsV (.nm 4) (evSs G_law_name bodyN) (rngD 0 (1 + n).toNat) [some (.r 0), some (.v (.str "abcdefghijklmnopqrstuvwxyz")), some (.v (.int (1 + n))), some (.v (.str "")), none] (SS s3 J) = _ := z3
    rw [hB]
    simp only [evSs_2, evSs_1, evS_1, evS_9, evS_6, evE_5, evE_7, evE_4, evE_16, evE_15, evE_19, evE_1, evL_1, evL_2, getV_0, getV_s, lft_some, Rs.bind_ok, cf, List.length_cons, List.length_nil, Nat.zero_add, Nat.reduceAdd, if_true, ha, hb, hc, plnW_cons, plnW_nil, sl_2, hn, rd2_some' rdW_i rdW_i, bo_add, vadd_int, lfv_some, bindV_nm, setV2_0, setV2_s, it_rng (show 0 ≤ 1 + n by omega) (show 1 + n ≤ 16777216 by omega), z3', out_rt]
end CM

/-! k82: forms of any kind -/
namespace CM
open PySem PySem.Spec PyProof.Rows L2 Z
/-- plain members -/
def pl1 : D → Bool | .tp _ ds => ds.all pln | d => pln d
theorem v_is_pair {S : Sto} {d : D} (h : pln d = true) (h1 : pl1 d = true) : F_is_pair [.v d] S = .ok (.v (.bl (prB d))) S := by
  rw [e_is_pair]
  unfold B_is_pair G_is_pair
  cases d with
  | tp k ds =>
    match ds, h1 with
    | [], _ => simp [isTy, prB]
    | [a], _ => simp [isTy, prB]
    | [v, s], h1 =>
      have hv : pln v = true := by unfold pl1 at h1; simp at h1; exact h1.1
      have hs : pln s = true := by unfold pl1 at h1; simp at h1; exact h1.2
      have iv := fun S => v_is_integer (S := S) hv
      have is_ := fun S => v_is_integer (S := S) hs
      cases v with
      | non =>
        cases s with
        | int i => simp [isTy, prB, callV, is_, Z.isNon, Z.isInt]
        | _ => first | (simp [pln] at hs; done) | simp [isTy, prB, callV, is_, Z.isNon, Z.isInt]
      | int i =>
        cases hs2 : Z.isInt s <;> simp [isTy, prB, callV, iv, is_, Z.isNon, Z.isInt, hs2]
      | _ => first | (simp [pln] at hv; done) | simp [isTy, prB, callV, iv, is_, Z.isNon, Z.isInt]
    | a :: b :: c :: r, _ =>
      have : ¬ ((r.length : Int) + 1 + 1 + 1 = 2) := by omega
      simp [isTy, prB, this]
  | _ => first | (simp [pln] at h; done) | simp [isTy, prB, asL]
def isTp : D → Bool | .tp _ _ => true | _ => false
/-- a form of any kind: its members plain -/
def fpl : D → Bool
  | .tp _ [h, t] => pln h && pln t && (match h with | .tp _ hs => hs.all pln | _ => true) && (match t with | .tp _ ts => ts.all fun z => pln z && pl1 z | _ => true)
  | d => pln d
def ff2 (hs ts : List D) : D := if hs.length ≤ 4000 ∧ hs.all bndD = true then (if 1 ≤ ts.length ∧ ts.length ≤ 1000 ∧ ts.all prB = true then .non else .str "tail") else .str "head"
def ffD : D → D
  | .tp _ [.tp _ hs, .tp _ ts] => ff2 hs ts
  | _ => .str "form"
theorem v_ff2 {S : Sto} {k1 k2 k3 : TK} {hs ts : List D} (hh : hs.all pln = true) (ht : ts.all (fun z => pln z && pl1 z) = true) : Fform_fault [.v (.tp k1 [.tp k2 hs, .tp k3 ts])] S = .ok (.v (ff2 hs ts)) S := by
  rw [eform_fault]
  unfold Bform_fault Gform_fault ff2
  have ah : allA M00 (.lst (hs.map fun d => D.bl (bndD d))) = some (.bl (hs.all bndD)) := allA_map _ _
  have at_ : allA M00 (.lst (ts.map fun d => D.bl (prB d))) = some (.bl (ts.all prB)) := allA_map _ _
  generalize hA : hs.all bndD = A at ah
  generalize hB : ts.all prB = B at at_
  simp [isTy, cstV]
  by_cases h1 : hs.length ≤ 4000
  · have h1' : ¬ (4000 : Int) < hs.length := by omega
    simp [h1, h1']
    rw [compV_map (fun d => .bl (bndD d)) hs (fun x hx => by
      refine ⟨_, rfl, rfl, ?_⟩
      simp [callV, v_is_bound (List.all_eq_true.mp hh x hx)])]
    simp only [calm_ok, compR_ok, Rs.bind_ok, rd1_some' rdW_lst, ah, lfv_some]
    cases A with
    | false => simp
    | true =>
      by_cases h2 : 1 ≤ ts.length
      · by_cases h3 : ts.length ≤ 1000
        · have h2' : (1 : Int) ≤ ts.length := by omega
          have h3' : (ts.length : Int) ≤ 1000 := by omega
          simp [h2, h3, h2', h3']
          rw [compV_map (fun d => .bl (prB d)) ts (fun x hx => by
            refine ⟨_, rfl, rfl, ?_⟩
            have := List.all_eq_true.mp ht x hx
            rw [Bool.and_eq_true] at this
            simp [callV, v_is_pair this.1 this.2])]
          simp only [calm_ok, compR_ok, Rs.bind_ok, rd1_some' rdW_lst, at_, lfv_some]
          cases B <;> simp
        · have h2' : (1 : Int) ≤ ts.length := by omega
          have h3' : ¬ (ts.length : Int) ≤ 1000 := by omega
          simp [h3, h2', h3']
      · have h2' : ¬ (1 : Int) ≤ ts.length := by omega
        simp [h2, h2']
  · have h1' : (4000 : Int) < hs.length := by omega
    simp [h1, h1']
end CM

namespace CM
open PySem PySem.Spec PyProof.Rows L2 Z
theorem v_form_fault {S : Sto} {d : D} (h : fpl d = true) : Fform_fault [.v d] S = .ok (.v (ffD d)) S := by
  cases d with
  | tp k ds =>
    match ds, h with
    | [], _ => rw [eform_fault]; unfold Bform_fault Gform_fault ffD; simp [isTy]
    | [a], _ => rw [eform_fault]; unfold Bform_fault Gform_fault ffD; simp [isTy]
    | [a, t], h =>
      unfold fpl at h
      simp only [Bool.and_eq_true] at h
      obtain ⟨⟨⟨ha, ht⟩, h1⟩, h2⟩ := h
      cases a with
      | tp k2 hs =>
        cases t with
        | tp k3 ts => exact v_ff2 h1 h2
        | _ => first | (simp [pln] at ht; done) | (rw [eform_fault]; unfold Bform_fault Gform_fault ffD; simp [isTy, asL])
      | _ => first | (simp [pln] at ha; done) | (rw [eform_fault]; unfold Bform_fault Gform_fault ffD; simp [isTy, asL])
    | a :: b :: c :: r, _ =>
      have : ¬ ((r.length : Int) + 1 + 1 + 1 = 2) := by omega
      rw [eform_fault]; unfold Bform_fault Gform_fault ffD; simp [isTy, this]
  | _ => first | (simp [fpl, pln] at h; done) | (rw [eform_fault]; unfold Bform_fault Gform_fault ffD; simp [isTy, asL])
/-! rows -/
def rowB (n : Int) : D → Bool | .tp _ ds => decide ((ds.length : Int) = n) | _ => false
theorem v_is_row {S : Sto} {d : D} {n : Int} (h : pln d = true) : Fis_row [.v d, .v (.int n)] S = .ok (.v (.bl (rowB n d))) S := by
  rw [eis_row]
  unfold Bis_row Gis_row
  cases d <;> first | (simp [pln] at h; done) | simp [isTy, asL, rowB]
end CM

namespace CM
open PySem PySem.Spec PyProof.Rows L2 Z
theorem vlt_str {x y : Str} : vlt (.str x) (.str y) = some (.bl (ltD (.str x) (.str y))) := rfl
theorem v_is_ascending {S : Sto} {k : TK} {ws : List Str} (hl : ws.length ≤ 1000) : Fis_ascending [.v (.tp k (ws.map D.str))] S = .ok (.v (.bl (ascB (ws.map D.str)))) S := by
  rw [eis_ascending]
  unfold Bis_ascending Gis_ascending
  have ir : itW .rng1 [.v (.int ((ws.length : Int) - 1))] = some (rngD 0 (ws.length - 1)) := by
    have : ((ws.length : Int) - 1).toNat = ws.length - 1 := by omega
    rw [← this]
    exact if_pos ⟨by omega, by omega⟩
  simp [ir]
  rw [compV_map (fun d => match d with | .int i => .bl (match (ws.map D.str)[i.toNat]?, (ws.map D.str)[i.toNat + 1]? with | some x, some y => ltD x y | _, _ => false) | d => d) (rngD 0 (ws.length - 1)) (fun x hx => by
    obtain ⟨i, hi, rfl⟩ := rngD_mem hx
    refine ⟨_, rfl, rfl, ?_⟩
    have h1 : i < ws.length := by omega
    have h2 : i + 1 < ws.length := by omega
    have e0 : (0 : Int) + (i : Int) = ((i : Nat) : Int) := by omega
    have e1 : ∀ S, ixW S (.v (.tp k (ws.map D.str))) (.v (.int ((i : Nat) : Int))) = some (.v (.str ws[i])) := fun S => ix_tp (by rw [List.getElem?_map, List.getElem?_eq_getElem h1]; rfl)
    have e2 : ∀ S, ixW S (.v (.tp k (ws.map D.str))) (.v (.int ((i : Int) + 1))) = some (.v (.str ws[i + 1])) := fun S => ix_tp (i := i + 1) (by rw [List.getElem?_map, List.getElem?_eq_getElem h2]; rfl)
    have e3 : (ws.map D.str)[i]? = some (.str ws[i]) := by rw [List.getElem?_map, List.getElem?_eq_getElem h1]; rfl
    have e4 : (ws.map D.str)[i + 1]? = some (.str ws[i + 1]) := by rw [List.getElem?_map, List.getElem?_eq_getElem h2]; rfl
    rw [e0]
    simp only [setV2_s, setV2_0, evE_9, evE_16, evE_7, evE_4, evE_1, getV_0, getV_s, lft_some, Rs.bind_ok, e1, rd2_some' rdW_i rdW_i, bo_add, vadd_int, lfv_some, e2, co_lt, rd2_some' rdW_str rdW_str, vlt_str, Int.toNat_natCast, e3, e4])]
  have al : allA M00 (.lst ((rngD 0 (ws.length - 1)).map (fun d => match d with | .int i => D.bl (match (ws.map D.str)[i.toNat]?, (ws.map D.str)[i.toNat + 1]? with | some x, some y => ltD x y | _, _ => false) | d => d))) = some (.bl (ascB (ws.map D.str))) := by
    rw [rngD0, List.map_map, ← ascB_range, List.length_map]
    exact allA_map _ _
  simp only [calm_ok, compR_ok, Rs.bind_ok, rd1_some' rdW_lst, al, lfv_some, out_rt]
end CM

namespace CM
open PySem PySem.Spec PyProof.Rows L2 Z
theorem names_str : ∀ {ds : List D}, ds.all nmD = true → ∃ ws : List Str, ds = ws.map D.str
  | [], _ => ⟨[], rfl⟩
  | d :: r, h => by
    rw [List.all_cons, Bool.and_eq_true] at h
    obtain ⟨ws, e⟩ := names_str h.2
    cases d with
    | str x => exact ⟨x :: ws, by rw [e]; rfl⟩
    | _ => exact absurd h.1 (by simp [nmD])
def nmsB (lo hi : Int) (ds : List D) : Bool := decide (lo ≤ ds.length) && decide ((ds.length : Int) ≤ hi) && ds.all nmD && ascB ds
theorem v_is_names {S : Sto} {k : TK} {ds : List D} {lo hi : Int} (hp : ∀ d ∈ ds, pln d = true ∧ szD d = true) (hh : hi ≤ 1000) : Fis_names [.v (.tp k ds), .v (.int lo), .v (.int hi)] S = .ok (.v (.bl (nmsB lo hi ds))) S := by
  rw [eis_names]
  unfold Bis_names Gis_names nmsB
  have al : allA M00 (.lst (ds.map fun d => D.bl (nmD d))) = some (.bl (ds.all nmD)) := allA_map _ _
  have as : ds.all nmD = true → (ds.length : Int) ≤ hi → ∀ S, Fis_ascending [.v (.tp k ds)] S = .ok (.v (.bl (ascB ds))) S := fun h hl S => by
    obtain ⟨ws, e⟩ := names_str h
    subst e
    exact v_is_ascending (by rw [List.length_map] at hl; omega)
  generalize hA : ds.all nmD = A at al as
  by_cases h1 : lo ≤ ds.length
  · by_cases h2 : (ds.length : Int) ≤ hi
    · simp [isTy, h1, h2]
      rw [compV_map (fun d => .bl (nmD d)) ds (fun x hx => by
        refine ⟨_, rfl, rfl, ?_⟩
        simp [callV, v_is_name (hp x hx).1 (hp x hx).2])]
      simp only [calm_ok, compR_ok, Rs.bind_ok, rd1_some' rdW_lst, al, lfv_some]
      cases A with
      | false => simp
      | true => simp [callV, as rfl h2]
    · simp [isTy, h1, h2]
  · simp [isTy, h1]
end CM

namespace CM
open PySem PySem.Spec PyProof.Rows L2 Z
def negD : D → Bool | .int i => decide (i < 0) | _ => false
def neg2 : D → Bool | .tp _ [.int v, .int s] => decide (v < 0) || decide (s < 0) | _ => false
theorem prB_shape {d : D} (h : prB d = true) : ∃ k v s, d = .tp k [v, s] ∧ ((v = .non ∧ s = .int 0) ∨ ∃ i j, v = .int i ∧ s = .int j) := by
  cases d with
  | tp k ds =>
    match ds, h with
    | [], h => cases h
    | [a], h => cases h
    | [v, s], h =>
      refine ⟨k, v, s, rfl, ?_⟩
      unfold prB at h
      cases v with
      | non =>
        cases s with
        | int j =>
          have : j = 0 := by simpa [Z.isNon] using h
          exact .inl ⟨rfl, by rw [this]⟩
        | _ => simp [Z.isNon] at h
      | int i =>
        cases s with
        | int j => exact .inr ⟨i, j, rfl, rfl⟩
        | _ => simp [Z.isNon, Z.isInt] at h
      | _ => simp [Z.isNon, Z.isInt] at h
    | a :: b :: c :: r, h => cases h
  | _ => cases h
theorem any_map {α : Type} (f : α → Bool) : ∀ xs : List α, anyA M00 (.lst (xs.map fun x => D.bl (f x))) = some (.bl (xs.any f)) := by
  intro xs
  exact anyA_map _ _
theorem v_has_debts {S : Sto} {k1 k2 k3 : TK} {hs ts : List D} (hh : hs.all bndD = true) (ht : ts.all prB = true) : Fhas_debts [.v (.tp k1 [.tp k2 hs, .tp k3 ts])] S = .ok (.v (.bl (hs.any negD || ts.any neg2))) S := by
  have a1 := any_map negD hs
  have a2 := any_map neg2 ts
  have i0 : ∀ S, ixW S (.v (.tp k1 [.tp k2 hs, .tp k3 ts])) (.v (.int 0)) = some (.v (.tp k2 hs)) := fun S => ix_tp (i := 0) rfl
  have i1 : ∀ S, ixW S (.v (.tp k1 [.tp k2 hs, .tp k3 ts])) (.v (.int 1)) = some (.v (.tp k3 ts)) := fun S => ix_tp (i := 1) rfl
  rw [ehas_debts]
  unfold Bhas_debts Ghas_debts
  generalize hA : hs.any negD = A at a1
  generalize hB : ts.any neg2 = B at a2
  simp [i0]
  rw [compV_map (fun d => .bl (negD d)) hs (fun x hx => by
    refine ⟨_, rfl, rfl, ?_⟩
    have := List.all_eq_true.mp hh x hx
    cases x <;> first | (simp [bndD, Z.isNon, Z.isInt] at this; done) | simp [negD])]
  simp only [calm_ok, compR_ok, Rs.bind_ok, rd1_some' rdW_lst, a1, lfv_some]
  cases A with
  | true => simp
  | false =>
    simp [i1]
    rw [compV_map (fun d => .bl (neg2 d)) ts (fun x hx => by
      have h := List.all_eq_true.mp ht x hx
      obtain ⟨k, v, s, rfl, hv⟩ := prB_shape h
      rcases hv with ⟨rfl, rfl⟩ | ⟨i, j, rfl, rfl⟩
      · exact ⟨_, rfl, rfl, by simp [neg2]⟩
      · refine ⟨_, rfl, rfl, ?_⟩
        by_cases h1 : i < 0
        · simp [neg2, h1]
        · simp [neg2, h1])]
    simp only [calm_ok, compR_ok, Rs.bind_ok, rd1_some' rdW_lst, a2, lfv_some]
    simp
end CM

namespace CM
open PySem PySem.Spec PyProof.Rows L2 Z
theorem lay_pln {n : Nat} {d : D} (h : lay n d = true) : pln d = true := by
  cases d <;> first | rfl | (cases n <;> simp [lay] at h)
def inB (offs : List D) (a : D) : Bool := offs.any fun z => eqv z a
theorem in_ok {S : Sto} {k : TK} {offs : List D} {a : D} (ho : layL 59 offs = true) (ha : lay 59 a = true) : inW S (.v a) (.v (.tp k offs)) = some (inB offs a) := by
  have pa := lay_pln ha
  have e : plW (.v a) = some a := by cases a <;> first | rfl | (simp [pln] at pa)
  unfold inW
  rw [e]
  dsimp only
  rw [sqW_tp]
  exact if_pos (by unfold inOk; rw [ha, ho]; rfl)
theorem vne_ok {a b : D} (ha : lay 60 a = true) (hb : lay 60 b = true) : vne a b = some (.bl (!eqv a b)) := by
  unfold vne veqOk
  rw [if_pos (by rw [ha, hb]; simp)]
def legB (offs : List D) : D → Bool
  | .tp _ [a, b, f] => inB offs a && inB offs b && !eqv a b && Z.isNon (ffD f)
  | _ => false
theorem ffD_non {f : D} : (ffD f = .non) ↔ Z.isNon (ffD f) = true := by
  cases ffD f <;> simp [Z.isNon]
theorem v_is_leg3 {S : Sto} {k k2 : TK} {offs : List D} {a b f : D} (ho : layL 59 offs = true) (ha : lay 59 a = true) (hb : lay 59 b = true) (ha2 : lay 60 a = true) (hb2 : lay 60 b = true) (hf : fpl f = true) :
    F_is_leg [.v (.tp k offs), .v (.tp k2 [a, b, f])] S = .ok (.v (.bl (legB offs (.tp k2 [a, b, f])))) S := by
  have i0 : ∀ S, ixW S (.v (.tp k2 [a, b, f])) (.v (.int 0)) = some (.v a) := fun S => ix_tp (i := 0) rfl
  have i1 : ∀ S, ixW S (.v (.tp k2 [a, b, f])) (.v (.int 1)) = some (.v b) := fun S => ix_tp (i := 1) rfl
  have i2 : ∀ S, ixW S (.v (.tp k2 [a, b, f])) (.v (.int 2)) = some (.v f) := fun S => ix_tp (i := 2) rfl
  have n1 : ∀ S, inW S (.v a) (.v (.tp k offs)) = some (inB offs a) := fun S => in_ok ho ha
  have n2 : ∀ S, inW S (.v b) (.v (.tp k offs)) = some (inB offs b) := fun S => in_ok ho hb
  have ra : ∀ S, rdW S (.v a) = some a := fun S => rdW_pl (lay_pln ha)
  have rb : ∀ S, rdW S (.v b) = some b := fun S => rdW_pl (lay_pln hb)
  have nw : ∀ d : D, nonW (.v d) = Z.isNon d := fun d => by cases d <;> rfl
  have nn : Z.isNon D.non = true := rfl
  have rw3 : ∀ S, Fis_row [.v (.tp k2 [a, b, f]), .v (.int 3)] S = .ok (.v (.bl true)) S := fun S => by rw [v_is_row rfl]; rfl
  rw [e_is_leg]
  unfold B_is_leg G_is_leg legB
  cases hA : inB offs a with
  | false => simp [callV, rw3, i0, n1, hA]
  | true =>
    cases hB : inB offs b with
    | false => simp [callV, rw3, i0, i1, n1, n2, hA, hB]
    | true =>
      cases hE : eqv a b <;> simp [callV, rw3, i0, i1, i2, n1, n2, hA, hB, ra, rb, vne_ok ha2 hb2, hE, v_form_fault hf, nw, nn]
end CM

namespace CM
open PySem PySem.Spec PyProof.Rows L2 Z
/-- a value that may stand for a leg -/
structure Lgp (d : D) : Prop where
  p : pln d = true
  m : ∀ k a b f, d = .tp k [a, b, f] → lay 59 a = true ∧ lay 59 b = true ∧ lay 60 a = true ∧ lay 60 b = true ∧ fpl f = true
theorem v_is_leg {S : Sto} {k : TK} {offs : List D} {d : D} (ho : layL 59 offs = true) (h : Lgp d) : F_is_leg [.v (.tp k offs), .v d] S = .ok (.v (.bl (legB offs d))) S := by
  have no : ∀ d : D, pln d = true → rowB 3 d = false → F_is_leg [.v (.tp k offs), .v d] S = .ok (.v (.bl false)) S := by
    intro d hp hr
    have r : ∀ S, Fis_row [.v d, .v (.int 3)] S = .ok (.v (.bl false)) S := fun S => by rw [v_is_row hp, hr]
    rw [e_is_leg]
    unfold B_is_leg G_is_leg
    simp [callV, r]
  cases d with
  | tp k2 ds =>
    match ds, h with
    | [], h => exact no _ h.p rfl
    | [a], h => exact no _ h.p rfl
    | [a, b], h => exact no _ h.p rfl
    | [a, b, f], h =>
      obtain ⟨h1, h2, h3, h4, h5⟩ := h.m _ _ _ _ rfl
      exact v_is_leg3 ho h1 h2 h3 h4 h5
    | a :: b :: c :: e :: r, h =>
      refine no _ h.p ?_
      show decide ((((a :: b :: c :: e :: r).length : Nat) : Int) = 3) = false
      refine decide_eq_false ?_
      simp only [List.length_cons]
      omega
  | _ => exact no _ h.p rfl
end CM

namespace CM
open PySem PySem.Spec PyProof.Rows L2 Z
/-- not falling -/
def chB : List D → Bool
  | x :: y :: r => !ltD y x && chB (y :: r)
  | _ => true
theorem chB_range : ∀ ds : List D, ((List.range (ds.length - 1)).all fun i => match ds[i]?, ds[i + 1]? with | some x, some y => !ltD y x | _, _ => false) = chB ds
  | [] => rfl
  | [_] => rfl
  | x :: y :: r => by
    have ih := chB_range (y :: r)
    show ((List.range (r.length + 1)).all _) = _
    rw [List.range_succ_eq_map, List.all_cons, List.all_map]
    show (!ltD y x && _) = (!ltD y x && chB (y :: r))
    congr 1
end CM

namespace CM
open PySem PySem.Spec PyProof.Rows L2 Z
/-- what stands first in a leg -/
def ends2 : D → D | .tp .t ds => .tup (Z.cutD ds none (some 2)) | d => d
def legsB (offs ls : List D) : Bool := decide (ls.length ≤ 30) && ls.all (legB offs) && chB (ls.map ends2)
theorem v_le {x y : D} (h : vltOk x y = true) (hx : ∀ i, x ≠ .int i) : vle x y = some (.bl (!ltD y x)) := by
  unfold vle
  split
  · rename_i i j; exact absurd rfl (hx i)
  · exact if_pos h
theorem v_are_legs {S : Sto} {k k2 : TK} {offs ls : List D} (ho : layL 59 offs = true) (hl : ∀ d ∈ ls, Lgp d) (hp : ls.all (legB offs) = true → ∀ d ∈ ls, ∃ x y f, d = .tup [.str x, .str y, f]) :
    F_are_legs [.v (.tp k offs), .v (.tp k2 ls)] S = .ok (.v (.bl (legsB offs ls))) S := by
  have al : allA M00 (.lst (ls.map fun d => D.bl (legB offs d))) = some (.bl (ls.all (legB offs))) := allA_map _ _
  rw [e_are_legs]
  unfold B_are_legs G_are_legs legsB
  generalize hA : ls.all (legB offs) = A at al hp
  by_cases h1 : ls.length ≤ 30
  · have h1' : ¬ (30 : Int) < ls.length := by omega
    simp [cstV, h1, h1']
    rw [compV_map (fun d => .bl (legB offs d)) ls (fun x hx => by
      refine ⟨_, rfl, rfl, ?_⟩
      simp [callV, v_is_leg ho (hl x hx)])]
    simp only [calm_ok, compR_ok, Rs.bind_ok, rd1_some' rdW_lst, al, lfv_some]
    cases A with
    | false => simp
    | true =>
      have hq := hp rfl
      have ir : itW .rng1 [.v (.int ((ls.length : Int) - 1))] = some (rngD 0 (ls.length - 1)) := by
        have : ((ls.length : Int) - 1).toNat = ls.length - 1 := by omega
        rw [← this]
        exact if_pos ⟨by omega, by omega⟩
      simp
      rw [compV_map ends2 ls (fun x hx => by
        obtain ⟨a, b, f, rfl⟩ := hq x hx
        refine ⟨_, rfl, rfl, ?_⟩
        simp [vsl, ends2])]
      simp only [calm_ok, compR_ok, Rs.bind_ok, bindV_nm, setV2_s, setV2_0]
      simp [ir]
      rw [compV_map (fun d => match d with | .int i => .bl (match (ls.map ends2)[i.toNat]?, (ls.map ends2)[i.toNat + 1]? with | some x, some y => !ltD y x | _, _ => false) | d => d) (rngD 0 (ls.length - 1)) (fun x hx => by
        obtain ⟨i, hi, rfl⟩ := rngD_mem hx
        refine ⟨_, rfl, rfl, ?_⟩
        have h1 : i < ls.length := by omega
        have h2 : i + 1 < ls.length := by omega
        obtain ⟨a1, b1, f1, e1⟩ := hq ls[i] (List.getElem_mem h1)
        obtain ⟨a2, b2, f2, e2⟩ := hq ls[i + 1] (List.getElem_mem h2)
        have g1 : (ls.map ends2)[i]? = some (.tup [.str a1, .str b1]) := by rw [List.getElem?_map, List.getElem?_eq_getElem h1, e1]; rfl
        have g2 : (ls.map ends2)[i + 1]? = some (.tup [.str a2, .str b2]) := by rw [List.getElem?_map, List.getElem?_eq_getElem h2, e2]; rfl
        have e0 : (0 : Int) + (i : Int) = ((i : Nat) : Int) := by omega
        have x1 : ∀ S, ixW S (.v (.lst (ls.map ends2))) (.v (.int ((i : Nat) : Int))) = some (.v (.tup [.str a1, .str b1])) := fun S => ix_lst g1
        have x2 : ∀ S, ixW S (.v (.lst (ls.map ends2))) (.v (.int ((i : Int) + 1))) = some (.v (.tup [.str a2, .str b2])) := fun S => ix_lst (i := i + 1) g2
        have vl : vle (.tup [.str a1, .str b1]) (.tup [.str a2, .str b2]) = some (.bl (!ltD (.tup [.str a2, .str b2]) (.tup [.str a1, .str b1]))) := v_le rfl (fun i h => by cases h)
        rw [e0]
        simp only [setV2_s, setV2_0, evE_9, evE_16, evE_7, evE_4, evE_1, getV_0, getV_s, lft_some, Rs.bind_ok, x1, rd2_some' rdW_i rdW_i, bo_add, vadd_int, lfv_some, x2, co_le, rd2_some' rdW_tp rdW_tp, vl, Int.toNat_natCast, g1, g2])]
      have al2 : allA M00 (.lst ((rngD 0 (ls.length - 1)).map (fun d => match d with | .int i => D.bl (match (ls.map ends2)[i.toNat]?, (ls.map ends2)[i.toNat + 1]? with | some x, some y => !ltD y x | _, _ => false) | d => d))) = some (.bl (chB (ls.map ends2))) := by
        rw [rngD0, List.map_map, ← chB_range, List.length_map]
        exact allA_map _ _
      simp only [calm_ok, compR_ok, Rs.bind_ok, rd1_some' rdW_lst, al2, lfv_some, out_rt]
  · have h1' : (30 : Int) < ls.length := by omega
    simp [cstV, h1, h1']
end CM

namespace CM
open PySem PySem.Spec PyProof.Rows L2 Z
/-- below 0 somewhere -/
def debtB : D → Bool
  | .tp _ [.tp _ hs, .tp _ ts] => hs.any negD || ts.any neg2
  | _ => false
theorem ff_shape {f : D} (h : Z.isNon (ffD f) = true) : ∃ k1 k2 k3 hs ts, f = .tp k1 [.tp k2 hs, .tp k3 ts] ∧ hs.all bndD = true ∧ ts.all prB = true := by
  unfold ffD at h
  split at h
  · rename_i k1 k2 hs k3 ts
    refine ⟨_, _, _, _, _, rfl, ?_⟩
    unfold ff2 at h
    split at h
    · rename_i g1
      split at h
      · rename_i g2
        exact ⟨g1.2, g2.2.2⟩
      · cases h
    · cases h
  · cases h
theorem v_debts {S : Sto} {f : D} (h : Z.isNon (ffD f) = true) : Fhas_debts [.v f] S = .ok (.v (.bl (debtB f))) S := by
  obtain ⟨k1, k2, k3, hs, ts, rfl, h1, h2⟩ := ff_shape h
  exact v_has_debts h1 h2
end CM

namespace CM
open PySem PySem.Spec PyProof.Rows L2 Z
def legDebt : D → Bool | .tp _ [_, _, f] => debtB f | _ => false
/-- what network_fault tells of two tuples -/
def nfD (offs ls : List D) : D :=
  if nmsB 1 8 offs = true then (if legsB offs ls = true then (if ls.any legDebt = true then .str "values" else .non) else .str "legs") else .str "offices"
theorem v_nf {S : Sto} {k k1 k2 : TK} {offs ls : List D} (hp : ∀ d ∈ offs, pln d = true ∧ szD d = true) (ho : nmsB 1 8 offs = true → layL 59 offs = true ∧ (∀ d ∈ ls, Lgp d) ∧ (ls.all (legB offs) = true → ∀ d ∈ ls, ∃ x y f, d = .tup [.str x, .str y, f])) :
    Fnetwork_fault [.v (.tp k [.tp k1 offs, .tp k2 ls])] S = .ok (.v (nfD offs ls)) S := by
  have i0 : ∀ S, ixW S (.v (.tp k [.tp k1 offs, .tp k2 ls])) (.v (.int 0)) = some (.v (.tp k1 offs)) := fun S => ix_tp (i := 0) rfl
  have i1 : ∀ S, ixW S (.v (.tp k [.tp k1 offs, .tp k2 ls])) (.v (.int 1)) = some (.v (.tp k2 ls)) := fun S => ix_tp (i := 1) rfl
  have r2 : ∀ S, Fis_row [.v (.tp k [.tp k1 offs, .tp k2 ls]), .v (.int 2)] S = .ok (.v (.bl true)) S := fun S => by rw [v_is_row rfl]; rfl
  have nm : ∀ S, Fis_names [.v (.tp k1 offs), .v (.int 1), .v (.int 8)] S = .ok (.v (.bl (nmsB 1 8 offs))) S := fun S => v_is_names hp (by decide)
  rw [enetwork_fault]
  unfold Bnetwork_fault Gnetwork_fault nfD
  cases hN : nmsB 1 8 offs with
  | false => simp [callV, cstV, r2, i0, i1, isTy, nm, hN]
  | true =>
    obtain ⟨o1, o2, o3⟩ := ho hN
    have lg : ∀ S, F_are_legs [.v (.tp k1 offs), .v (.tp k2 ls)] S = .ok (.v (.bl (legsB offs ls))) S := fun S => v_are_legs o1 o2 o3
    cases hL : legsB offs ls with
    | false => simp [callV, cstV, r2, i0, i1, isTy, nm, hN, lg, hL]
    | true =>
      have all : ls.all (legB offs) = true := by
        unfold legsB at hL
        rw [Bool.and_eq_true, Bool.and_eq_true] at hL
        exact hL.1.2
      have a2 : anyA M00 (.lst (ls.map fun d => D.bl (legDebt d))) = some (.bl (ls.any legDebt)) := any_map _ _
      generalize ls.any legDebt = V at a2 ⊢
      simp [callV, cstV, r2, i0, i1, isTy, nm, hN, lg, hL]
      rw [compV_map (fun d => .bl (legDebt d)) ls (fun x hx => by
        obtain ⟨a, b, f, rfl⟩ := o3 all x hx
        have lb := List.all_eq_true.mp all _ hx
        have hf : Z.isNon (ffD f) = true := by
          unfold legB at lb
          simp only [Bool.and_eq_true] at lb
          exact lb.2
        have i2 : ∀ S, ixW S (.v (.tup [.str a, .str b, f])) (.v (.int 2)) = some (.v f) := fun S => ix_tp (i := 2) rfl
        refine ⟨_, rfl, rfl, ?_⟩
        simp [callV, i2, v_debts hf, legDebt])]
      simp only [calm_ok, compR_ok, Rs.bind_ok, rd1_some' rdW_lst, a2, lfv_some]
      cases V <;> simp
end CM

namespace CM
open PySem PySem.Spec PyProof.Rows L2 Z
/-- no pair of tuples -/
def formB : D → Bool
  | .tp _ [a, b] => !(isTp a && isTp b)
  | _ => true
theorem v_nf_form {S : Sto} {d : D} (h : pln d = true) (hm : pl1 d = true) (hf : formB d = true) : Fnetwork_fault [.v d] S = .ok (.v (.str "form")) S := by
  have no : ∀ d : D, pln d = true → rowB 2 d = false → Fnetwork_fault [.v d] S = .ok (.v (.str "form")) S := by
    intro d hp hr
    have r : ∀ S, Fis_row [.v d, .v (.int 2)] S = .ok (.v (.bl false)) S := fun S => by rw [v_is_row hp, hr]
    rw [enetwork_fault]
    unfold Bnetwork_fault Gnetwork_fault
    simp [callV, r]
  cases d with
  | tp k ds =>
    match ds, hm, hf with
    | [], _, _ => exact no _ rfl rfl
    | [a], _, _ => exact no _ rfl rfl
    | [a, b], hm, hf =>
      have ha : pln a = true := by unfold pl1 at hm; simp at hm; exact hm.1
      have hb : pln b = true := by unfold pl1 at hm; simp at hm; exact hm.2
      have i0 : ∀ S, ixW S (.v (.tp k [a, b])) (.v (.int 0)) = some (.v a) := fun S => ix_tp (i := 0) rfl
      have i1 : ∀ S, ixW S (.v (.tp k [a, b])) (.v (.int 1)) = some (.v b) := fun S => ix_tp (i := 1) rfl
      have r2 : ∀ S, Fis_row [.v (.tp k [a, b]), .v (.int 2)] S = .ok (.v (.bl true)) S := fun S => by rw [v_is_row rfl]; rfl
      have ra : ∀ S, rdW S (.v a) = some a := fun S => rdW_pl ha
      have rb : ∀ S, rdW S (.v b) = some b := fun S => rdW_pl hb
      have ty : ∀ z : D, pln z = true → isTy M00 z .ttup = some (isTp z) := fun z hz => by
        cases z <;> first | rfl | (simp [pln] at hz)
      rw [enetwork_fault]
      unfold Bnetwork_fault Gnetwork_fault
      cases qa : isTp a with
      | false => simp [callV, r2, i0, ra, ty a ha, qa]
      | true =>
        have qb : isTp b = false := by
          have hf : (!(isTp a && isTp b)) = true := hf
          rw [qa] at hf; simpa using hf
        simp [callV, r2, i0, i1, ra, rb, ty a ha, ty b hb, qa, qb]
    | a :: b :: c :: r, _, _ =>
      refine no _ rfl ?_
      show decide ((((a :: b :: c :: r).length : Nat) : Int) = 2) = false
      refine decide_eq_false ?_
      simp only [List.length_cons]
      omega
  | _ => exact no _ h rfl
end CM

/-! k82: the law's offices -/
namespace CM
open PySem PySem.Spec PyProof.Rows L2 Z
theorem nodup_le {α : Type} [DecidableEq α] : ∀ {a b : List α}, a.Nodup → (∀ x ∈ a, x ∈ b) → a.length ≤ b.length
  | [], b, _, _ => Nat.zero_le _
  | x :: r, b, n, h => by
    have hx : x ∈ b := h x (by simp)
    rw [List.nodup_cons] at n
    have := nodup_le (a := r) (b := b.erase x) n.2 fun y hy => by
      have : y ≠ x := fun e => n.1 (e ▸ hy)
      exact (List.mem_erase_of_ne this).mpr (h y (List.mem_cons_of_mem _ hy))
    rw [List.length_erase_of_mem hx] at this
    have l : 0 < b.length := List.length_pos_of_mem hx
    rw [List.length_cons]; omega
def qL : List Str := (tl abc).map fun c => "q" ++ ⟨#[c]⟩
theorem qL_len : qL.length = 26 := by decide +kernel
theorem qL_nd : qL.Nodup := by decide +kernel
theorem qL_low : ∀ x ∈ qL, lowS x = true := by decide +kernel
theorem low_ok {x : Str} (h : lowS x = true) : okS x := by
  refine okS_of fun c hc => ?_
  unfold lowS at h
  rw [Bool.and_eq_true] at h
  have := List.all_eq_true.mp (show (tl x).all _ = true from h.2) c hc
  rw [Bool.and_eq_true] at this
  have := of_decide_eq_true this.2
  omega
theorem low_len {x : Str} (h : lowS x = true) : x.length ≤ 12 := by
  unfold lowS at h
  simp only [Bool.and_eq_true, decide_eq_true_eq] at h
  exact h.1.2
theorem vadd_lst {a b : List D} (h : a.length + b.length ≤ sizeLine) : vadd (.lst a) (.lst b) = some (.lst (a ++ b)) := if_pos h
theorem vadd_tup {a b : List D} (h : a.length + b.length ≤ sizeLine) : vadd (.tup a) (.tup b) = some (.tup (a ++ b)) := if_pos h
theorem it_str {x : Str} (h : x.length ≤ sizeLine) : itW .seq [.v (.str x)] = some (charsD x) := if_pos h
def freeB (fs : List Str) : D → Bool | .str y => !decide (y ∈ fs) | _ => false
theorem any_str {fs : List Str} {y : Str} : ((fs.map D.str).any fun z => eqv z (.str y)) = decide (y ∈ fs) := by
  rw [List.any_map]
  induction fs with
  | nil => simp
  | cons x r ih =>
    rw [List.any_cons, ih]
    show ((x == y) || decide (y ∈ r)) = _
    by_cases e : x = y
    · subst e; simp
    · have e' : y ≠ x := fun z => e z.symm
      simp [e, e']
theorem nin_str {S : Sto} {i : Nat} {fs : List Str} {y : Str} (hf : ∀ x ∈ fs, okS x) (hy : okS y) (h : rdW S (.r i) = some (.lst (fs.map D.str))) : inW S (.v (.str y)) (.r i) = some (decide (y ∈ fs)) := by
  unfold inW
  rw [plW_str]
  dsimp only
  have : sqW S (.r i) = some (fs.map D.str) := by unfold sqW; rw [h]
  rw [this]
  dsimp only
  rw [if_pos (show inOk (.str y) (fs.map D.str) = true by
    unfold inOk
    rw [layL_str 59 fs hf, Bool.and_true]
    exact hy), any_str]
def bodyO : List Sx := [.asg (.nm 4) (.bin .add (.lst false [(.call 0 (.loc 0) [])]) (.comp false (.bin .add (.str "q") (.loc 5)) (.nm 5) .seq [(.str "abcdefghijklmnopqrstuvwxyz")] [] [("letter", 5)])), .expr (.mth .append (.loc 2) (.idx (.comp false (.loc 6) (.nm 6) .seq [(.loc 4)] [(.cmp .notin (.loc 6) (.loc 2))] [("name", 6)]) (.int 0)) [])]
def qf : D → D | .str z => .str ("q" ++ z) | d => d
theorem qf_map : (charsD abc).map qf = qL.map D.str := by
  unfold charsD qL
  rw [List.map_map, List.map_map]
  rfl
theorem SS_app {s : Stt} {J : Sto} {o : Option VO} : SS s (J ++ [o]) = SS s J ++ o :: [] := rfl
theorem SS_len {s : Stt} {J : Sto} : (SS s J).length = J.length + 1 := rfl
theorem turn_O (J : Sto) {w1 : W} {o3 o4 o5 o6 : Option W} (s : Stt) {fs : List Str} (hf : ∀ x ∈ fs, lowS x = true) (hl : fs.length < 20) : ∃ (y : Str) (s' : Stt) (o4' o5' o6' : Option W), y ∉ fs ∧ lowS y = true ∧
    evSs G_law_offices bodyO [some (.r 0), some w1, some (.r (J.length + 1)), o3, o4, o5, o6] (SS s (J ++ [some (.lst (fs.map D.str))])) = .ok (.nx [some (.r 0), some w1, some (.r (J.length + 1)), o3, o4', o5', o6']) (SS s' (J ++ [some (.lst ((fs ++ [y]).map D.str))])) := by
  obtain ⟨x, s1, x1, hx⟩ := v_law_name s (J ++ [some (.lst (fs.map D.str))])
  have fo : ∀ z ∈ fs, okS z := fun z hz => low_ok (hf z hz)
  have hal : ∀ z ∈ x :: qL, lowS z = true := fun z hz => by
    rcases List.mem_cons.mp hz with e | hz
    · rw [e]; exact x1
    · exact qL_low z hz
  obtain ⟨y, r, hy⟩ : ∃ y r, (x :: qL).filter (fun z => !decide (z ∈ fs)) = y :: r := by
    cases q : (x :: qL).filter (fun z => !decide (z ∈ fs)) with
    | cons y r => exact ⟨y, r, rfl⟩
    | nil =>
      have : ∀ z ∈ qL, z ∈ fs := fun z hz => by
        have := List.filter_eq_nil_iff.mp q z (List.mem_cons_of_mem _ hz)
        simpa using this
      have := nodup_le qL_nd this
      rw [qL_len] at this
      omega
  have ym : y ∈ (x :: qL).filter (fun z => !decide (z ∈ fs)) := by rw [hy]; simp
  obtain ⟨ym1, ym2⟩ := List.mem_filter.mp ym
  refine ⟨y, s1, some (.v (lns (x :: qL))), o5, o6, by simpa using ym2, hal y ym1, ?_⟩
  have cf : ∀ r, callV G_law_offices 0 r = r.bind fun ws S => if ws.length = 1 then F_law_name ws S else .no := fun r => by unfold G_law_offices; rfl
  have it : itW .seq [.v (.str "abcdefghijklmnopqrstuvwxyz")] = some (charsD abc) := it_str (x := abc) (by decide +kernel)
  have c1 : ∀ (en : WEn) (S : Sto) (G : GV), (∀ d, getV (setV2 en 5 d) 5 = some d) → compV (.nm 5) (evC G []) (evE G (.bin .add (.str "q") (.loc 5))) en (charsD abc) S = .ok (qL.map D.str) S := fun en S G he => by
    rw [compV_map qf (charsD abc) (fun d hd => by
      obtain ⟨c, hc, rfl⟩ := List.mem_map.mp hd
      refine ⟨_, rfl, rfl, ?_⟩
      have : vadd (.str "q") (.str ⟨#[c]⟩) = some (.str ("q" ++ ⟨#[c]⟩)) := vadd_str (by show _ + 1 ≤ _; decide +kernel)
      simp [he, this, qf]), qf_map]
  have ad : vadd (.lst [.str x]) (.lst (qL.map D.str)) = some (lns (x :: qL)) :=
    vadd_lst (a := [.str x]) (by rw [List.length_map, qL_len]; show 1 + 26 ≤ sizeLine; decide)
  have rd : ∀ s, rdW (SS s (J ++ [some (.lst (fs.map D.str))])) (.r (J.length + 1)) = some (.lst (fs.map D.str)) := fun s => by
    show (match getS _ _ with | some (.lst ds) => some (D.lst ds) | _ => none) = _
    rw [getS_SS]
  have c2 : ∀ (en : WEn) (s : Stt) (G : GV), (∀ d, getV (setV2 en 6 d) 6 = some d) → (∀ d, getV (setV2 en 6 d) 2 = some (.r (J.length + 1))) → compV (.nm 6) (evC G [.cmp .notin (.loc 6) (.loc 2)]) (evE G (.loc 6)) en ((x :: qL).map D.str) (SS s (J ++ [some (.lst (fs.map D.str))])) = .ok ((y :: r).map D.str) (SS s (J ++ [some (.lst (fs.map D.str))])) := fun en s G h1 h2 => by
    rw [compV_fm (freeB fs) (fun d => d) ((x :: qL).map D.str) (fun d hd => by
      obtain ⟨z, hz, rfl⟩ := List.mem_map.mp hd
      refine ⟨_, rfl, ?_, fun _ => ?_⟩
      · simp [h1, h2, nin_str fo (low_ok (hal z hz)) (rd s), freeB]
      · simp [h1])]
    congr 1
    rw [List.map_id', ← hy, List.filter_map]
    rfl
  have ix : ∀ S, ixW S (.v (.lst ((y :: r).map D.str))) (.v (.int 0)) = some (.v (.str y)) := fun S => ix_lst (i := 0) rfl
  have ap : Mt.append.wo (SS s1 (J ++ [some (.lst (fs.map D.str))])) (.r (J.length + 1)) [.v (.str y)] = .ok (.v .non) (SS s1 (J ++ [some (.lst ((fs ++ [y]).map D.str))])) := by
    rw [wo_append getS_SS (by rw [List.length_map]; have := sl1000; omega), setS_SS, List.map_append]; rfl
  have ty : tyW .append (SS s1 (J ++ [some (.lst (fs.map D.str))])) (.r (J.length + 1)) = true := tyW_app getS_SS
  unfold bodyO
  simp only [evSs_2, evSs_1, evS_1, evS_5, evE_5, evE_7, evE_4, evE_15, evE_19, evE_1, evE_23, evE_22, evE_16, evL_1, evL_2, getV_0, getV_s, lft_some, Rs.bind_ok, cf, List.length_cons, List.length_nil, Nat.zero_add, if_true, hx, plnW_cons, plnW_nil, sl_1, it, List.map_cons, List.map_nil, wipeV_nil, wipeV_cons, wipeV1_0, wipeV1_s]
  rw [c1 _ _ _ (fun d => rfl)]
  simp only [calm_ok, compR_ok, Rs.bind_ok, rd2_some' rdW_lst rdW_lst, bo_add, ad, lfv_some, bindV_nm, setV2_0, setV2_s, getV_0, getV_s, lft_some, ty, itW_lns]
  rw [c2 _ _ _ (fun d => rfl) (fun d => rfl)]
  simp only [calm_ok, compR_ok, Rs.bind_ok, ix, lft_some, ap]
theorem loop_O (J : Sto) {w1 : W} : ∀ (items : List D) (s : Stt) (fs : List Str) (o3 o4 o5 o6 : Option W), (∀ x ∈ fs, lowS x = true) → fs.Nodup → fs.length + items.length ≤ 20 → ∃ (fs' : List Str) (s' : Stt) (o3' o4' o5' o6' : Option W), (∀ x ∈ fs', lowS x = true) ∧ fs'.Nodup ∧ fs'.length = fs.length + items.length ∧
    turnsV (.nm 3) (evSs G_law_offices bodyO) items [some (.r 0), some w1, some (.r (J.length + 1)), o3, o4, o5, o6] (SS s (J ++ [some (.lst (fs.map D.str))])) = .ok (.nx [some (.r 0), some w1, some (.r (J.length + 1)), o3', o4', o5', o6']) (SS s' (J ++ [some (.lst (fs'.map D.str))]))
  | [], s, fs, o3, o4, o5, o6, h1, h2, _ => ⟨fs, s, o3, o4, o5, o6, h1, h2, rfl, rfl⟩
  | x :: r, s, fs, o3, o4, o5, o6, h1, h2, hl => by
    rw [List.length_cons] at hl
    obtain ⟨y, s1, p4, p5, p6, y1, y2, e⟩ := turn_O J (w1 := w1) (o3 := some (.v x)) (o4 := o4) (o5 := o5) (o6 := o6) s h1 (by omega)
    obtain ⟨fs', s', q3, q4, q5, q6, z1, z2, z3, e2⟩ := loop_O J (w1 := w1) r s1 (fs ++ [y]) (some (.v x)) p4 p5 p6 (fun z hz => by
      rcases List.mem_append.mp hz with hz | hz
      · exact h1 z hz
      · rw [List.mem_singleton.mp hz]; exact y2) (by
      rw [List.nodup_append]
      exact ⟨h2, by simp, fun a ha b hb => by rw [List.mem_singleton.mp hb]; exact fun e => y1 (e ▸ ha)⟩) (by rw [List.length_append]; simp; omega)
    refine ⟨fs', s', q3, q4, q5, q6, z1, z2, by rw [z3, List.length_append]; simp; omega, ?_⟩
    conv => lhs; unfold turnsV
    simp only [bindV_nm, setV2_0, setV2_s, e, Rs.bind_ok, e2]
theorem vsrt_str {fs : List Str} : vsrt (.lst (fs.map D.str)) = some (.lst (sortD (fs.map D.str))) := by
  unfold vsrt
  refine if_pos ?_
  unfold sortB likeB
  simp only [Bool.and_eq_true, Bool.or_eq_true, List.all_eq_true]
  refine ⟨⟨fun d hd e he => ?_, fun d hd => ?_⟩, .inr fun d hd => ?_⟩
  · obtain ⟨x, _, rfl⟩ := List.mem_map.mp hd
    obtain ⟨y, _, rfl⟩ := List.mem_map.mp he
    rfl
  · obtain ⟨x, _, rfl⟩ := List.mem_map.mp hd; rfl
  · obtain ⟨x, _, rfl⟩ := List.mem_map.mp hd; rfl
/-- offices in order -/
structure Off (ws : List Str) : Prop where
  low : ∀ x ∈ ws, lowS x = true
  asc : ascB (ws.map D.str) = true
  nd : ws.Nodup
theorem off_sort {fs : List Str} (h1 : ∀ x ∈ fs, lowS x = true) (h2 : fs.Nodup) : ∃ ws, Off ws ∧ ws.length = fs.length ∧ sortD (fs.map D.str) = ws.map D.str := by
  have hall : ∀ d ∈ sortD (fs.map D.str), ∃ x, lowS x = true ∧ d = D.str x := fun d hd => by
    obtain ⟨x, hx, rfl⟩ := List.mem_map.mp (sortD_mem.mp hd)
    exact ⟨x, h1 x hx, rfl⟩
  obtain ⟨ws, e, hw⟩ := pull (g := D.str) _ hall
  have nd : (fs.map D.str).Nodup := by
    refine List.Pairwise.map D.str (fun a b h e => h ?_) h2
    cases e; rfl
  have asc := sort_asc (ds := fs.map D.str) (fun d hd e he => by
    obtain ⟨x, _, rfl⟩ := List.mem_map.mp hd
    obtain ⟨y, _, rfl⟩ := List.mem_map.mp he
    rfl) (fun d hd e he a b => by
    obtain ⟨x, _, rfl⟩ := List.mem_map.mp hd
    obtain ⟨y, _, rfl⟩ := List.mem_map.mp he
    rw [tri_str a b]) nd
  refine ⟨ws, ⟨hw, by rw [e]; exact asc_of asc, ?_⟩, ?_, e.symm⟩
  · have n2 : (sortD (fs.map D.str)).Nodup := (List.mergeSort_perm _ leS).nodup_iff.mpr nd
    rw [← e] at n2
    exact (List.pairwise_map.mp n2).imp fun h e => h (by rw [e])
  · have := sortD_len (ds := fs.map D.str)
    rw [← e, List.length_map, List.length_map] at this
    exact this
theorem v_law_offices (s : Stt) (J : Sto) {n : Nat} (hn : n ≤ 20) : ∃ (ws : List Str) (s' : Stt) (K : Sto), Off ws ∧ ws.length = n ∧ F_law_offices [.r 0, .v (.int n)] (SS s J) = .ok (.v (.tup (ws.map D.str))) (SS s' (J ++ K)) := by
  rw [e_law_offices]
  have hB : B_law_offices = [.asg (.nm 2) (.lst true []), .fors (.nm 3) .rng1 [(.loc 1)] bodyO, .ret (.blt .tupT (.blt .srt (.loc 2) []) [])] := rfl
  obtain ⟨fs, s1, o3, o4, o5, o6, f1, f2, f3, e⟩ := loop_O J (w1 := .v (.int n)) (rngD 0 n) s [] none none none none (by simp) (by simp) (by rw [rng_len]; simpa using hn)
  rw [rng_len] at f3
  obtain ⟨ws, w1, w2, w3⟩ := off_sort f1 f2
  refine ⟨ws, s1, [some (.lst (fs.map D.str))], w1, by rw [w2, f3]; simp, ?_⟩
  have e' : turnsV (.nm 3) (evSs G_law_offices bodyO) (rngD 0 n) [some (.r 0), some (.v (.int n)), some (.r (J.length + 1)), none, none, none, none] (SS s J ++ [some (.lst [])]) = _ := e
  have it : itW .rng1 [.v (.int n)] = some (rngD 0 n) := it_rng (by omega) (by omega)
  have rd : rdW (SS s1 (J ++ [some (.lst (fs.map D.str))])) (.r (J.length + 1)) = some (.lst (fs.map D.str)) := by
    show (match getS _ _ with | some (.lst ds) => some (D.lst ds) | _ => none) = _
    rw [getS_SS]
  rw [hB]
  simp only [evSs_2, evSs_1, evS_1, evS_9, evS_6, evE_15, evE_20, evE_1, evL_1, evL_2, getV_0, getV_s, lft_some, Rs.bind_ok, plnW_nil, List.length_nil, sl_0, if_true, newW_eq, SS_len, bindV_nm, setV2_0, setV2_s, it, e', bt_srt, bt_tupT, rd1_some' rd, vsrt_str, lfv_some, rd1_some' rdW_lst, tup_lst, w3, out_rt]
end CM

/-! k82: legs put in order -/
namespace CM
open PySem PySem.Spec PyProof.Rows L2 Z
/-- a leg between texts -/
def legT (l : D) : Prop := ∃ x y f, okS x ∧ okS y ∧ l = .tup [.str x, .str y, f]
theorem legT_pair {l : D} (h : legT l) : pairT (ends2 l) := by
  obtain ⟨x, y, f, _, _, rfl⟩ := h
  exact ⟨x, y, rfl⟩
def inOrd (ls : List D) : List D := (sortD (uq (ls.map ends2))).flatMap fun p => ls.filter fun l => eqv (ends2 l) p
theorem filter_two {α : Type} (b : α → Bool) : ∀ l : List α, (l.filter b).length + (l.filter fun x => !b x).length = l.length
  | [] => rfl
  | x :: r => by
    have := filter_two b r
    cases q : b x with
    | true => simp [q]; omega
    | false => simp [q]; omega
theorem flat_cg {α β : Type} {f g : α → List β} : ∀ {ps : List α}, (∀ p ∈ ps, f p = g p) → ps.flatMap f = ps.flatMap g
  | [], _ => rfl
  | p :: ps, h => by
    rw [List.flatMap_cons, List.flatMap_cons, h p (by simp), flat_cg fun q hq => h q (List.mem_cons_of_mem _ hq)]
theorem flat_le {α β : Type} [DecidableEq β] (g : α → β) : ∀ (ps : List β) (ls : List α), ps.Nodup → (ps.flatMap fun p => ls.filter fun l => decide (g l = p)).length ≤ ls.length
  | [], ls, _ => by simp
  | p :: ps, ls, h => by
    rw [List.nodup_cons] at h
    have e : (ps.flatMap fun q => ls.filter fun l => decide (g l = q)) = (ps.flatMap fun q => (ls.filter fun l => !decide (g l = p)).filter fun l => decide (g l = q)) := by
      refine flat_cg fun q hq => ?_
      rw [List.filter_filter]
      refine List.filter_congr fun l _ => ?_
      by_cases e : g l = q
      · have : g l ≠ p := fun z => h.1 (by rw [← z, e]; exact hq)
        simp [e]
        exact fun z => h.1 (z ▸ hq)
      · simp [e]
    rw [List.flatMap_cons, List.length_append, e]
    have i := flat_le g ps (ls.filter fun l => !decide (g l = p)) h.2
    have t := filter_two (fun l => decide (g l = p)) ls
    omega
theorem map_pairs {ls : List D} (h : ∀ l ∈ ls, legT l) : ∀ d ∈ ls.map ends2, pairT d := fun d hd => by
  obtain ⟨l, hl, rfl⟩ := List.mem_map.mp hd
  exact legT_pair (h l hl)
theorem sorted_pairs {ls : List D} (h : ∀ l ∈ ls, legT l) : ∀ p ∈ sortD (uq (ls.map ends2)), pairT p := fun p hp =>
  map_pairs h p ((uq_mem (map_pairs h) p).mp (sortD_mem.mp hp))
noncomputable instance : DecidableEq D := fun a b => Classical.propDecidable (a = b)
theorem inOrd_len {ls : List D} (h : ∀ l ∈ ls, legT l) : (inOrd ls).length ≤ ls.length := by
  have e : inOrd ls = (sortD (uq (ls.map ends2))).flatMap fun p => ls.filter fun l => decide (ends2 l = p) := by
    unfold inOrd
    refine flat_cg fun p hp => List.filter_congr fun l hl => ?_
    have := eqv_pr (legT_pair (h l hl)) (sorted_pairs h p hp)
    by_cases e : ends2 l = p
    · rw [this.mpr e, decide_eq_true e]
    · rw [decide_eq_false e]
      cases q : eqv (ends2 l) p with
      | false => rfl
      | true => exact absurd (this.mp q) e
  rw [e]
  exact flat_le ends2 _ ls ((List.mergeSort_perm _ leS).nodup_iff.mpr (uq_nodup (map_pairs h)))
theorem inOrd_mem {ls : List D} {l : D} (h : l ∈ inOrd ls) : l ∈ ls := by
  obtain ⟨p, _, hl⟩ := List.mem_flatMap.mp h
  exact (List.mem_filter.mp hl).1
theorem chB_of : ∀ {ds : List D}, ds.Pairwise (fun x y => ltD y x = false) → chB ds = true
  | [], _ => rfl
  | [_], _ => rfl
  | x :: y :: r, h => by
    rw [List.pairwise_cons] at h
    show (!ltD y x && chB (y :: r)) = true
    rw [h.1 y (by simp), chB_of h.2]; rfl
theorem le_lt {d e : D} (hd : pairT d) (he : pairT e) (h : leS d e = true) : ltD e d = false := by
  unfold leS at h
  rw [lt_py _ _ (like_pair he hd)] at h
  simpa using h
theorem inOrd_ch {ls : List D} (h : ∀ l ∈ ls, legT l) : chB ((inOrd ls).map ends2) = true := by
  refine chB_of ?_
  rw [List.pairwise_map]
  unfold inOrd
  rw [List.pairwise_flatMap]
  have eq : ∀ p ∈ sortD (uq (ls.map ends2)), ∀ l ∈ ls.filter (fun l => eqv (ends2 l) p), ends2 l = p := fun p hp l hl => by
    obtain ⟨h1, h2⟩ := List.mem_filter.mp hl
    exact (eqv_pr (legT_pair (h l h1)) (sorted_pairs h p hp)).mp h2
  refine ⟨fun p hp => ?_, ?_⟩
  · refine List.Pairwise.imp_of_mem (R := fun _ _ => True) (fun {a b} ha hb _ => ?_) (List.pairwise_of_forall fun _ _ => trivial)
    rw [eq p hp a ha, eq p hp b hb]
    have := leS_total p p
    rw [Bool.or_self] at this
    exact le_lt (sorted_pairs h p hp) (sorted_pairs h p hp) this
  · have s := List.pairwise_mergeSort leS_trans leS_total (uq (ls.map ends2))
    refine List.Pairwise.imp_of_mem (fun {p q} hp hq hl => ?_) s
    intro a ha b hb
    rw [eq p hp a ha, eq q hq b hb]
    exact le_lt (sorted_pairs h p hp) (sorted_pairs h q hq) hl
def bodyI : List Sx := [.asg (.nm 1) (.bin .add (.loc 1) (.comp false (.loc 3) (.nm 3) .seq [(.loc 0)] [(.cmp .eq (.sli (.loc 3) [] [(.int 2)]) (.loc 2))] [("leg", 3)]))]
theorem ends2_lay {l : D} (h : legT l) : lay 60 (ends2 l) = true := by
  obtain ⟨x, y, f, hx, hy, rfl⟩ := h
  show (lay 59 (.str x) && (lay 59 (.str y) && true)) = true
  rw [show lay 59 (.str x) = true from hx, show lay 59 (.str y) = true from hy]; rfl
theorem loop_I {S : Sto} {ls : List D} (hl : ∀ l ∈ ls, legT l) (h64 : ls.length < 64) : ∀ (ps acc : List D) (o2 o3 : Option W), (∀ p ∈ ps, ∃ l ∈ ls, p = ends2 l) → acc.length + ps.length * 64 ≤ 10000 → ∃ o2' o3',
    turnsV (.nm 2) (evSs G_law_in_order bodyI) ps [some (.v (.lst ls)), some (.v (.lst acc)), o2, o3] S = .ok (.nx [some (.v (.lst ls)), some (.v (.lst (acc ++ ps.flatMap fun p => ls.filter fun l => eqv (ends2 l) p))), o2', o3']) S
  | [], acc, o2, o3, _, _ => ⟨o2, o3, by simp⟩
  | p :: ps, acc, o2, o3, hp, hc => by
    rw [List.length_cons] at hc
    have fl : (ls.filter fun l => eqv (ends2 l) p).length ≤ ls.length := List.length_filter_le _ _
    obtain ⟨o2', o3', e⟩ := loop_I (S := S) hl h64 ps (acc ++ ls.filter fun l => eqv (ends2 l) p) (some (.v p)) o3 (fun q hq => hp q (List.mem_cons_of_mem _ hq)) (by rw [List.length_append]; omega)
    obtain ⟨l0, m0, e0⟩ := hp p (by simp)
    have lp : lay 60 p = true := by rw [e0]; exact ends2_lay (hl l0 m0)
    refine ⟨o2', o3', ?_⟩
    have s0 := sl1000
    have sz : (10000 : Nat) ≤ sizeLine := by decide
    have ad : vadd (.lst acc) (.lst (ls.filter fun l => eqv (ends2 l) p)) = some (.lst (acc ++ ls.filter fun l => eqv (ends2 l) p)) := vadd_lst (by omega)
    conv => lhs; unfold turnsV
    have b : evSs G_law_in_order bodyI [some (.v (.lst ls)), some (.v (.lst acc)), some (.v p), o3] S = .ok (.nx [some (.v (.lst ls)), some (.v (.lst (acc ++ ls.filter fun l => eqv (ends2 l) p))), some (.v p), o3]) S := by
      unfold bodyI G_law_in_order
      simp only [evSs_2, evSs_1, evS_1, evE_7, evE_1, evE_23, evL_1, evL_2, getV_0, getV_s, lft_some, Rs.bind_ok, itW_lst, List.map_cons, List.map_nil, wipeV_nil, wipeV_cons, wipeV1_0, wipeV1_s]
      rw [compV_fm (fun l => eqv (ends2 l) p) (fun d => d) ls (fun l hm => by
        obtain ⟨x, y, f, hx, hy, rfl⟩ := hl l hm
        have ly := ends2_lay (hl _ hm)
        have rp : rdW S (.v p) = some p := rdW_pl (lay_pln lp)
        have ve : veq (.tup [.str x, .str y]) p = some (.bl (eqv (.tup [.str x, .str y]) p)) := if_pos (by
          unfold veqOk
          rw [show lay 60 (D.tup [.str x, .str y]) = true from ly, lp]; simp)
        have ec : Z.cutD [D.str x, D.str y, f] none (some 2) = [D.str x, D.str y] := rfl
        refine ⟨_, rfl, ?_, fun _ => rfl⟩
        simp [vsl, rp, ve, ends2, ec])]
      simp only [List.map_id', calm_ok, compR_ok, Rs.bind_ok, rd2_some' rdW_lst rdW_lst, bo_add, ad, lfv_some, bindV_nm, setV2_0, setV2_s]
    simp only [bindV_nm, setV2_0, setV2_s, b, Rs.bind_ok, e, List.flatMap_cons, List.append_assoc]
theorem v_law_in_order {S : Sto} {ls : List D} (hl : ∀ l ∈ ls, legT l) (h64 : ls.length < 64) : F_law_in_order [.v (.lst ls)] S = .ok (.v (.tup (inOrd ls))) S := by
  rw [e_law_in_order]
  have hB : B_law_in_order = [.asg (.nm 1) (.lst false []), .fors (.nm 2) .seq [(.srt2 (.comp false (.sli (.loc 3) [] [(.int 2)]) (.nm 3) .seq [(.loc 0)] [] [("leg", 3)]))] bodyI, .ret (.blt .tupT (.loc 1) [])] := rfl
  have sm : ∀ p ∈ sortD (uq (ls.map ends2)), ∃ l ∈ ls, p = ends2 l := fun p hp => by
    obtain ⟨l, h1, h2⟩ := List.mem_map.mp ((uq_mem (map_pairs hl) p).mp (sortD_mem.mp hp))
    exact ⟨l, h1, h2.symm⟩
  have ln : (sortD (uq (ls.map ends2))).length ≤ ls.length := by
    rw [sortD_len]
    exact Nat.le_trans (uq_len _) (by rw [List.length_map]; exact Nat.le_refl _)
  obtain ⟨o2, o3, e⟩ := loop_I (S := S) hl h64 (sortD (uq (ls.map ends2))) [] none none sm (by simp; omega)
  have s2 : vsrt2 (.lst (ls.map ends2)) = some (.lst (sortD (uq (ls.map ends2)))) := by
    unfold vsrt2
    refine if_pos ⟨?_, by rw [List.length_map]; exact h64⟩
    rw [List.all_eq_true]
    intro d hd
    obtain ⟨x, y, rfl⟩ := map_pairs hl d hd
    rfl
  rw [hB]
  simp only [evSs_2, evSs_1, evS_1, evS_9, evS_6, evE_15, evE_7s, evE_20, evE_1, evE_23, evL_1, evL_2, getV_0, getV_s, lft_some, Rs.bind_ok, plnW_nil, List.length_nil, sl_0, if_true, bindV_nm, setV2_0, setV2_s, itW_lst, List.map_cons, List.map_nil, wipeV_nil, wipeV_cons, wipeV1_0, wipeV1_s]
  rw [compV_map ends2 ls (fun l hm => by
    obtain ⟨x, y, f, hx, hy, rfl⟩ := hl l hm
    refine ⟨_, rfl, rfl, ?_⟩
    simp [vsl, ends2])]
  simp only [calm_ok, compR_ok, Rs.bind_ok, rd1_some' rdW_lst, s2, lfv_some, itW_lst, e, List.nil_append, evE_1, getV_0, getV_s, lft_some, bt_tupT, tup_lst, out_rt]
  rfl
end CM

/-! k82: the law's forms and networks -/
namespace CM
open PySem PySem.Spec PyProof.Rows L2 Z
theorem comp_dj {tg : Tg} {te : WF W} {G : GV} {en : WEn} {P : D → Prop} : ∀ (items : List D) (s : Stt) (J : Sto), (∀ x ∈ items, ∃ e1, bindV tg (.v x) en = some e1 ∧ ∀ s J, ∃ d s' K, P d ∧ te e1 (SS s J) = .ok (.v d) (SS s' (J ++ K))) →
    ∃ ds s' K, (∀ d ∈ ds, P d) ∧ ds.length = items.length ∧ compV tg (evC G []) te en items (SS s J) = .ok ds (SS s' (J ++ K))
  | [], s, J, _ => ⟨[], s, [], by simp, rfl, by rw [List.append_nil]; rfl⟩
  | x :: r, s, J, h => by
    obtain ⟨e1, b1, h1⟩ := h x (by simp)
    obtain ⟨d, s1, K1, p1, t1⟩ := h1 s J
    obtain ⟨ds, s2, K2, p2, l2, t2⟩ := comp_dj (te := te) (G := G) (P := P) r s1 (J ++ K1) fun z hz => h z (List.mem_cons_of_mem _ hz)
    refine ⟨d :: ds, s2, K1 ++ K2, ?_, by rw [List.length_cons, l2, List.length_cons], ?_⟩
    · intro z hz
      rcases List.mem_cons.mp hz with e | hz
      · rw [e]; exact p1
      · exact p2 z hz
    · unfold compV
      rw [b1]
      simp only [evC_1, Rs.bind_ok, t1, t2, List.append_assoc]
def okH : D → Bool | .non => true | .int i => decide (0 ≤ i) | _ => false
def okT : D → Bool | .tp .t [.int v, .int s] => decide (0 ≤ v) && decide (0 ≤ s) | .tp .t [.non, .int i] => decide (i = 0) | _ => false
/-- a right form -/
structure GdF (f : D) : Prop where
  h : ∃ hs ts, f = .tup [.tup hs, .tup ts] ∧ hs.all okH = true ∧ ts.all okT = true ∧ hs.length ≤ 10 ∧ 1 ≤ ts.length ∧ ts.length ≤ 10
theorem ix01 {S : Sto} {x y : D} {b : Bool} : ixW S (.v (.lst [x, y])) (.v (.int (if b = true then 1 else 0))) = some (.v (if b = true then y else x)) := by cases b <;> rfl
end CM

/-! k82: the law's networks -/
namespace CM
open PySem PySem.Spec PyProof.Rows L2 Z
/-- a right leg -/
structure GLeg (ws : List Str) (l : D) : Prop where
  h : ∃ x y f, x ∈ ws ∧ y ∈ ws ∧ x ≠ y ∧ GdF f ∧ l = .tup [.str x, .str y, f]
theorem GLeg.t {ws : List Str} {l : D} (o : Off ws) (g : GLeg ws l) : legT l := by
  obtain ⟨x, y, f, h1, h2, _, _, rfl⟩ := g.h
  exact ⟨x, y, f, low_ok (o.low x h1), low_ok (o.low y h2), rfl⟩
theorem SS_ap {s : Stt} {J : Sto} {o : Option VO} {K : Sto} : SS s (J ++ o :: K) = SS s J ++ o :: K := rfl
theorem app_mid {s : Stt} {J K : Sto} {ds : List D} {x : D} (h : ds.length < 1000) : Mt.append.wo (SS s (J ++ some (.lst ds) :: K)) (.r (J.length + 1)) [.v x] = .ok (.v .non) (SS s (J ++ some (.lst (ds ++ [x])) :: K)) := by
  rw [SS_ap, ← SS_len (s := s), wo_app_mid (by have := sl1000; omega)]; rfl
theorem ty_mid {s : Stt} {J K : Sto} {ds : List D} : tyW .append (SS s (J ++ some (.lst ds) :: K)) (.r (J.length + 1)) = true := by
  rw [SS_ap, ← SS_len (s := s)]; exact ty_app_mid
theorem fm_other {n : Int} {a b : Int} (hn : 2 ≤ n) (a0 : 0 ≤ a) (a1 : a < n) (b0 : 0 ≤ b) (b1 : b < n - 1) : 0 ≤ (a + 1 + b).fmod n ∧ (a + 1 + b).fmod n < n ∧ (a + 1 + b).fmod n ≠ a := by
  rw [Int.fmod_eq_emod_of_nonneg _ (by omega)]
  refine ⟨Int.emod_nonneg _ (by omega), Int.emod_lt_of_pos _ (by omega), ?_⟩
  by_cases h : a + 1 + b < n
  · rw [Int.emod_eq_of_lt (by omega) h]; omega
  · have e : (a + 1 + b) % n = (a + 1 + b - n) % n := by rw [Int.sub_emod_right]
    rw [e, Int.emod_eq_of_lt (by omega) (by omega)]; omega
end CM

/-! k82: what network_fault tells of networks -/
namespace CM
open PySem PySem.Spec PyProof.Rows L2 Z
theorem cutD_take {α : Type} {xs : List α} {k : Nat} (h : k ≤ xs.length) : Z.cutD xs none (some (k : Int)) = xs.take k := by
  unfold Z.cutD
  rw [HT.sIx_none, HT.sIx_nat, Nat.min_eq_left h]; rfl
theorem cutD_drop {α : Type} {xs : List α} {k : Nat} (h : k ≤ xs.length) : Z.cutD xs (some (k : Int)) none = xs.drop k := by
  unfold Z.cutD
  rw [HT.sIx_none, HT.sIx_nat, Nat.min_eq_left h]
  exact List.take_of_length_le (by rw [List.length_drop]; exact Nat.le_refl _)
theorem okH_b {hs : List D} (h : hs.all okH = true) : hs.all bndD = true ∧ hs.any negD = false ∧ hs.all pln = true := by
  rw [List.all_eq_true] at h
  refine ⟨List.all_eq_true.mpr fun d hd => ?_, List.any_eq_false.mpr fun d hd => ?_, List.all_eq_true.mpr fun d hd => ?_⟩
  all_goals
    have := h d hd
    cases d <;> simp [okH] at this <;> simp [bndD, negD, pln, Z.isNon, Z.isInt]
    try omega
theorem okT_sh {d : D} (h : okT d = true) : (∃ v s : Int, 0 ≤ v ∧ 0 ≤ s ∧ d = .tup [.int v, .int s]) ∨ d = .tup [.non, .int 0] := by
  unfold okT at h
  split at h
  · simp at h
    exact .inl ⟨_, _, h.1, h.2, rfl⟩
  · simp at h
    subst h
    exact .inr rfl
  · cases h
theorem okT_b {ts : List D} (h : ts.all okT = true) : ts.all prB = true ∧ ts.any neg2 = false ∧ ts.all (fun z => pln z && pl1 z) = true := by
  rw [List.all_eq_true] at h
  refine ⟨List.all_eq_true.mpr fun d hd => ?_, List.any_eq_false.mpr fun d hd => ?_, List.all_eq_true.mpr fun d hd => ?_⟩
  all_goals
    rcases okT_sh (h d hd) with ⟨v, s, hv, hs, rfl⟩ | rfl
    · simp [prB, neg2, pln, pl1, Z.isNon, Z.isInt]
      try omega
    · simp [prB, neg2, pln, pl1, Z.isNon, Z.isInt]
theorem gd_ff {f : D} (g : GdF f) : Z.isNon (ffD f) = true ∧ debtB f = false ∧ fpl f = true := by
  obtain ⟨hs, ts, rfl, h1, h2, h3, h4, h5⟩ := g.h
  obtain ⟨a1, a2, a3⟩ := okH_b h1
  obtain ⟨b1, b2, b3⟩ := okT_b h2
  refine ⟨?_, ?_, ?_⟩
  · show Z.isNon (ff2 hs ts) = true
    unfold ff2
    rw [if_pos ⟨by omega, a1⟩, if_pos ⟨h4, by omega, b1⟩]; rfl
  · show (hs.any negD || ts.any neg2) = false
    rw [a2, b2]; rfl
  · show (true && true && hs.all pln && ts.all _) = true
    rw [a3, b3]; rfl
/-- a value that may stand for a leg, tuples written -/
structure Lgk (d : D) : Prop where
  g : Lgp d
  t : ∀ k ds, d = .tp k ds → k = .t
theorem lgp3 {x y : Str} {f : D} (hx : okS x) (hy : okS y) (hf : fpl f = true) : Lgp (.tup [.str x, .str y, f]) := ⟨rfl, fun k a b g e => by
  cases e
  exact ⟨hx, hy, hx, hy, hf⟩⟩
theorem GLeg.k {ws : List Str} {l : D} (o : Off ws) (g : GLeg ws l) : Lgk l := by
  obtain ⟨x, y, f, h1, h2, _, gf, rfl⟩ := g.h
  exact ⟨lgp3 (low_ok (o.low x h1)) (low_ok (o.low y h2)) (gd_ff gf).2.2, fun k ds e => by cases e; rfl⟩
theorem in_ws {ws : List Str} {x : Str} : inB (ws.map D.str) (.str x) = decide (x ∈ ws) := any_str
theorem leg_str {ws : List Str} {x y : Str} {f : D} : legB (ws.map D.str) (.tup [.str x, .str y, f]) = (decide (x ∈ ws) && decide (y ∈ ws) && !decide (x = y) && Z.isNon (ffD f)) := by
  show (inB _ _ && inB _ _ && !(x == y) && _) = _
  rw [in_ws, in_ws]
  congr 2
theorem GLeg.b {ws : List Str} {l : D} (g : GLeg ws l) : legB (ws.map D.str) l = true ∧ legDebt l = false := by
  obtain ⟨x, y, f, h1, h2, h3, gf, rfl⟩ := g.h
  rw [leg_str, decide_eq_true h1, decide_eq_true h2, decide_eq_false h3, (gd_ff gf).1]
  exact ⟨rfl, (gd_ff gf).2.1⟩
theorem eqv_str {w : Str} {a : D} (h : eqv (.str w) a = true) : a = .str w := by
  cases a with
  | str x =>
    have : (w == x) = true := h
    rw [beq_iff_eq] at this
    rw [this]
  | _ => simp [eqv] at h
theorem inB_str {ws : List Str} {a : D} (h : inB (ws.map D.str) a = true) : ∃ x, a = .str x := by
  unfold inB at h
  rw [List.any_map, List.any_eq_true] at h
  obtain ⟨w, _, hw⟩ := h
  exact ⟨w, eqv_str hw⟩
theorem legB_shape {ws : List Str} {d : D} (g : Lgk d) (h : legB (ws.map D.str) d = true) : ∃ x y f, d = .tup [.str x, .str y, f] := by
  unfold legB at h
  split at h
  · rename_i k a b f
    have := g.t _ _ rfl
    subst this
    simp only [Bool.and_eq_true] at h
    obtain ⟨x, rfl⟩ := inB_str h.1.1.1
    obtain ⟨y, rfl⟩ := inB_str h.1.1.2
    exact ⟨x, y, f, rfl⟩
  · cases h
theorem off_nms {ws : List Str} (o : Off ws) (h1 : 1 ≤ ws.length) (h8 : ws.length ≤ 8) : nmsB 1 8 (ws.map D.str) = true := by
  unfold nmsB
  rw [o.asc, List.length_map, decide_eq_true (by omega), decide_eq_true (by omega)]
  simp only [Bool.and_true, Bool.true_and, List.all_map]
  rw [List.all_eq_true]
  intro x hx
  exact o.low x hx
theorem off_in {ws : List Str} (o : Off ws) : (∀ d ∈ ws.map D.str, pln d = true ∧ szD d = true) ∧ layL 59 (ws.map D.str) = true := by
  refine ⟨fun d hd => ?_, layL_str 59 ws fun x hx => low_ok (o.low x hx)⟩
  obtain ⟨x, hx, rfl⟩ := List.mem_map.mp hd
  have := low_len (o.low x hx)
  have := sl1000
  exact ⟨rfl, decide_eq_true (by omega)⟩
/-- what is told with right offices -/
def nfO (ws : List Str) (ls : List D) : D := if legsB (ws.map D.str) ls = true then (if ls.any legDebt = true then .str "values" else .non) else .str "legs"
theorem v_nfo {S : Sto} {ws : List Str} {ls : List D} (o : Off ws) (h1 : 1 ≤ ws.length) (h8 : ws.length ≤ 8) (hl : ∀ d ∈ ls, Lgk d) : Fnetwork_fault [.v (.tup [.tup (ws.map D.str), .tup ls])] S = .ok (.v (nfO ws ls)) S := by
  obtain ⟨i1, i2⟩ := off_in o
  rw [v_nf i1 (fun _ => ⟨i2, fun d hd => (hl d hd).g, fun ha d hd => legB_shape (hl d hd) (List.all_eq_true.mp ha d hd)⟩)]
  unfold nfD nfO
  rw [if_pos (off_nms o h1 h8)]
theorem nfO_bad {ws : List Str} {ls : List D} {d : D} (h : d ∈ ls) (hb : legB (ws.map D.str) d = false) : nfO ws ls = .str "legs" := by
  unfold nfO
  refine if_neg fun e => ?_
  unfold legsB at e
  simp only [Bool.and_eq_true] at e
  have := List.all_eq_true.mp e.1.2 d h
  rw [hb] at this; cases this
theorem nfO_ok {ws : List Str} {ls : List D} (hl : ls.length ≤ 30) (hb : ∀ d ∈ ls, legB (ws.map D.str) d = true) (hc : chB (ls.map ends2) = true) : nfO ws ls = if ls.any legDebt = true then .str "values" else .non := by
  unfold nfO
  refine if_pos ?_
  unfold legsB
  rw [decide_eq_true hl, List.all_eq_true.mpr hb, hc]; rfl
theorem nfO_none {ws : List Str} {ls : List D} (hl : ls.length ≤ 30) (hb : ∀ d ∈ ls, GLeg ws d) (hc : chB (ls.map ends2) = true) : nfO ws ls = .non := by
  rw [nfO_ok hl (fun d hd => (hb d hd).b.1) hc]
  refine if_neg ?_
  rw [List.any_eq_true]
  rintro ⟨d, hd, h⟩
  rw [(hb d hd).b.2] at h; cases h
/-! orders -/
theorem slt_irr (x : Str) : ltD (.str x) (.str x) = false := by
  show decide (x.cps.toList < x.cps.toList) = false
  exact decide_eq_false (List.lt_irrefl _)
theorem slt_trans {x y z : Str} (h1 : ltD (.str x) (.str y) = true) (h2 : ltD (.str y) (.str z) = true) : ltD (.str x) (.str z) = true := by
  have h1 : decide (x.cps.toList < y.cps.toList) = true := h1
  have h2 : decide (y.cps.toList < z.cps.toList) = true := h2
  show decide (x.cps.toList < z.cps.toList) = true
  exact decide_eq_true (List.lt_trans (of_decide_eq_true h1) (of_decide_eq_true h2))
theorem slt_asym {x y : Str} (h1 : ltD (.str x) (.str y) = true) : ltD (.str y) (.str x) = false := by
  cases h : ltD (.str y) (.str x) with
  | false => rfl
  | true =>
    have := slt_trans h1 h
    rw [slt_irr] at this; cases this
theorem asc_head {a : Str} : ∀ {r : List Str}, ascB ((a :: r).map D.str) = true → ∀ x ∈ r, ltD (.str a) (.str x) = true
  | [], _, x, hx => nomatch hx
  | b :: r, h, x, hx => by
    have h : (ltD (.str a) (.str b) && ascB ((b :: r).map D.str)) = true := h
    rw [Bool.and_eq_true] at h
    rcases List.mem_cons.mp hx with e | hx
    · rw [e]; exact h.1
    · exact slt_trans h.1 (asc_head h.2 x hx)
theorem lt_fst {x y x' y' : Str} (h : ltD (.str x) (.str x') = true) : ltD (.tup [.str x, .str y]) (.tup [.str x', .str y']) = true := by
  rw [lt_pair]
  have : x ≠ x' := fun e => by rw [e, slt_irr] at h; cases h
  rw [if_neg this, h]
theorem lt_fst_no {x y x' y' : Str} (h : ltD (.str x') (.str x) = true) : ltD (.tup [.str x, .str y]) (.tup [.str x', .str y']) = false := by
  rw [lt_pair]
  have : x ≠ x' := fun e => by rw [e, slt_irr] at h; cases h
  rw [if_neg this, slt_asym h]
theorem lt_same {x y : Str} : ltD (.tup [.str x, .str y]) (.tup [.str x, .str y]) = false := by
  rw [lt_pair, if_pos rfl, if_pos rfl]
/-- the least pair -/
theorem min_pair {a b : Str} {r : List Str} (o : Off (a :: b :: r)) {l : D} (g : GLeg (a :: b :: r) l) : ltD (ends2 l) (.tup [.str a, .str b]) = false := by
  obtain ⟨x, y, f, h1, h2, h3, _, rfl⟩ := g.h
  show ltD (.tup [.str x, .str y]) (.tup [.str a, .str b]) = false
  have ha := asc_head o.asc
  have hb : ascB ((b :: r).map D.str) = true := by
    have h : (ltD (.str a) (.str b) && ascB ((b :: r).map D.str)) = true := o.asc
    rw [Bool.and_eq_true] at h; exact h.2
  rcases List.mem_cons.mp h1 with e | h1
  · subst e
    rw [lt_pair, if_pos rfl]
    rcases List.mem_cons.mp h2 with e | h2
    · exact absurd e.symm h3
    · rcases List.mem_cons.mp h2 with e | h2
      · rw [if_pos e]
      · have := asc_head hb y h2
        have ne : y ≠ b := fun e => by rw [e, slt_irr] at this; cases this
        rw [if_neg ne, slt_asym this]
  · exact lt_fst_no (ha x h1)
theorem chB_cons {x : D} {ds : List D} (h : ∀ y ∈ ds, ltD y x = false) (hc : chB ds = true) : chB (x :: ds) = true := by
  cases ds with
  | nil => rfl
  | cons y r =>
    show (!ltD y x && chB (y :: r)) = true
    rw [h y (by simp), hc]; rfl
theorem chB_rep {x : D} (h : ltD x x = false) : ∀ n, chB (List.replicate n x) = true
  | 0 => rfl
  | n + 1 => by
    rw [List.replicate_succ]
    exact chB_cons (fun y hy => by rw [List.eq_of_mem_replicate hy, h]) (chB_rep h n)
end CM

/-! CWa: ways through legs with prices: walks, the least price and the fewest legs; no program in sight. -/
namespace CM
open PySem PySem.Spec PyProof.Rows L2 Z
/-- a leg: from, to, its price -/
abbrev EL := Str × Str × Option Int
/-- a walk: its offices, the last one first; where it ends; its price -/
inductive Wk (E : List EL) (s : Str) : List Str → Str → Int → Prop
  | nil : Wk E s [s] s 0
  | step {l : List Str} {u v : Str} {a c : Int} : Wk E s l u a → (u, v, some c) ∈ E → Wk E s (v :: l) v (a + c)
/-- price, number of legs -/
abbrev P2 := Int × Nat
def le2 (p q : P2) : Prop := p.1 < q.1 ∨ (p.1 = q.1 ∧ p.2 ≤ q.2)
def lt2 (p q : P2) : Prop := p.1 < q.1 ∨ (p.1 = q.1 ∧ p.2 < q.2)
instance (p q : P2) : Decidable (lt2 p q) := inferInstanceAs (Decidable (p.1 < q.1 ∨ (p.1 = q.1 ∧ p.2 < q.2)))
theorem le2_refl (p : P2) : le2 p p := .inr ⟨rfl, Nat.le_refl _⟩
theorem le2_trans {p q r : P2} (h1 : le2 p q) (h2 : le2 q r) : le2 p r := by
  unfold le2 at *
  rcases h1 with h1 | ⟨h1, h3⟩ <;> rcases h2 with h2 | ⟨h2, h4⟩
  · exact .inl (by omega)
  · exact .inl (by omega)
  · exact .inl (by omega)
  · exact .inr ⟨by omega, by omega⟩
theorem le2_anti {p q : P2} (h1 : le2 p q) (h2 : le2 q p) : p = q := by
  obtain ⟨a, b⟩ := p
  obtain ⟨c, d⟩ := q
  unfold le2 at *
  dsimp only at *
  have e1 : a = c := by omega
  have e2 : b = d := by omega
  rw [e1, e2]
theorem not_lt2 {p q : P2} (h : ¬ lt2 p q) : le2 q p := by
  unfold lt2 at h
  unfold le2
  omega
theorem lt2_le {p q : P2} (h : lt2 p q) : le2 p q := by
  unfold lt2 at h
  unfold le2
  omega
theorem le2_add {p q : P2} (h : le2 p q) (c : Int) : le2 (p.1 + c, p.2 + 1) (q.1 + c, q.2 + 1) := by
  unfold le2 at *
  dsimp only
  omega
structure Gr (E : List EL) (ws : List Str) (s : Str) : Prop where
  pos : ∀ e ∈ E, ∀ c, e.2.2 = some c → 0 ≤ c
  ends : ∀ e ∈ E, e.1 ∈ ws ∧ e.2.1 ∈ ws
  st : s ∈ ws
section
variable {E : List EL} {ws : List Str} {s : Str}
theorem Wk.len {l : List Str} {v : Str} {a : Int} (w : Wk E s l v a) : 1 ≤ l.length := by
  cases w <;> simp
theorem Wk.sub (g : Gr E ws s) {l : List Str} {v : Str} {a : Int} (w : Wk E s l v a) : ∀ x ∈ l, x ∈ ws := by
  induction w with
  | nil => intro x hx; rw [List.mem_singleton.mp hx]; exact g.st
  | step w h ih =>
    intro x hx
    rcases List.mem_cons.mp hx with e | hx
    · rw [e]; exact (g.ends _ h).2
    · exact ih x hx
theorem Wk.nonneg (g : Gr E ws s) {l : List Str} {v : Str} {a : Int} (w : Wk E s l v a) : 0 ≤ a := by
  induction w with
  | nil => exact Int.le_refl _
  | step w h ih => have := g.pos _ h _ rfl; omega
/-- the walk up to an office that it passes -/
theorem Wk.cut (g : Gr E ws s) {l : List Str} {u : Str} {a : Int} (w : Wk E s l u a) : ∀ v ∈ l, ∃ l' a', Wk E s l' v a' ∧ a' ≤ a ∧ l'.length ≤ l.length ∧ (l.Nodup → l'.Nodup) := by
  induction w with
  | nil =>
    intro v hv
    rw [List.mem_singleton.mp hv]
    exact ⟨_, _, .nil, Int.le_refl _, Nat.le_refl _, fun h => h⟩
  | @step l u v a c w h ih =>
    intro x hx
    rcases List.mem_cons.mp hx with e | hx
    · rw [e]
      exact ⟨_, _, .step w h, Int.le_refl _, Nat.le_refl _, fun z => z⟩
    · obtain ⟨l', a', w', h1, h2, h3⟩ := ih x hx
      have := g.pos _ h _ rfl
      exact ⟨l', a', w', by omega, by rw [List.length_cons]; omega, fun z => h3 (List.nodup_cons.mp z).2⟩
/-- no office twice -/
theorem Wk.short (g : Gr E ws s) {l : List Str} {v : Str} {a : Int} (w : Wk E s l v a) : ∃ l' a', Wk E s l' v a' ∧ l'.Nodup ∧ a' ≤ a ∧ l'.length ≤ l.length := by
  induction w with
  | nil => exact ⟨_, _, .nil, by simp, Int.le_refl _, Nat.le_refl _⟩
  | @step l u v a c w h ih =>
    obtain ⟨l1, a1, w1, n1, h1, h2⟩ := ih
    have hc := g.pos _ h _ rfl
    by_cases hv : v ∈ l1
    · obtain ⟨l2, a2, w2, h3, h4, h5⟩ := w1.cut g v hv
      exact ⟨l2, a2, w2, h5 n1, by omega, by rw [List.length_cons]; omega⟩
    · exact ⟨v :: l1, a1 + c, .step w1 h, List.nodup_cons.mpr ⟨hv, n1⟩, by omega, by rw [List.length_cons, List.length_cons]; omega⟩
/-- a walk of at most as many offices as there are, not dearer, not longer -/
theorem Wk.few (g : Gr E ws s) {l : List Str} {v : Str} {a : Int} (w : Wk E s l v a) : ∃ l' a', Wk E s l' v a' ∧ l'.length ≤ ws.length ∧ le2 (a', l'.length - 1) (a, l.length - 1) := by
  obtain ⟨l', a', w', n, h1, h2⟩ := w.short g
  refine ⟨l', a', w', nodup_le n (w'.sub g), ?_⟩
  unfold le2
  dsimp only
  omega
/-- the least price and the fewest legs for it -/
structure Bst (E : List EL) (s v : Str) (p : P2) : Prop where
  ex : ∃ l, Wk E s l v p.1 ∧ l.length = p.2 + 1
  low : ∀ l a, Wk E s l v a → le2 p (a, l.length - 1)
theorem Bst.uniq {v : Str} {p q : P2} (h1 : Bst E s v p) (h2 : Bst E s v q) : p = q := by
  obtain ⟨l, w, e⟩ := h1.ex
  obtain ⟨m, u, f⟩ := h2.ex
  have a := h1.low m _ u
  have b := h2.low l _ w
  rw [f] at a
  rw [e] at b
  exact le2_anti a b
theorem Bst.start (g : Gr E ws s) : Bst E s s (0, 0) := ⟨⟨[s], .nil, rfl⟩, fun l a w => by
  have := w.nonneg g
  unfold le2
  dsimp only
  omega⟩
theorem Wk.one {l : List Str} {v : Str} {a : Int} (w : Wk E s l v a) (h : l.length = 1) : v = s := by
  cases w with
  | nil => rfl
  | step w _ => have := w.len; rw [List.length_cons] at h; omega
theorem Bst.zero {v : Str} {p : P2} (h : Bst E s v p) (h0 : p.2 = 0) : v = s := by
  obtain ⟨l, w, e⟩ := h.ex
  exact w.one (by rw [e, h0])
theorem Bst.le_n (g : Gr E ws s) {v : Str} {p : P2} (h : Bst E s v p) : p.2 + 1 ≤ ws.length := by
  obtain ⟨l, w, e⟩ := h.ex
  obtain ⟨l', a', w', h1, h2⟩ := w.few g
  have h3 := h.low l' a' w'
  have h4 : p = (a', l'.length - 1) := le2_anti h3 (by rw [e] at h2; exact h2)
  have := w'.len
  rw [h4]
  dsimp only
  omega
/-! ### in place, leg by leg, round by round -/
abbrev KF := Str → Option P2
def updF {α : Type} (K : Str → Option α) (v : Str) (p : α) : Str → Option α := fun x => if x = v then some p else K x
def behF (K : KF) (e : EL) : Option P2 := match K e.1, e.2.2 with
  | some (a, b), some c => some (a + c, b + 1)
  | _, _ => none
def rlx (K : KF) (e : EL) : KF := match behF K e with
  | some q => match K e.2.1 with
    | none => updF K e.2.1 q
    | some p => if lt2 q p then updF K e.2.1 q else K
  | none => K
def rnd (E : List EL) (K : KF) : KF := E.foldl rlx K
def rnds (E : List EL) : Nat → KF → KF
  | 0, K => K
  | n + 1, K => rnds E n (rnd E K)
def Snd (E : List EL) (s : Str) (K : KF) : Prop := ∀ v p, K v = some p → ∃ l, Wk E s l v p.1 ∧ l.length = p.2 + 1
def Dec (K' K : KF) : Prop := ∀ v p, K v = some p → ∃ q, K' v = some q ∧ le2 q p
theorem Dec.refl (K : KF) : Dec K K := fun v p h => ⟨p, h, le2_refl p⟩
theorem Dec.trans {A B C : KF} (h1 : Dec A B) (h2 : Dec B C) : Dec A C := fun v p h => by
  obtain ⟨q, e, l⟩ := h2 v p h
  obtain ⟨r, e2, l2⟩ := h1 v q e
  exact ⟨r, e2, le2_trans l2 l⟩
theorem upd_snd {K : KF} (h : Snd E s K) {v : Str} {q : P2} (hq : ∃ l, Wk E s l v q.1 ∧ l.length = q.2 + 1) : Snd E s (updF K v q) := fun x p hp => by
  unfold updF at hp
  split at hp
  · rename_i e
    cases hp
    rw [e]; exact hq
  · exact h x p hp
theorem rlx_no {K : KF} {e : EL} (h : behF K e = none) : rlx K e = K := by unfold rlx; rw [h]
theorem rlx_new {K : KF} {e : EL} {q : P2} (h : behF K e = some q) (h2 : K e.2.1 = none) : rlx K e = updF K e.2.1 q := by unfold rlx; rw [h, h2]
theorem rlx_lt {K : KF} {e : EL} {q p : P2} (h : behF K e = some q) (h2 : K e.2.1 = some p) (h3 : lt2 q p) : rlx K e = updF K e.2.1 q := by unfold rlx; rw [h, h2]; exact if_pos h3
theorem rlx_ge {K : KF} {e : EL} {q p : P2} (h : behF K e = some q) (h2 : K e.2.1 = some p) (h3 : ¬ lt2 q p) : rlx K e = K := by unfold rlx; rw [h, h2]; exact if_neg h3
theorem upd_same' {α : Type} {K : Str → Option α} {v : Str} {q : α} : updF K v q v = some q := if_pos rfl
theorem upd_other {α : Type} {K : Str → Option α} {v x : Str} {q : α} (h : x ≠ v) : updF K v q x = K x := if_neg h
theorem beh_some {K : KF} {u v : Str} {oc : Option Int} {q : P2} (h : behF K (u, v, oc) = some q) : ∃ p c, K u = some p ∧ oc = some c ∧ q = (p.1 + c, p.2 + 1) := by
  unfold behF at h
  dsimp only at h
  cases h1 : K u with
  | none => rw [h1] at h; cases h
  | some p =>
    obtain ⟨a, b⟩ := p
    cases oc with
    | none => rw [h1] at h; cases h
    | some c =>
      rw [h1] at h
      cases h
      exact ⟨(a, b), c, rfl, rfl, rfl⟩
theorem rlx_snd {K : KF} (h : Snd E s K) {e : EL} (he : e ∈ E) : Snd E s (rlx K e) := by
  obtain ⟨u, v, oc⟩ := e
  cases hb : behF K (u, v, oc) with
  | none => rw [rlx_no hb]; exact h
  | some q =>
    have key : ∃ l, Wk E s l v q.1 ∧ l.length = q.2 + 1 := by
      obtain ⟨p, c, h1, rfl, rfl⟩ := beh_some hb
      obtain ⟨l, w, hl⟩ := h u p h1
      exact ⟨v :: l, .step w he, by rw [List.length_cons, hl]⟩
    cases hv : K v with
    | none => rw [rlx_new hb hv]; exact upd_snd h key
    | some p =>
      by_cases c : lt2 q p
      · rw [rlx_lt hb hv c]; exact upd_snd h key
      · rw [rlx_ge hb hv c]; exact h
theorem rlx_dec (K : KF) (e : EL) : Dec (rlx K e) K := by
  obtain ⟨u, v, oc⟩ := e
  cases hb : behF K (u, v, oc) with
  | none => rw [rlx_no hb]; exact Dec.refl K
  | some q =>
    cases hv : K v with
    | none =>
      rw [rlx_new hb hv]
      intro x p hp
      have : x ≠ v := fun e => by rw [e, hv] at hp; cases hp
      exact ⟨p, by rw [upd_other this]; exact hp, le2_refl p⟩
    | some p' =>
      by_cases c : lt2 q p'
      · rw [rlx_lt hb hv c]
        intro x p hp
        by_cases e : x = v
        · subst e
          rw [hv] at hp
          cases hp
          exact ⟨q, upd_same', lt2_le c⟩
        · exact ⟨p, by rw [upd_other e]; exact hp, le2_refl p⟩
      · rw [rlx_ge hb hv c]; exact Dec.refl K
/-- after a leg was looked at, the office behind it is not dearer than by it -/
theorem rlx_hit (K : KF) (e : EL) {q : P2} (h : behF K e = some q) : ∃ r, rlx K e e.2.1 = some r ∧ le2 r q := by
  obtain ⟨u, v, oc⟩ := e
  cases hv : K v with
  | none => rw [rlx_new h hv]; exact ⟨q, upd_same', le2_refl q⟩
  | some p =>
    by_cases c : lt2 q p
    · rw [rlx_lt h hv c]; exact ⟨q, upd_same', le2_refl q⟩
    · rw [rlx_ge h hv c]; exact ⟨p, hv, not_lt2 c⟩
theorem fold_dec : ∀ (L : List EL) (K : KF), Dec (L.foldl rlx K) K
  | [], K => Dec.refl K
  | e :: L, K => (fold_dec L (rlx K e)).trans (rlx_dec K e)
theorem fold_snd : ∀ (L : List EL) (K : KF), (∀ e ∈ L, e ∈ E) → Snd E s K → Snd E s (L.foldl rlx K)
  | [], K, _, h => h
  | e :: L, K, hL, h => fold_snd L (rlx K e) (fun z hz => hL z (List.mem_cons_of_mem _ hz)) (rlx_snd h (hL e (by simp)))
def Cov (E : List EL) (s : Str) (r : Nat) (K : KF) : Prop := ∀ l v a, Wk E s l v a → l.length ≤ r + 1 → ∃ q, K v = some q ∧ le2 q (a, l.length - 1)
theorem rnd_cov {K : KF} {r : Nat} (h : Cov E s r K) : Cov E s (r + 1) (rnd E K) := by
  intro l v a w hl
  cases w with
  | nil =>
    obtain ⟨q, e, le⟩ := h [s] s 0 .nil (by simp)
    obtain ⟨q2, e2, le'⟩ := fold_dec E K s q e
    exact ⟨q2, e2, le2_trans le' le⟩
  | @step l u v a c w he =>
    rw [List.length_cons] at hl
    obtain ⟨q, e, le⟩ := h l u a w (by omega)
    obtain ⟨E1, E2, hE⟩ := List.append_of_mem he
    obtain ⟨q1, e1, le1⟩ := fold_dec E1 K u q e
    have bh : behF (E1.foldl rlx K) (u, v, some c) = some (q1.1 + c, q1.2 + 1) := by
      unfold behF
      dsimp only
      rw [e1]
    obtain ⟨r1, e3, le3⟩ := rlx_hit (E1.foldl rlx K) (u, v, some c) bh
    obtain ⟨r2, e4, le4⟩ := fold_dec E2 (rlx (E1.foldl rlx K) (u, v, some c)) v r1 e3
    have ek : rnd E K = E2.foldl rlx (rlx (E1.foldl rlx K) (u, v, some c)) := by
      unfold rnd
      rw [hE, List.foldl_append, List.foldl_cons]
    refine ⟨r2, by rw [ek]; exact e4, le2_trans le4 (le2_trans le3 ?_)⟩
    have := le2_add (le2_trans le1 le) c
    have wl := w.len
    rw [List.length_cons]
    have e5 : l.length + 1 - 1 = l.length - 1 + 1 := by omega
    rw [e5]
    exact this
theorem rnds_cov : ∀ (n : Nat) {K : KF} {r : Nat}, Cov E s r K → Cov E s (r + n) (rnds E n K)
  | 0, K, r, h => h
  | n + 1, K, r, h => by
    have := rnds_cov n (rnd_cov h)
    rw [show r + 1 + n = r + (n + 1) by omega] at this
    exact this
theorem rnds_snd : ∀ (n : Nat) {K : KF}, Snd E s K → Snd E s (rnds E n K)
  | 0, K, h => h
  | n + 1, K, h => rnds_snd n (fold_snd E K (fun _ h => h) h)
def K0 (s : Str) : KF := updF (fun _ => none) s (0, 0)
theorem k0_snd : Snd E s (K0 s) := upd_snd (fun v p h => by cases h) ⟨[s], .nil, rfl⟩
theorem k0_cov : Cov E s 0 (K0 s) := fun l v a w hl => by
  cases w with
  | nil => exact ⟨(0, 0), by unfold K0 updF; rw [if_pos rfl], le2_refl _⟩
  | step w h => have := w.len; rw [List.length_cons] at hl; omega
/-- the known prices at the end -/
def kn (E : List EL) (ws : List Str) (s : Str) : KF := rnds E (ws.length - 1) (K0 s)
theorem kn_best (g : Gr E ws s) {v : Str} {p : P2} (h : kn E ws s v = some p) : Bst E s v p := by
  refine ⟨rnds_snd _ k0_snd v p h, fun l a w => ?_⟩
  obtain ⟨l', a', w', h1, h2⟩ := w.few g
  have n1 := w'.len
  obtain ⟨q, e, le⟩ := rnds_cov (ws.length - 1) k0_cov l' v a' w' (by omega)
  unfold kn at h
  rw [h] at e
  cases e
  exact le2_trans le h2
theorem kn_of (g : Gr E ws s) {v : Str} {p : P2} (h : Bst E s v p) : kn E ws s v = some p := by
  obtain ⟨l, w, e⟩ := h.ex
  obtain ⟨l', a', w', h1, h2⟩ := w.few g
  have n1 := w'.len
  obtain ⟨q, e2, le⟩ := rnds_cov (ws.length - 1) k0_cov l' v a' w' (by omega)
  have b := kn_best g (show kn E ws s v = some q from e2)
  rw [b.uniq h] at e2
  exact e2
theorem kn_iff (g : Gr E ws s) {v : Str} {p : P2} : kn E ws s v = some p ↔ Bst E s v p := ⟨kn_best g, kn_of g⟩
theorem kn_walk (g : Gr E ws s) {l : List Str} {v : Str} {a : Int} (w : Wk E s l v a) : ∃ p, kn E ws s v = some p := by
  obtain ⟨l', a', w', h1, h2⟩ := w.few g
  have n1 := w'.len
  obtain ⟨q, e2, le⟩ := rnds_cov (ws.length - 1) k0_cov l' v a' w' (by omega)
  exact ⟨q, e2⟩
end
end CM

/-! CWb: tables by numbers of legs; the last legs; the told way. -/
namespace CM
open PySem PySem.Spec PyProof.Rows L2 Z
abbrev TF := Str → Option Int
def tst (T A : TF) (e : EL) : TF := match T e.1, e.2.2 with
  | some a, some c => match A e.2.1 with
    | none => updF A e.2.1 (a + c)
    | some b => if a + c < b then updF A e.2.1 (a + c) else A
  | _, _ => A
def tnx (E : List EL) (T : TF) : TF := E.foldl (tst T) (fun _ => none)
def tbl (E : List EL) (s : Str) : Nat → TF
  | 0 => updF (fun _ => none) s 0
  | k + 1 => tnx E (tbl E s k)
section
variable {E : List EL} {ws : List Str} {s : Str}
theorem tst_no {T A : TF} {u v : Str} {oc : Option Int} (h : T u = none ∨ oc = none) : tst T A (u, v, oc) = A := by
  unfold tst
  dsimp only
  rcases h with h | h
  · rw [h]
  · subst h
    cases T u <;> rfl
theorem tst_yes {T A : TF} {u v : Str} {a c : Int} (h : T u = some a) : ∃ b, tst T A (u, v, some c) v = some b ∧ b ≤ a + c ∧ (b = a + c ∨ A v = some b) ∧ (∀ b0, A v = some b0 → b ≤ b0) ∧ ∀ x, x ≠ v → tst T A (u, v, some c) x = A x := by
  unfold tst
  dsimp only
  rw [h]
  dsimp only
  cases hv : A v with
  | none => exact ⟨a + c, upd_same', Int.le_refl _, .inl rfl, (fun b0 e => by cases e), fun x hx => upd_other hx⟩
  | some b =>
    dsimp only
    by_cases q : a + c < b
    · rw [if_pos q]
      exact ⟨a + c, upd_same', Int.le_refl _, .inl rfl, (fun b0 e => by cases e; omega), fun x hx => upd_other hx⟩
    · rw [if_neg q]
      exact ⟨b, hv, by omega, .inr rfl, (fun b0 e => by cases e; omega), fun x hx => rfl⟩
theorem fold_t {T : TF} : ∀ (L : List EL) (A : TF),
    (∀ v b, L.foldl (tst T) A v = some b → A v = some b ∨ ∃ u a c, (u, v, some c) ∈ L ∧ T u = some a ∧ b = a + c) ∧
    (∀ u v a c, (u, v, some c) ∈ L → T u = some a → ∃ b, L.foldl (tst T) A v = some b ∧ b ≤ a + c) ∧
    (∀ v b0, A v = some b0 → ∃ b, L.foldl (tst T) A v = some b ∧ b ≤ b0)
  | [], A => ⟨fun v b h => .inl h, fun u v a c h => by simp at h, fun v b0 h => ⟨b0, h, Int.le_refl _⟩⟩
  | e :: L, A => by
    obtain ⟨i1, i2, i3⟩ := fold_t L (tst T A e)
    obtain ⟨u0, v0, oc⟩ := e
    have step : (∃ a c, oc = some c ∧ T u0 = some a) ∨ tst T A (u0, v0, oc) = A := by
      cases h1 : T u0 with
      | none => exact .inr (tst_no (.inl h1))
      | some a =>
        cases oc with
        | none => exact .inr (tst_no (.inr rfl))
        | some c => exact .inl ⟨a, c, rfl, rfl⟩
    refine ⟨fun v b h => ?_, fun u v a c h ht => ?_, fun v b0 h => ?_⟩
    · rcases i1 v b h with h | ⟨u, a, c, h1, h2, h3⟩
      · rcases step with ⟨a, c, rfl, ht⟩ | st
        · obtain ⟨b1, e1, e2, e3, e4, e5⟩ := tst_yes (A := A) (v := v0) (c := c) ht
          by_cases q : v = v0
          · subst q
            rw [h] at e1
            cases e1
            rcases e3 with e3 | e3
            · exact .inr ⟨u0, a, c, by simp, ht, e3⟩
            · exact .inl e3
          · rw [e5 v q] at h
            exact .inl h
        · rw [st] at h; exact .inl h
      · exact .inr ⟨u, a, c, List.mem_cons_of_mem _ h1, h2, h3⟩
    · rcases List.mem_cons.mp h with e | h
      · cases e
        obtain ⟨b1, e1, e2, _⟩ := tst_yes (A := A) (v := v0) (c := c) ht
        obtain ⟨b, e3, e4⟩ := i3 v0 b1 e1
        exact ⟨b, e3, by omega⟩
      · exact i2 u v a c h ht
    · rcases step with ⟨a, c, rfl, ht⟩ | st
      · obtain ⟨b1, e1, e2, e3, e4, e5⟩ := tst_yes (A := A) (v := v0) (c := c) ht
        by_cases q : v = v0
        · subst q
          obtain ⟨b, e6, e7⟩ := i3 v b1 e1
          have := e4 b0 h
          exact ⟨b, e6, by omega⟩
        · exact i3 v b0 (by rw [e5 v q]; exact h)
      · exact i3 v b0 (by rw [st]; exact h)
/-- the least price by a number of legs -/
structure IsT (E : List EL) (s : Str) (k : Nat) (v : Str) (a : Int) : Prop where
  ex : ∃ l, Wk E s l v a ∧ l.length = k + 1
  low : ∀ l b, Wk E s l v b → l.length = k + 1 → a ≤ b
theorem Wk.zero {l : List Str} {v : Str} {a : Int} (w : Wk E s l v a) (h : l.length = 1) : a = 0 := by
  cases w with
  | nil => rfl
  | step w _ => have := w.len; rw [List.length_cons] at h; omega
theorem Wk.last {l : List Str} {v : Str} {b : Int} {k : Nat} (w : Wk E s l v b) (h : l.length = k + 1 + 1) : ∃ l' u a c, Wk E s l' u a ∧ (u, v, some c) ∈ E ∧ b = a + c ∧ l'.length = k + 1 := by
  cases w with
  | nil => simp at h
  | @step l u v a c w he => exact ⟨l, u, a, c, w, he, rfl, by rw [List.length_cons] at h; omega⟩
theorem tbl_ok : ∀ k : Nat, (∀ v a, tbl E s k v = some a → IsT E s k v a) ∧ (∀ l v b, Wk E s l v b → l.length = k + 1 → ∃ a, tbl E s k v = some a)
  | 0 => by
    refine ⟨fun v a h => ?_, fun l v b w h => ?_⟩
    · have h : updF (fun _ => none) s 0 v = some a := h
      by_cases q : v = s
      · subst q
        rw [upd_same'] at h
        cases h
        exact ⟨⟨[v], .nil, rfl⟩, fun l b w h => by rw [w.zero h]; exact Int.le_refl _⟩
      · rw [upd_other q] at h; cases h
    · have e := w.one h
      subst e
      exact ⟨0, upd_same'⟩
  | k + 1 => by
    obtain ⟨i1, i2⟩ := tbl_ok k
    obtain ⟨f1, f2, _⟩ := fold_t (T := tbl E s k) E (fun _ => none)
    have cover : ∀ l v b, Wk E s l v b → l.length = k + 1 + 1 → ∃ a, tbl E s (k + 1) v = some a ∧ a ≤ b := fun l v b w h => by
      obtain ⟨l', u, a, c, w', he, rfl, h'⟩ := w.last h
      obtain ⟨a', ha⟩ := i2 l' u a w' h'
      have := (i1 u a' ha).low l' a w' h'
      obtain ⟨b', e, le⟩ := f2 u v a' c he ha
      exact ⟨b', e, by omega⟩
    refine ⟨fun v b h => ⟨?_, fun l b' w hl => ?_⟩, fun l v b w h => ?_⟩
    · rcases f1 v b h with h | ⟨u, a, c, h1, h2, rfl⟩
      · cases h
      · obtain ⟨l, w, hl⟩ := (i1 u a h2).ex
        exact ⟨v :: l, .step w h1, by rw [List.length_cons, hl]⟩
    · obtain ⟨a, e, le⟩ := cover l v b' w hl
      rw [h] at e
      cases e; exact le
    · obtain ⟨a, e, _⟩ := cover l v b w h
      exact ⟨a, e⟩
theorem best_tbl {v : Str} {p : P2} (h : Bst E s v p) : tbl E s p.2 v = some p.1 := by
  obtain ⟨l, w, e⟩ := h.ex
  obtain ⟨a, ha⟩ := (tbl_ok (E := E) (s := s) p.2).2 l v p.1 w e
  have t := (tbl_ok (E := E) (s := s) p.2).1 v a ha
  obtain ⟨m, u, f⟩ := t.ex
  have h1 := t.low l p.1 w e
  have h2 := h.low m a u
  rw [f] at h2
  unfold le2 at h2
  dsimp only at h2
  have : a = p.1 := by omega
  rw [ha, this]
/-- what stands in the tables is a walk's -/
theorem tbl_le {v : Str} {p : P2} (h : Bst E s v p) {k : Nat} {a : Int} (ht : tbl E s k v = some a) : le2 p (a, k) := by
  obtain ⟨l, w, e⟩ := ((tbl_ok (E := E) (s := s) k).1 v a ht).ex
  have := h.low l a w
  rw [e] at this
  exact this
theorem tbl_walk {v : Str} {k : Nat} {a : Int} (ht : tbl E s k v = some a) : ∃ l, Wk E s l v a := by
  obtain ⟨l, w, e⟩ := ((tbl_ok (E := E) (s := s) k).1 v a ht).ex
  exact ⟨l, w⟩
/-! the last leg -/
theorem last_iff (g : Gr E ws s) {u v : Str} {oc : Option Int} (he : (u, v, oc) ∈ E) {P : Int} {C : Nat} (b : Bst E s v (P, C + 1)) :
    behF (kn E ws s) (u, v, oc) = some (P, C + 1) ↔ ∃ a c, oc = some c ∧ tbl E s C u = some a ∧ a + c = P := by
  constructor
  · intro h
    obtain ⟨p, c, h1, rfl, h3⟩ := beh_some h
    obtain ⟨a, n⟩ := p
    have e1 : P = a + c := congrArg (fun z : P2 => z.1) h3
    have e2 : C + 1 = n + 1 := congrArg (fun z : P2 => z.2) h3
    have e3 : n = C := by omega
    subst e3
    exact ⟨a, c, rfl, best_tbl (kn_best g h1), by omega⟩
  · rintro ⟨a, c, rfl, h2, rfl⟩
    obtain ⟨l, w, e⟩ := ((tbl_ok (E := E) (s := s) C).1 u a h2).ex
    obtain ⟨q, hq⟩ := kn_walk g w
    have bq := kn_best g hq
    have l1 := bq.low l a w
    obtain ⟨m, w2, e2⟩ := bq.ex
    have l2 := b.low _ _ (Wk.step w2 he)
    have e3 : (v :: m).length - 1 = q.2 + 1 := by rw [List.length_cons, e2]; rfl
    rw [e3] at l2
    have l3 : le2 (q.1 + c, q.2 + 1) (a + c, C + 1) := le2_add (p := q) (q := (a, C)) (by rw [e] at l1; exact l1) c
    have := le2_anti l2 l3
    unfold behF
    dsimp only
    rw [hq]
    show some (q.1 + c, q.2 + 1) = _
    rw [← this]
theorem last_ex (g : Gr E ws s) {v : Str} {P : Int} {C : Nat} (b : Bst E s v (P, C + 1)) : ∃ u c, (u, v, some c) ∈ E ∧ behF (kn E ws s) (u, v, some c) = some (P, C + 1) := by
  obtain ⟨l, w, e⟩ := b.ex
  obtain ⟨l', u, a, c, w', he, h1, h2⟩ := w.last e
  refine ⟨u, c, he, (last_iff g he b).mpr ?_⟩
  obtain ⟨a', ha⟩ := (tbl_ok (E := E) (s := s) C).2 l' u a w' h2
  have t := (tbl_ok (E := E) (s := s) C).1 u a' ha
  have h3 := t.low l' a w' h2
  obtain ⟨m, w2, e2⟩ := t.ex
  have h4 := b.low _ _ (Wk.step w2 he)
  rw [List.length_cons, e2] at h4
  unfold le2 at h4
  dsimp only at h1 h4
  refine ⟨a', c, rfl, ha, ?_⟩
  omega
/-- the told last leg: the first one that fits -/
def fitB (E : List EL) (ws : List Str) (s v : Str) (e : EL) : Bool := decide (e.2.1 = v) && (behF (kn E ws s) e).isSome && decide (behF (kn E ws s) e = kn E ws s v)
def lstI (E : List EL) (ws : List Str) (s v : Str) : Option Nat := E.findIdx? (fitB E ws s v)
theorem lst_some {v : Str} {i : Nat} (h : lstI E ws s v = some i) : ∃ e, E[i]? = some e ∧ fitB E ws s v e = true ∧ ∀ j < i, ∀ e', E[j]? = some e' → fitB E ws s v e' = false := by
  unfold lstI at h
  rw [List.findIdx?_eq_some_iff_getElem] at h
  obtain ⟨h1, h2, h3⟩ := h
  refine ⟨E[i], List.getElem?_eq_getElem h1, h2, fun j hj e' he => ?_⟩
  have := h3 j hj
  rw [List.getElem?_eq_getElem (by omega)] at he
  cases he
  simpa using this
theorem fit_shape (g : Gr E ws s) {v : Str} {e : EL} (he : e ∈ E) (h : fitB E ws s v e = true) : ∃ u c p, e = (u, v, some c) ∧ kn E ws s u = some p ∧ kn E ws s v = some (p.1 + c, p.2 + 1) := by
  obtain ⟨u, x, oc⟩ := e
  unfold fitB at h
  simp only [Bool.and_eq_true, decide_eq_true_eq] at h
  obtain ⟨⟨rfl, h2⟩, h3⟩ := h
  cases hb : behF (kn E ws s) (u, x, oc) with
  | none => rw [hb] at h2; cases h2
  | some q =>
    obtain ⟨p, c, h4, rfl, rfl⟩ := beh_some hb
    rw [hb] at h3
    exact ⟨u, c, p, rfl, h4, h3.symm⟩
theorem lst_ex (g : Gr E ws s) {v : Str} {P : Int} {C : Nat} (b : Bst E s v (P, C + 1)) : ∃ i, lstI E ws s v = some i := by
  obtain ⟨u, c, he, hb⟩ := last_ex g b
  unfold lstI
  cases h : E.findIdx? (fitB E ws s v) with
  | some i => exact ⟨i, rfl⟩
  | none =>
    rw [List.findIdx?_eq_none_iff] at h
    have := h _ he
    unfold fitB at this
    rw [hb, kn_of g b] at this
    simp at this
theorem lst_start (g : Gr E ws s) : lstI E ws s s = none := by
  unfold lstI
  rw [List.findIdx?_eq_none_iff]
  intro e he
  cases h : fitB E ws s s e with
  | false => rfl
  | true =>
    obtain ⟨u, c, p, _, _, h3⟩ := fit_shape g he h
    rw [kn_of g (Bst.start g)] at h3
    have := congrArg (fun z : Option P2 => z.map (·.2)) h3
    simp at this
/-- the told way, the first leg first -/
inductive Pth (E : List EL) (ws : List Str) (s : Str) : Str → List Nat → Prop
  | nil : Pth E ws s s []
  | step {u v : Str} {oc : Option Int} {r : List Nat} {i : Nat} : v ≠ s → lstI E ws s v = some i → E[i]? = some (u, v, oc) → Pth E ws s u r → Pth E ws s v (r ++ [i])
theorem pth_ex (g : Gr E ws s) : ∀ (n : Nat) (v : Str) (P : Int), Bst E s v (P, n) → ∃ r, Pth E ws s v r ∧ r.length = n
  | 0, v, P, b => by
    have := b.zero rfl
    subst this
    exact ⟨[], .nil, rfl⟩
  | n + 1, v, P, b => by
    obtain ⟨i, hi⟩ := lst_ex g b
    obtain ⟨e, h1, h2, _⟩ := lst_some hi
    have he : e ∈ E := List.mem_of_getElem? h1
    obtain ⟨u, c, p, rfl, h3, h4⟩ := fit_shape g he h2
    rw [kn_of g b] at h4
    have e2 : n + 1 = p.2 + 1 := congrArg (fun z : Option P2 => (z.getD (0, 0)).2) h4
    have bu : Bst E s u (p.1, n) := by
      have := kn_best g h3
      rw [show n = p.2 by omega]; exact this
    obtain ⟨r, hr, hl⟩ := pth_ex g n u p.1 bu
    refine ⟨r ++ [i], .step (fun z => ?_) hi h1 hr, by rw [List.length_append, hl]; rfl⟩
    subst z
    have := b.uniq (Bst.start g)
    have := congrArg (fun z : P2 => z.2) this
    simp at this
end
end CM

namespace K85
open PySem PySem.Spec PyProof.Rows L2 Z CM

def topS (i : Nat) : Stmt := PySem.Challenge.pw_letterways_k85_ways_of_one_letter.main.body.getD i (.Pass ⟨0, 0, 0, 0⟩)
/-! value_at -/
abbrev svalue_at : Stmt := topS 1
def Nvalue_at : List Str := ["form", "x", "head", "tail", "behind", "value", "step"]
def Bvalue_at : List Sx := [.asg (.tp [2, 3]) (.loc 0), .ifs (.cmp .lt (.loc 1) (.int 0))
    [.ret .non]
    [], .ifs (.cmp .lt (.loc 1) (.blt .len (.loc 2) []))
    [.ret (.idx (.loc 2) (.loc 1))]
    [], .asg (.nm 4) (.bin .sub (.loc 1) (.blt .len (.loc 2) [])), .asg (.tp [5, 6]) (.idx (.loc 3) (.bin .mod (.loc 4) (.blt .len (.loc 3) []))), .ifs (.cmp .is (.loc 5) .non)
    [.ret .non]
    [], .ret (.bin .add (.loc 5) (.bin .mul (.loc 6) (.bin .fdv (.loc 4) (.blt .len (.loc 3) []))))]
noncomputable def Gvalue_at : GV := ⟨[], [], ["len"], false⟩
noncomputable def Fvalue_at : List W → Sto → Rs W := runV Gvalue_at 7 Bvalue_at
theorem evalue_at {w0 w1 : W} {S : Sto} : Fvalue_at [w0, w1] S = (evSs Gvalue_at Bvalue_at [some w0, some w1, none, none, none, none, none] S).out := rfl
/-! _is_less -/
abbrev s_is_less : Stmt := topS 4
def N_is_less : List Str := ["ahead", "known"]
def B_is_less : List Sx := [.ret (.bol false [(.cmp .is (.loc 1) .non), (.cmp .lt (.loc 0) (.loc 1))])]
noncomputable def G_is_less : GV := ⟨[], [], [], false⟩
noncomputable def F_is_less : List W → Sto → Rs W := runV G_is_less 2 B_is_less
theorem e_is_less {w0 w1 : W} {S : Sto} : F_is_less [w0, w1] S = (evSs G_is_less B_is_less [some w0, some w1] S).out := rfl
/-! _behind -/
abbrev s_behind : Stmt := topS 5
def N_behind : List Str := ["legs", "prices", "known", "at", "before"]
def B_behind : List Sx := [.asg (.nm 4) (.mth .get (.loc 2) (.idx (.idx (.loc 0) (.loc 3)) (.int 0)) [.non]), .ifs (.bol false [(.cmp .is (.loc 4) .non), (.cmp .is (.idx (.loc 1) (.loc 3)) .non)])
    [.ret .non]
    [], .ret (.tup [(.bin .add (.idx (.loc 4) (.int 0)) (.idx (.loc 1) (.loc 3))), (.bin .add (.idx (.loc 4) (.int 1)) (.int 1))])]
noncomputable def G_behind : GV := ⟨[], [], [], false⟩
noncomputable def F_behind : List W → Sto → Rs W := runV G_behind 5 B_behind
theorem e_behind {w0 w1 w2 w3 : W} {S : Sto} : F_behind [w0, w1, w2, w3] S = (evSs G_behind B_behind [some w0, some w1, some w2, some w3, none] S).out := rfl
/-! _known_for -/
abbrev s_known_for : Stmt := topS 6
def N_known_for : List Str := ["network", "start", "prices", "offices", "legs", "known", "_", "at", "ahead"]
def B_known_for : List Sx := [.asg (.tp [3, 4]) (.loc 0), .asg (.nm 5) (.dis true [(.loc 1), (.tup [(.int 0), (.int 0)])]), .fors (.nm 6) .rng1 [(.bin .sub (.blt .len (.loc 3) []) (.int 1))]
    [.fors (.nm 7) .rng1 [(.blt .len (.loc 4) [])]
    [.asg (.nm 8) (.call 0 (.loc 4) [(.loc 2), (.loc 5), (.loc 7)]), .ifs (.bol true [(.cmp .isnot (.loc 8) .non), (.call 1 (.loc 8) [(.mth .get (.loc 5) (.idx (.idx (.loc 4) (.loc 7)) (.int 1)) [.non])])])
    [.sput (.loc 5) (.idx (.idx (.loc 4) (.loc 7)) (.int 1)) (.loc 8)]
    []]], .ret (.loc 5)]
noncomputable def G_known_for : GV := ⟨[("_behind", 4, F_behind), ("_is_less", 2, F_is_less)], [], ["range", "len"], false⟩
noncomputable def F_known_for : List W → Sto → Rs W := runV G_known_for 9 B_known_for
theorem e_known_for {w0 w1 w2 : W} {S : Sto} : F_known_for [w0, w1, w2] S = (evSs G_known_for B_known_for [some w0, some w1, some w2, none, none, none, none, none, none] S).out := rfl
/-! triples_for -/
abbrev striples_for : Stmt := topS 7
def Ntriples_for : List Str := ["network", "start", "prices", "offices", "legs", "known", "last", "at", "ahead", "office"]
def Btriples_for : List Sx := [.asg (.tp [3, 4]) (.loc 0), .asg (.nm 5) (.call 0 (.loc 0) [(.loc 1), (.loc 2)]), .asg (.nm 6) (.newK true), .fors (.nm 7) .rng1 [(.blt .len (.loc 4) [])]
    [.asg (.nm 8) (.call 1 (.loc 4) [(.loc 2), (.loc 5), (.loc 7)]), .ifs (.bol true [(.cmp .isnot (.loc 8) .non), (.cmp .eq (.loc 8) (.idx (.loc 5) (.idx (.idx (.loc 4) (.loc 7)) (.int 1))))])
    [.expr (.mth .setdefault (.loc 6) (.idx (.idx (.loc 4) (.loc 7)) (.int 1)) [(.loc 7)])]
    []], .ret (.comp false (.ite (.cmp .isin (.loc 9) (.loc 5)) (.bin .add (.idx (.loc 5) (.loc 9)) (.tup [(.mth .get (.loc 6) (.loc 9) [.non])])) (.glo 0)) (.nm 9) .seq [(.loc 3)] [] [("office", 9)])]
noncomputable def Gtriples_for : GV := ⟨[("_known_for", 3, F_known_for), ("_behind", 4, F_behind)], [("NO_WAY", D.tp .s [D.non, D.non, D.non])], ["range", "len"], false⟩
noncomputable def Ftriples_for : List W → Sto → Rs W := runV Gtriples_for 10 Btriples_for
theorem etriples_for {w0 w1 w2 : W} {S : Sto} : Ftriples_for [w0, w1, w2] S = (evSs Gtriples_for Btriples_for [some w0, some w1, some w2, none, none, none, none, none, none, none] S).out := rfl
/-! way -/
abbrev sway : Stmt := topS 8
def Nway : List Str := ["network", "start", "goal", "x", "offices", "legs", "triples", "leg", "found", "office", "last"]
def Bway : List Sx := [.asg (.tp [4, 5]) (.loc 0), .asg (.nm 6) (.call 0 (.loc 0) [(.loc 1), (.comp false (.call 1 (.idx (.loc 7) (.int 2)) [(.loc 3)]) (.nm 7) .seq [(.loc 5)] [] [("leg", 7)])]), .ifs (.cmp .eq (.idx (.loc 6) (.mth .indexT (.loc 4) (.loc 2) [])) (.glo 0))
    [.ret .non]
    [], .asg (.nm 8) (.lst true []), .asg (.nm 9) (.loc 2), .whl (.cmp .ne (.loc 9) (.loc 1))
    [.asg (.nm 10) (.idx (.idx (.loc 6) (.mth .indexT (.loc 4) (.loc 9) [])) (.int 2)), .expr (.mth .append (.loc 8) (.loc 10) []), .asg (.nm 9) (.idx (.idx (.loc 5) (.loc 10)) (.int 0))], .ret (.blt .tupT (.rev (.loc 8)) [])]
noncomputable def Gway : GV := ⟨[("triples_for", 3, Ftriples_for), ("value_at", 2, Fvalue_at)], [("NO_WAY", D.tp .s [D.non, D.non, D.non])], ["tuple"], false⟩
noncomputable def Fway : List W → Sto → Rs W := runV Gway 11 Bway
theorem eway {w0 w1 w2 w3 : W} {S : Sto} : Fway [w0, w1, w2, w3] S = (evSs Gway Bway [some w0, some w1, some w2, some w3, none, none, none, none, none, none, none] S).out := rfl
/-! _law_state -/
abbrev s_law_state : Stmt := topS 10
/-! _law_draw -/
abbrev s_law_draw : Stmt := topS 11
/-! _law_far -/
abbrev s_law_far : Stmt := topS 12
def N_law_far : List Str := ["state", "far", "k"]
def B_law_far : List Sx := [.asg (.nm 1) (.call 0 (.loc 0) [(.int 1000)]), .fors (.nm 2) .rng1 [(.call 0 (.loc 0) [(.int 9)])]
    [.asg (.nm 1) (.bin .add (.bin .mul (.loc 1) (.int 1009)) (.call 0 (.loc 0) [(.int 1000)]))], .ret (.loc 1)]
noncomputable def G_law_far : GV := ⟨[("_law_draw", 2, F_law_draw)], [], ["range"], false⟩
noncomputable def F_law_far : List W → Sto → Rs W := runV G_law_far 3 B_law_far
theorem e_law_far {w0 : W} {S : Sto} : F_law_far [w0] S = (evSs G_law_far B_law_far [some w0, none, none] S).out := rfl
/-! _law_value -/
abbrev s_law_value : Stmt := topS 13
def N_law_value : List Str := ["form", "x", "behind", "value", "step"]
def B_law_value : List Sx := [.ifs (.cmp .lt (.loc 1) (.int 0))
    [.ret .non]
    [], .ifs (.cmp .lt (.loc 1) (.blt .len (.idx (.loc 0) (.int 0)) []))
    [.ret (.idx (.idx (.loc 0) (.int 0)) (.loc 1))]
    [], .asg (.nm 2) (.bin .sub (.loc 1) (.blt .len (.idx (.loc 0) (.int 0)) [])), .asg (.tp [3, 4]) (.idx (.idx (.loc 0) (.int 1)) (.bin .mod (.blt .int (.loc 2) []) (.blt .len (.idx (.loc 0) (.int 1)) []))), .ifs (.cmp .is (.loc 3) .non)
    [.ret .non]
    [], .ret (.bin .add (.loc 3) (.bin .mul (.loc 4) (.bin .fdv (.loc 2) (.blt .len (.idx (.loc 0) (.int 1)) []))))]
noncomputable def G_law_value : GV := ⟨[], [], ["len", "int"], false⟩
noncomputable def F_law_value : List W → Sto → Rs W := runV G_law_value 5 B_law_value
theorem e_law_value {w0 w1 : W} {S : Sto} : F_law_value [w0, w1] S = (evSs G_law_value B_law_value [some w0, some w1, none, none, none] S).out := rfl
/-! _law_name -/
abbrev s_law_name : Stmt := topS 14
/-! _law_offices -/
abbrev s_law_offices : Stmt := topS 15
def N_law_offices : List Str := ["state", "count", "found", "k", "spare", "letter", "name"]
def B_law_offices : List Sx := [.asg (.nm 2) (.lst true []), .fors (.nm 3) .rng1 [(.loc 1)]
    [.asg (.nm 4) (.bin .add (.lst false [(.call 0 (.loc 0) [])]) (.comp false (.bin .add (.str "q") (.loc 5)) (.nm 5) .seq [(.str "abcdefghijklmnopqrstuvwxyz")] [] [("letter", 5)])), .expr (.mth .append (.loc 2) (.idx (.comp false (.loc 6) (.nm 6) .seq [(.loc 4)] [(.cmp .notin (.loc 6) (.loc 2))] [("name", 6)]) (.int 0)) [])], .ret (.blt .tupK (.blt .srt (.loc 2) []) [])]
noncomputable def G_law_offices : GV := ⟨[("_law_name", 1, F_law_name)], [], ["range", "tuple", "sorted"], false⟩
noncomputable def F_law_offices : List W → Sto → Rs W := runV G_law_offices 7 B_law_offices
theorem e_law_offices {w0 w1 : W} {S : Sto} : F_law_offices [w0, w1] S = (evSs G_law_offices B_law_offices [some w0, some w1, none, none, none, none, none] S).out := rfl
/-! _law_in_order -/
abbrev s_law_in_order : Stmt := topS 16
/-! _law_comb -/
abbrev s_law_comb : Stmt := topS 17
def N_law_comb : List Str := ["size"]
def B_law_comb : List Sx := [.ret (.tup [(.tup []), (.bin .add (.tup [(.tup [(.int 1), (.int 0)])]) (.bin .mul (.tup [(.tup [(.int 0), (.int 0)])]) (.bin .sub (.loc 0) (.int 1))))])]
noncomputable def G_law_comb : GV := ⟨[], [], [], false⟩
noncomputable def F_law_comb : List W → Sto → Rs W := runV G_law_comb 1 B_law_comb
theorem e_law_comb {w0 : W} {S : Sto} : F_law_comb [w0] S = (evSs G_law_comb B_law_comb [some w0] S).out := rfl
/-! _law_any_number -/
abbrev s_law_any_number : Stmt := topS 18
def N_law_any_number : List Str := ["state"]
def B_law_any_number : List Sx := [.ifs (.cmp .eq (.call 0 (.loc 0) [(.int 5)]) (.int 4))
    [.ret (.bin .add (.bin .mul (.call 0 (.loc 0) [(.int 1000)]) (.bin .pow (.int 10) (.int 24))) (.call 0 (.loc 0) [(.int 1000)]))]
    [], .ret (.call 0 (.loc 0) [(.int 12)])]
noncomputable def G_law_any_number : GV := ⟨[("_law_draw", 2, F_law_draw)], [], [], false⟩
noncomputable def F_law_any_number : List W → Sto → Rs W := runV G_law_any_number 1 B_law_any_number
theorem e_law_any_number {w0 : W} {S : Sto} : F_law_any_number [w0] S = (evSs G_law_any_number B_law_any_number [some w0] S).out := rfl
/-! _law_any_form -/
abbrev s_law_any_form : Stmt := topS 19
def N_law_any_form : List Str := ["state", "head", "k", "tail", "pair"]
def B_law_any_form : List Sx := [.asg (.nm 1) (.comp false (.idx (.lst false [.non, (.call 1 (.loc 0) [])]) (.blt .int (.cmp .gt (.call 0 (.loc 0) [(.int 4)]) (.int 0)) [])) (.nm 2) .rng1 [(.call 0 (.loc 0) [(.int 4)])] [] [("k", 2)]), .asg (.nm 3) (.lst true []), .fors (.nm 2) .rng1 [(.bin .add (.int 1) (.call 0 (.loc 0) [(.int 5)]))]
    [.asg (.nm 4) (.tup [(.call 1 (.loc 0) []), (.idx (.lst false [(.int 0), (.int 1), (.call 1 (.loc 0) [])]) (.call 0 (.loc 0) [(.int 3)]))]), .expr (.mth .append (.loc 3) (.idx (.lst false [(.loc 4), (.tup [.non, (.int 0)])]) (.blt .int (.cmp .eq (.call 0 (.loc 0) [(.int 6)]) (.int 5)) [])) [])], .ret (.tup [(.blt .tupT (.loc 1) []), (.blt .tupT (.loc 3) [])])]
noncomputable def G_law_any_form : GV := ⟨[("_law_draw", 2, F_law_draw), ("_law_any_number", 1, F_law_any_number)], [], ["range", "int", "tuple"], false⟩
noncomputable def F_law_any_form : List W → Sto → Rs W := runV G_law_any_form 5 B_law_any_form
theorem e_law_any_form {w0 : W} {S : Sto} : F_law_any_form [w0] S = (evSs G_law_any_form B_law_any_form [some w0, none, none, none, none] S).out := rfl
/-! _law_network -/
abbrev s_law_network : Stmt := topS 20
def N_law_network : List Str := ["state", "most", "many", "offices", "pool", "k", "legs", "start", "goal", "form"]
def B_law_network : List Sx := [.asg (.nm 3) (.call 0 (.loc 0) [(.bin .add (.int 2) (.call 1 (.loc 0) [(.bin .sub (.loc 1) (.int 1))]))]), .asg (.nm 4) (.comp false (.call 2 (.loc 0) []) (.nm 5) .rng1 [(.bin .add (.int 1) (.call 1 (.loc 0) [(.int 4)]))] [] [("k", 5)]), .asg (.nm 6) (.lst true []), .fors (.nm 5) .rng1 [(.call 1 (.loc 0) [(.bin .add (.loc 2) (.int 1))])]
    [.asg (.nm 7) (.call 1 (.loc 0) [(.blt .len (.loc 3) [])]), .asg (.nm 8) (.bin .mod (.blt .int (.bin .add (.bin .add (.loc 7) (.int 1)) (.call 1 (.loc 0) [(.bin .sub (.blt .len (.loc 3) []) (.int 1))])) []) (.blt .len (.loc 3) [])), .asg (.nm 9) (.idx (.loc 4) (.call 1 (.loc 0) [(.blt .len (.loc 4) [])])), .ifs (.cmp .eq (.call 1 (.loc 0) [(.int 3)]) (.int 0))
    [.asg (.nm 9) (.call 2 (.loc 0) [])]
    [], .expr (.mth .append (.loc 6) (.tup [(.idx (.loc 3) (.loc 7)), (.idx (.loc 3) (.loc 8)), (.loc 9)]) [])], .fz 6, .ret (.tup [(.loc 3), (.call 3 (.loc 6) [])])]
noncomputable def G_law_network : GV := ⟨[("_law_offices", 2, F_law_offices), ("_law_draw", 2, F_law_draw), ("_law_any_form", 1, F_law_any_form), ("_law_in_order", 1, F_law_in_order)], [], ["range", "len", "int"], false⟩
noncomputable def F_law_network : List W → Sto → Rs W := runV G_law_network 10 B_law_network
theorem e_law_network {w0 w1 w2 : W} {S : Sto} : F_law_network [w0, w1, w2] S = (evSs G_law_network B_law_network [some w0, some w1, some w2, none, none, none, none, none, none, none] S).out := rfl
/-! _law_tables -/
abbrev s_law_tables : Stmt := topS 21
def N_law_tables : List Str := ["network", "start", "x", "offices", "legs", "prices", "leg", "tables", "k", "table", "at", "total"]
def B_law_tables : List Sx := [.asg (.tp [3, 4]) (.loc 0), .asg (.nm 5) (.comp false (.call 0 (.idx (.loc 6) (.int 2)) [(.loc 2)]) (.nm 6) .seq [(.loc 4)] [] [("leg", 6)]), .asg (.nm 7) (.lst true [(.dis false [(.loc 1), (.int 0)])]), .fors (.nm 8) .rng1 [(.bin .sub (.blt .len (.loc 3) []) (.int 1))]
    [.asg (.nm 9) (.newK true), .fors (.nm 10) .rng1 [(.blt .len (.loc 4) [])]
    [.ifs (.bol true [(.cmp .isnot (.idx (.loc 5) (.loc 10)) .non), (.cmp .isin (.idx (.idx (.loc 4) (.loc 10)) (.int 0)) (.idx (.loc 7) (.loc 8)))])
    [.asg (.nm 11) (.bin .add (.idx (.idx (.loc 7) (.loc 8)) (.idx (.idx (.loc 4) (.loc 10)) (.int 0))) (.idx (.loc 5) (.loc 10))), .ifs (.bol false [(.cmp .notin (.idx (.idx (.loc 4) (.loc 10)) (.int 1)) (.loc 9)), (.cmp .lt (.loc 11) (.idx (.loc 9) (.idx (.idx (.loc 4) (.loc 10)) (.int 1))))])
    [.sput (.loc 9) (.idx (.idx (.loc 4) (.loc 10)) (.int 1)) (.loc 11)]
    []]
    []], .fz 9, .expr (.mth .append (.loc 7) (.loc 9) [])], .fz 7, .ret (.loc 7)]
noncomputable def G_law_tables : GV := ⟨[("_law_value", 2, F_law_value)], [], ["range", "len"], false⟩
noncomputable def F_law_tables : List W → Sto → Rs W := runV G_law_tables 12 B_law_tables
theorem e_law_tables {w0 w1 w2 : W} {S : Sto} : F_law_tables [w0, w1, w2] S = (evSs G_law_tables B_law_tables [some w0, some w1, some w2, none, none, none, none, none, none, none, none, none] S).out := rfl
/-! _law_triple -/
abbrev s_law_triple : Stmt := topS 22
def N_law_triple : List Str := ["network", "tables", "office", "x", "known", "k", "price", "count", "at", "start", "goal", "form", "value"]
def B_law_triple : List Sx := [.asg (.nm 4) (.comp false (.tup [(.idx (.idx (.loc 1) (.loc 5)) (.loc 2)), (.loc 5)]) (.nm 5) .rng1 [(.blt .len (.loc 1) [])] [(.cmp .isin (.loc 2) (.idx (.loc 1) (.loc 5)))] [("k", 5)]), .ifs (.cmp .eq (.blt .len (.loc 4) []) (.int 0))
    [.ret (.tup [.non, .non, .non])]
    [], .asg (.tp [6, 7]) (.blt .minP (.loc 4) []), .ifs (.cmp .eq (.loc 7) (.int 0))
    [.ret (.tup [(.loc 6), (.loc 7), .non])]
    [], .fors (.nm 8) .rng1 [(.blt .len (.idx (.loc 0) (.int 1)) [])]
    [.asg (.tp [9, 10, 11]) (.idx (.idx (.loc 0) (.int 1)) (.loc 8)), .asg (.nm 12) (.call 0 (.loc 11) [(.loc 3)]), .ifs (.bol true [(.cmp .eq (.loc 10) (.loc 2)), (.cmp .isnot (.loc 12) .non), (.cmp .isin (.loc 9) (.idx (.loc 1) (.bin .sub (.loc 7) (.int 1))))])
    [.ifs (.cmp .eq (.bin .add (.idx (.idx (.loc 1) (.bin .sub (.loc 7) (.int 1))) (.loc 9)) (.loc 12)) (.loc 6))
    [.ret (.tup [(.loc 6), (.loc 7), (.loc 8)])]
    []]
    []], .ret (.tup [(.loc 6), (.loc 7), .non])]
noncomputable def G_law_triple : GV := ⟨[("_law_value", 2, F_law_value)], [], ["range", "len", "min"], false⟩
noncomputable def F_law_triple : List W → Sto → Rs W := runV G_law_triple 13 B_law_triple
theorem e_law_triple {w0 w1 w2 w3 : W} {S : Sto} : F_law_triple [w0, w1, w2, w3] S = (evSs G_law_triple B_law_triple [some w0, some w1, some w2, some w3, none, none, none, none, none, none, none, none, none] S).out := rfl
/-! _law_due -/
abbrev s_law_due : Stmt := topS 23
def N_law_due : List Str := ["network", "start", "goal", "x", "tables", "found", "office", "k", "last"]
def B_law_due : List Sx := [.asg (.nm 4) (.call 0 (.loc 0) [(.loc 1), (.loc 3)]), .asg (.nm 5) (.lst false []), .asg (.nm 6) (.loc 2), .fors (.nm 7) .rng1 [(.blt .len (.idx (.loc 0) (.int 0)) [])]
    [.ifs (.cmp .ne (.loc 6) (.loc 1))
    [.asg (.nm 8) (.idx (.call 1 (.loc 0) [(.loc 4), (.loc 6), (.loc 3)]) (.int 2)), .ifs (.cmp .is (.loc 8) .non)
    [.ret .non]
    [], .asg (.nm 5) (.bin .add (.lst false [(.loc 8)]) (.loc 5)), .asg (.nm 6) (.idx (.idx (.idx (.loc 0) (.int 1)) (.loc 8)) (.int 0))]
    []], .ret (.blt .tupT (.loc 5) [])]
noncomputable def G_law_due : GV := ⟨[("_law_tables", 3, F_law_tables), ("_law_triple", 4, F_law_triple)], [], ["range", "len", "tuple"], false⟩
noncomputable def F_law_due : List W → Sto → Rs W := runV G_law_due 9 B_law_due
theorem e_law_due {w0 w1 w2 w3 : W} {S : Sto} : F_law_due [w0, w1, w2, w3] S = (evSs G_law_due B_law_due [some w0, some w1, some w2, some w3, none, none, none, none, none] S).out := rfl
/-! _law_is_way -/
abbrev s_law_is_way : Stmt := topS 24
def N_law_is_way : List Str := ["told", "due", "part"]
def B_law_is_way : List Sx := [.ifs (.cmp .is (.loc 1) .non)
    [.ret (.cmp .is (.loc 0) .non)]
    [], .ifs (.bol false [(.nt (.isi .ttup (.loc 0))), (.cmp .ne (.blt .len (.loc 0) []) (.blt .len (.loc 1) []))])
    [.ret (.bl false)]
    [], .fors (.nm 2) .seq [(.loc 0)]
    [.ifs (.bol false [(.nt (.isi .tint (.loc 2))), (.isi .tbool (.loc 2))])
    [.ret (.bl false)]
    []], .ret (.cmp .eq (.loc 0) (.loc 1))]
noncomputable def G_law_is_way : GV := ⟨[], [], ["isinstance", "tuple", "len", "int", "bool"], false⟩
noncomputable def F_law_is_way : List W → Sto → Rs W := runV G_law_is_way 3 B_law_is_way
theorem e_law_is_way {w0 w1 : W} {S : Sto} : F_law_is_way [w0, w1] S = (evSs G_law_is_way B_law_is_way [some w0, some w1, none] S).out := rfl
/-! _law_leads -/
abbrev s_law_leads : Stmt := topS 25
def N_law_leads : List Str := ["network", "start", "goal", "x", "told", "office", "price", "at", "tables", "table"]
def B_law_leads : List Sx := [.asg (.nm 5) (.loc 1), .asg (.nm 6) (.int 0), .fors (.nm 7) .seq [(.loc 4)]
    [.ifs (.cmp .ne (.idx (.idx (.idx (.loc 0) (.int 1)) (.loc 7)) (.int 0)) (.loc 5))
    [.ret (.bl false)]
    [], .asg (.nm 6) (.bin .add (.loc 6) (.call 0 (.idx (.idx (.idx (.loc 0) (.int 1)) (.loc 7)) (.int 2)) [(.loc 3)])), .asg (.nm 5) (.idx (.idx (.idx (.loc 0) (.int 1)) (.loc 7)) (.int 1))], .asg (.nm 8) (.call 1 (.loc 0) [(.loc 1), (.loc 3)]), .ret (.bol true [(.cmp .eq (.loc 5) (.loc 2)), (.cmp .eq (.loc 6) (.blt .minL (.comp false (.idx (.loc 9) (.loc 2)) (.nm 9) .seq [(.loc 8)] [(.cmp .isin (.loc 2) (.loc 9))] [("table", 9)]) []))])]
noncomputable def G_law_leads : GV := ⟨[("_law_value", 2, F_law_value), ("_law_tables", 3, F_law_tables)], [], ["min"], false⟩
noncomputable def F_law_leads : List W → Sto → Rs W := runV G_law_leads 10 B_law_leads
theorem e_law_leads {w0 w1 w2 w3 w4 : W} {S : Sto} : F_law_leads [w0, w1, w2, w3, w4] S = (evSs G_law_leads B_law_leads [some w0, some w1, some w2, some w3, some w4, none, none, none, none, none] S).out := rfl
/-! _law_too_large_holds -/
abbrev s_law_too_large_holds : Stmt := topS 26
def N_law_too_large_holds : List Str := ["state", "far", "legs", "x", "due"]
def B_law_too_large_holds : List Sx := [.asg (.nm 1) (.bin .add (.int 5000) (.call 0 (.loc 0) [])), .asg (.nm 2) (.tup [(.tup [(.str "a"), (.str "b"), (.tup [(.tup []), (.tup [(.tup [(.int 0), (.int 1)])])])]), (.tup [(.str "a"), (.str "b"), (.tup [(.tup []), (.tup [(.tup [(.loc 1), (.int 0)])])])])]), .asg (.nm 2) (.bin .add (.loc 2) (.tup [(.tup [(.str "b"), (.str "c"), (.call 1 (.int 32) [])]), (.tup [(.str "c"), (.str "d"), (.call 1 (.int 33) [])])])), .fors (.nm 3) .seq [(.lst false [(.bin .sub (.loc 1) (.int 1)), (.loc 1), (.bin .add (.loc 1) (.int 1)), (.bin .mul (.int 2) (.loc 1))])]
    [.asg (.nm 4) (.tup [(.blt .int (.cmp .gt (.loc 3) (.loc 1)) []), (.int 2), (.int 3)]), .ifs (.nt (.call 2 (.call 3 (.tup [(.tupF [(.str "a"), (.str "b"), (.str "c"), (.str "d")]), (.loc 2)]) [(.str "a"), (.str "d"), (.loc 3)]) [(.loc 4)]))
    [.ret (.bl false)]
    []], .ret (.bl true)]
noncomputable def G_law_too_large_holds : GV := ⟨[("_law_far", 1, F_law_far), ("_law_comb", 1, F_law_comb), ("_law_is_way", 2, F_law_is_way), ("way", 4, Fway)], [], ["int"], false⟩
noncomputable def F_law_too_large_holds : List W → Sto → Rs W := runV G_law_too_large_holds 5 B_law_too_large_holds
theorem e_law_too_large_holds {w0 : W} {S : Sto} : F_law_too_large_holds [w0] S = (evSs G_law_too_large_holds B_law_too_large_holds [some w0, none, none, none, none] S).out := rfl
/-! law -/
abbrev slaw : Stmt := topS 27
def Nlaw : List Str := ["script", "state", "network", "offices", "k", "start", "goal", "x", "due", "told"]
def Blaw : List Sx := [.asg (.nm 1) (.call 0 (.loc 0) []), .asg (.nm 2) (.call 1 (.loc 1) [(.idx (.lst false [(.int 4), (.int 8)]) (.call 2 (.loc 1) [(.int 2)])), (.idx (.lst false [(.int 8), (.int 30)]) (.call 2 (.loc 1) [(.int 2)]))]), .asg (.nm 3) (.idx (.loc 2) (.int 0)), .fors (.nm 4) .rng1 [(.int 8)]
    [.asg (.nm 5) (.idx (.loc 3) (.call 2 (.loc 1) [(.blt .len (.loc 3) [])])), .asg (.nm 6) (.idx (.loc 3) (.call 2 (.loc 1) [(.blt .len (.loc 3) [])])), .asg (.nm 7) (.idx (.lst false [(.call 2 (.loc 1) [(.int 12)]), (.call 2 (.loc 1) [(.int 3000)]), (.call 3 (.loc 1) [])]) (.call 2 (.loc 1) [(.int 3)])), .asg (.nm 8) (.call 4 (.loc 2) [(.loc 5), (.loc 6), (.loc 7)]), .asg (.nm 9) (.call 5 (.loc 2) [(.loc 5), (.loc 6), (.loc 7)]), .ifs (.nt (.call 6 (.loc 9) [(.loc 8)]))
    [.ret (.bl false)]
    [], .ifs (.bol true [(.cmp .isnot (.loc 9) .non), (.nt (.call 7 (.loc 2) [(.loc 5), (.loc 6), (.loc 7), (.loc 9)]))])
    [.ret (.bl false)]
    []], .ret (.bol true [(.cmp .eq (.call 5 (.loc 2) [(.idx (.loc 3) (.int 0)), (.idx (.loc 3) (.int 0)), (.int 7)]) (.tup [])), (.call 8 (.loc 1) [])])]
noncomputable def Glaw : GV := ⟨[("_law_state", 1, F_law_state), ("_law_network", 3, F_law_network), ("_law_draw", 2, F_law_draw), ("_law_far", 1, F_law_far), ("_law_due", 4, F_law_due), ("way", 4, Fway), ("_law_is_way", 2, F_law_is_way), ("_law_leads", 5, F_law_leads), ("_law_too_large_holds", 1, F_law_too_large_holds)], [], ["range", "len"], false⟩
noncomputable def Flaw : List W → Sto → Rs W := runV Glaw 10 Blaw
theorem elaw {w0 : W} {S : Sto} : Flaw [w0] S = (evSs Glaw Blaw [some w0, none, none, none, none, none, none, none, none, none] S).out := rfl
end K85

/-! k85: values of forms at weights -/
namespace K85
open PySem PySem.Spec PyProof.Rows L2 Z CM
/-- a form: head and tail -/
abbrev Fo := List (Option Int) × List (Option Int × Int)
def oD : Option Int → D | none => .non | some i => .int i
def hpD (p : Option Int × Int) : D := .tup [oD p.1, .int p.2]
def foD (f : Fo) : D := .tup [.tup (f.1.map oD), .tup (f.2.map hpD)]
/-- bounds that make sums and products small enough -/
structure FoB (f : Fo) : Prop where
  t1 : 1 ≤ f.2.length
  tl : f.2.length ≤ 1000
  hl : f.1.length ≤ 1000
  h : ∀ o ∈ f.1, ∀ i, o = some i → 0 ≤ i
  t : ∀ p ∈ f.2, (∀ i, p.1 = some i → 0 ≤ i) ∧ 0 ≤ p.2 ∧ p.2 < 2 ^ 200
/-- the value at a weight, not below 0 -/
def valF (f : Fo) (x : Nat) : Option Int :=
  if x < f.1.length then (f.1[x]?).getD none
  else match f.2[(x - f.1.length) % f.2.length]? with
    | some (some v, s) => some (v + s * (((x - f.1.length) / f.2.length : Nat) : Int))
    | _ => none
theorem valF_nonneg {f : Fo} (b : FoB f) {x : Nat} {c : Int} (h : valF f x = some c) : 0 ≤ c := by
  unfold valF at h
  split at h
  · cases q : f.1[x]? with
    | none => rw [q] at h; cases h
    | some o =>
      rw [q] at h
      exact b.h o (List.mem_of_getElem? q) c h
  · split at h
    · rename_i v s q
      cases h
      obtain ⟨h1, h2, _⟩ := b.t _ (List.mem_of_getElem? q)
      have h1 := h1 v rfl
      have : 0 ≤ s * (((x - f.1.length) / f.2.length : Nat) : Int) := Int.mul_nonneg h2 (Int.natCast_nonneg _)
      omega
    · cases h
theorem mul_ok {i : Int} {n : Nat} (h : 0 ≤ i) (h2 : i < 2 ^ 200) (hn : n < 2 ^ 200) : mulOk i (n : Int) = true := by
  unfold mulOk
  have a : Builtin.Int.intBits i ≤ 200 := PySem.intBits_le_iff.mpr (by omega)
  have b : Builtin.Int.intBits (n : Int) ≤ 200 := PySem.intBits_le_iff.mpr (by omega)
  have e : Builtin.Int.intTooBig (Builtin.Int.intBits i + Builtin.Int.intBits (n : Int)) = false := by
    unfold Builtin.Int.intTooBig
    refine decide_eq_false ?_
    have : (400 : Nat) ≤ bitsLine := by decide +kernel
    omega
  rw [e]; simp
theorem ix_oD {S : Sto} {k : TK} {os : List (Option Int)} {i : Nat} (h : i < os.length) : ixW S (.v (.tp k (os.map oD))) (.v (.int (i : Nat))) = some (.v (oD ((os[i]?).getD none))) := ix_tp (by rw [List.getElem?_map, List.getElem?_eq_getElem h]; rfl)
theorem ix_hp {S : Sto} {k : TK} {ps : List (Option Int × Int)} {i : Nat} {p : Option Int × Int} (h : ps[i]? = some p) : ixW S (.v (.tp k (ps.map hpD))) (.v (.int (i : Nat))) = some (.v (hpD p)) := ix_tp (by rw [List.getElem?_map, h]; rfl)
section
variable {f : Fo} (b : FoB f) {x : Nat} (hx : x < 2 ^ 200)
include b hx
/-- the parts of the tail's reading -/
theorem tail_parts (h : ¬ x < f.1.length) : ∃ p : Option Int × Int, f.2[(x - f.1.length) % f.2.length]? = some p ∧ valF f x = (p.1.map fun v => v + p.2 * (((x - f.1.length) / f.2.length : Nat) : Int)) ∧ vmod (.int ((x - f.1.length : Nat) : Int)) (.int (f.2.length : Nat)) = some (.int (((x - f.1.length) % f.2.length : Nat) : Int)) ∧
    vfdv (.int ((x - f.1.length : Nat) : Int)) (.int (f.2.length : Nat)) = some (.int (((x - f.1.length) / f.2.length : Nat) : Int)) ∧ vmul (.int p.2) (.int (((x - f.1.length) / f.2.length : Nat) : Int)) = some (.int (p.2 * (((x - f.1.length) / f.2.length : Nat) : Int))) := by
  have t1 := b.t1
  have tl := b.tl
  have lt : (x - f.1.length) % f.2.length < f.2.length := Nat.mod_lt _ (by omega)
  refine ⟨_, List.getElem?_eq_getElem lt, ?_, ?_, ?_, ?_⟩
  · unfold valF
    rw [if_neg h, List.getElem?_eq_getElem lt]
    rcases q : f.2[(x - f.1.length) % f.2.length] with ⟨v, s⟩
    cases v <;> rfl
  · show (if (f.2.length : Int) ≠ 0 then some (D.int (((x - f.1.length : Nat) : Int).fmod f.2.length)) else none) = _
    rw [if_pos (by omega), Int.fmod_eq_emod_of_nonneg _ (by omega)]; rfl
  · show (if (f.2.length : Int) ≠ 0 ∧ (f.2.length : Int).natAbs < 1073741824 then some (D.int (((x - f.1.length : Nat) : Int).fdiv f.2.length)) else none) = _
    rw [if_pos ⟨by omega, by omega⟩, Int.fdiv_eq_ediv_of_nonneg _ (by omega)]; rfl
  · obtain ⟨_, h2, h3⟩ := b.t _ (List.getElem_mem lt)
    have : (x - f.1.length) / f.2.length ≤ x - f.1.length := Nat.div_le_self _ _
    exact if_pos (mul_ok h2 h3 (by omega))
theorem v_value_at {S : Sto} : Fvalue_at [.v (foD f), .v (.int (x : Nat))] S = .ok (.v (oD (valF f x))) S := by
  have t1 := b.t1
  have lh : ((f.1.map oD).length : Int) = f.1.length := by rw [List.length_map]
  have lt : ((f.2.map hpD).length : Int) = f.2.length := by rw [List.length_map]
  rw [evalue_at]
  unfold Bvalue_at
  refine out_step (e1 := [some (.v (foD f)), some (.v (.int (x : Nat))), some (.v (.tup (f.1.map oD))), some (.v (.tup (f.2.map hpD))), none, none, none]) (S1 := S) (by
    rw [evS_1]
    simp only [evE_1, getV_0, lft_some, Rs.bind_ok]
    rfl) (out_step (if_ff (S1 := S) (by
    have : ¬ ((x : Nat) : Int) < 0 := by omega
    simp only [evT_1, evE_1, evE_4, getV_0, getV_s, lft_some, Rs.bind_ok, co_lt, rd2_some' rdW_i rdW_i, vlt_int, decide_eq_false this]) evSs_1) ?_)
  have tst : evT Gvalue_at (.cmp .lt (.loc 1) (.blt .len (.loc 2) [])) [some (.v (foD f)), some (.v (.int (x : Nat))), some (.v (.tup (f.1.map oD))), some (.v (.tup (f.2.map hpD))), none, none, none] S = .ok (decide ((x : Int) < f.1.length)) S := by
    simp only [evT_1, evE_20, evE_1, evL_1, getV_0, getV_s, lft_some, Rs.bind_ok, bt_len, rd1_some' rdW_tp, lenA_tp', lh, lfv_some, co_lt, rd2_some' rdW_i rdW_i, vlt_int]
  by_cases h : x < f.1.length
  · rw [decide_eq_true (by omega)] at tst
    refine out_ret (if_tt tst (rt_step ?_))
    rw [evS_6]
    simp only [evE_16, evE_1, getV_0, getV_s, lft_some, Rs.bind_ok, ix_oD h]
    unfold valF
    rw [if_pos h]
  · rw [decide_eq_false (by omega)] at tst
    obtain ⟨p, hp, hv, m1, m2, m3⟩ := tail_parts b hx h
    have es : ((x : Nat) : Int) - (f.1.length : Nat) = ((x - f.1.length : Nat) : Int) := by omega
    refine out_step (if_ff tst evSs_1) (out_step (e1 := [some (.v (foD f)), some (.v (.int (x : Nat))), some (.v (.tup (f.1.map oD))), some (.v (.tup (f.2.map hpD))), some (.v (.int ((x - f.1.length : Nat) : Int))), none, none]) (S1 := S) ?_ (out_step (e1 := [some (.v (foD f)), some (.v (.int (x : Nat))), some (.v (.tup (f.1.map oD))), some (.v (.tup (f.2.map hpD))), some (.v (.int ((x - f.1.length : Nat) : Int))), some (.v (oD p.1)), some (.v (.int p.2))]) (S1 := S) ?_ ?_))
    · rw [evS_1]
      simp only [evE_7, evE_20, evE_1, evL_1, getV_0, getV_s, lft_some, Rs.bind_ok, bt_len, rd1_some' rdW_tp, lenA_tp', lh, lfv_some, rd2_some' rdW_i rdW_i, bo_sub, vsub_int, es, bindV_nm, setV2_0, setV2_s]
    · rw [evS_1]
      simp only [evE_16, evE_7, evE_20, evE_1, evL_1, getV_0, getV_s, lft_some, Rs.bind_ok, bt_len, rd1_some' rdW_tp, lenA_tp', lt, lfv_some, rd2_some' rdW_i rdW_i, bo_mod, m1, ix_hp hp]
      rfl
    · rw [hv]
      cases q : p.1 with
      | none =>
        refine out_ret (if_tt (S1 := S) ?_ (rt_step ?_))
        · simp only [evT_1, evE_1, evE_2, getV_0, getV_s, lft_some, Rs.bind_ok, co_is, oD, nonW_non, if_true]
        · rw [evS_6]
          simp only [evE_2, Rs.bind_ok]
          rfl
      | some v =>
        refine out_step (if_ff (S1 := S) ?_ evSs_1) (out_ret ?_)
        · simp only [evT_1, evE_1, evE_2, getV_0, getV_s, lft_some, Rs.bind_ok, co_is, oD, nonW_non, nonW_int, if_true]
        · rw [evS_6]
          simp only [evE_7, evE_20, evE_1, evL_1, getV_0, getV_s, lft_some, Rs.bind_ok, bt_len, rd1_some' rdW_tp, lenA_tp', lt, lfv_some, rd2_some' rdW_i rdW_i, bo_fdv, m2, bo_mul, m3, oD, bo_add, vadd_int]
          rfl
theorem v_law_value {S : Sto} : F_law_value [.v (foD f), .v (.int (x : Nat))] S = .ok (.v (oD (valF f x))) S := by
  have t1 := b.t1
  have lh : ((f.1.map oD).length : Int) = f.1.length := by rw [List.length_map]
  have lt : ((f.2.map hpD).length : Int) = f.2.length := by rw [List.length_map]
  have i0 : ∀ S, ixW S (.v (foD f)) (.v (.int 0)) = some (.v (.tup (f.1.map oD))) := fun S => ix_tp (i := 0) rfl
  have i1 : ∀ S, ixW S (.v (foD f)) (.v (.int 1)) = some (.v (.tup (f.2.map hpD))) := fun S => ix_tp (i := 1) rfl
  rw [e_law_value]
  unfold B_law_value
  refine out_step (if_ff (S1 := S) (by
    have : ¬ ((x : Nat) : Int) < 0 := by omega
    simp only [evT_1, evE_1, evE_4, getV_0, getV_s, lft_some, Rs.bind_ok, co_lt, rd2_some' rdW_i rdW_i, vlt_int, decide_eq_false this]) evSs_1) ?_
  have tst : evT G_law_value (.cmp .lt (.loc 1) (.blt .len (.idx (.loc 0) (.int 0)) [])) [some (.v (foD f)), some (.v (.int (x : Nat))), none, none, none] S = .ok (decide ((x : Int) < f.1.length)) S := by
    simp only [evT_1, evE_16, evE_20, evE_1, evE_4, evL_1, getV_0, getV_s, lft_some, Rs.bind_ok, i0, bt_len, rd1_some' rdW_tp, lenA_tp', lh, lfv_some, co_lt, rd2_some' rdW_i rdW_i, vlt_int]
  by_cases h : x < f.1.length
  · rw [decide_eq_true (by omega)] at tst
    refine out_ret (if_tt tst (rt_step ?_))
    rw [evS_6]
    simp only [evE_16, evE_1, evE_4, getV_0, getV_s, lft_some, Rs.bind_ok, i0, ix_oD h]
    unfold valF
    rw [if_pos h]
  · rw [decide_eq_false (by omega)] at tst
    obtain ⟨p, hp, hv, m1, m2, m3⟩ := tail_parts b hx h
    have es : ((x : Nat) : Int) - (f.1.length : Nat) = ((x - f.1.length : Nat) : Int) := by omega
    refine out_step (if_ff tst evSs_1) (out_step (e1 := [some (.v (foD f)), some (.v (.int (x : Nat))), some (.v (.int ((x - f.1.length : Nat) : Int))), none, none]) (S1 := S) ?_ (out_step (e1 := [some (.v (foD f)), some (.v (.int (x : Nat))), some (.v (.int ((x - f.1.length : Nat) : Int))), some (.v (oD p.1)), some (.v (.int p.2))]) (S1 := S) ?_ ?_))
    · rw [evS_1]
      simp only [evE_7, evE_16, evE_20, evE_1, evE_4, evL_1, getV_0, getV_s, lft_some, Rs.bind_ok, i0, bt_len, rd1_some' rdW_tp, lenA_tp', lh, lfv_some, rd2_some' rdW_i rdW_i, bo_sub, vsub_int, es, bindV_nm, setV2_0, setV2_s]
    · rw [evS_1]
      simp only [evE_16, evE_7, evE_20, evE_1, evE_4, evL_1, getV_0, getV_s, lft_some, Rs.bind_ok, i1, bt_len, bt_int, rd1_some' rdW_i, int_int, rd1_some' rdW_tp, lenA_tp', lt, lfv_some, rd2_some' rdW_i rdW_i, bo_mod, m1, ix_hp hp]
      rfl
    · rw [hv]
      cases q : p.1 with
      | none =>
        refine out_ret (if_tt (S1 := S) ?_ (rt_step ?_))
        · simp only [evT_1, evE_1, evE_2, getV_0, getV_s, lft_some, Rs.bind_ok, co_is, oD, nonW_non, if_true]
        · rw [evS_6]
          simp only [evE_2, Rs.bind_ok]
          rfl
      | some v =>
        refine out_step (if_ff (S1 := S) ?_ evSs_1) (out_ret ?_)
        · simp only [evT_1, evE_1, evE_2, getV_0, getV_s, lft_some, Rs.bind_ok, co_is, oD, nonW_non, nonW_int, if_true]
        · rw [evS_6]
          simp only [evE_7, evE_16, evE_20, evE_1, evE_4, evL_1, getV_0, getV_s, lft_some, Rs.bind_ok, i1, bt_len, rd1_some' rdW_tp, lenA_tp', lt, lfv_some, rd2_some' rdW_i rdW_i, bo_fdv, m2, bo_mul, m3, oD, bo_add, vadd_int]
          rfl
end
end K85

/-! k85: what is known, leg by leg -/
namespace K85
open PySem PySem.Spec PyProof.Rows L2 Z CM
abbrev LgF := Str × Str × Fo
def legD (l : LgF) : D := .tup [.str l.1, .str l.2.1, foD l.2.2]
def elE (lg : List LgF) (x : Nat) : List EL := lg.map fun l => (l.1, l.2.1, valF l.2.2 x)
def prL (lg : List LgF) (x : Nat) : List D := lg.map fun l => oD (valF l.2.2 x)
def p2D (p : P2) : D := .tup [.int p.1, .int (p.2 : Nat)]
def bD : Option P2 → D | none => .non | some q => p2D q
/-- a dict of known prices -/
def Rk (kvs : List (Key × W)) (K : KF) : Prop := ∀ v, valG kvs (.inr v) = (K v).map fun p => W.v (p2D p)
theorem valG_cons {α : Type} {k k' : Key} {x : α} {r : List (Key × α)} : valG ((k, x) :: r) k' = if k = k' then some x else valG r k' := by
  unfold valG
  rw [List.find?_cons]
  by_cases h : k = k'
  · simp [h]
  · simp [h]
theorem valG_map {α : Type} {k k' : Key} {y : α} : ∀ r : List (Key × α), valG (r.map fun kv => if kv.1 = k then (kv.1, y) else kv) k' = if k' = k then (valG r k').map (fun _ => y) else valG r k'
  | [] => by simp [valG]
  | (a, x) :: r => by
    rw [List.map_cons]
    have ih := valG_map (k := k) (k' := k') (y := y) r
    by_cases h : a = k
    · rw [if_pos h, valG_cons, valG_cons, ih]
      subst h
      by_cases q : k' = a
      · subst q; simp
      · have q' : a ≠ k' := fun e => q e.symm
        simp [q, q']
    · rw [if_neg h, valG_cons, valG_cons, ih]
      by_cases q : a = k'
      · subst q; simp [h]
      · by_cases q2 : k' = k
        · subst q2; simp [h]
        · simp [q, q2]
theorem valG_app {α : Type} {k k' : Key} {y : α} : ∀ r : List (Key × α), valG (r ++ [(k, y)]) k' = (valG r k').or (if k = k' then some y else none)
  | [] => by simp [valG_cons, valG]
  | (a, x) :: r => by
    rw [List.cons_append, valG_cons, valG_cons, valG_app r]
    by_cases h : a = k' <;> simp [h]
theorem valG_none {α : Type} {k : Key} : ∀ {r : List (Key × α)}, (r.any fun kv => decide (kv.1 = k)) = false → valG r k = none
  | [], _ => rfl
  | (a, x) :: r, h => by
    rw [List.any_cons, Bool.or_eq_false_iff] at h
    rw [valG_cons, if_neg (of_decide_eq_false h.1), valG_none h.2]
theorem valG_some {α : Type} {k : Key} : ∀ {r : List (Key × α)}, (r.any fun kv => decide (kv.1 = k)) = true → ∃ x, valG r k = some x
  | [], h => by simp at h
  | (a, x) :: r, h => by
    rw [valG_cons]
    by_cases q : a = k
    · exact ⟨x, if_pos q⟩
    · rw [List.any_cons, decide_eq_false q, Bool.false_or] at h
      rw [if_neg q]; exact valG_some h
theorem valG_put {α : Type} {kvs : List (Key × α)} {k k' : Key} {y : α} : valG (putG kvs k y) k' = if k' = k then some y else valG kvs k' := by
  unfold putG
  cases h : (kvs.any fun kv => decide (kv.1 = k)) with
  | true =>
    rw [if_pos rfl, valG_map]
    by_cases q : k' = k
    · subst q
      obtain ⟨x, e⟩ := valG_some h
      rw [if_pos rfl, if_pos rfl, e]; rfl
    · rw [if_neg q, if_neg q]
  | false =>
    rw [if_neg (by simp), valG_app]
    by_cases q : k' = k
    · subst q
      simp [valG_none h]
    · have q' : k ≠ k' := fun e => q e.symm
      rw [if_neg q', if_neg q]
      cases valG kvs k' <;> rfl
theorem putG_len {α : Type} {kvs : List (Key × α)} {k : Key} {y : α} : (putG kvs k y).length ≤ kvs.length + 1 := by
  unfold putG
  split
  · rw [List.length_map]; omega
  · rw [List.length_append]; simp
theorem rk_upd {kvs : List (Key × W)} {K : KF} (h : Rk kvs K) {v : Str} {q : P2} : Rk (putG kvs (.inr v) (.v (p2D q))) (updF K v q) := fun x => by
  rw [valG_put]
  unfold updF
  by_cases e : x = v
  · subst e; simp
  · have : (Sum.inr x : Key) ≠ Sum.inr v := fun z => e (Sum.inr.inj z)
    rw [if_neg this, if_neg e]
    exact h x
theorem vlt_p2 {p q : P2} : vlt (p2D p) (p2D q) = some (.bl (decide (lt2 p q))) := by
  obtain ⟨a, b⟩ := p
  obtain ⟨c, d⟩ := q
  have h : vlt (p2D (a, b)) (p2D (c, d)) = some (.bl (ltD (p2D (a, b)) (p2D (c, d)))) := rfl
  rw [h]
  have key : ltD (p2D (a, b)) (p2D (c, d)) = decide (lt2 (a, b) (c, d)) := by
    show (if (a == c) = true then (if ((b : Int) == (d : Int)) = true then false else decide ((b : Int) < d)) else decide (a < c)) = _
    rw [Bool.eq_iff_iff, decide_eq_true_eq]
    unfold lt2
    dsimp only
    by_cases e : a = c
    · subst e
      rw [if_pos (beq_self_eq_true a)]
      by_cases f : b = d
      · subst f; simp
      · rw [if_neg (by rw [beq_iff_eq]; omega), decide_eq_true_eq]
        omega
    · rw [if_neg (by rw [beq_iff_eq]; exact e), decide_eq_true_eq]
      omega
  rw [key]
theorem bD_row (q : P2) {S : Sto} : rdW S (.v (p2D q)) = some (p2D q) := rfl
theorem nonW_bD {o : Option P2} : nonW (.v (bD o)) = o.isNone := by cases o <;> rfl
theorem v_is_less {S : Sto} {q : P2} {o : Option P2} : F_is_less [.v (p2D q), .v (bD o)] S = .ok (.v (.bl (match o with | none => true | some p => decide (lt2 q p)))) S := by
  rw [e_is_less]
  unfold B_is_less
  refine out_ret ?_
  rw [evS_6]
  cases o with
  | none => simp only [evE_11, evV_4, evE_9, evE_1, evE_2, getV_0, getV_s, lft_some, Rs.bind_ok, co_is, nonW_non, if_true, bD, lfv_some, blW_bl]
  | some p =>
    have n : nonW (.v (p2D p)) = false := rfl
    simp only [evE_11, evV_2, evV_4, evE_9, evE_1, evE_2, getV_0, getV_s, lft_some, Rs.bind_ok, co_is, nonW_non, if_true, bD, n, lfv_some, blW_bl, co_lt, rd2_some' (bD_row q) (bD_row p), vlt_p2]
section
variable {S : Sto} {i : Nat} {kvs : List (Key × W)} {K : KF} (g : getS S i = some (.dK kvs)) (r : Rk kvs K)
include g r
theorem df_get {v : Str} : dfW S (.r i) (.str v) = some ((K v).map fun p => W.v (p2D p)) := by
  show (match getS S i with
    | some (.dK kvs) => match keyK (.str v) with | some k => some (valG kvs k) | none => none
    | some (.dT kvs) => match keyT (.str v) with | some k => some (valG kvs k) | none => none
    | _ => none) = _
  rw [g]
  show some (valG kvs (.inr v)) = _
  rw [r v]
theorem ty_get : tyW .get S (.r i) = true := by
  show (match getS S i with | some (.dK _) => true | some (.dT _) => true | _ => false) = true
  rw [g]
theorem wo_get {v : Str} : Mt.get.wo S (.r i) [.v (.str v), .v .non] = .ok (.v (bD (K v))) S := by
  show (match dfW S (.r i) (.str v) with | some r => Rs.ok (r.getD (.v .non)) S | none => .no) = _
  rw [df_get g r]
  cases K v <;> rfl
theorem v_behind {lg : List LgF} {x at_ : Nat} {l : LgF} (hl : lg[at_]? = some l) : F_behind [.v (.tup (lg.map legD)), .v (.lst (prL lg x)), .r i, .v (.int (at_ : Nat))] S = .ok (.v (bD (behF K (l.1, l.2.1, valF l.2.2 x)))) S := by
  have x0 : ∀ S, ixW S (.v (.tup (lg.map legD))) (.v (.int (at_ : Nat))) = some (.v (legD l)) := fun S => ix_tp (by rw [List.getElem?_map, hl]; rfl)
  have x1 : ∀ S, ixW S (.v (legD l)) (.v (.int 0)) = some (.v (.str l.1)) := fun S => ix_tp (i := 0) rfl
  have x2 : ∀ S, ixW S (.v (.lst (prL lg x))) (.v (.int (at_ : Nat))) = some (.v (oD (valF l.2.2 x))) := fun S => ix_lst (by unfold prL; rw [List.getElem?_map, hl]; rfl)
  rw [e_behind]
  unfold B_behind
  refine out_step (e1 := [some (.v (.tup (lg.map legD))), some (.v (.lst (prL lg x))), some (.r i), some (.v (.int (at_ : Nat))), some (.v (bD (K l.1)))]) (S1 := S) (by
    rw [evS_1]
    simp only [evE_22, evE_16, evE_1, evE_2, evE_4, evL_1, evL_2, getV_0, getV_s, lft_some, Rs.bind_ok, ty_get g r, x0, x1, wo_get g r, bindV_nm, setV2_0, setV2_s]) ?_
  unfold behF
  dsimp only
  cases hk : K l.1 with
  | none =>
    refine out_ret (if_tt (S1 := S) ?_ (rt_step (by rw [evS_6]; simp only [evE_2, Rs.bind_ok]; rfl)))
    simp only [evT_3, evB_4, evT_1, evE_1, evE_2, getV_0, getV_s, lft_some, Rs.bind_ok, co_is, bD, nonW_non, if_true]
  | some p =>
    obtain ⟨a, b⟩ := p
    have n1 : nonW (.v (p2D (a, b))) = false := rfl
    cases hv : valF l.2.2 x with
    | none =>
      rw [hv] at x2
      refine out_ret (if_tt (S1 := S) ?_ (rt_step (by rw [evS_6]; simp only [evE_2, Rs.bind_ok]; rfl)))
      simp only [evT_3, evB_2, evB_4, evT_1, evE_16, evE_1, evE_2, getV_0, getV_s, lft_some, Rs.bind_ok, co_is, bD, n1, nonW_non, if_true, x2, oD]
    | some c =>
      rw [hv] at x2
      have p0 : ∀ S, ixW S (.v (p2D (a, b))) (.v (.int 0)) = some (.v (.int a)) := fun S => ix_tp (i := 0) rfl
      have p1 : ∀ S, ixW S (.v (p2D (a, b))) (.v (.int 1)) = some (.v (.int (b : Nat))) := fun S => ix_tp (i := 1) rfl
      refine out_step (if_ff (S1 := S) ?_ evSs_1) (out_ret ?_)
      · simp only [evT_3, evB_2, evB_4, evT_1, evE_16, evE_1, evE_2, getV_0, getV_s, lft_some, Rs.bind_ok, co_is, bD, n1, nonW_non, nonW_int, if_true, x2, oD]
      · rw [evS_6]
        simp only [evE_14, evE_16, evE_7, evE_1, evE_4, evL_1, evL_2, getV_0, getV_s, lft_some, Rs.bind_ok, bD, p0, p1, x2, oD, rd2_some' rdW_i rdW_i, bo_add, vadd_int, lfv_some, plnW_cons, plnW_nil, List.length_cons, List.length_nil, Nat.zero_add, Nat.reduceAdd, sl_2, if_true]
        rfl
end
end K85

/-! k85: what is known in the end; the triples -/
namespace K85
open PySem PySem.Spec PyProof.Rows L2 Z CM
def netK (ws : List Str) (lg : List LgF) : D := .tup [.tp .k (ws.map D.str), .tup (lg.map legD)]
theorem putW_dK {S : Sto} {kvs : List (Key × W)} {v : Str} {w : W} (h : kvs.length < 1000) : putW (S ++ [some (.dK kvs)]) (.r S.length) (.v (.str v)) w = some (S ++ [some (.dK (putG kvs (.inr v) w))]) := by
  have g : getS (S ++ [some (.dK kvs)]) S.length = some (.dK kvs) := getS_mid (J := [])
  unfold putW
  dsimp only
  rw [g]
  show (if kvs.length < sizeLine then some (setS (S ++ [some (.dK kvs)]) S.length (some (.dK (putG kvs (.inr v) w)))) else none) = _
  rw [if_pos (by have := sl1000; omega), setS_mid (J := [])]
def bodyK : List Sx := [.asg (.nm 8) (.call 0 (.loc 4) [(.loc 2), (.loc 5), (.loc 7)]), .ifs (.bol true [(.cmp .isnot (.loc 8) .non), (.call 1 (.loc 8) [(.mth .get (.loc 5) (.idx (.idx (.loc 4) (.loc 7)) (.int 1)) [.non])])])
    [.sput (.loc 5) (.idx (.idx (.loc 4) (.loc 7)) (.int 1)) (.loc 8)]
    []]
theorem kc0 (r : Rs (List W)) : callV G_known_for 0 r = r.bind fun ws S => if ws.length = 4 then F_behind ws S else .no := by unfold G_known_for; rfl
theorem kc1 (r : Rs (List W)) : callV G_known_for 1 r = r.bind fun ws S => if ws.length = 2 then F_is_less ws S else .no := by unfold G_known_for; rfl
theorem turn_K {S : Sto} {w0 w1 w3 : W} {o6 o8 : Option W} {lg : List LgF} {x k : Nat} {l : LgF} (hl : lg[k]? = some l) {kvs : List (Key × W)} {K : KF} (r : Rk kvs K) (hk : kvs.length < 1000) :
    ∃ kvs' o8', Rk kvs' (rlx K (l.1, l.2.1, valF l.2.2 x)) ∧ kvs'.length ≤ kvs.length + 1 ∧
    evSs G_known_for bodyK [some w0, some w1, some (.v (.lst (prL lg x))), some w3, some (.v (.tup (lg.map legD))), some (.r S.length), o6, some (.v (.int (k : Nat))), o8] (S ++ [some (.dK kvs)]) = .ok (.nx [some w0, some w1, some (.v (.lst (prL lg x))), some w3, some (.v (.tup (lg.map legD))), some (.r S.length), o6, some (.v (.int (k : Nat))), o8']) (S ++ [some (.dK kvs')]) := by
  have g : getS (S ++ [some (.dK kvs)]) S.length = some (.dK kvs) := getS_mid (J := [])
  have x0 : ∀ S, ixW S (.v (.tup (lg.map legD))) (.v (.int (k : Nat))) = some (.v (legD l)) := fun S => ix_tp (by rw [List.getElem?_map, hl]; rfl)
  have x1 : ∀ S, ixW S (.v (legD l)) (.v (.int 1)) = some (.v (.str l.2.1)) := fun S => ix_tp (i := 1) rfl
  have st1 : evS G_known_for (.asg (.nm 8) (.call 0 (.loc 4) [(.loc 2), (.loc 5), (.loc 7)])) [some w0, some w1, some (.v (.lst (prL lg x))), some w3, some (.v (.tup (lg.map legD))), some (.r S.length), o6, some (.v (.int (k : Nat))), o8] (S ++ [some (.dK kvs)]) = .ok (.nx [some w0, some w1, some (.v (.lst (prL lg x))), some w3, some (.v (.tup (lg.map legD))), some (.r S.length), o6, some (.v (.int (k : Nat))), some (.v (bD (behF K (l.1, l.2.1, valF l.2.2 x))))]) (S ++ [some (.dK kvs)]) := by
    rw [evS_1]
    simp only [evE_19, evE_1, evL_1, evL_2, getV_0, getV_s, lft_some, Rs.bind_ok, kc0, List.length_cons, List.length_nil, Nat.zero_add, Nat.reduceAdd, if_true, v_behind g r hl, bindV_nm, setV2_0, setV2_s]
  have gt := wo_get g r (v := l.2.1)
  have ty := ty_get g r
  unfold bodyK
  cases hb : behF K (l.1, l.2.1, valF l.2.2 x) with
  | none =>
    rw [hb] at st1
    refine ⟨kvs, _, by rw [rlx_no hb]; exact r, by omega, nx_step st1 (nx_step (if_ff ?_ evSs_1) evSs_1)⟩
    simp only [evT_3, evB_3, evT_1, evE_1, evE_2, getV_0, getV_s, lft_some, Rs.bind_ok, co_isn, nonW_non, bD, if_true, Bool.not_true]
  | some q =>
    rw [hb] at st1
    have st1 := st1; change _ = Rs.ok (Oc.nx [some w0, some w1, some (.v (.lst (prL lg x))), some w3, some (.v (.tup (lg.map legD))), some (.r S.length), o6, some (.v (.int (k : Nat))), some (.v (p2D q))]) _ at st1
    have tst : evT G_known_for (.bol true [(.cmp .isnot (.loc 8) .non), (.call 1 (.loc 8) [(.mth .get (.loc 5) (.idx (.idx (.loc 4) (.loc 7)) (.int 1)) [.non])])]) [some w0, some w1, some (.v (.lst (prL lg x))), some w3, some (.v (.tup (lg.map legD))), some (.r S.length), o6, some (.v (.int (k : Nat))), some (.v (p2D q))] (S ++ [some (.dK kvs)]) = .ok (match K l.2.1 with | none => true | some p => decide (lt2 q p)) (S ++ [some (.dK kvs)]) := by
      have n : nonW (.v (p2D q)) = false := rfl
      simp only [evT_3, evB_2, evB_3, evT_1, evT_11, evE_22, evE_16, evE_1, evE_2, evE_4, evL_1, evL_2, getV_0, getV_s, lft_some, Rs.bind_ok, co_isn, nonW_non, n, if_true, Bool.not_false, ty, x0, x1, gt, kc1, List.length_cons, List.length_nil, Nat.zero_add, Nat.reduceAdd, v_is_less, truV_ok, truW_bl]
      try (cases K l.2.1 <;> rfl)
    have put : evS G_known_for (.sput (.loc 5) (.idx (.idx (.loc 4) (.loc 7)) (.int 1)) (.loc 8)) [some w0, some w1, some (.v (.lst (prL lg x))), some w3, some (.v (.tup (lg.map legD))), some (.r S.length), o6, some (.v (.int (k : Nat))), some (.v (p2D q))] (S ++ [some (.dK kvs)]) = .ok (.nx [some w0, some w1, some (.v (.lst (prL lg x))), some w3, some (.v (.tup (lg.map legD))), some (.r S.length), o6, some (.v (.int (k : Nat))), some (.v (p2D q))]) (S ++ [some (.dK (putG kvs (.inr l.2.1) (.v (p2D q))))]) := by
      rw [evS_3]
      simp only [evE_16, evE_1, evE_4, getV_0, getV_s, lft_some, Rs.bind_ok, x0, x1, putW_dK hk]
    cases hv : K l.2.1 with
    | none =>
      rw [hv] at tst
      refine ⟨putG kvs (.inr l.2.1) (.v (p2D q)), _, by rw [rlx_new hb hv]; exact rk_upd r, putG_len, nx_step st1 (nx_step (if_tt tst (nx_step put evSs_1)) evSs_1)⟩
    | some p =>
      rw [hv] at tst
      dsimp only at tst
      by_cases c : lt2 q p
      · rw [decide_eq_true c] at tst
        refine ⟨putG kvs (.inr l.2.1) (.v (p2D q)), _, by rw [rlx_lt hb hv c]; exact rk_upd r, putG_len, nx_step st1 (nx_step (if_tt tst (nx_step put evSs_1)) evSs_1)⟩
      · rw [decide_eq_false c] at tst
        exact ⟨kvs, _, by rw [rlx_ge hb hv c]; exact r, by omega, nx_step st1 (nx_step (if_ff tst evSs_1) evSs_1)⟩
theorem loop_K {S : Sto} {w0 w1 w3 : W} {o6 : Option W} {lg : List LgF} {x : Nat} : ∀ (n k : Nat) (kvs : List (Key × W)) (K : KF) (o7 o8 : Option W), k + n = lg.length → Rk kvs K → kvs.length + n < 1000 →
    ∃ kvs' o7' o8', Rk kvs' (((elE lg x).drop k).foldl rlx K) ∧ kvs'.length ≤ kvs.length + n ∧
    turnsV (.nm 7) (evSs G_known_for bodyK) (rngD (k : Nat) n) [some w0, some w1, some (.v (.lst (prL lg x))), some w3, some (.v (.tup (lg.map legD))), some (.r S.length), o6, o7, o8] (S ++ [some (.dK kvs)]) = .ok (.nx [some w0, some w1, some (.v (.lst (prL lg x))), some w3, some (.v (.tup (lg.map legD))), some (.r S.length), o6, o7', o8']) (S ++ [some (.dK kvs')])
  | 0, k, kvs, K, o7, o8, hk, r, hl => by
    refine ⟨kvs, o7, o8, ?_, by omega, rfl⟩
    rw [List.drop_eq_nil_of_le (by unfold elE; rw [List.length_map]; omega)]
    exact r
  | n + 1, k, kvs, K, o7, o8, hk, r, hl => by
    have kl : k < lg.length := by omega
    obtain ⟨kvs1, p8, r1, l1, e1⟩ := turn_K (S := S) (w0 := w0) (w1 := w1) (w3 := w3) (o6 := o6) (o8 := o8) (x := x) (List.getElem?_eq_getElem kl) r (by omega)
    obtain ⟨kvs2, q7, q8, r2, l2, e2⟩ := loop_K (S := S) (w0 := w0) (w1 := w1) (w3 := w3) (o6 := o6) (lg := lg) (x := x) n (k + 1) kvs1 _ (some (.v (.int (k : Nat)))) p8 (by omega) r1 (by omega)
    refine ⟨kvs2, q7, q8, ?_, by omega, ?_⟩
    · have : (elE lg x).drop k = (lg[k].1, lg[k].2.1, valF lg[k].2.2 x) :: (elE lg x).drop (k + 1) := by
        have h : k < (elE lg x).length := by unfold elE; rw [List.length_map]; exact kl
        rw [List.drop_eq_getElem_cons h]
        congr 1
        simp [elE]
      rw [this, List.foldl_cons]
      exact r2
    · have er : rngD ((k : Nat) : Int) (n + 1) = .int ((k : Nat) : Int) :: rngD ((k + 1 : Nat) : Int) n := rfl
      rw [er]
      conv => lhs; unfold turnsV
      simp only [bindV_nm, setV2_0, setV2_s, e1, Rs.bind_ok, e2]
def bodyR : List Sx := [.fors (.nm 7) .rng1 [(.blt .len (.loc 4) [])] bodyK]
theorem loop_Rn {S : Sto} {w0 w1 w3 : W} {lg : List LgF} {x : Nat} (h40 : lg.length ≤ 40) : ∀ (items : List D) (kvs : List (Key × W)) (K : KF) (o6 o7 o8 : Option W), Rk kvs K → kvs.length + items.length * 40 < 900 →
    ∃ kvs' o6' o7' o8', Rk kvs' (rnds (elE lg x) items.length K) ∧
    turnsV (.nm 6) (evSs G_known_for bodyR) items [some w0, some w1, some (.v (.lst (prL lg x))), some w3, some (.v (.tup (lg.map legD))), some (.r S.length), o6, o7, o8] (S ++ [some (.dK kvs)]) = .ok (.nx [some w0, some w1, some (.v (.lst (prL lg x))), some w3, some (.v (.tup (lg.map legD))), some (.r S.length), o6', o7', o8']) (S ++ [some (.dK kvs')])
  | [], kvs, K, o6, o7, o8, r, _ => ⟨kvs, o6, o7, o8, r, rfl⟩
  | d :: items, kvs, K, o6, o7, o8, r, hl => by
    rw [List.length_cons] at hl
    obtain ⟨kvs1, p7, p8, r1, l1, e1⟩ := loop_K (S := S) (w0 := w0) (w1 := w1) (w3 := w3) (o6 := some (.v d)) (lg := lg) (x := x) lg.length 0 kvs K o7 o8 (by omega) r (by omega)
    obtain ⟨kvs2, q6, q7, q8, r2, e2⟩ := loop_Rn (S := S) (w0 := w0) (w1 := w1) (w3 := w3) (lg := lg) (x := x) h40 items kvs1 _ (some (.v d)) p7 p8 r1 (by omega)
    rw [List.drop_zero] at r2
    refine ⟨kvs2, q6, q7, q8, r2, ?_⟩
    have ln : ((lg.map legD).length : Int) = (lg.length : Nat) := by rw [List.length_map]
    have ir : itW .rng1 [.v (.int (lg.length : Nat))] = some (rngD 0 lg.length) := it_rng (by omega) (by omega)
    have b : evSs G_known_for bodyR [some w0, some w1, some (.v (.lst (prL lg x))), some w3, some (.v (.tup (lg.map legD))), some (.r S.length), some (.v d), o7, o8] (S ++ [some (.dK kvs)]) = .ok (.nx [some w0, some w1, some (.v (.lst (prL lg x))), some w3, some (.v (.tup (lg.map legD))), some (.r S.length), some (.v d), p7, p8]) (S ++ [some (.dK kvs1)]) := by
      unfold bodyR
      refine nx_step ?_ evSs_1
      rw [evS_9]
      simp only [evE_20, evE_1, evL_1, evL_2, getV_0, getV_s, lft_some, Rs.bind_ok, bt_len, rd1_some' rdW_tp, lenA_tp', ln, lfv_some, ir]
      exact e1
    conv => lhs; unfold turnsV
    simp only [bindV_nm, setV2_0, setV2_s, b, Rs.bind_ok, e2]
theorem v_known_for {S : Sto} {ws : List Str} {lg : List LgF} {x : Nat} {s : Str} (h1 : 1 ≤ ws.length) (h8 : ws.length ≤ 8) (h40 : lg.length ≤ 40) : ∃ kvs, Rk kvs (kn (elE lg x) ws s) ∧
    F_known_for [.v (netK ws lg), .v (.str s), .v (.lst (prL lg x))] S = .ok (.r S.length) (S ++ [some (.dK kvs)]) := by
  have r0 : Rk [(.inr s, .v (p2D (0, 0)))] (K0 s) := fun v => by
    rw [valG_cons]
    unfold K0 updF
    by_cases e : s = v
    · subst e; simp
    · have : (Sum.inr s : Key) ≠ Sum.inr v := fun z => e (Sum.inr.inj z)
      have e' : v ≠ s := fun z => e z.symm
      rw [if_neg this, if_neg e']; rfl
  obtain ⟨kvs, o6, o7, o8, r, e⟩ := loop_Rn (S := S) (w0 := .v (netK ws lg)) (w1 := .v (.str s)) (w3 := .v (.tp .k (ws.map D.str))) (lg := lg) (x := x) h40 (rngD 0 (ws.length - 1)) _ _ none none none r0 (by rw [rng_len]; simp; omega)
  rw [rng_len] at r
  refine ⟨kvs, r, ?_⟩
  have ln : ((ws.map D.str).length : Int) = (ws.length : Nat) := by rw [List.length_map]
  have ir : itW .rng1 [.v (.int ((ws.length : Nat) - 1 : Int))] = some (rngD 0 (ws.length - 1)) := by
    have := it_rng (j := (ws.length : Nat) - 1) (by omega) (by omega)
    rw [show ((ws.length : Nat) - 1 : Int).toNat = ws.length - 1 by omega] at this
    exact this
  rw [e_known_for]
  have hB : B_known_for = [.asg (.tp [3, 4]) (.loc 0), .asg (.nm 5) (.dis true [(.loc 1), (.tup [(.int 0), (.int 0)])]), .fors (.nm 6) .rng1 [(.bin .sub (.blt .len (.loc 3) []) (.int 1))] bodyR, .ret (.loc 5)] := rfl
  rw [hB]
  refine out_step (e1 := [some (.v (netK ws lg)), some (.v (.str s)), some (.v (.lst (prL lg x))), some (.v (.tp .k (ws.map D.str))), some (.v (.tup (lg.map legD))), none, none, none, none]) (S1 := S) ?_ (out_step (e1 := [some (.v (netK ws lg)), some (.v (.str s)), some (.v (.lst (prL lg x))), some (.v (.tp .k (ws.map D.str))), some (.v (.tup (lg.map legD))), some (.r S.length), none, none, none]) (S1 := S ++ [some (.dK [(.inr s, .v (p2D (0, 0)))])]) ?_ (out_step (e1 := [some (.v (netK ws lg)), some (.v (.str s)), some (.v (.lst (prL lg x))), some (.v (.tp .k (ws.map D.str))), some (.v (.tup (lg.map legD))), some (.r S.length), o6, o7, o8]) (S1 := S ++ [some (.dK kvs)]) ?_ (out_ret ?_)))
  · rw [evS_1]
    simp only [evE_1, getV_0, lft_some, Rs.bind_ok]
    rfl
  · rw [evS_1]
    simp only [evE_26, evP_1, evP_2, evE_14, evE_1, evE_4, evL_1, evL_2, getV_0, getV_s, lft_some, Rs.bind_ok, plnW_cons, plnW_nil, List.length_cons, List.length_nil, Nat.zero_add, Nat.reduceAdd, sl_2, if_true, calm_ok]
    rfl
  · rw [evS_9]
    simp only [evE_7, evE_20, evE_1, evE_4, evL_1, evL_2, getV_0, getV_s, lft_some, Rs.bind_ok, bt_len, rd1_some' rdW_tp, lenA_tp', ln, lfv_some, rd2_some' rdW_i rdW_i, bo_sub, vsub_int, ir, e]
  · rw [evS_6]
    simp only [evE_1, getV_0, getV_s, lft_some, Rs.bind_ok]
end K85

/-! k85: the triples of all offices -/
namespace K85
open PySem PySem.Spec PyProof.Rows L2 Z CM
theorem veq_p2 {p q : P2} : veq (p2D p) (p2D q) = some (.bl (decide (p = q))) := by
  obtain ⟨a, b⟩ := p
  obtain ⟨c, d⟩ := q
  have h : veq (p2D (a, b)) (p2D (c, d)) = some (.bl (eqv (p2D (a, b)) (p2D (c, d)))) := rfl
  rw [h]
  have k : eqv (p2D (a, b)) (p2D (c, d)) = ((a == c) && (((b : Int) == (d : Int)) && true)) := rfl
  rw [k]
  congr 2
  rw [Bool.and_true, Bool.eq_iff_iff, decide_eq_true_eq, Bool.and_eq_true, beq_iff_eq, beq_iff_eq, Prod.mk.injEq]
  omega
section
variable {S : Sto} {i : Nat} {kvs : List (Key × W)} {K : KF} (g : getS S i = some (.dK kvs)) (r : Rk kvs K)
include g r
theorem ix_dK {v : Str} {p : P2} (h : K v = some p) : ixW S (.r i) (.v (.str v)) = some (.v (p2D p)) := by
  show (dfW S (.r i) (.str v)).join = _
  rw [df_get g r, h]; rfl
theorem in_dK {v : Str} : inW S (.v (.str v)) (.r i) = some (K v).isSome := by
  have e : sqW S (.r i) = none := by
    show (match (match getS S i with | some (.lst ds) => some (D.lst ds) | _ => none) with | some (.tp _ ds) => some ds | some (.lst ds) => some ds | some (.flst ds) => some ds | _ => none) = _
    rw [g]
  show (match sqW S (.r i) with
      | some ds => if inOk (.str v) ds = true then some (ds.any fun z => eqv z (.str v)) else none
      | none => match dfW S (.r i) (.str v) with
        | some o => some o.isSome
        | none => none) = _
  rw [e, df_get g r]
  cases K v <;> rfl
end
/-- a dict of last legs -/
abbrev NF := Str → Option Nat
def Rl (ls : List (Key × W)) (T : NF) : Prop := ∀ v, valG ls (.inr v) = (T v).map fun i => W.v (.int (i : Nat))
section
variable {S : Sto} {i : Nat} {ls : List (Key × W)} {T : NF} (g : getS S i = some (.dK ls)) (r : Rl ls T)
include g
theorem ty_sd : tyW .setdefault S (.r i) = true := by
  show (match getS S i with | some (.dK _) => true | some (.dT _) => true | _ => false) = true
  rw [g]
theorem ty_gt : tyW .get S (.r i) = true := by
  show (match getS S i with | some (.dK _) => true | some (.dT _) => true | _ => false) = true
  rw [g]
theorem wo_sd (hl : ls.length < 1000) {v : Str} {z : W} : Mt.setdefault.wo S (.r i) [.v (.str v), z] = (match valG ls (.inr v) with | some w => Rs.ok w S | none => Rs.ok z (setS S i (some (.dK (putG ls (.inr v) z))))) := by
  show (match getS S i, keyK (.str v) with
    | some (.dK kvs), some k => if kvs.length < sizeLine then (match valG kvs k with
      | some v => Rs.ok v S
      | none => Rs.ok z (setS S i (some (.dK (putG kvs k z))))) else Rs.no
    | _, _ => .no) = _
  rw [g]
  show (if ls.length < sizeLine then (match valG ls (.inr v) with
      | some v => Rs.ok v S
      | none => Rs.ok z (setS S i (some (.dK (putG ls (.inr v) z))))) else Rs.no) = _
  rw [if_pos (by have := sl1000; omega)]
include r
theorem wo_gl {v : Str} : Mt.get.wo S (.r i) [.v (.str v), .v .non] = .ok (.v (oD ((T v).map fun i => ((i : Nat) : Int)))) S := by
  show (match (match getS S i with
    | some (.dK kvs) => match keyK (.str v) with | some k => some (valG kvs k) | none => none
    | some (.dT kvs) => match keyT (.str v) with | some k => some (valG kvs k) | none => none
    | _ => none) with | some r => Rs.ok (r.getD (.v .non)) S | none => .no) = _
  rw [g]
  show Rs.ok ((valG ls (.inr v)).getD (.v .non)) S = _
  rw [r v]
  cases T v <;> rfl
end
theorem get2 {S : Sto} {a b : Option VO} : getS (S ++ [a, b]) (S.length + 1) = b := by unfold getS; simp
theorem set2 {S : Sto} {a b c : Option VO} : setS (S ++ [a, b]) (S.length + 1) c = S ++ [a, c] := by unfold setS; simp
/-- one leg looked at -/
def fitK (K : KF) (v : Str) (e : EL) : Bool := decide (e.2.1 = v) && (behF K e).isSome && decide (behF K e = K v)
def stpL (K : KF) (T : NF) (k : Nat) (e : EL) : NF := fun v => (T v).or (if fitK K v e = true then some k else none)
theorem rl_skip {K : KF} {ls : List (Key × W)} {T : NF} {k : Nat} {e : EL} (r : Rl ls T) (h : ∀ v, (T v).isSome = true ∨ fitK K v e = false) : Rl ls (stpL K T k e) := fun v => by
  rw [r v]
  unfold stpL
  rcases h v with h | h
  · cases q : T v with
    | none => rw [q] at h; cases h
    | some i => rfl
  · rw [h]
    cases T v <;> rfl
theorem rl_put {K : KF} {ls : List (Key × W)} {T : NF} {k : Nat} {e : EL} (r : Rl ls T) (h : T e.2.1 = none) (f : fitK K e.2.1 e = true) : Rl (putG ls (.inr e.2.1) (.v (.int (k : Nat)))) (stpL K T k e) := fun v => by
  rw [valG_put]
  unfold stpL
  by_cases c : v = e.2.1
  · subst c
    rw [if_pos rfl, h, f]; rfl
  · have : (Sum.inr v : Key) ≠ Sum.inr e.2.1 := fun z => c (Sum.inr.inj z)
    have f' : fitK K v e = false := by
      unfold fitK
      rw [decide_eq_false (fun z => c z.symm)]; rfl
    rw [if_neg this, r v, f']
    cases T v <;> rfl
theorem fit_no {K : KF} {e : EL} (h : behF K e = none) (v : Str) : fitK K v e = false := by
  unfold fitK; rw [h]; simp
theorem fit_ne {K : KF} {e : EL} (h : behF K e ≠ K e.2.1) (v : Str) : fitK K v e = false := by
  unfold fitK
  by_cases c : e.2.1 = v
  · subst c; simp [h]
  · simp [c]
theorem fit_oth {K : KF} {e : EL} {v : Str} (h : v ≠ e.2.1) : fitK K v e = false := by
  unfold fitK
  rw [decide_eq_false (fun z => h z.symm)]; rfl
def bodyL : List Sx := [.asg (.nm 8) (.call 1 (.loc 4) [(.loc 2), (.loc 5), (.loc 7)]), .ifs (.bol true [(.cmp .isnot (.loc 8) .non), (.cmp .eq (.loc 8) (.idx (.loc 5) (.idx (.idx (.loc 4) (.loc 7)) (.int 1))))])
    [.expr (.mth .setdefault (.loc 6) (.idx (.idx (.loc 4) (.loc 7)) (.int 1)) [(.loc 7)])]
    []]
theorem tc0 (r : Rs (List W)) : callV Gtriples_for 0 r = r.bind fun ws S => if ws.length = 3 then F_known_for ws S else .no := by unfold Gtriples_for; rfl
theorem tc1 (r : Rs (List W)) : callV Gtriples_for 1 r = r.bind fun ws S => if ws.length = 4 then F_behind ws S else .no := by unfold Gtriples_for; rfl
theorem turn_L {S : Sto} {w0 w1 w3 : W} {o8 o9 : Option W} {lg : List LgF} {x k : Nat} {l : LgF} (hl : lg[k]? = some l) {kvs ls : List (Key × W)} {K : KF} {T : NF} (r : Rk kvs K) (rl : Rl ls T) (hk : ls.length < 1000)
    (hs : (behF K (l.1, l.2.1, valF l.2.2 x)).isSome = true → (K l.2.1).isSome = true) :
    ∃ ls' o8', Rl ls' (stpL K T k (l.1, l.2.1, valF l.2.2 x)) ∧ ls'.length ≤ ls.length + 1 ∧
    evSs Gtriples_for bodyL [some w0, some w1, some (.v (.lst (prL lg x))), some w3, some (.v (.tup (lg.map legD))), some (.r S.length), some (.r (S.length + 1)), some (.v (.int (k : Nat))), o8, o9] (S ++ [some (.dK kvs), some (.dK ls)]) = .ok (.nx [some w0, some w1, some (.v (.lst (prL lg x))), some w3, some (.v (.tup (lg.map legD))), some (.r S.length), some (.r (S.length + 1)), some (.v (.int (k : Nat))), o8', o9]) (S ++ [some (.dK kvs), some (.dK ls')]) := by
  have g : getS (S ++ [some (.dK kvs), some (.dK ls)]) S.length = some (.dK kvs) := getS_mid (J := [_])
  have g2 : getS (S ++ [some (.dK kvs), some (.dK ls)]) (S.length + 1) = some (.dK ls) := get2
  have x0 : ∀ S, ixW S (.v (.tup (lg.map legD))) (.v (.int (k : Nat))) = some (.v (legD l)) := fun S => ix_tp (by rw [List.getElem?_map, hl]; rfl)
  have x1 : ∀ S, ixW S (.v (legD l)) (.v (.int 1)) = some (.v (.str l.2.1)) := fun S => ix_tp (i := 1) rfl
  have st1 : evS Gtriples_for (.asg (.nm 8) (.call 1 (.loc 4) [(.loc 2), (.loc 5), (.loc 7)])) [some w0, some w1, some (.v (.lst (prL lg x))), some w3, some (.v (.tup (lg.map legD))), some (.r S.length), some (.r (S.length + 1)), some (.v (.int (k : Nat))), o8, o9] (S ++ [some (.dK kvs), some (.dK ls)]) = .ok (.nx [some w0, some w1, some (.v (.lst (prL lg x))), some w3, some (.v (.tup (lg.map legD))), some (.r S.length), some (.r (S.length + 1)), some (.v (.int (k : Nat))), some (.v (bD (behF K (l.1, l.2.1, valF l.2.2 x)))), o9]) (S ++ [some (.dK kvs), some (.dK ls)]) := by
    rw [evS_1]
    simp only [evE_19, evE_1, evL_1, evL_2, getV_0, getV_s, lft_some, Rs.bind_ok, tc1, List.length_cons, List.length_nil, Nat.zero_add, Nat.reduceAdd, if_true, v_behind g r hl, bindV_nm, setV2_0, setV2_s]
  unfold bodyL
  cases hb : behF K (l.1, l.2.1, valF l.2.2 x) with
  | none =>
    rw [hb] at st1
    refine ⟨ls, _, rl_skip rl fun v => .inr (fit_no hb v), by omega, nx_step st1 (nx_step (if_ff ?_ evSs_1) evSs_1)⟩
    simp only [evT_3, evB_3, evT_1, evE_1, evE_2, getV_0, getV_s, lft_some, Rs.bind_ok, co_isn, nonW_non, bD, if_true, Bool.not_true]
  | some q =>
    rw [hb] at st1 hs
    change _ = Rs.ok (Oc.nx [some w0, some w1, some (.v (.lst (prL lg x))), some w3, some (.v (.tup (lg.map legD))), some (.r S.length), some (.r (S.length + 1)), some (.v (.int (k : Nat))), some (.v (p2D q)), o9]) _ at st1
    cases hv : K l.2.1 with
    | none => rw [hv] at hs; exact absurd (hs rfl) (by simp)
    | some p =>
      have tst : evT Gtriples_for (.bol true [(.cmp .isnot (.loc 8) .non), (.cmp .eq (.loc 8) (.idx (.loc 5) (.idx (.idx (.loc 4) (.loc 7)) (.int 1))))]) [some w0, some w1, some (.v (.lst (prL lg x))), some w3, some (.v (.tup (lg.map legD))), some (.r S.length), some (.r (S.length + 1)), some (.v (.int (k : Nat))), some (.v (p2D q)), o9] (S ++ [some (.dK kvs), some (.dK ls)]) = .ok (decide (q = p)) (S ++ [some (.dK kvs), some (.dK ls)]) := by
        have n : nonW (.v (p2D q)) = false := rfl
        simp only [evT_3, evB_2, evB_3, evT_1, evE_16, evE_1, evE_2, evE_4, getV_0, getV_s, lft_some, Rs.bind_ok, co_isn, nonW_non, n, if_true, Bool.not_false, x0, x1, ix_dK g r hv, co_eq, rd2_some' (bD_row q) (bD_row p), veq_p2]
      by_cases c : q = p
      · rw [decide_eq_true c] at tst
        have w := wo_sd g2 hk (v := l.2.1) (z := .v (.int (k : Nat)))
        have f : fitK K l.2.1 (l.1, l.2.1, valF l.2.2 x) = true := by
          unfold fitK
          rw [hb, hv, c]; simp
        rw [rl l.2.1] at w
        cases ht : T l.2.1 with
        | none =>
          rw [ht] at w
          change _ = Rs.ok _ (setS _ _ _) at w
          rw [set2] at w
          refine ⟨_, some (.v (p2D q)), rl_put rl ht f, putG_len, nx_step st1 (nx_step (if_tt tst (nx_step ?_ evSs_1)) evSs_1)⟩
          rw [evS_5]
          simp only [evE_22, evE_16, evE_1, evE_4, evL_1, evL_2, getV_0, getV_s, lft_some, Rs.bind_ok, ty_sd g2, x0, x1, w]
        | some j =>
          rw [ht] at w
          change _ = Rs.ok (W.v (.int (j : Nat))) _ at w
          refine ⟨ls, some (.v (p2D q)), rl_skip rl fun v => ?_, by omega, nx_step st1 (nx_step (if_tt tst (nx_step ?_ evSs_1)) evSs_1)⟩
          · by_cases z : v = l.2.1
            · subst z; rw [ht]; exact .inl rfl
            · exact .inr (fit_oth z)
          · rw [evS_5]
            simp only [evE_22, evE_16, evE_1, evE_4, evL_1, evL_2, getV_0, getV_s, lft_some, Rs.bind_ok, ty_sd g2, x0, x1, w]
      · rw [decide_eq_false c] at tst
        refine ⟨ls, _, rl_skip rl fun v => .inr (fit_ne (e := (l.1, l.2.1, valF l.2.2 x)) ?_ v), by omega, nx_step st1 (nx_step (if_ff tst evSs_1) evSs_1)⟩
        rw [hb]
        show some q ≠ K l.2.1
        rw [hv]
        exact fun z => c (Option.some.inj z)
end K85

/-! k85: the triples of all offices, whole -/
namespace K85
open PySem PySem.Spec PyProof.Rows L2 Z CM
def tkL (K : KF) (E : List EL) (k : Nat) : NF := fun v => (E.take k).findIdx? (fitK K v)
theorem stp_take {K : KF} {E : List EL} {k : Nat} {e : EL} (h : E[k]? = some e) : stpL K (tkL K E k) k e = tkL K E (k + 1) := by
  funext v
  unfold stpL tkL
  have hk : k < E.length := (List.getElem?_eq_some_iff.mp h).1
  rw [List.take_add_one, h, Option.toList_some, List.findIdx?_append, List.length_take, Nat.min_eq_left (by omega), List.findIdx?_singleton]
  congr 1
  by_cases c : fitK K v e = true
  · rw [if_pos c, if_pos c]; simp
  · rw [if_neg c, if_neg c]; rfl
theorem tk_0 {K : KF} {E : List EL} : tkL K E 0 = fun _ => none := rfl
theorem tk_all {E : List EL} {ws : List Str} {s : Str} : tkL (kn E ws s) E E.length = lstI E ws s := by
  funext v
  unfold tkL lstI
  rw [List.take_length]
  rfl
theorem el_get {lg : List LgF} {x k : Nat} {l : LgF} (h : lg[k]? = some l) : (elE lg x)[k]? = some (l.1, l.2.1, valF l.2.2 x) := by
  unfold elE
  rw [List.getElem?_map, h]; rfl
theorem loop_L {S : Sto} {w0 w1 w3 : W} {o9 : Option W} {lg : List LgF} {x : Nat} {kvs : List (Key × W)} {K : KF} (r : Rk kvs K) (hs : ∀ e ∈ elE lg x, (behF K e).isSome = true → (K e.2.1).isSome = true) : ∀ (n k : Nat) (ls : List (Key × W)) (o7 o8 : Option W), k + n = lg.length → Rl ls (tkL K (elE lg x) k) → ls.length + n < 1000 →
    ∃ ls' o7' o8', Rl ls' (tkL K (elE lg x) lg.length) ∧
    turnsV (.nm 7) (evSs Gtriples_for bodyL) (rngD (k : Nat) n) [some w0, some w1, some (.v (.lst (prL lg x))), some w3, some (.v (.tup (lg.map legD))), some (.r S.length), some (.r (S.length + 1)), o7, o8, o9] (S ++ [some (.dK kvs), some (.dK ls)]) = .ok (.nx [some w0, some w1, some (.v (.lst (prL lg x))), some w3, some (.v (.tup (lg.map legD))), some (.r S.length), some (.r (S.length + 1)), o7', o8', o9]) (S ++ [some (.dK kvs), some (.dK ls')])
  | 0, k, ls, o7, o8, hk, rl, hl => by
    refine ⟨ls, o7, o8, ?_, rfl⟩
    rw [show lg.length = k by omega]; exact rl
  | n + 1, k, ls, o7, o8, hk, rl, hl => by
    have kl : k < lg.length := by omega
    have gl : lg[k]? = some lg[k] := List.getElem?_eq_getElem kl
    obtain ⟨ls1, p8, r1, l1, e1⟩ := turn_L (S := S) (w0 := w0) (w1 := w1) (w3 := w3) (o8 := o8) (o9 := o9) (x := x) gl r rl (by omega) (hs _ (List.mem_of_getElem? (el_get gl)))
    rw [stp_take (el_get gl)] at r1
    obtain ⟨ls2, q7, q8, r2, e2⟩ := loop_L (S := S) (w0 := w0) (w1 := w1) (w3 := w3) (o9 := o9) r hs n (k + 1) ls1 (some (.v (.int (k : Nat)))) p8 (by omega) r1 (by omega)
    refine ⟨ls2, q7, q8, r2, ?_⟩
    have er : rngD ((k : Nat) : Int) (n + 1) = .int ((k : Nat) : Int) :: rngD ((k + 1 : Nat) : Int) n := rfl
    rw [er]
    conv => lhs; unfold turnsV
    simp only [bindV_nm, setV2_0, setV2_s, e1, Rs.bind_ok, e2]
/-- the row of an office -/
def noWay : D := .tp .s [.non, .non, .non]
def rowD (E : List EL) (ws : List Str) (s v : Str) : D := match kn E ws s v with
  | none => noWay
  | some p => .tup [.int p.1, .int (p.2 : Nat), oD ((lstI E ws s v).map fun i => ((i : Nat) : Int))]
theorem kn_hit {E : List EL} {ws : List Str} {s : Str} (g : Gr E ws s) {e : EL} (he : e ∈ E) (h : (behF (kn E ws s) e).isSome = true) : (kn E ws s e.2.1).isSome = true := by
  obtain ⟨u, v, oc⟩ := e
  cases hb : behF (kn E ws s) (u, v, oc) with
  | none => rw [hb] at h; cases h
  | some q =>
    obtain ⟨p, c, h1, h2, h3⟩ := beh_some hb
    subst h2
    obtain ⟨l, w, _⟩ := (kn_best g h1).1
    obtain ⟨p', hp⟩ := kn_walk g (Wk.step w he)
    show (kn E ws s v).isSome = true
    rw [hp]; rfl
theorem v_triples_for {S : Sto} {ws : List Str} {lg : List LgF} {x : Nat} {s : Str} (g : Gr (elE lg x) ws s) (h1 : 1 ≤ ws.length) (h8 : ws.length ≤ 8) (h40 : lg.length ≤ 40) : ∃ J,
    Ftriples_for [.v (netK ws lg), .v (.str s), .v (.lst (prL lg x))] S = .ok (.v (.lst (ws.map (rowD (elE lg x) ws s)))) (S ++ J) := by
  obtain ⟨kvs, r, e1⟩ := v_known_for (S := S) (ws := ws) (lg := lg) (x := x) (s := s) h1 h8 h40
  have hs : ∀ e ∈ elE lg x, (behF (kn (elE lg x) ws s) e).isSome = true → (kn (elE lg x) ws s e.2.1).isSome = true := fun e he h => kn_hit g he h
  obtain ⟨ls, o7, o8, rl, e2⟩ := loop_L (S := S) (w0 := .v (netK ws lg)) (w1 := .v (.str s)) (w3 := .v (.tp .k (ws.map D.str))) (o9 := none) r hs lg.length 0 [] none none (by omega) (fun v => by rw [tk_0]; rfl) (by simp; omega)
  have el : (elE lg x).length = lg.length := by unfold elE; rw [List.length_map]
  rw [← el, tk_all] at rl
  refine ⟨[some (.dK kvs), some (.dK ls)], ?_⟩
  have ln : ((lg.map legD).length : Int) = (lg.length : Nat) := by rw [List.length_map]
  have ir : itW .rng1 [.v (.int (lg.length : Nat))] = some (rngD 0 lg.length) := it_rng (by omega) (by omega)
  have gk : getS (S ++ [some (.dK kvs), some (.dK ls)]) S.length = some (.dK kvs) := getS_mid (J := [_])
  have gl : getS (S ++ [some (.dK kvs), some (.dK ls)]) (S.length + 1) = some (.dK ls) := get2
  rw [etriples_for]
  have hB : Btriples_for = [.asg (.tp [3, 4]) (.loc 0), .asg (.nm 5) (.call 0 (.loc 0) [(.loc 1), (.loc 2)]), .asg (.nm 6) (.newK true), .fors (.nm 7) .rng1 [(.blt .len (.loc 4) [])] bodyL, .ret (.comp false (.ite (.cmp .isin (.loc 9) (.loc 5)) (.bin .add (.idx (.loc 5) (.loc 9)) (.tup [(.mth .get (.loc 6) (.loc 9) [.non])])) (.glo 0)) (.nm 9) .seq [(.loc 3)] [] [("office", 9)])] := rfl
  rw [hB]
  refine out_step (e1 := [some (.v (netK ws lg)), some (.v (.str s)), some (.v (.lst (prL lg x))), some (.v (.tp .k (ws.map D.str))), some (.v (.tup (lg.map legD))), none, none, none, none, none]) (S1 := S) ?_ (out_step (e1 := [some (.v (netK ws lg)), some (.v (.str s)), some (.v (.lst (prL lg x))), some (.v (.tp .k (ws.map D.str))), some (.v (.tup (lg.map legD))), some (.r S.length), none, none, none, none]) (S1 := S ++ [some (.dK kvs)]) ?_ (out_step (e1 := [some (.v (netK ws lg)), some (.v (.str s)), some (.v (.lst (prL lg x))), some (.v (.tp .k (ws.map D.str))), some (.v (.tup (lg.map legD))), some (.r S.length), some (.r (S.length + 1)), none, none, none]) (S1 := S ++ [some (.dK kvs), some (.dK [])]) ?_ (out_step (e1 := [some (.v (netK ws lg)), some (.v (.str s)), some (.v (.lst (prL lg x))), some (.v (.tp .k (ws.map D.str))), some (.v (.tup (lg.map legD))), some (.r S.length), some (.r (S.length + 1)), o7, o8, none]) (S1 := S ++ [some (.dK kvs), some (.dK ls)]) ?_ (out_ret ?_))))
  · rw [evS_1]
    simp only [evE_1, getV_0, lft_some, Rs.bind_ok]
    rfl
  · rw [evS_1]
    simp only [evE_19, evE_1, evL_1, evL_2, getV_0, getV_s, lft_some, Rs.bind_ok, tc0, List.length_cons, List.length_nil, Nat.zero_add, Nat.reduceAdd, if_true, e1, bindV_nm, setV2_0, setV2_s]
  · rw [evS_1]
    simp only [evE_24, newW_eq, Rs.bind_ok, bindV_nm, setV2_0, setV2_s, List.append_assoc, List.cons_append, List.nil_append, List.length_append, List.length_cons, List.length_nil, Nat.zero_add]
  · rw [evS_9]
    simp only [evE_20, evE_1, evL_1, evL_2, getV_0, getV_s, lft_some, Rs.bind_ok, bt_len, rd1_some' rdW_tp, lenA_tp', ln, lfv_some, ir]
    exact e2
  · rw [evS_6]
    have c : compV (.nm 9) (evC Gtriples_for []) (evE Gtriples_for (.ite (.cmp .isin (.loc 9) (.loc 5)) (.bin .add (.idx (.loc 5) (.loc 9)) (.tup [(.mth .get (.loc 6) (.loc 9) [.non])])) (.glo 0))) [some (.v (netK ws lg)), some (.v (.str s)), some (.v (.lst (prL lg x))), some (.v (.tp .k (ws.map D.str))), some (.v (.tup (lg.map legD))), some (.r S.length), some (.r (S.length + 1)), o7, o8, none] (ws.map D.str) (S ++ [some (.dK kvs), some (.dK ls)]) = .ok ((ws.map D.str).map fun d => match d with | .str v => rowD (elE lg x) ws s v | _ => .non) (S ++ [some (.dK kvs), some (.dK ls)]) := by
      refine compV_map _ _ fun d hd => ?_
      obtain ⟨v, hv, rfl⟩ := List.mem_map.mp hd
      refine ⟨_, bindV_nm, evC_1, ?_⟩
      simp only [evE_13, evT_1, evE_1, getV_0, getV_s, setV2_0, setV2_s, lft_some, Rs.bind_ok, co_in, in_dK gk r, blO_some]
      unfold rowD
      cases hk : kn (elE lg x) ws s v with
      | none => rfl
      | some p =>
        simp only [Option.isSome_some, evE_7, evE_16, evE_14, evE_22, evE_1, evE_2, evL_1, evL_2, getV_0, getV_s, lft_some, Rs.bind_ok, ix_dK gk r hk, ty_gt gl, wo_gl gl rl, plnW_cons, plnW_nil, List.length_cons, List.length_nil, Nat.zero_add, sl_1, if_true]
        rfl
    simp only [evE_23, evE_1, evL_1, evL_2, getV_0, getV_s, lft_some, Rs.bind_ok, itW_tp, wipeV_cons, wipeV_nil, wipeV1_0, wipeV1_s, List.map_cons, List.map_nil, c, calm_ok, compR_ok, List.map_map]
    rfl
end K85

/-! k85: way -/
namespace K85
open PySem PySem.Spec PyProof.Rows L2 Z CM
/-- a network of the law -/
structure NB (ws : List Str) (lg : List LgF) : Prop where
  n1 : 1 ≤ ws.length
  n8 : ws.length ≤ 8
  l40 : lg.length ≤ 40
  fo : ∀ l ∈ lg, FoB l.2.2
  ends : ∀ l ∈ lg, l.1 ∈ ws ∧ l.2.1 ∈ ws
theorem NB.gr {ws : List Str} {lg : List LgF} (b : NB ws lg) {s : Str} (hs : s ∈ ws) (x : Nat) : Gr (elE lg x) ws s where
  pos := fun e he c hc => by
    obtain ⟨l, hl, rfl⟩ := List.mem_map.mp he
    exact valF_nonneg (b.fo l hl) hc
  ends := fun e he => by
    obtain ⟨l, hl, rfl⟩ := List.mem_map.mp he
    exact b.ends l hl
  st := hs
theorem findS_mem {v : Str} : ∀ {ws : List Str} (n : Nat), v ∈ ws → ∃ j, findS v ws n = some (n + j) ∧ ws[j]? = some v
  | [], _, h => absurd h (by simp)
  | y :: r, n, h => by
    unfold findS
    by_cases c : y = v
    · subst c
      exact ⟨0, by rw [if_pos rfl]; rfl, rfl⟩
    · rw [if_neg c]
      obtain ⟨j, h1, h2⟩ := findS_mem (n + 1) (by
        rcases List.mem_cons.mp h with z | z
        · exact absurd z.symm c
        · exact z)
      exact ⟨j + 1, by rw [h1]; congr 1; omega, h2⟩
theorem wo_ix {S : Sto} {ws : List Str} {v : Str} (h : v ∈ ws) : ∃ j : Nat, ws[j]? = some v ∧ ∀ S, Mt.indexT.wo S (.v (.tp .k (ws.map D.str))) [.v (.str v)] = .ok (.v (.int (j : Nat))) S := by
  obtain ⟨j, h1, h2⟩ := findS_mem 0 h
  refine ⟨j, h2, fun S => ?_⟩
  show (match strsOf (ws.map D.str) with
    | some ys => match findS v ys 0 with | some j => Rs.ok (W.v (.int (j : Nat))) S | none => .no
    | none => .no) = _
  rw [strsOf_map]
  show (match findS v ws 0 with | some j => Rs.ok (W.v (.int (j : Nat))) S | none => .no) = _
  rw [h1, Nat.zero_add]
theorem ty_ix {S : Sto} {ws : List D} : tyW .indexT S (.v (.tp .k ws)) = true := rfl
theorem el_inv {lg : List LgF} {x i : Nat} {u v : Str} {oc : Option Int} (h : (elE lg x)[i]? = some (u, v, oc)) : ∃ l, lg[i]? = some l ∧ l.1 = u ∧ l.2.1 = v ∧ valF l.2.2 x = oc := by
  unfold elE at h
  rw [List.getElem?_map] at h
  cases q : lg[i]? with
  | none => rw [q] at h; cases h
  | some l =>
    rw [q] at h
    have h := Option.some.inj h
    exact ⟨l, rfl, congrArg (·.1) h, congrArg (·.2.1) h, congrArg (·.2.2) h⟩
theorem row_lst {E : List EL} {ws : List Str} {s v : Str} {i : Nat} (h : lstI E ws s v = some i) : ∃ a b, rowD E ws s v = .tup [a, b, .int (i : Nat)] := by
  obtain ⟨e, _, h2, _⟩ := lst_some h
  unfold rowD
  cases hk : kn E ws s v with
  | none =>
    unfold fitB at h2
    rw [hk] at h2
    cases hb : behF (kn E ws s) e with
    | none => rw [hb] at h2; simp at h2
    | some q => rw [hb] at h2; simp at h2
  | some p => exact ⟨_, _, by rw [h]; rfl⟩
def bodyW : List Sx := [.asg (.nm 10) (.idx (.idx (.loc 6) (.mth .indexT (.loc 4) (.loc 9) [])) (.int 2)), .expr (.mth .append (.loc 8) (.loc 10) []), .asg (.nm 9) (.idx (.idx (.loc 5) (.loc 10)) (.int 0))]
def condW : Ex := .cmp .ne (.loc 9) (.loc 1)
def iD (l : List Nat) : List D := l.map fun i => .int (i : Nat)
theorem cond_W {S : Sto} {w0 w2 w3 w4 w5 w6 w8 : W} {o7 o10 : Option W} {s v : Str} : evT Gway condW [some w0, some (.v (.str s)), some w2, some w3, some w4, some w5, some w6, o7, some w8, some (.v (.str v)), o10] S = .ok (!decide (v = s)) S := by
  unfold condW
  simp only [evT_1, evE_1, getV_0, getV_s, lft_some, Rs.bind_ok, co_ne, rd2_some' rdW_str rdW_str, vne_str]
theorem turn_W {T : Sto} {w0 w2 w3 : W} {o7 o10 : Option W} {lg : List LgF} {x : Nat} {ws : List Str} {s u v : Str} {oc : Option Int} {i : Nat} {acc : List D} (hv : v ∈ ws) (hi : lstI (elE lg x) ws s v = some i) (he : (elE lg x)[i]? = some (u, v, oc)) (ha : acc.length < 1000) :
    evSs Gway bodyW [some w0, some (.v (.str s)), some w2, some w3, some (.v (.tp .k (ws.map D.str))), some (.v (.tup (lg.map legD))), some (.v (.lst (ws.map (rowD (elE lg x) ws s)))), o7, some (.r T.length), some (.v (.str v)), o10] (T ++ [some (.lst acc)]) = .ok (.nx [some w0, some (.v (.str s)), some w2, some w3, some (.v (.tp .k (ws.map D.str))), some (.v (.tup (lg.map legD))), some (.v (.lst (ws.map (rowD (elE lg x) ws s)))), o7, some (.r T.length), some (.v (.str u)), some (.v (.int (i : Nat)))]) (T ++ [some (.lst (acc ++ [.int (i : Nat)]))]) := by
  obtain ⟨j, hj, wj⟩ := wo_ix (S := T) hv
  obtain ⟨a, b, hr⟩ := row_lst hi
  obtain ⟨l, hl, hu, _, _⟩ := el_inv he
  have x0 : ∀ S, ixW S (.v (.lst (ws.map (rowD (elE lg x) ws s)))) (.v (.int (j : Nat))) = some (.v (.tup [a, b, .int (i : Nat)])) := fun S => ix_lst (by rw [List.getElem?_map, hj]; show some (rowD _ _ _ _) = _; rw [hr])
  have x1 : ∀ S, ixW S (.v (.tup [a, b, .int (i : Nat)])) (.v (.int 2)) = some (.v (.int (i : Nat))) := fun S => ix_tp (i := 2) rfl
  have x2 : ∀ S, ixW S (.v (.tup (lg.map legD))) (.v (.int (i : Nat))) = some (.v (legD l)) := fun S => ix_tp (by rw [List.getElem?_map, hl]; rfl)
  have x3 : ∀ S, ixW S (.v (legD l)) (.v (.int 0)) = some (.v (.str u)) := fun S => ix_tp (i := 0) (by rw [← hu]; rfl)
  have ap : Mt.append.wo (T ++ [some (.lst acc)]) (.r T.length) [.v (.int (i : Nat))] = .ok (.v .non) (T ++ [some (.lst (acc ++ [.int (i : Nat)]))]) := wo_app_mid (J := []) (by have := sl1000; omega)
  have ty : tyW .append (T ++ [some (.lst acc)]) (.r T.length) = true := ty_app_mid (J := [])
  unfold bodyW
  refine nx_step (e1 := [some w0, some (.v (.str s)), some w2, some w3, some (.v (.tp .k (ws.map D.str))), some (.v (.tup (lg.map legD))), some (.v (.lst (ws.map (rowD (elE lg x) ws s)))), o7, some (.r T.length), some (.v (.str v)), some (.v (.int (i : Nat)))]) (S1 := T ++ [some (.lst acc)]) ?_ (nx_step (e1 := [some w0, some (.v (.str s)), some w2, some w3, some (.v (.tp .k (ws.map D.str))), some (.v (.tup (lg.map legD))), some (.v (.lst (ws.map (rowD (elE lg x) ws s)))), o7, some (.r T.length), some (.v (.str v)), some (.v (.int (i : Nat)))]) (S1 := T ++ [some (.lst (acc ++ [.int (i : Nat)]))]) ?_ (nx_step ?_ evSs_1))
  · rw [evS_1]
    simp only [evE_16, evE_22, evE_1, evE_4, evL_1, getV_0, getV_s, lft_some, Rs.bind_ok, ty_ix, wj, x0, x1, bindV_nm, setV2_0, setV2_s]
  · rw [evS_5]
    simp only [evE_22, evE_1, evL_1, getV_0, getV_s, lft_some, Rs.bind_ok, ty, ap]
  · rw [evS_1]
    simp only [evE_16, evE_1, evE_4, getV_0, getV_s, lft_some, Rs.bind_ok, x2, x3, bindV_nm, setV2_0, setV2_s]
theorem loop_W {T : Sto} {w0 w2 w3 : W} {o7 : Option W} {lg : List LgF} {x : Nat} {ws : List Str} {s : Str} (g : Gr (elE lg x) ws s) {v : Str} {r : List Nat} (p : Pth (elE lg x) ws s v r) : ∀ (acc : List D) (o10 : Option W), v ∈ ws → acc.length + r.length < 1000 → ∃ o10',
    whV (evT Gway condW) (evSs Gway bodyW) [some w0, some (.v (.str s)), some w2, some w3, some (.v (.tp .k (ws.map D.str))), some (.v (.tup (lg.map legD))), some (.v (.lst (ws.map (rowD (elE lg x) ws s)))), o7, some (.r T.length), some (.v (.str v)), o10] (T ++ [some (.lst acc)]) = .ok (.nx [some w0, some (.v (.str s)), some w2, some w3, some (.v (.tp .k (ws.map D.str))), some (.v (.tup (lg.map legD))), some (.v (.lst (ws.map (rowD (elE lg x) ws s)))), o7, some (.r T.length), some (.v (.str s)), o10']) (T ++ [some (.lst (acc ++ iD r.reverse))]) := by
  induction p with
  | nil =>
    intro acc o10 hv hl
    refine ⟨o10, ?_⟩
    rw [whV_step, cond_W, decide_eq_true rfl]
    show Rs.ok _ _ = _
    rw [show iD ([] : List Nat).reverse = [] from rfl, List.append_nil]
  | @step u v oc r i ne hi he p ih =>
    intro acc o10 hv hl
    rw [List.length_append, List.length_singleton] at hl
    obtain ⟨o, e⟩ := ih (acc ++ [.int (i : Nat)]) (some (.v (.int (i : Nat)))) (g.ends _ (List.mem_of_getElem? he)).1 (by rw [List.length_append, List.length_singleton]; omega)
    refine ⟨o, ?_⟩
    rw [whV_step, cond_W, decide_eq_false ne, Rs.bind_ok]
    show (evSs Gway bodyW _ _).bind _ = _
    rw [turn_W hv hi he (by omega), Rs.bind_ok]
    dsimp only
    rw [e, List.reverse_append, List.append_assoc]
    rfl
theorem wc0 (r : Rs (List W)) : callV Gway 0 r = r.bind fun ws S => if ws.length = 3 then Ftriples_for ws S else .no := by unfold Gway; rfl
theorem wc1 (r : Rs (List W)) : callV Gway 1 r = r.bind fun ws S => if ws.length = 2 then Fvalue_at ws S else .no := by unfold Gway; rfl
theorem veq_row_none {E : List EL} {ws : List Str} {s v : Str} (h : kn E ws s v = none) : veq (rowD E ws s v) noWay = some (.bl true) := by
  unfold rowD; rw [h]; rfl
theorem veq_row_some {E : List EL} {ws : List Str} {s v : Str} {p : P2} (h : kn E ws s v = some p) : veq (rowD E ws s v) noWay = some (.bl false) := by
  unfold rowD; rw [h]
  cases lstI E ws s v <;> rfl
theorem row_rd {E : List EL} {ws : List Str} {s v : Str} {S : Sto} : rdW S (.v (rowD E ws s v)) = some (rowD E ws s v) := by
  unfold rowD
  cases kn E ws s v <;> rfl
theorem v_way {S : Sto} {ws : List Str} {lg : List LgF} (b : NB ws lg) {x : Nat} (hx : x < 2 ^ 200) {s v : Str} (hs : s ∈ ws) (hv : v ∈ ws) : ∃ J,
    (kn (elE lg x) ws s v = none ∧ Fway [.v (netK ws lg), .v (.str s), .v (.str v), .v (.int (x : Nat))] S = .ok (.v .non) (S ++ J)) ∨
    ∃ r, Pth (elE lg x) ws s v r ∧ r.length < ws.length ∧ Fway [.v (netK ws lg), .v (.str s), .v (.str v), .v (.int (x : Nat))] S = .ok (.v (.tup (iD r))) (S ++ J) := by
  have g := b.gr hs x
  obtain ⟨J, e⟩ := v_triples_for (S := S) g b.n1 b.n8 b.l40
  obtain ⟨j, hj, wj⟩ := wo_ix (S := S) hv
  have x0 : ∀ S, ixW S (.v (.lst (ws.map (rowD (elE lg x) ws s)))) (.v (.int (j : Nat))) = some (.v (rowD (elE lg x) ws s v)) := fun S => ix_lst (by rw [List.getElem?_map, hj]; rfl)
  have c : compV (.nm 7) (evC Gway []) (evE Gway (.call 1 (.idx (.loc 7) (.int 2)) [(.loc 3)])) [some (.v (netK ws lg)), some (.v (.str s)), some (.v (.str v)), some (.v (.int (x : Nat))), some (.v (.tp .k (ws.map D.str))), some (.v (.tup (lg.map legD))), none, none, none, none, none] (lg.map legD) S = .ok (prL lg x) S := by
    have := compV_fm (S := S) (tg := .nm 7) (tt := evC Gway []) (te := evE Gway (.call 1 (.idx (.loc 7) (.int 2)) [(.loc 3)])) (en := [some (.v (netK ws lg)), some (.v (.str s)), some (.v (.str v)), some (.v (.int (x : Nat))), some (.v (.tp .k (ws.map D.str))), some (.v (.tup (lg.map legD))), none, none, none, none, none])
    clear this
    have key : ∀ L : List LgF, (∀ l ∈ L, FoB l.2.2) → compV (.nm 7) (evC Gway []) (evE Gway (.call 1 (.idx (.loc 7) (.int 2)) [(.loc 3)])) [some (.v (netK ws lg)), some (.v (.str s)), some (.v (.str v)), some (.v (.int (x : Nat))), some (.v (.tp .k (ws.map D.str))), some (.v (.tup (lg.map legD))), none, none, none, none, none] (L.map legD) S = .ok (prL L x) S := by
      intro L
      induction L with
      | nil => intro _; rfl
      | cons l L ih =>
        intro h
        have x2 : ∀ S, ixW S (.v (legD l)) (.v (.int 2)) = some (.v (foD l.2.2)) := fun S => ix_tp (i := 2) rfl
        rw [List.map_cons]
        conv => lhs; unfold compV
        simp only [bindV_nm, setV2_0, setV2_s, evC_1, Rs.bind_ok, evE_19, evE_16, evE_1, evE_4, evL_1, evL_2, getV_0, getV_s, lft_some, x2, wc1, List.length_cons, List.length_nil, Nat.zero_add, Nat.reduceAdd, if_true, v_value_at (h l (by simp)) hx, ih fun m hm => h m (List.mem_cons_of_mem _ hm)]
        rfl
    exact key lg b.fo
  have s2 : evS Gway (.asg (.nm 6) (.call 0 (.loc 0) [(.loc 1), (.comp false (.call 1 (.idx (.loc 7) (.int 2)) [(.loc 3)]) (.nm 7) .seq [(.loc 5)] [] [("leg", 7)])])) [some (.v (netK ws lg)), some (.v (.str s)), some (.v (.str v)), some (.v (.int (x : Nat))), some (.v (.tp .k (ws.map D.str))), some (.v (.tup (lg.map legD))), none, none, none, none, none] S = .ok (.nx [some (.v (netK ws lg)), some (.v (.str s)), some (.v (.str v)), some (.v (.int (x : Nat))), some (.v (.tp .k (ws.map D.str))), some (.v (.tup (lg.map legD))), some (.v (.lst (ws.map (rowD (elE lg x) ws s)))), none, none, none, none]) (S ++ J) := by
    rw [evS_1]
    simp only [evE_19, evE_23, evE_1, evL_1, evL_2, getV_0, getV_s, lft_some, Rs.bind_ok, itW_tp, wipeV_cons, wipeV_nil, wipeV1_0, wipeV1_s, List.map_cons, List.map_nil, c, calm_ok, compR_ok, wc0, List.length_cons, List.length_nil, Nat.zero_add, Nat.reduceAdd, if_true, e, bindV_nm, setV2_0, setV2_s]
  have tst : ∀ t : Bool, veq (rowD (elE lg x) ws s v) noWay = some (.bl t) → evT Gway (.cmp .eq (.idx (.loc 6) (.mth .indexT (.loc 4) (.loc 2) [])) (.glo 0)) [some (.v (netK ws lg)), some (.v (.str s)), some (.v (.str v)), some (.v (.int (x : Nat))), some (.v (.tp .k (ws.map D.str))), some (.v (.tup (lg.map legD))), some (.v (.lst (ws.map (rowD (elE lg x) ws s)))), none, none, none, none] (S ++ J) = .ok t (S ++ J) := fun t ht => by
    have gl : cstV Gway 0 (S ++ J) = .ok (.v noWay) (S ++ J) := rfl
    have rn : ∀ S : Sto, rdW S (.v noWay) = some noWay := fun S => rfl
    simp only [evT_1, evE_16, evE_22, evE_1, evE_6, evL_1, getV_0, getV_s, lft_some, Rs.bind_ok, ty_ix, wj, x0, gl, co_eq, rd2_some' row_rd (rn _), ht]
  have hB : Bway = [.asg (.tp [4, 5]) (.loc 0), .asg (.nm 6) (.call 0 (.loc 0) [(.loc 1), (.comp false (.call 1 (.idx (.loc 7) (.int 2)) [(.loc 3)]) (.nm 7) .seq [(.loc 5)] [] [("leg", 7)])]), .ifs (.cmp .eq (.idx (.loc 6) (.mth .indexT (.loc 4) (.loc 2) [])) (.glo 0)) [.ret .non] [], .asg (.nm 8) (.lst true []), .asg (.nm 9) (.loc 2), .whl condW bodyW, .ret (.blt .tupT (.rev (.loc 8)) [])] := rfl
  have s1 : evS Gway (.asg (.tp [4, 5]) (.loc 0)) [some (.v (netK ws lg)), some (.v (.str s)), some (.v (.str v)), some (.v (.int (x : Nat))), none, none, none, none, none, none, none] S = .ok (.nx [some (.v (netK ws lg)), some (.v (.str s)), some (.v (.str v)), some (.v (.int (x : Nat))), some (.v (.tp .k (ws.map D.str))), some (.v (.tup (lg.map legD))), none, none, none, none, none]) S := by
    rw [evS_1]
    simp only [evE_1, getV_0, lft_some, Rs.bind_ok]
    rfl
  cases hk : kn (elE lg x) ws s v with
  | none =>
    refine ⟨J, .inl ⟨rfl, ?_⟩⟩
    rw [eway, hB]
    exact out_step s1 (out_step s2 (out_ret (if_tt (tst true (veq_row_none hk)) (rt_step (by rw [evS_6]; rfl)))))
  | some p =>
    have bp := kn_best g hk
    obtain ⟨r, pr, lr⟩ := pth_ex g p.2 v p.1 bp
    have n8 := b.n8
    have l8 : r.length < ws.length := by have := bp.le_n g; omega
    obtain ⟨o10, ew⟩ := loop_W (T := S ++ J) (w0 := .v (netK ws lg)) (w2 := .v (.str v)) (w3 := .v (.int (x : Nat))) (o7 := none) g pr [] none hv (by simp; omega)
    refine ⟨J ++ [some (.lst (iD r.reverse))], .inr ⟨r, pr, l8, ?_⟩⟩
    rw [eway, hB]
    refine out_step s1 (out_step s2 (out_step (if_ff (tst false (veq_row_some hk)) evSs_1) (out_step (e1 := [some (.v (netK ws lg)), some (.v (.str s)), some (.v (.str v)), some (.v (.int (x : Nat))), some (.v (.tp .k (ws.map D.str))), some (.v (.tup (lg.map legD))), some (.v (.lst (ws.map (rowD (elE lg x) ws s)))), none, some (.r (S ++ J).length), none, none]) (S1 := (S ++ J) ++ [some (.lst [])]) ?_ (out_step (e1 := [some (.v (netK ws lg)), some (.v (.str s)), some (.v (.str v)), some (.v (.int (x : Nat))), some (.v (.tp .k (ws.map D.str))), some (.v (.tup (lg.map legD))), some (.v (.lst (ws.map (rowD (elE lg x) ws s)))), none, some (.r (S ++ J).length), some (.v (.str v)), none]) (S1 := (S ++ J) ++ [some (.lst [])]) ?_ (out_step (by rw [evS_10]; exact ew) ?_)))))
    · rw [evS_1]
      simp only [evE_15, evL_1, Rs.bind_ok, plnW_nil, List.length_nil, sl_0, if_true, newW_eq, bindV_nm, setV2_0, setV2_s]
    · rw [evS_1]
      simp only [evE_1, getV_0, getV_s, lft_some, Rs.bind_ok, bindV_nm, setV2_0, setV2_s]
    · rw [← List.append_assoc]
      refine out_ret ?_
      have rd : rdW ((S ++ J) ++ [some (.lst (iD r.reverse))]) (.r (S ++ J).length) = some (.lst (iD r.reverse)) := rdW_mid (J := [])
      rw [evS_6, List.nil_append]
      simp only [evE_20, evE_18, evE_1, evL_1, getV_0, getV_s, lft_some, Rs.bind_ok, rd1_some' rd, lfv_some]
      show Rs.ok (Oc.rt (W.v (.tup (iD r.reverse).reverse))) _ = _
      congr 4
      unfold iD
      rw [List.map_reverse, List.reverse_reverse]
end K85

/-! k85: the law's offices (turned from k82's) -/
namespace K85
open PySem PySem.Spec PyProof.Rows L2 Z CM
theorem bt_tupK {S : Sto} {w : W} : Bt.tupK.wo S [w] = lfv S (rd1 S w vtupK) := rfl
theorem tupK_lst {ds : List D} : vtupK (.lst ds) = some (.tp .k ds) := rfl
def bodyO : List Sx := [.asg (.nm 4) (.bin .add (.lst false [(.call 0 (.loc 0) [])]) (.comp false (.bin .add (.str "q") (.loc 5)) (.nm 5) .seq [(.str "abcdefghijklmnopqrstuvwxyz")] [] [("letter", 5)])), .expr (.mth .append (.loc 2) (.idx (.comp false (.loc 6) (.nm 6) .seq [(.loc 4)] [(.cmp .notin (.loc 6) (.loc 2))] [("name", 6)]) (.int 0)) [])]
theorem turn_O (J : Sto) {w1 : W} {o3 o4 o5 o6 : Option W} (s : Stt) {fs : List Str} (hf : ∀ x ∈ fs, lowS x = true) (hl : fs.length < 20) : ∃ (y : Str) (s' : Stt) (o4' o5' o6' : Option W), y ∉ fs ∧ lowS y = true ∧
    evSs G_law_offices bodyO [some (.r 0), some w1, some (.r (J.length + 1)), o3, o4, o5, o6] (SS s (J ++ [some (.lst (fs.map D.str))])) = .ok (.nx [some (.r 0), some w1, some (.r (J.length + 1)), o3, o4', o5', o6']) (SS s' (J ++ [some (.lst ((fs ++ [y]).map D.str))])) := by
  obtain ⟨x, s1, x1, hx⟩ := v_law_name s (J ++ [some (.lst (fs.map D.str))])
  have fo : ∀ z ∈ fs, okS z := fun z hz => low_ok (hf z hz)
  have hal : ∀ z ∈ x :: qL, lowS z = true := fun z hz => by
    rcases List.mem_cons.mp hz with e | hz
    · rw [e]; exact x1
    · exact qL_low z hz
  obtain ⟨y, r, hy⟩ : ∃ y r, (x :: qL).filter (fun z => !decide (z ∈ fs)) = y :: r := by
    cases q : (x :: qL).filter (fun z => !decide (z ∈ fs)) with
    | cons y r => exact ⟨y, r, rfl⟩
    | nil =>
      have : ∀ z ∈ qL, z ∈ fs := fun z hz => by
        have := List.filter_eq_nil_iff.mp q z (List.mem_cons_of_mem _ hz)
        simpa using this
      have := nodup_le qL_nd this
      rw [qL_len] at this
      omega
  have ym : y ∈ (x :: qL).filter (fun z => !decide (z ∈ fs)) := by rw [hy]; simp
  obtain ⟨ym1, ym2⟩ := List.mem_filter.mp ym
  refine ⟨y, s1, some (.v (lns (x :: qL))), o5, o6, by simpa using ym2, hal y ym1, ?_⟩
  have cf : ∀ r, callV G_law_offices 0 r = r.bind fun ws S => if ws.length = 1 then F_law_name ws S else .no := fun r => by unfold G_law_offices; rfl
  have it : itW .seq [.v (.str "abcdefghijklmnopqrstuvwxyz")] = some (charsD abc) := it_str (x := abc) (by decide +kernel)
  have c1 : ∀ (en : WEn) (S : Sto) (G : GV), (∀ d, getV (setV2 en 5 d) 5 = some d) → compV (.nm 5) (evC G []) (evE G (.bin .add (.str "q") (.loc 5))) en (charsD abc) S = .ok (qL.map D.str) S := fun en S G he => by
    rw [compV_map qf (charsD abc) (fun d hd => by
      obtain ⟨c, hc, rfl⟩ := List.mem_map.mp hd
      refine ⟨_, rfl, rfl, ?_⟩
      have : vadd (.str "q") (.str ⟨#[c]⟩) = some (.str ("q" ++ ⟨#[c]⟩)) := vadd_str (by show _ + 1 ≤ _; decide +kernel)
      simp [he, this, qf]), qf_map]
  have ad : vadd (.lst [.str x]) (.lst (qL.map D.str)) = some (lns (x :: qL)) :=
    vadd_lst (a := [.str x]) (by rw [List.length_map, qL_len]; show 1 + 26 ≤ sizeLine; decide)
  have rd : ∀ s, rdW (SS s (J ++ [some (.lst (fs.map D.str))])) (.r (J.length + 1)) = some (.lst (fs.map D.str)) := fun s => by
    show (match getS _ _ with | some (.lst ds) => some (D.lst ds) | _ => none) = _
    rw [getS_SS]
  have c2 : ∀ (en : WEn) (s : Stt) (G : GV), (∀ d, getV (setV2 en 6 d) 6 = some d) → (∀ d, getV (setV2 en 6 d) 2 = some (.r (J.length + 1))) → compV (.nm 6) (evC G [.cmp .notin (.loc 6) (.loc 2)]) (evE G (.loc 6)) en ((x :: qL).map D.str) (SS s (J ++ [some (.lst (fs.map D.str))])) = .ok ((y :: r).map D.str) (SS s (J ++ [some (.lst (fs.map D.str))])) := fun en s G h1 h2 => by
    rw [compV_fm (freeB fs) (fun d => d) ((x :: qL).map D.str) (fun d hd => by
      obtain ⟨z, hz, rfl⟩ := List.mem_map.mp hd
      refine ⟨_, rfl, ?_, fun _ => ?_⟩
      · simp [h1, h2, nin_str fo (low_ok (hal z hz)) (rd s), freeB]
      · simp [h1])]
    congr 1
    rw [List.map_id', ← hy, List.filter_map]
    rfl
  have ix : ∀ S, ixW S (.v (.lst ((y :: r).map D.str))) (.v (.int 0)) = some (.v (.str y)) := fun S => ix_lst (i := 0) rfl
  have ap : Mt.append.wo (SS s1 (J ++ [some (.lst (fs.map D.str))])) (.r (J.length + 1)) [.v (.str y)] = .ok (.v .non) (SS s1 (J ++ [some (.lst ((fs ++ [y]).map D.str))])) := by
    rw [wo_append getS_SS (by rw [List.length_map]; have := sl1000; omega), setS_SS, List.map_append]; rfl
  have ty : tyW .append (SS s1 (J ++ [some (.lst (fs.map D.str))])) (.r (J.length + 1)) = true := tyW_app getS_SS
  unfold bodyO
  simp only [evSs_2, evSs_1, evS_1, evS_5, evE_5, evE_7, evE_4, evE_15, evE_19, evE_1, evE_23, evE_22, evE_16, evL_1, evL_2, getV_0, getV_s, lft_some, Rs.bind_ok, cf, List.length_cons, List.length_nil, Nat.zero_add, if_true, hx, plnW_cons, plnW_nil, sl_1, it, List.map_cons, List.map_nil, wipeV_nil, wipeV_cons, wipeV1_0, wipeV1_s]
  rw [c1 _ _ _ (fun d => rfl)]
  simp only [calm_ok, compR_ok, Rs.bind_ok, rd2_some' rdW_lst rdW_lst, bo_add, ad, lfv_some, bindV_nm, setV2_0, setV2_s, getV_0, getV_s, lft_some, ty, itW_lns]
  rw [c2 _ _ _ (fun d => rfl) (fun d => rfl)]
  simp only [calm_ok, compR_ok, Rs.bind_ok, ix, lft_some, ap]
theorem loop_O (J : Sto) {w1 : W} : ∀ (items : List D) (s : Stt) (fs : List Str) (o3 o4 o5 o6 : Option W), (∀ x ∈ fs, lowS x = true) → fs.Nodup → fs.length + items.length ≤ 20 → ∃ (fs' : List Str) (s' : Stt) (o3' o4' o5' o6' : Option W), (∀ x ∈ fs', lowS x = true) ∧ fs'.Nodup ∧ fs'.length = fs.length + items.length ∧
    turnsV (.nm 3) (evSs G_law_offices bodyO) items [some (.r 0), some w1, some (.r (J.length + 1)), o3, o4, o5, o6] (SS s (J ++ [some (.lst (fs.map D.str))])) = .ok (.nx [some (.r 0), some w1, some (.r (J.length + 1)), o3', o4', o5', o6']) (SS s' (J ++ [some (.lst (fs'.map D.str))]))
  | [], s, fs, o3, o4, o5, o6, h1, h2, _ => ⟨fs, s, o3, o4, o5, o6, h1, h2, rfl, rfl⟩
  | x :: r, s, fs, o3, o4, o5, o6, h1, h2, hl => by
    rw [List.length_cons] at hl
    obtain ⟨y, s1, p4, p5, p6, y1, y2, e⟩ := turn_O J (w1 := w1) (o3 := some (.v x)) (o4 := o4) (o5 := o5) (o6 := o6) s h1 (by omega)
    obtain ⟨fs', s', q3, q4, q5, q6, z1, z2, z3, e2⟩ := loop_O J (w1 := w1) r s1 (fs ++ [y]) (some (.v x)) p4 p5 p6 (fun z hz => by
      rcases List.mem_append.mp hz with hz | hz
      · exact h1 z hz
      · rw [List.mem_singleton.mp hz]; exact y2) (by
      rw [List.nodup_append]
      exact ⟨h2, by simp, fun a ha b hb => by rw [List.mem_singleton.mp hb]; exact fun e => y1 (e ▸ ha)⟩) (by rw [List.length_append]; simp; omega)
    refine ⟨fs', s', q3, q4, q5, q6, z1, z2, by rw [z3, List.length_append]; simp; omega, ?_⟩
    conv => lhs; unfold turnsV
    simp only [bindV_nm, setV2_0, setV2_s, e, Rs.bind_ok, e2]
theorem v_law_offices (s : Stt) (J : Sto) {n : Nat} (hn : n ≤ 20) : ∃ (ws : List Str) (s' : Stt) (K : Sto), Off ws ∧ ws.length = n ∧ F_law_offices [.r 0, .v (.int n)] (SS s J) = .ok (.v (.tp .k (ws.map D.str))) (SS s' (J ++ K)) := by
  rw [e_law_offices]
  have hB : B_law_offices = [.asg (.nm 2) (.lst true []), .fors (.nm 3) .rng1 [(.loc 1)] bodyO, .ret (.blt .tupK (.blt .srt (.loc 2) []) [])] := rfl
  obtain ⟨fs, s1, o3, o4, o5, o6, f1, f2, f3, e⟩ := loop_O J (w1 := .v (.int n)) (rngD 0 n) s [] none none none none (by simp) (by simp) (by rw [rng_len]; simpa using hn)
  rw [rng_len] at f3
  obtain ⟨ws, w1, w2, w3⟩ := off_sort f1 f2
  refine ⟨ws, s1, [some (.lst (fs.map D.str))], w1, by rw [w2, f3]; simp, ?_⟩
  have e' : turnsV (.nm 3) (evSs G_law_offices bodyO) (rngD 0 n) [some (.r 0), some (.v (.int n)), some (.r (J.length + 1)), none, none, none, none] (SS s J ++ [some (.lst [])]) = _ := e
  have it : itW .rng1 [.v (.int n)] = some (rngD 0 n) := it_rng (by omega) (by omega)
  have rd : rdW (SS s1 (J ++ [some (.lst (fs.map D.str))])) (.r (J.length + 1)) = some (.lst (fs.map D.str)) := by
    show (match getS _ _ with | some (.lst ds) => some (D.lst ds) | _ => none) = _
    rw [getS_SS]
  rw [hB]
  simp only [evSs_2, evSs_1, evS_1, evS_9, evS_6, evE_15, evE_20, evE_1, evL_1, evL_2, getV_0, getV_s, lft_some, Rs.bind_ok, plnW_nil, List.length_nil, sl_0, if_true, newW_eq, SS_len, bindV_nm, setV2_0, setV2_s, it, e', bt_srt, bt_tupK, rd1_some' rd, vsrt_str, lfv_some, rd1_some' rdW_lst, tupK_lst, w3, out_rt]
end K85

/-! k85: the law's numbers and forms -/
namespace K85
open PySem PySem.Spec PyProof.Rows L2 Z CM
theorem fc0 (r : Rs (List W)) : callV G_law_far 0 r = r.bind fun ws S => if ws.length = 2 then F_law_draw ws S else .no := by unfold G_law_far; rfl
def bodyFar : List Sx := [.asg (.nm 1) (.bin .add (.bin .mul (.loc 1) (.int 1009)) (.call 0 (.loc 0) [(.int 1000)]))]
theorem mo9 {i : Int} : mulOk i 1009 = true := mulOk_r (by decide +kernel)
theorem vm9 {i : Int} : vmul (.int i) (.int 1009) = some (.int (i * 1009)) := if_pos mo9
theorem loop_far (J : Sto) : ∀ (items : List D) (s : Stt) (n : Nat) (o2 : Option W), ∃ (m : Nat) (s' : Stt) (o2' : Option W), (m < (n + 1) * 1009 ^ items.length) ∧
    turnsV (.nm 2) (evSs G_law_far bodyFar) items [some (.r 0), some (.v (.int (n : Nat))), o2] (SS s J) = .ok (.nx [some (.r 0), some (.v (.int (m : Nat))), o2']) (SS s' J)
  | [], s, n, o2 => ⟨n, s, o2, by simp, rfl⟩
  | d :: r, s, n, o2 => by
    obtain ⟨a, s1, a0, a1, ha⟩ := v_draw s J (lim := 1000) (by omega) (by omega)
    obtain ⟨k, rfl⟩ : ∃ k : Nat, a = k := ⟨a.toNat, by omega⟩
    obtain ⟨m, s', o, hm, e⟩ := loop_far J r s1 (n * 1009 + k) (some (.v d))
    refine ⟨m, s', o, ?_, ?_⟩
    · have h : n * 1009 + k + 1 ≤ (n + 1) * 1009 := by omega
      have := Nat.mul_le_mul_right (1009 ^ r.length) h
      rw [List.length_cons, Nat.pow_succ, Nat.mul_comm (1009 ^ r.length), ← Nat.mul_assoc]
      omega
    · conv => lhs; unfold turnsV
      have ad : vadd (.int ((n : Nat) * 1009)) (.int (k : Nat)) = some (.int ((n * 1009 + k : Nat) : Int)) := by
        rw [vadd_int]; congr 2
      have st : evSs G_law_far bodyFar [some (.r 0), some (.v (.int (n : Nat))), some (.v d)] (SS s J) = .ok (.nx [some (.r 0), some (.v (.int ((n * 1009 + k : Nat) : Int))), some (.v d)]) (SS s1 J) := by
        unfold bodyFar
        simp only [evSs_2, evSs_1, evS_1, evE_7, evE_19, evE_1, evE_4, evL_1, evL_2, getV_0, getV_s, lft_some, Rs.bind_ok, fc0, List.length_cons, List.length_nil, Nat.zero_add, Nat.reduceAdd, if_true, rd2_some' rdW_i rdW_i, bo_mul, bo_add, vm9, ha, ad, lfv_some, bindV_nm, setV2_0, setV2_s]
      simp only [bindV_nm, setV2_0, setV2_s, st, Rs.bind_ok, e]
theorem v_far (s : Stt) (J : Sto) : ∃ (n : Nat) (s' : Stt), n < 2 ^ 100 ∧ F_law_far [.r 0] (SS s J) = .ok (.v (.int (n : Nat))) (SS s' J) := by
  obtain ⟨a, s1, a0, a1, ha⟩ := v_draw s J (lim := 1000) (by omega) (by omega)
  obtain ⟨k, rfl⟩ : ∃ k : Nat, a = k := ⟨a.toNat, by omega⟩
  obtain ⟨b, s2, b0, b1, hb⟩ := v_draw s1 J (lim := 9) (by omega) (by omega)
  obtain ⟨m, s3, o, hm, e⟩ := loop_far J (rngD 0 b.toNat) s2 k none
  rw [rng_len] at hm
  refine ⟨m, s3, ?_, ?_⟩
  · have h1 : 1009 ^ b.toNat ≤ 1009 ^ 8 := Nat.pow_le_pow_right (by omega) (by omega)
    have h2 := Nat.mul_le_mul (show k + 1 ≤ 1000 by omega) h1
    have h3 : 1000 * 1009 ^ 8 < 2 ^ 100 := by decide +kernel
    omega
  · have ir : itW .rng1 [.v (.int b)] = some (rngD 0 b.toNat) := it_rng b0 (by omega)
    rw [e_law_far]
    have hB : B_law_far = [.asg (.nm 1) (.call 0 (.loc 0) [(.int 1000)]), .fors (.nm 2) .rng1 [(.call 0 (.loc 0) [(.int 9)])] bodyFar, .ret (.loc 1)] := rfl
    rw [hB]
    refine out_step (e1 := [some (.r 0), some (.v (.int (k : Nat))), none]) (S1 := SS s1 J) ?_ (out_step (e1 := [some (.r 0), some (.v (.int (m : Nat))), o]) (S1 := SS s3 J) ?_ (out_ret ?_))
    · simp only [evS_1, evE_19, evE_1, evE_4, evL_1, evL_2, getV_0, getV_s, lft_some, Rs.bind_ok, fc0, List.length_cons, List.length_nil, Nat.zero_add, Nat.reduceAdd, if_true, ha, bindV_nm, setV2_0, setV2_s]
    · simp only [evS_9, evE_19, evE_1, evE_4, evL_1, evL_2, getV_0, getV_s, lft_some, Rs.bind_ok, fc0, List.length_cons, List.length_nil, Nat.zero_add, Nat.reduceAdd, if_true, hb, ir, e]
    · simp only [evS_6, evE_1, getV_0, getV_s, lft_some, Rs.bind_ok]
theorem ac0 (r : Rs (List W)) : callV G_law_any_number 0 r = r.bind fun ws S => if ws.length = 2 then F_law_draw ws S else .no := by unfold G_law_any_number; rfl
theorem v_any_number (s : Stt) (J : Sto) : ∃ (i : Int) (s' : Stt), 0 ≤ i ∧ i < 2 ^ 200 ∧ F_law_any_number [.r 0] (SS s J) = .ok (.v (.int i)) (SS s' J) := by
  obtain ⟨a, s1, a0, a1, ha⟩ := v_draw s J (lim := 5) (by omega) (by omega)
  rw [e_law_any_number]
  unfold B_law_any_number
  by_cases q : a = 4
  · subst q
    obtain ⟨b, s2, b0, b1, hb⟩ := v_draw s1 J (lim := 1000) (by omega) (by omega)
    obtain ⟨c, s3, c0, c1, hc⟩ := v_draw s2 J (lim := 1000) (by omega) (by omega)
    obtain ⟨P, pp, p0, p1⟩ : ∃ P : Int, vpow (.int 10) (.int 24) = some (.int P) ∧ 0 ≤ P ∧ P < 2 ^ 100 := ⟨10 ^ 24, rfl, by decide, by decide +kernel⟩
    have mu : vmul (.int b) (.int P) = some (.int (b * P)) := if_pos (mulOk_l (PySem.intBits_le_iff.mpr (by omega)))
    refine ⟨b * P + c, s3, ?_, ?_, out_ret (if_tt (S1 := SS s1 J) ?_ (rt_step ?_))⟩
    · have := Int.mul_nonneg b0 p0; omega
    · have h1 : b * P ≤ 1000 * P := Int.mul_le_mul_of_nonneg_right (by omega) p0
      omega
    · simp only [evT_1, evE_19, evE_1, evE_4, evL_1, evL_2, getV_0, getV_s, lft_some, Rs.bind_ok, ac0, List.length_cons, List.length_nil, Nat.zero_add, Nat.reduceAdd, if_true, ha, co_eq, rd2_some' rdW_i rdW_i, veq_int, decide_true]
    · simp only [evS_6, evE_7, evE_19, evE_1, evE_4, evL_1, evL_2, getV_0, getV_s, lft_some, Rs.bind_ok, ac0, List.length_cons, List.length_nil, Nat.zero_add, Nat.reduceAdd, if_true, hb, hc, rd2_some' rdW_i rdW_i, bo_mul, bo_add, bo_pow, pp, mu, vadd_int, lfv_some]
  · obtain ⟨b, s2, b0, b1, hb⟩ := v_draw s1 J (lim := 12) (by omega) (by omega)
    refine ⟨b, s2, b0, by omega, out_step (if_ff (S1 := SS s1 J) ?_ evSs_1) (out_ret ?_)⟩
    · simp only [evT_1, evE_19, evE_1, evE_4, evL_1, evL_2, getV_0, getV_s, lft_some, Rs.bind_ok, ac0, List.length_cons, List.length_nil, Nat.zero_add, Nat.reduceAdd, if_true, ha, co_eq, rd2_some' rdW_i rdW_i, veq_int, decide_eq_false q]
    · simp only [evS_6, evE_19, evE_1, evE_4, evL_1, evL_2, getV_0, getV_s, lft_some, Rs.bind_ok, ac0, List.length_cons, List.length_nil, Nat.zero_add, Nat.reduceAdd, if_true, hb]
theorem gc0 (r : Rs (List W)) : callV G_law_any_form 0 r = r.bind fun ws S => if ws.length = 2 then F_law_draw ws S else .no := by unfold G_law_any_form; rfl
theorem gc1 (r : Rs (List W)) : callV G_law_any_form 1 r = r.bind fun ws S => if ws.length = 1 then F_law_any_number ws S else .no := by unfold G_law_any_form; rfl
/-- a right pair of a tail -/
structure PB (p : Option Int × Int) : Prop where
  h1 : ∀ i, p.1 = some i → 0 ≤ i
  h2 : 0 ≤ p.2
  h3 : p.2 < 2 ^ 200
theorem ix3 {S : Sto} {x y z : D} {q : Int} (h0 : 0 ≤ q) (h : q < 3) : ixW S (.v (.lst [x, y, z])) (.v (.int q)) = some (.v (if q = 0 then x else if q = 1 then y else z)) := by
  obtain rfl | rfl | rfl : q = 0 ∨ q = 1 ∨ q = 2 := by omega
  · rfl
  · rfl
  · rfl
def bodyF : List Sx := [.asg (.nm 4) (.tup [(.call 1 (.loc 0) []), (.idx (.lst false [(.int 0), (.int 1), (.call 1 (.loc 0) [])]) (.call 0 (.loc 0) [(.int 3)]))]), .expr (.mth .append (.loc 3) (.idx (.lst false [(.loc 4), (.tup [.non, (.int 0)])]) (.blt .int (.cmp .eq (.call 0 (.loc 0) [(.int 6)]) (.int 5)) [])) [])]
theorem turn_F (J : Sto) {w1 : W} {o2 o4 : Option W} (s : Stt) {ts : List (Option Int × Int)} (hl : ts.length < 100) : ∃ (p : Option Int × Int) (s' : Stt) (o4' : Option W), PB p ∧
    evSs G_law_any_form bodyF [some (.r 0), some w1, o2, some (.r (J.length + 1)), o4] (SS s (J ++ [some (.lst (ts.map hpD))])) = .ok (.nx [some (.r 0), some w1, o2, some (.r (J.length + 1)), o4']) (SS s' (J ++ [some (.lst ((ts ++ [p]).map hpD))])) := by
  obtain ⟨a, s1, a0, a1, ha⟩ := v_any_number s (J ++ [some (.lst (ts.map hpD))])
  obtain ⟨b, s2, b0, b1, hb⟩ := v_any_number s1 (J ++ [some (.lst (ts.map hpD))])
  obtain ⟨c, s3, c0, c1, hc⟩ := v_draw s2 (J ++ [some (.lst (ts.map hpD))]) (lim := 3) (by omega) (by omega)
  obtain ⟨d, s4, d0, d1, hd⟩ := v_draw s3 (J ++ [some (.lst (ts.map hpD))]) (lim := 6) (by omega) (by omega)
  obtain ⟨st, st0, st1, hst⟩ : ∃ st : Int, 0 ≤ st ∧ st < 2 ^ 200 ∧ (if c = 0 then D.int 0 else if c = 1 then D.int 1 else D.int b) = D.int st := by
    by_cases q0 : c = 0
    · exact ⟨0, by omega, by omega, if_pos q0⟩
    · by_cases q1 : c = 1
      · exact ⟨1, by omega, by omega, by rw [if_neg q0, if_pos q1]⟩
      · exact ⟨b, b0, b1, by rw [if_neg q0, if_neg q1]⟩
  obtain ⟨p, pb, hp⟩ : ∃ p, PB p ∧ (if decide (d = 5) = true then D.tup [.non, .int 0] else D.tup [.int a, .int st]) = hpD p := by
    by_cases q : d = 5
    · exact ⟨(none, 0), ⟨fun i h => (by cases h), by decide, by decide +kernel⟩, by rw [if_pos (decide_eq_true q)]; rfl⟩
    · exact ⟨(some a, st), ⟨fun i h => by cases h; exact a0, st0, st1⟩, by rw [if_neg (by simpa using q)]; rfl⟩
  have x1 : ∀ S, ixW S (.v (.lst [.int 0, .int 1, .int b])) (.v (.int c)) = some (.v (.int st)) := fun S => by rw [ix3 c0 c1, hst]
  have x2 : ∀ S, ixW S (.v (.lst [.tup [.int a, .int st], .tup [.non, .int 0]])) (.v (.int (if decide (d = 5) = true then 1 else 0))) = some (.v (hpD p)) := fun S => by rw [ix01, hp]
  have ap : Mt.append.wo (SS s4 (J ++ [some (.lst (ts.map hpD))])) (.r (J.length + 1)) [.v (hpD p)] = .ok (.v .non) (SS s4 (J ++ [some (.lst ((ts ++ [p]).map hpD))])) := by
    have := app_mid (s := s4) (J := J) (K := []) (ds := ts.map hpD) (x := hpD p) (by rw [List.length_map]; omega)
    rw [this, List.map_append]; rfl
  have ty : ∀ s, tyW .append (SS s (J ++ [some (.lst (ts.map hpD))])) (.r (J.length + 1)) = true := fun s => ty_mid (K := [])
  refine ⟨p, s4, some (.v (.tup [.int a, .int st])), pb, ?_⟩
  unfold bodyF
  refine nx_step (e1 := [some (.r 0), some w1, o2, some (.r (J.length + 1)), some (.v (.tup [.int a, .int st]))]) (S1 := SS s3 (J ++ [some (.lst (ts.map hpD))])) ?_ (nx_step ?_ evSs_1)
  · simp only [evS_1, evE_14, evE_15, evE_16, evE_19, evE_1, evE_4, evL_1, evL_2, getV_0, getV_s, lft_some, Rs.bind_ok, gc0, gc1, List.length_cons, List.length_nil, Nat.zero_add, Nat.reduceAdd, if_true, ha, hb, hc, plnW_cons, plnW_nil, sl_2, sl_3, x1, bindV_nm, setV2_0, setV2_s]
  · simp only [evS_5, evE_22, evE_14, evE_15, evE_16, evE_20, evE_9, evE_19, evE_1, evE_2, evE_4, evL_1, evL_2, getV_0, getV_s, lft_some, Rs.bind_ok, gc0, List.length_cons, List.length_nil, Nat.zero_add, Nat.reduceAdd, if_true, hd, plnW_cons, plnW_nil, sl_2, ty, co_eq, rd2_some' rdW_i rdW_i, veq_int, lfv_some, bt_int, rd1_some' rdW_bl, int_bl, x2, ap]
theorem loop_F (J : Sto) {w1 : W} : ∀ (items : List D) (s : Stt) (ts : List (Option Int × Int)) (o2 o4 : Option W), (∀ p ∈ ts, PB p) → ts.length + items.length ≤ 100 → ∃ (ts' : List (Option Int × Int)) (s' : Stt) (o2' o4' : Option W), (∀ p ∈ ts', PB p) ∧ ts'.length = ts.length + items.length ∧
    turnsV (.nm 2) (evSs G_law_any_form bodyF) items [some (.r 0), some w1, o2, some (.r (J.length + 1)), o4] (SS s (J ++ [some (.lst (ts.map hpD))])) = .ok (.nx [some (.r 0), some w1, o2', some (.r (J.length + 1)), o4']) (SS s' (J ++ [some (.lst (ts'.map hpD))]))
  | [], s, ts, o2, o4, h1, _ => ⟨ts, s, o2, o4, h1, rfl, rfl⟩
  | x :: r, s, ts, o2, o4, h1, hl => by
    rw [List.length_cons] at hl
    obtain ⟨p, s1, p4, pb, e⟩ := turn_F J (w1 := w1) (o2 := some (.v x)) (o4 := o4) s (ts := ts) (by omega)
    obtain ⟨ts', s', q2, q4, z1, z2, e2⟩ := loop_F J (w1 := w1) r s1 (ts ++ [p]) (some (.v x)) p4 (fun z hz => by
      rcases List.mem_append.mp hz with hz | hz
      · exact h1 z hz
      · rw [List.mem_singleton.mp hz]; exact pb) (by rw [List.length_append]; simp; omega)
    refine ⟨ts', s', q2, q4, z1, by rw [z2, List.length_append]; simp; omega, ?_⟩
    conv => lhs; unfold turnsV
    simp only [bindV_nm, setV2_0, setV2_s, e, Rs.bind_ok, e2]
theorem v_any_form (s : Stt) (J : Sto) : ∃ (f : Fo) (s' : Stt) (K : Sto), FoB f ∧ F_law_any_form [.r 0] (SS s J) = .ok (.v (foD f)) (SS s' (J ++ K)) := by
  obtain ⟨a, s1, a0, a1, ha⟩ := v_draw s J (lim := 4) (by omega) (by omega)
  have ra : itW .rng1 [.v (.int a)] = some (rngD 0 a.toNat) := it_rng a0 (by omega)
  obtain ⟨hs, s2, h1, h2, hh⟩ := comp_dr (G := G_law_any_form) (J := J) (tg := .nm 2) (te := evE G_law_any_form (.idx (.lst false [.non, (.call 1 (.loc 0) [])]) (.blt .int (.cmp .gt (.call 0 (.loc 0) [(.int 4)]) (.int 0)) []))) (en := [some (.r 0), none, none, none, none]) (P := fun d => ∃ o : Option Int, (∀ i, o = some i → 0 ≤ i) ∧ d = oD o) (rngD 0 a.toNat) s1 (fun x hx => by
    refine ⟨_, rfl, fun s => ?_⟩
    obtain ⟨b, s3, b0, b1, hb⟩ := v_any_number s J
    obtain ⟨c, s4, c0, c1, hc⟩ := v_draw s3 J (lim := 4) (by omega) (by omega)
    refine ⟨if decide (0 < c) = true then .int b else .non, s4, ?_, ?_⟩
    · by_cases q : decide (0 < c) = true
      · exact ⟨some b, fun i h => (by cases h; exact b0), if_pos q⟩
      · exact ⟨none, fun i h => (by cases h), if_neg q⟩
    · have vg : vgt (.int c) (.int 0) = some (.bl (decide (0 < c))) := rfl
      simp only [evE_14, evE_15, evE_16, evE_20, evE_9, evE_19, evE_1, evE_2, evE_4, evL_1, evL_2, getV_0, getV_s, setV2_0, setV2_s, lft_some, Rs.bind_ok, gc0, gc1, List.length_cons, List.length_nil, Nat.zero_add, Nat.reduceAdd, if_true, hb, hc, plnW_cons, plnW_nil, sl_2, co_gt, rd2_some' rdW_i rdW_i, vg, lfv_some, bt_int, rd1_some' rdW_bl, int_bl, ix01])
  obtain ⟨os, os1, os2⟩ := pull hs h1
  subst os1
  rw [rng_len, List.length_map] at h2
  obtain ⟨b, s3, b0, b1, hb⟩ := v_draw s2 (J ++ [some (.lst [])]) (lim := 5) (by omega) (by omega)
  have rb : itW .rng1 [.v (.int (1 + b))] = some (rngD 0 (1 + b).toNat) := it_rng (by omega) (by omega)
  obtain ⟨ts, s4, o2, o4, t1, t2, e⟩ := loop_F J (w1 := .v (.lst (os.map oD))) (rngD 0 (1 + b).toNat) s3 [] none none (by simp) (by rw [rng_len]; simp; omega)
  rw [rng_len] at t2
  have t2 : ts.length = (1 + b).toNat := by rw [t2]; simp
  refine ⟨(os, ts), s4, [some (.lst (ts.map hpD))], ⟨by show 1 ≤ ts.length; omega, by show ts.length ≤ 1000; omega, by show os.length ≤ 1000; omega, os2, fun p hp => ⟨(t1 p hp).h1, (t1 p hp).h2, (t1 p hp).h3⟩⟩, ?_⟩
  rw [e_law_any_form]
  have hB : B_law_any_form = [.asg (.nm 1) (.comp false (.idx (.lst false [.non, (.call 1 (.loc 0) [])]) (.blt .int (.cmp .gt (.call 0 (.loc 0) [(.int 4)]) (.int 0)) [])) (.nm 2) .rng1 [(.call 0 (.loc 0) [(.int 4)])] [] [("k", 2)]), .asg (.nm 3) (.lst true []), .fors (.nm 2) .rng1 [(.bin .add (.int 1) (.call 0 (.loc 0) [(.int 5)]))] bodyF, .ret (.tup [(.blt .tupT (.loc 1) []), (.blt .tupT (.loc 3) [])])] := rfl
  rw [hB]
  have hb' : F_law_draw [.r 0, .v (.int 5)] (SS s2 J ++ [some (.lst [])]) = .ok (.v (.int b)) (SS s3 (J ++ [some (.lst [])])) := hb
  have rd : rdW (SS s4 (J ++ [some (.lst (ts.map hpD))])) (.r (J.length + 1)) = some (.lst (ts.map hpD)) := by
    show (match getS _ _ with | some (.lst ds) => some (D.lst ds) | _ => none) = _
    rw [getS_SS]
  refine out_step (e1 := [some (.r 0), some (.v (.lst (os.map oD))), none, none, none]) (S1 := SS s2 J) ?_ (out_step (e1 := [some (.r 0), some (.v (.lst (os.map oD))), none, some (.r (J.length + 1)), none]) (S1 := SS s2 J ++ [some (.lst [])]) ?_ (out_step (e1 := [some (.r 0), some (.v (.lst (os.map oD))), o2, some (.r (J.length + 1)), o4]) (S1 := SS s4 (J ++ [some (.lst (ts.map hpD))])) ?_ (out_ret ?_)))
  · simp only [evS_1, evE_23, evE_19, evE_1, evE_4, evL_1, evL_2, getV_0, getV_s, lft_some, Rs.bind_ok, gc0, List.length_cons, List.length_nil, Nat.zero_add, Nat.reduceAdd, if_true, ha, ra, List.map_cons, List.map_nil, wipeV_nil, wipeV_cons, wipeV1_0, wipeV1_s, hh, calm_ok, compR_ok, bindV_nm, setV2_0, setV2_s]
  · simp only [evS_1, evE_15, evL_1, Rs.bind_ok, plnW_nil, List.length_nil, sl_0, if_true, newW_eq, SS_len, bindV_nm, setV2_0, setV2_s]
  · simp only [evS_9, evE_7, evE_19, evE_1, evE_4, evL_1, evL_2, getV_0, getV_s, lft_some, Rs.bind_ok, gc0, List.length_cons, List.length_nil, Nat.zero_add, Nat.reduceAdd, if_true, hb', rd2_some' rdW_i rdW_i, bo_add, vadd_int, lfv_some, rb]
    exact e
  · simp only [evS_6, evE_14, evE_20, evE_1, evL_1, evL_2, getV_0, getV_s, lft_some, Rs.bind_ok, bt_tupT, rd1_some' rdW_lst, rd1_some' rd, tup_lst, lfv_some, plnW_cons, plnW_nil, List.length_cons, List.length_nil, Nat.zero_add, Nat.reduceAdd, sl_2, if_true]
    rfl
end K85

/-! k85: the law's network (turned from k82's) -/
namespace K85
open PySem PySem.Spec PyProof.Rows L2 Z CM
def GFo (d : D) : Prop := ∃ f, FoB f ∧ d = foD f
def KLeg (ws : List Str) (d : D) : Prop := ∃ l : LgF, l.1 ∈ ws ∧ l.2.1 ∈ ws ∧ FoB l.2.2 ∧ d = legD l
theorem KLeg.t {ws : List Str} {l : D} (g : KLeg ws l) (o : Off ws) : legT l := by
  obtain ⟨l, h1, h2, _, rfl⟩ := g
  exact ⟨_, _, _, low_ok (o.low _ h1), low_ok (o.low _ h2), rfl⟩
theorem v_law_leg_form (s : Stt) (J : Sto) : ∃ (f : D) (s' : Stt) (K : Sto), GFo f ∧ F_law_any_form [.r 0] (SS s J) = .ok (.v f) (SS s' (J ++ K)) := by
  obtain ⟨f, s', K, b, e⟩ := v_any_form s J
  exact ⟨_, s', K, ⟨f, b, rfl⟩, e⟩
theorem nc0 {r : Rs (List W)} : callV G_law_network 0 r = r.bind fun ws S => if ws.length = 2 then F_law_offices ws S else .no := by unfold G_law_network; rfl
theorem nc1 {r : Rs (List W)} : callV G_law_network 1 r = r.bind fun ws S => if ws.length = 2 then F_law_draw ws S else .no := by unfold G_law_network; rfl
theorem nc2 {r : Rs (List W)} : callV G_law_network 2 r = r.bind fun ws S => if ws.length = 1 then F_law_any_form ws S else .no := by unfold G_law_network; rfl
theorem nc3 {r : Rs (List W)} : callV G_law_network 3 r = r.bind fun ws S => if ws.length = 1 then F_law_in_order ws S else .no := by unfold G_law_network; rfl
def bodyN2 : List Sx := [.asg (.nm 7) (.call 1 (.loc 0) [(.blt .len (.loc 3) [])]), .asg (.nm 8) (.bin .mod (.blt .int (.bin .add (.bin .add (.loc 7) (.int 1)) (.call 1 (.loc 0) [(.bin .sub (.blt .len (.loc 3) []) (.int 1))])) []) (.blt .len (.loc 3) [])), .asg (.nm 9) (.idx (.loc 4) (.call 1 (.loc 0) [(.blt .len (.loc 4) [])])), .ifs (.cmp .eq (.call 1 (.loc 0) [(.int 3)]) (.int 0))
    [.asg (.nm 9) (.call 2 (.loc 0) [])]
    [], .expr (.mth .append (.loc 6) (.tup [(.idx (.loc 3) (.loc 7)), (.idx (.loc 3) (.loc 8)), (.loc 9)]) [])]
theorem turn_N (J : Sto) {w1 w2 : W} {o5 o7 o8 o9 : Option W} {ws : List Str} {pool : List D} (o : Off ws) (h2 : 2 ≤ ws.length) (h8 : ws.length ≤ 8) (hp : ∀ d ∈ pool, GFo d) (hp1 : 1 ≤ pool.length) (hp2 : pool.length ≤ 100) (s : Stt) (K : Sto) {ls : List D} (hl : ls.length < 100) :
    ∃ (l : D) (s' : Stt) (K' : Sto) (o7' o8' o9' : Option W), KLeg ws l ∧
    evSs G_law_network bodyN2 [some (.r 0), some w1, some w2, some (.v (.tp .k (ws.map D.str))), some (.v (.lst pool)), o5, some (.r (J.length + 1)), o7, o8, o9] (SS s (J ++ some (.lst ls) :: K)) = .ok (.nx [some (.r 0), some w1, some w2, some (.v (.tp .k (ws.map D.str))), some (.v (.lst pool)), o5, some (.r (J.length + 1)), o7', o8', o9']) (SS s' (J ++ some (.lst (ls ++ [l])) :: K')) := by
  obtain ⟨a, s1, a1, a2, ha⟩ := v_draw s (J ++ some (.lst ls) :: K) (lim := ws.length) (by omega) (by omega)
  obtain ⟨b, s2, b1, b2, hb⟩ := v_draw s1 (J ++ some (.lst ls) :: K) (lim := (ws.length : Int) - 1) (by omega) (by omega)
  obtain ⟨c, s3, c1, c2, hc⟩ := v_draw s2 (J ++ some (.lst ls) :: K) (lim := pool.length) (by omega) (by omega)
  obtain ⟨d, s4, d1, d2, hd⟩ := v_draw s3 (J ++ some (.lst ls) :: K) (lim := 3) (by omega) (by omega)
  obtain ⟨g1, g2, g3⟩ := fm_other (n := ws.length) (by omega) a1 a2 b1 b2
  generalize hg : (a + 1 + b).fmod ws.length = g at g1 g2 g3
  obtain ⟨ka, rfl⟩ : ∃ k : Nat, a = k := ⟨a.toNat, by omega⟩
  obtain ⟨kg, rfl⟩ : ∃ k : Nat, g = k := ⟨g.toNat, by omega⟩
  obtain ⟨kc, rfl⟩ : ∃ k : Nat, c = k := ⟨c.toNat, by omega⟩
  have la : ka < ws.length := by omega
  have lg : kg < ws.length := by omega
  have lc : kc < pool.length := by omega
  have xa : ∀ S, ixW S (.v (.tp .k (ws.map D.str))) (.v (.int ((ka : Nat) : Int))) = some (.v (.str ws[ka])) := fun S => ix_tp (by rw [List.getElem?_map, List.getElem?_eq_getElem la]; rfl)
  have xg : ∀ S, ixW S (.v (.tp .k (ws.map D.str))) (.v (.int ((kg : Nat) : Int))) = some (.v (.str ws[kg])) := fun S => ix_tp (by rw [List.getElem?_map, List.getElem?_eq_getElem lg]; rfl)
  have xc : ∀ S, ixW S (.v (.lst pool)) (.v (.int ((kc : Nat) : Int))) = some (.v pool[kc]) := fun S => ix_lst (List.getElem?_eq_getElem lc)
  have md : vmod (.int ((ka : Nat) + 1 + b)) (.int ws.length) = some (.int ((kg : Nat) : Int)) := by
    show (if (ws.length : Int) ≠ 0 then some (D.int (((ka : Nat) + 1 + b : Int).fmod ws.length)) else none) = _
    rw [if_pos (by omega), hg]
  have hne : ws[ka] ≠ ws[kg] := fun e => by
    have := (List.getElem_inj o.nd).mp e
    omega
  have ln : ((ws.map D.str).length : Int) = ws.length := by rw [List.length_map]
  have key : ∃ (f : D) (s5 : Stt) (K' : Sto), GFo f ∧ evS G_law_network (.ifs (.cmp .eq (.call 1 (.loc 0) [(.int 3)]) (.int 0)) [.asg (.nm 9) (.call 2 (.loc 0) [])] []) [some (.r 0), some w1, some w2, some (.v (.tp .k (ws.map D.str))), some (.v (.lst pool)), o5, some (.r (J.length + 1)), some (.v (.int ((ka : Nat) : Int))), some (.v (.int ((kg : Nat) : Int))), some (.v pool[kc])] (SS s3 (J ++ some (.lst ls) :: K)) = .ok (.nx [some (.r 0), some w1, some w2, some (.v (.tp .k (ws.map D.str))), some (.v (.lst pool)), o5, some (.r (J.length + 1)), some (.v (.int ((ka : Nat) : Int))), some (.v (.int ((kg : Nat) : Int))), some (.v f)]) (SS s5 (J ++ some (.lst ls) :: K')) := by
    by_cases q : d = 0
    · subst q
      obtain ⟨f, s5, K', gf, hf⟩ := v_law_leg_form s4 (J ++ some (.lst ls) :: K)
      refine ⟨f, s5, K ++ K', gf, ?_⟩
      rw [List.append_assoc, List.cons_append] at hf
      simp only [evS_8, evT_1, evSs_2, evSs_1, evS_1, evE_4, evE_19, evE_1, evL_1, evL_2, getV_0, getV_s, lft_some, Rs.bind_ok, nc1, nc2, List.length_cons, List.length_nil, Nat.zero_add, Nat.reduceAdd, if_true, hd, co_eq, rd2_some' rdW_i rdW_i, veq_int, decide_true, hf, bindV_nm, setV2_0, setV2_s]
    · refine ⟨pool[kc], s4, K, hp _ (List.getElem_mem lc), ?_⟩
      simp only [evS_8, evT_1, evSs_2, evSs_1, evS_1, evE_4, evE_19, evE_1, evL_1, evL_2, getV_0, getV_s, lft_some, Rs.bind_ok, nc1, List.length_cons, List.length_nil, Nat.zero_add, Nat.reduceAdd, if_true, hd, co_eq, rd2_some' rdW_i rdW_i, veq_int, decide_eq_false q]
  obtain ⟨f, s5, K', gf, hk⟩ := key
  refine ⟨.tup [.str ws[ka], .str ws[kg], f], s5, K', some (.v (.int ((ka : Nat) : Int))), some (.v (.int ((kg : Nat) : Int))), some (.v f), (by obtain ⟨f0, hf0, rfl⟩ := gf; exact ⟨(ws[ka], ws[kg], f0), List.getElem_mem la, List.getElem_mem lg, hf0, rfl⟩), ?_⟩
  unfold bodyN2
  rw [evSs_2, evS_1]
  simp only [evE_19, evE_20, evE_1, evL_1, evL_2, getV_0, getV_s, lft_some, Rs.bind_ok, bt_len, rd1_some' rdW_tp, lenA_tp', ln, lfv_some, nc1, List.length_cons, List.length_nil, Nat.zero_add, Nat.reduceAdd, if_true, ha, bindV_nm, setV2_0, setV2_s]
  rw [evSs_2, evS_1]
  simp only [evE_19, evE_20, evE_1, evE_4, evE_7, evL_1, evL_2, getV_0, getV_s, lft_some, Rs.bind_ok, bt_len, bt_int, rd1_some' rdW_tp, rd1_some' rdW_i, int_int, lenA_tp', ln, lfv_some, nc1, List.length_cons, List.length_nil, Nat.zero_add, Nat.reduceAdd, if_true, rd2_some' rdW_i rdW_i, bo_add, bo_sub, bo_mod, vadd_int, vsub_int, hb, md, bindV_nm, setV2_0, setV2_s]
  rw [evSs_2, evS_1]
  simp only [evE_16, evE_19, evE_20, evE_1, evL_1, evL_2, getV_0, getV_s, lft_some, Rs.bind_ok, bt_len, rd1_some' rdW_lst, lenA_lst', lfv_some, nc1, List.length_cons, List.length_nil, Nat.zero_add, Nat.reduceAdd, if_true, hc, xc, bindV_nm, setV2_0, setV2_s]
  rw [evSs_2, hk]
  simp only [Rs.bind_ok]
  rw [evSs_2, evS_5]
  simp only [evE_22, evE_14, evE_16, evE_1, evL_1, evL_2, getV_0, getV_s, lft_some, Rs.bind_ok, ty_mid, xa, xg, plnW_cons, plnW_nil, List.length_cons, List.length_nil, Nat.zero_add, Nat.reduceAdd, sl_3, if_true, app_mid (show ls.length < 1000 by omega), evSs_1]
theorem loop_N2 (J : Sto) {w1 w2 : W} {ws : List Str} {pool : List D} (o : Off ws) (h2 : 2 ≤ ws.length) (h8 : ws.length ≤ 8) (hp : ∀ d ∈ pool, GFo d) (hp1 : 1 ≤ pool.length) (hp2 : pool.length ≤ 100) : ∀ (items : List D) (s : Stt) (K : Sto) (ls : List D) (o5 o7 o8 o9 : Option W), (∀ l ∈ ls, KLeg ws l) → ls.length + items.length ≤ 100 →
    ∃ (ls' : List D) (s' : Stt) (K' : Sto) (o5' o7' o8' o9' : Option W), (∀ l ∈ ls', KLeg ws l) ∧ ls'.length = ls.length + items.length ∧
    turnsV (.nm 5) (evSs G_law_network bodyN2) items [some (.r 0), some w1, some w2, some (.v (.tp .k (ws.map D.str))), some (.v (.lst pool)), o5, some (.r (J.length + 1)), o7, o8, o9] (SS s (J ++ some (.lst ls) :: K)) = .ok (.nx [some (.r 0), some w1, some w2, some (.v (.tp .k (ws.map D.str))), some (.v (.lst pool)), o5', some (.r (J.length + 1)), o7', o8', o9']) (SS s' (J ++ some (.lst ls') :: K'))
  | [], s, K, ls, o5, o7, o8, o9, h1, _ => ⟨ls, s, K, o5, o7, o8, o9, h1, rfl, rfl⟩
  | x :: r, s, K, ls, o5, o7, o8, o9, h1, hl => by
    rw [List.length_cons] at hl
    obtain ⟨l, s1, K1, p7, p8, p9, g, e⟩ := turn_N J (w1 := w1) (w2 := w2) (o5 := some (.v x)) (o7 := o7) (o8 := o8) (o9 := o9) o h2 h8 hp hp1 hp2 s K (ls := ls) (by omega)
    obtain ⟨ls', s', K', q5, q7, q8, q9, z1, z2, e2⟩ := loop_N2 J (w1 := w1) (w2 := w2) o h2 h8 hp hp1 hp2 r s1 K1 (ls ++ [l]) (some (.v x)) p7 p8 p9 (fun z hz => by
      rcases List.mem_append.mp hz with hz | hz
      · exact h1 z hz
      · rw [List.mem_singleton.mp hz]; exact g) (by rw [List.length_append]; simp; omega)
    refine ⟨ls', s', K', q5, q7, q8, q9, z1, by rw [z2, List.length_append]; simp; omega, ?_⟩
    conv => lhs; unfold turnsV
    simp only [bindV_nm, setV2_0, setV2_s, e, Rs.bind_ok, e2]
theorem v_law_network (s : Stt) (J : Sto) {most many : Int} (m1 : 2 ≤ most) (m2 : most ≤ 8) (n1 : 0 ≤ many) (n2 : many ≤ 30) : ∃ (ws : List Str) (lg : List LgF) (s' : Stt) (K : Sto), NB ws lg ∧ F_law_network [.r 0, .v (.int most), .v (.int many)] (SS s J) = .ok (.v (netK ws lg)) (SS s' (J ++ K)) := by
  rw [e_law_network]
  have hB : B_law_network = [.asg (.nm 3) (.call 0 (.loc 0) [(.bin .add (.int 2) (.call 1 (.loc 0) [(.bin .sub (.loc 1) (.int 1))]))]), .asg (.nm 4) (.comp false (.call 2 (.loc 0) []) (.nm 5) .rng1 [(.bin .add (.int 1) (.call 1 (.loc 0) [(.int 4)]))] [] [("k", 5)]), .asg (.nm 6) (.lst true []), .fors (.nm 5) .rng1 [(.call 1 (.loc 0) [(.bin .add (.loc 2) (.int 1))])] bodyN2, .fz 6, .ret (.tup [(.loc 3), (.call 3 (.loc 6) [])])] := rfl
  obtain ⟨a, s1, a1, a2, ha⟩ := v_draw s J (lim := most - 1) (by omega) (by omega)
  obtain ⟨n, hn⟩ : ∃ n : Nat, 2 + a = n := ⟨(2 + a).toNat, by omega⟩
  obtain ⟨ws, s2, K2, w1, w2, hw⟩ := v_law_offices s1 J (n := n) (by omega)
  obtain ⟨b, s3, b1, b2, hb⟩ := v_draw s2 (J ++ K2) (lim := 4) (by omega) (by omega)
  obtain ⟨pool, s4, K4, p1, p2, hp⟩ := comp_dj (G := G_law_network) (tg := .nm 5) (te := evE G_law_network (.call 2 (.loc 0) [])) (en := [some (.r 0), some (.v (.int most)), some (.v (.int many)), some (.v (.tp .k (ws.map D.str))), none, none, none, none, none, none]) (P := GFo) (rngD 0 (1 + b).toNat) s3 (J ++ K2) (fun x hx => by
    refine ⟨_, rfl, fun s J => ?_⟩
    obtain ⟨f, s', K, gf, hf⟩ := v_law_leg_form s J
    refine ⟨f, s', K, gf, ?_⟩
    simp only [evE_19, evE_1, evL_1, getV_0, getV_s, setV2_0, setV2_s, lft_some, Rs.bind_ok, nc2, List.length_cons, List.length_nil, Nat.zero_add, if_true, hf])
  rw [rng_len] at p2
  obtain ⟨c, s5, c1, c2, hc⟩ := v_draw s4 (J ++ K2 ++ K4 ++ [some (.lst [])]) (lim := many + 1) (by omega) (by omega)
  obtain ⟨ls, s6, K6, q5, q7, q8, q9, l1, l2, hl⟩ := loop_N2 (J ++ K2 ++ K4) (w1 := .v (.int most)) (w2 := .v (.int many)) (pool := pool) w1 (by omega) (by omega) p1 (by omega) (by omega) (rngD 0 c.toNat) s5 [] [] none none none none (by simp) (by rw [rng_len]; simp; omega)
  rw [rng_len] at l2
  have lt : ∀ l ∈ ls, legT l := fun l h => KLeg.t (l1 l h) w1
  have sz : (rngD 0 c.toNat).length = c.toNat := rng_len _ _
  obtain ⟨lg, hg, bg⟩ := pull (g := legD) (Q := fun l => l.1 ∈ ws ∧ l.2.1 ∈ ws ∧ FoB l.2.2) (inOrd ls) (fun d hd => by
    obtain ⟨l, x1, x2, x3, x4⟩ := l1 d (inOrd_mem hd)
    exact ⟨l, ⟨x1, x2, x3⟩, x4⟩)
  have lo := inOrd_len lt
  have ll : ls.length = c.toNat := by rw [l2]; simp
  have lm : (lg.map legD).length = lg.length := List.length_map ..
  rw [hg] at lm
  refine ⟨ws, lg, s6, K2 ++ K4 ++ none :: K6, ⟨by omega, by omega, by omega, fun l h => (bg l h).2.2, fun l h => ⟨(bg l h).1, (bg l h).2.1⟩⟩, ?_⟩
  have rb : itW .rng1 [.v (.int (1 + b))] = some (rngD 0 (1 + b).toNat) := it_rng (by omega) (by omega)
  have rc : itW .rng1 [.v (.int c)] = some (rngD 0 c.toNat) := it_rng (by omega) (by omega)
  have hc' : F_law_draw [.r 0, .v (.int (many + 1))] (SS s4 (J ++ K2 ++ K4) ++ [some (.lst [])]) = _ := hc
  have io : ∀ S, F_law_in_order [.v (.lst ls)] S = .ok (.v (.tup (lg.map legD))) S := fun S => by rw [v_law_in_order lt (by omega), hg]
  have fz : ∀ en, getV en 6 = some (.r ((J ++ K2 ++ K4).length + 1)) → fzV 6 en (SS s6 (J ++ K2 ++ K4 ++ some (.lst ls) :: K6)) = some (setV2 en 6 (.v (.lst ls)), SS s6 (J ++ K2 ++ K4 ++ none :: K6)) := fun en he => by
    unfold fzV
    rw [he]
    dsimp only
    rw [SS_ap, ← SS_len (s := s6), getS_mid]
    dsimp only
    rw [setS_mid]; rfl
  rw [hB]
  rw [evSs_2, evS_1]
  simp only [evE_4, evE_7, evE_19, evE_1, evL_1, evL_2, getV_0, getV_s, lft_some, Rs.bind_ok, nc0, nc1, List.length_cons, List.length_nil, Nat.zero_add, Nat.reduceAdd, if_true, rd2_some' rdW_i rdW_i, bo_add, bo_sub, vadd_int, vsub_int, lfv_some, ha, hn, hw, bindV_nm, setV2_0, setV2_s]
  rw [evSs_2, evS_1]
  simp only [evE_4, evE_7, evE_19, evE_23, evE_1, evL_1, evL_2, getV_0, getV_s, lft_some, Rs.bind_ok, nc1, List.length_cons, List.length_nil, Nat.zero_add, Nat.reduceAdd, if_true, rd2_some' rdW_i rdW_i, bo_add, vadd_int, lfv_some, hb, rb, List.map_cons, List.map_nil, wipeV_nil, wipeV_cons, wipeV1_0, wipeV1_s, hp, calm_ok, compR_ok, bindV_nm, setV2_0, setV2_s]
  rw [evSs_2, evS_1]
  simp only [evE_15, evL_1, Rs.bind_ok, plnW_nil, List.length_nil, sl_0, if_true, newW_eq, SS_len, bindV_nm, setV2_0, setV2_s]
  rw [evSs_2, evS_9]
  simp only [evE_4, evE_7, evE_19, evE_1, evL_1, evL_2, getV_0, getV_s, lft_some, Rs.bind_ok, nc1, List.length_cons, List.length_nil, Nat.zero_add, Nat.reduceAdd, if_true, rd2_some' rdW_i rdW_i, bo_add, vadd_int, lfv_some, hc', rc, hl]
  rw [evSs_2, evS_14, fz _ rfl]
  simp only [Rs.bind_ok, setV2_0, setV2_s, evSs_2, evSs_1, evS_6, evE_14, evE_19, evE_1, evL_1, evL_2, getV_0, getV_s, lft_some, nc3, List.length_cons, List.length_nil, Nat.zero_add, Nat.reduceAdd, if_true, io, plnW_cons, plnW_nil, sl_2, out_rt, List.append_assoc, List.cons_append]
  rfl
end K85

/-! k85: the law's tables -/
namespace K85
open PySem PySem.Spec PyProof.Rows L2 Z CM
abbrev KD := List (Key × D)
def wv (kd : KD) : List (Key × W) := kd.map fun p => (p.1, W.v p.2)
def fzD (kd : KD) : D := .dK (kd.map (·.1)) (kd.map (·.2))
def Rkd (kd : KD) (T : TF) : Prop := ∀ v, valG kd (.inr v) = (T v).map D.int
theorem wv_val {kd : KD} {k : Key} : valG (wv kd) k = (valG kd k).map W.v := by
  induction kd with
  | nil => rfl
  | cons p kd ih =>
    obtain ⟨a, d⟩ := p
    show valG ((a, W.v d) :: wv kd) k = _
    rw [valG_cons, valG_cons, ih]
    by_cases h : a = k
    · rw [if_pos h, if_pos h]; rfl
    · rw [if_neg h, if_neg h]
theorem wv_put {kd : KD} {k : Key} {d : D} : putG (wv kd) k (.v d) = wv (putG kd k d) := by
  unfold putG wv
  rw [List.any_map]
  have e : ((fun kv : Key × W => decide (kv.1 = k)) ∘ fun p : Key × D => (p.1, W.v p.2)) = fun kv => decide (kv.1 = k) := rfl
  rw [e]
  by_cases h : (kd.any fun kv => decide (kv.1 = k)) = true
  · rw [if_pos h, if_pos h, List.map_map, List.map_map]
    refine List.map_congr_left fun p _ => ?_
    show (if p.1 = k then (p.1, W.v d) else (p.1, W.v p.2)) = _
    by_cases q : p.1 = k
    · rw [if_pos q]; simp [q]
    · rw [if_neg q]; simp [q]
  · rw [if_neg h, if_neg h, List.map_append]; rfl
theorem zip_kd {kd : KD} : (kd.map (·.1)).zip (kd.map (·.2)) = kd := by
  induction kd with
  | nil => rfl
  | cons p kd ih => rw [List.map_cons, List.map_cons, List.zip_cons_cons, ih]
theorem pln_map : ∀ ds : List D, plnW (ds.map W.v) = some ds
  | [] => rfl
  | d :: ds => by rw [List.map_cons, plnW_cons, pln_map ds]
theorem wv_2 {kd : KD} : (wv kd).map (·.2) = (kd.map (·.2)).map W.v := by unfold wv; rw [List.map_map, List.map_map]; rfl
theorem wv_1 {kd : KD} : (wv kd).map (·.1) = kd.map (·.1) := by unfold wv; rw [List.map_map]; rfl
theorem rkd_upd {kd : KD} {T : TF} (h : Rkd kd T) {v : Str} {q : Int} : Rkd (putG kd (.inr v) (.int q)) (updF T v q) := fun x => by
  rw [valG_put]
  unfold updF
  by_cases e : x = v
  · subst e; simp
  · have : (Sum.inr x : Key) ≠ Sum.inr v := fun z => e (Sum.inr.inj z)
    rw [if_neg this, if_neg e]
    exact h x
section
variable {S : Sto} {kd : KD} {T : TF} (r : Rkd kd T)
include r
theorem in_fz {v : Str} : inW S (.v (.str v)) (.v (fzD kd)) = some (T v).isSome := by
  show (match dfW S (.v (fzD kd)) (.str v) with
        | some o => some o.isSome
        | none => none) = _
  show some ((valG ((kd.map (·.1)).zip (kd.map (·.2))) (.inr v)).map W.v).isSome = _
  rw [zip_kd, r v]
  cases T v <;> rfl
theorem ix_fz {v : Str} {a : Int} (h : T v = some a) : ixW S (.v (fzD kd)) (.v (.str v)) = some (.v (.int a)) := by
  show (some ((valG ((kd.map (·.1)).zip (kd.map (·.2))) (.inr v)).map W.v)).join = _
  rw [zip_kd, r v, h]; rfl
variable {i : Nat} (g : getS S i = some (.dK (wv kd)))
include g
theorem df_m {v : Str} : dfW S (.r i) (.str v) = some ((T v).map fun a => W.v (.int a)) := by
  show (match getS S i with
    | some (.dK kvs) => match keyK (.str v) with | some k => some (valG kvs k) | none => none
    | some (.dT kvs) => match keyT (.str v) with | some k => some (valG kvs k) | none => none
    | _ => none) = _
  rw [g]
  show some (valG (wv kd) (.inr v)) = _
  rw [wv_val, r v]
  cases T v <;> rfl
theorem ix_m {v : Str} {a : Int} (h : T v = some a) : ixW S (.r i) (.v (.str v)) = some (.v (.int a)) := by
  show (dfW S (.r i) (.str v)).join = _
  rw [df_m r g, h]; rfl
theorem in_m {v : Str} : inW S (.v (.str v)) (.r i) = some (T v).isSome := by
  have e : sqW S (.r i) = none := by
    show (match (match getS S i with | some (.lst ds) => some (D.lst ds) | _ => none) with | some (.tp _ ds) => some ds | some (.lst ds) => some ds | some (.flst ds) => some ds | _ => none) = _
    rw [g]
  show (match sqW S (.r i) with
      | some ds => if inOk (.str v) ds = true then some (ds.any fun z => eqv z (.str v)) else none
      | none => match dfW S (.r i) (.str v) with
        | some o => some o.isSome
        | none => none) = _
  rw [e, df_m r g]
  cases T v <;> rfl
end
theorem put_m {X : Sto} {kd : KD} {v : Str} {d : D} (h : kd.length < 1000) : putW (X ++ [some (.dK (wv kd))]) (.r X.length) (.v (.str v)) (.v d) = some (X ++ [some (.dK (wv (putG kd (.inr v) d)))]) := by
  rw [putW_dK (by unfold wv; rw [List.length_map]; exact h), wv_put]
theorem ix_rl {S : Sto} {n i : Nat} {ds : List D} {d : D} (g : getS S n = some (.lst ds)) (h : ds[i]? = some d) : ixW S (.r n) (.v (.int (i : Nat))) = some (.v d) := by
  have e : sqW S (.r n) = some ds := by
    show (match (match getS S n with | some (.lst ds) => some (D.lst ds) | _ => none) with | some (.tp _ ds) => some ds | some (.lst ds) => some ds | some (.flst ds) => some ds | _ => none) = _
    rw [g]
  show (match sqW S (.r n) with
      | some ds => (atI ds (i : Int)).map W.v
      | none => (dfW S (.r n) (.int (i : Int))).join) = _
  rw [e]
  show (atI ds (i : Int)).map W.v = _
  rw [atI_get (List.getElem?_eq_some_iff.mp h).1, h]; rfl
def bodyT : List Sx := [.ifs (.bol true [(.cmp .isnot (.idx (.loc 5) (.loc 10)) .non), (.cmp .isin (.idx (.idx (.loc 4) (.loc 10)) (.int 0)) (.idx (.loc 7) (.loc 8)))])
    [.asg (.nm 11) (.bin .add (.idx (.idx (.loc 7) (.loc 8)) (.idx (.idx (.loc 4) (.loc 10)) (.int 0))) (.idx (.loc 5) (.loc 10))), .ifs (.bol false [(.cmp .notin (.idx (.idx (.loc 4) (.loc 10)) (.int 1)) (.loc 9)), (.cmp .lt (.loc 11) (.idx (.loc 9) (.idx (.idx (.loc 4) (.loc 10)) (.int 1))))])
    [.sput (.loc 9) (.idx (.idx (.loc 4) (.loc 10)) (.int 1)) (.loc 11)]
    []]
    []]
theorem tst_at {T A : TF} {u v : Str} {a c : Int} (h : T u = some a) : CM.tst T A (u, v, some c) = match A v with | none => updF A v (a + c) | some b => if a + c < b then updF A v (a + c) else A := by
  unfold CM.tst; dsimp only; rw [h]; try (cases A v <;> rfl)
theorem turn_T {X : Sto} {n : Nat} {w0 w1 w2 w3 : W} {o6 o11 : Option W} {lg : List LgF} {x k rd : Nat} {l : LgF} (hl : lg[k]? = some l) {ts : List KD} {t kd : KD} {T A : TF} (g : ∀ o, getS (X ++ [o]) n = some (.lst (ts.map fzD))) (ht : ts[rd]? = some t) (rt : Rkd t T) (r : Rkd kd A) (hk : kd.length < 1000) :
    ∃ kd' o11', Rkd kd' (CM.tst T A (l.1, l.2.1, valF l.2.2 x)) ∧ kd'.length ≤ kd.length + 1 ∧
    evSs G_law_tables bodyT [some w0, some w1, some w2, some w3, some (.v (.tup (lg.map legD))), some (.v (.lst (prL lg x))), o6, some (.r n), some (.v (.int (rd : Nat))), some (.r X.length), some (.v (.int (k : Nat))), o11] (X ++ [some (.dK (wv kd))]) = .ok (.nx [some w0, some w1, some w2, some w3, some (.v (.tup (lg.map legD))), some (.v (.lst (prL lg x))), o6, some (.r n), some (.v (.int (rd : Nat))), some (.r X.length), some (.v (.int (k : Nat))), o11']) (X ++ [some (.dK (wv kd'))]) := by
  have x0 : ∀ S, ixW S (.v (.tup (lg.map legD))) (.v (.int (k : Nat))) = some (.v (legD l)) := fun S => ix_tp (by rw [List.getElem?_map, hl]; rfl)
  have x1 : ∀ S, ixW S (.v (legD l)) (.v (.int 0)) = some (.v (.str l.1)) := fun S => ix_tp (i := 0) rfl
  have x2 : ∀ S, ixW S (.v (legD l)) (.v (.int 1)) = some (.v (.str l.2.1)) := fun S => ix_tp (i := 1) rfl
  have x3 : ∀ S, ixW S (.v (.lst (prL lg x))) (.v (.int (k : Nat))) = some (.v (oD (valF l.2.2 x))) := fun S => ix_lst (by unfold prL; rw [List.getElem?_map, hl]; rfl)
  have x4 : ∀ o, ixW (X ++ [o]) (.r n) (.v (.int (rd : Nat))) = some (.v (fzD t)) := fun o => ix_rl (g o) (by rw [List.getElem?_map, ht]; rfl)
  have gk : getS (X ++ [some (.dK (wv kd))]) X.length = some (.dK (wv kd)) := getS_mid (J := [])
  unfold bodyT
  cases hv : valF l.2.2 x with
  | none =>
    rw [hv] at x3
    refine ⟨kd, o11, by rw [tst_no (.inr rfl)]; exact r, by omega, nx_step (if_ff (S1 := X ++ [some (.dK (wv kd))]) ?_ evSs_1) evSs_1⟩
    simp only [evT_3, evB_3, evT_1, evE_16, evE_1, evE_2, getV_0, getV_s, lft_some, Rs.bind_ok, co_isn, nonW_non, if_true, x3, oD, Bool.not_true]
  | some c =>
    rw [hv] at x3
    cases hu : T l.1 with
    | none =>
      refine ⟨kd, o11, by rw [tst_no (.inl hu)]; exact r, by omega, nx_step (if_ff (S1 := X ++ [some (.dK (wv kd))]) ?_ evSs_1) evSs_1⟩
      simp only [evT_3, evB_2, evB_3, evT_1, evE_16, evE_1, evE_2, evE_4, getV_0, getV_s, lft_some, Rs.bind_ok, co_isn, co_in, nonW_non, nonW_int, if_true, x0, x1, x3, x4, oD, Bool.not_false, in_fz rt, hu, Option.isSome_none, blO_some]
    | some a =>
      have c1 : evT G_law_tables (.bol true [(.cmp .isnot (.idx (.loc 5) (.loc 10)) .non), (.cmp .isin (.idx (.idx (.loc 4) (.loc 10)) (.int 0)) (.idx (.loc 7) (.loc 8)))]) [some w0, some w1, some w2, some w3, some (.v (.tup (lg.map legD))), some (.v (.lst (prL lg x))), o6, some (.r n), some (.v (.int (rd : Nat))), some (.r X.length), some (.v (.int (k : Nat))), o11] (X ++ [some (.dK (wv kd))]) = .ok true (X ++ [some (.dK (wv kd))]) := by
        simp only [evT_3, evB_2, evB_3, evT_1, evE_16, evE_1, evE_2, evE_4, getV_0, getV_s, lft_some, Rs.bind_ok, co_isn, co_in, nonW_non, nonW_int, if_true, x0, x1, x3, x4, oD, Bool.not_false, in_fz rt, hu, Option.isSome_some, blO_some]
      have st : evS G_law_tables (.asg (.nm 11) (.bin .add (.idx (.idx (.loc 7) (.loc 8)) (.idx (.idx (.loc 4) (.loc 10)) (.int 0))) (.idx (.loc 5) (.loc 10)))) [some w0, some w1, some w2, some w3, some (.v (.tup (lg.map legD))), some (.v (.lst (prL lg x))), o6, some (.r n), some (.v (.int (rd : Nat))), some (.r X.length), some (.v (.int (k : Nat))), o11] (X ++ [some (.dK (wv kd))]) = .ok (.nx [some w0, some w1, some w2, some w3, some (.v (.tup (lg.map legD))), some (.v (.lst (prL lg x))), o6, some (.r n), some (.v (.int (rd : Nat))), some (.r X.length), some (.v (.int (k : Nat))), some (.v (.int (a + c)))]) (X ++ [some (.dK (wv kd))]) := by
        simp only [evS_1, evE_7, evE_16, evE_1, evE_4, getV_0, getV_s, lft_some, Rs.bind_ok, x0, x1, x3, x4, oD, ix_fz rt hu, rd2_some' rdW_i rdW_i, bo_add, vadd_int, lfv_some, bindV_nm, setV2_0, setV2_s]
      have put : evS G_law_tables (.sput (.loc 9) (.idx (.idx (.loc 4) (.loc 10)) (.int 1)) (.loc 11)) [some w0, some w1, some w2, some w3, some (.v (.tup (lg.map legD))), some (.v (.lst (prL lg x))), o6, some (.r n), some (.v (.int (rd : Nat))), some (.r X.length), some (.v (.int (k : Nat))), some (.v (.int (a + c)))] (X ++ [some (.dK (wv kd))]) = .ok (.nx [some w0, some w1, some w2, some w3, some (.v (.tup (lg.map legD))), some (.v (.lst (prL lg x))), o6, some (.r n), some (.v (.int (rd : Nat))), some (.r X.length), some (.v (.int (k : Nat))), some (.v (.int (a + c)))]) (X ++ [some (.dK (wv (putG kd (.inr l.2.1) (.int (a + c)))))]) := by
        rw [evS_3]
        simp only [evE_16, evE_1, evE_4, getV_0, getV_s, lft_some, Rs.bind_ok, x0, x2, put_m hk]
      have ta := tst_at (A := A) (v := l.2.1) (c := c) hu
      cases hA : A l.2.1 with
      | none =>
        rw [hA] at ta
        refine ⟨putG kd (.inr l.2.1) (.int (a + c)), some (.v (.int (a + c))), by rw [ta]; exact rkd_upd r, putG_len, nx_step (if_tt c1 (nx_step st (nx_step (if_tt (S1 := X ++ [some (.dK (wv kd))]) ?_ (nx_step put evSs_1)) evSs_1))) evSs_1⟩
        simp only [evT_3, evB_4, evT_1, evE_16, evE_1, evE_4, getV_0, getV_s, lft_some, Rs.bind_ok, co_nin, x0, x2, in_m r gk, hA, Option.isSome_none, Option.map_some, Bool.not_false, blO_some]
      | some b =>
        rw [hA] at ta
        dsimp only at ta
        have vl : vlt (.int (a + c)) (.int b) = some (.bl (decide (a + c < b))) := rfl
        have c2 : evT G_law_tables (.bol false [(.cmp .notin (.idx (.idx (.loc 4) (.loc 10)) (.int 1)) (.loc 9)), (.cmp .lt (.loc 11) (.idx (.loc 9) (.idx (.idx (.loc 4) (.loc 10)) (.int 1))))]) [some w0, some w1, some w2, some w3, some (.v (.tup (lg.map legD))), some (.v (.lst (prL lg x))), o6, some (.r n), some (.v (.int (rd : Nat))), some (.r X.length), some (.v (.int (k : Nat))), some (.v (.int (a + c)))] (X ++ [some (.dK (wv kd))]) = .ok (decide (a + c < b)) (X ++ [some (.dK (wv kd))]) := by
          simp only [evT_3, evB_2, evB_4, evT_1, evE_16, evE_1, evE_4, getV_0, getV_s, lft_some, Rs.bind_ok, co_nin, co_lt, x0, x2, in_m r gk, ix_m r gk hA, hA, Option.isSome_some, Option.map_some, Bool.not_true, blO_some, rd2_some' rdW_i rdW_i, vl]
        by_cases q : a + c < b
        · rw [if_pos q] at ta
          rw [decide_eq_true q] at c2
          exact ⟨putG kd (.inr l.2.1) (.int (a + c)), some (.v (.int (a + c))), by rw [ta]; exact rkd_upd r, putG_len, nx_step (if_tt c1 (nx_step st (nx_step (if_tt c2 (nx_step put evSs_1)) evSs_1))) evSs_1⟩
        · rw [if_neg q] at ta
          rw [decide_eq_false q] at c2
          exact ⟨kd, some (.v (.int (a + c))), by rw [ta]; exact r, by omega, nx_step (if_tt c1 (nx_step st (nx_step (if_ff c2 evSs_1) evSs_1))) evSs_1⟩
end K85

/-! k85: the law's tables, whole -/
namespace K85
open PySem PySem.Spec PyProof.Rows L2 Z CM
theorem loop_T {X : Sto} {n : Nat} {w0 w1 w2 w3 : W} {o6 : Option W} {lg : List LgF} {x rd : Nat} {ts : List KD} {t : KD} {T : TF} (g : ∀ o, getS (X ++ [o]) n = some (.lst (ts.map fzD))) (ht : ts[rd]? = some t) (rt : Rkd t T) : ∀ (m k : Nat) (kd : KD) (A : TF) (o10 o11 : Option W), k + m = lg.length → Rkd kd A → kd.length + m < 1000 →
    ∃ kd' o10' o11', Rkd kd' (((elE lg x).drop k).foldl (CM.tst T) A) ∧
    turnsV (.nm 10) (evSs G_law_tables bodyT) (rngD (k : Nat) m) [some w0, some w1, some w2, some w3, some (.v (.tup (lg.map legD))), some (.v (.lst (prL lg x))), o6, some (.r n), some (.v (.int (rd : Nat))), some (.r X.length), o10, o11] (X ++ [some (.dK (wv kd))]) = .ok (.nx [some w0, some w1, some w2, some w3, some (.v (.tup (lg.map legD))), some (.v (.lst (prL lg x))), o6, some (.r n), some (.v (.int (rd : Nat))), some (.r X.length), o10', o11']) (X ++ [some (.dK (wv kd'))])
  | 0, k, kd, A, o10, o11, hk, r, hl => by
    refine ⟨kd, o10, o11, ?_, rfl⟩
    rw [List.drop_eq_nil_of_le (by unfold elE; rw [List.length_map]; omega)]
    exact r
  | m + 1, k, kd, A, o10, o11, hk, r, hl => by
    have kl : k < lg.length := by omega
    obtain ⟨kd1, p11, r1, l1, e1⟩ := turn_T (w0 := w0) (w1 := w1) (w2 := w2) (w3 := w3) (o6 := o6) (o11 := o11) (x := x) (List.getElem?_eq_getElem kl) g ht rt r (by omega)
    obtain ⟨kd2, q10, q11, r2, e2⟩ := loop_T (w0 := w0) (w1 := w1) (w2 := w2) (w3 := w3) (o6 := o6) (lg := lg) (x := x) g ht rt m (k + 1) kd1 _ (some (.v (.int (k : Nat)))) p11 (by omega) r1 (by omega)
    refine ⟨kd2, q10, q11, ?_, ?_⟩
    · have : (elE lg x).drop k = (lg[k].1, lg[k].2.1, valF lg[k].2.2 x) :: (elE lg x).drop (k + 1) := by
        have h : k < (elE lg x).length := by unfold elE; rw [List.length_map]; exact kl
        rw [List.drop_eq_getElem_cons h]
        congr 1
        simp [elE]
      rw [this, List.foldl_cons]
      exact r2
    · have er : rngD ((k : Nat) : Int) (m + 1) = .int ((k : Nat) : Int) :: rngD ((k + 1 : Nat) : Int) m := rfl
      rw [er]
      conv => lhs; unfold turnsV
      simp only [bindV_nm, setV2_0, setV2_s, e1, Rs.bind_ok, e2]
def bodyRd : List Sx := [.asg (.nm 9) (.newK true), .fors (.nm 10) .rng1 [(.blt .len (.loc 4) [])] bodyT, .fz 9, .expr (.mth .append (.loc 7) (.loc 9) [])]
def okTs (E : List EL) (s : Str) (ts : List KD) : Prop := ∀ i t, ts[i]? = some t → Rkd t (tbl E s i)
theorem fz_dK {X : Sto} {kd : KD} {en : WEn} {i : Nat} (h : getV en i = some (.r X.length)) : fzV i en (X ++ [some (.dK (wv kd))]) = some (setV2 en i (.v (fzD kd)), X ++ [none]) := by
  have g : getS (X ++ [some (.dK (wv kd))]) X.length = some (.dK (wv kd)) := getS_mid (J := [])
  have st : setS (X ++ [some (.dK (wv kd))]) X.length none = X ++ [none] := setS_mid (J := [])
  unfold fzV
  rw [h]
  dsimp only
  rw [g]
  show (match plnW ((wv kd).map (·.2)) with | some ds => some (setV2 en i (W.v (D.dK ((wv kd).map (fun p : Key × W => p.1)) ds)), setS (X ++ [some (VO.dK (wv kd))]) X.length none) | none => none) = _
  rw [wv_2, pln_map, wv_1, st]
  rfl
theorem turn_Rd {S J : Sto} {w0 w1 w2 w3 : W} {o6 o9 o10 o11 : Option W} {lg : List LgF} {x rd : Nat} {s : Str} (h40 : lg.length ≤ 40) {ts : List KD} (ok : okTs (elE lg x) s ts) (hl : ts.length = rd + 1) (h100 : rd < 100) :
    ∃ kd o9' o10' o11', okTs (elE lg x) s (ts ++ [kd]) ∧
    evSs G_law_tables bodyRd [some w0, some w1, some w2, some w3, some (.v (.tup (lg.map legD))), some (.v (.lst (prL lg x))), o6, some (.r S.length), some (.v (.int (rd : Nat))), o9, o10, o11] (S ++ some (.lst (ts.map fzD)) :: J) = .ok (.nx [some w0, some w1, some w2, some w3, some (.v (.tup (lg.map legD))), some (.v (.lst (prL lg x))), o6, some (.r S.length), some (.v (.int (rd : Nat))), o9', o10', o11']) (S ++ some (.lst ((ts ++ [kd]).map fzD)) :: (J ++ [none])) := by
  have kl : rd < ts.length := by omega
  have ht := List.getElem?_eq_getElem kl
  have ap : ∀ o, (S ++ some (.lst (ts.map fzD)) :: J) ++ [o] = S ++ some (.lst (ts.map fzD)) :: (J ++ [o]) := fun o => by rw [List.append_assoc, List.cons_append]
  have g : ∀ o, getS ((S ++ some (.lst (ts.map fzD)) :: J) ++ [o]) S.length = some (.lst (ts.map fzD)) := fun o => by rw [ap]; exact getS_mid
  obtain ⟨kd, p10, p11, r, e⟩ := loop_T (X := S ++ some (.lst (ts.map fzD)) :: J) (w0 := w0) (w1 := w1) (w2 := w2) (w3 := w3) (o6 := o6) (lg := lg) (x := x) g ht (ok _ _ ht) lg.length 0 [] (fun _ => none) o10 o11 (by omega) (fun v => rfl) (by simp; omega)
  rw [List.drop_zero] at r
  refine ⟨kd, some (.v (fzD kd)), p10, p11, fun i t hi => ?_, ?_⟩
  · by_cases q : i < ts.length
    · rw [List.getElem?_append_left q] at hi
      exact ok i t hi
    · rw [List.getElem?_append_right (by omega)] at hi
      obtain ⟨q1, q2⟩ := List.getElem?_eq_some_iff.mp hi
      rw [List.length_singleton] at q1
      have : i = rd + 1 := by omega
      subst this
      rw [List.getElem_singleton] at q2
      rw [← q2]; exact r
  have ln : ((lg.map legD).length : Int) = (lg.length : Nat) := by rw [List.length_map]
  have ir : itW .rng1 [.v (.int (lg.length : Nat))] = some (rngD 0 lg.length) := it_rng (by omega) (by omega)
  unfold bodyRd
  refine nx_step (e1 := [some w0, some w1, some w2, some w3, some (.v (.tup (lg.map legD))), some (.v (.lst (prL lg x))), o6, some (.r S.length), some (.v (.int (rd : Nat))), some (.r (S ++ some (.lst (ts.map fzD)) :: J).length), o10, o11]) (S1 := (S ++ some (.lst (ts.map fzD)) :: J) ++ [some (.dK (wv []))]) ?_ (nx_step (e1 := [some w0, some w1, some w2, some w3, some (.v (.tup (lg.map legD))), some (.v (.lst (prL lg x))), o6, some (.r S.length), some (.v (.int (rd : Nat))), some (.r (S ++ some (.lst (ts.map fzD)) :: J).length), p10, p11]) (S1 := (S ++ some (.lst (ts.map fzD)) :: J) ++ [some (.dK (wv kd))]) ?_ (nx_step (e1 := [some w0, some w1, some w2, some w3, some (.v (.tup (lg.map legD))), some (.v (.lst (prL lg x))), o6, some (.r S.length), some (.v (.int (rd : Nat))), some (.v (fzD kd)), p10, p11]) (S1 := (S ++ some (.lst (ts.map fzD)) :: J) ++ [none]) ?_ (nx_step ?_ evSs_1)))
  · simp only [evS_1, evE_24, newW_eq, Rs.bind_ok, bindV_nm, setV2_0, setV2_s]
    rfl
  · rw [evS_9]
    simp only [evE_20, evE_1, evL_1, evL_2, getV_0, getV_s, lft_some, Rs.bind_ok, bt_len, rd1_some' rdW_tp, lenA_tp', ln, lfv_some, ir]
    exact e
  · rw [evS_14, fz_dK (by rfl)]
    rfl
  · rw [ap]
    have ty : tyW .append (S ++ some (.lst (ts.map fzD)) :: (J ++ [none])) (.r S.length) = true := ty_app_mid
    have wo : Mt.append.wo (S ++ some (.lst (ts.map fzD)) :: (J ++ [none])) (.r S.length) [.v (fzD kd)] = .ok (.v .non) (S ++ some (.lst (ts.map fzD ++ [fzD kd])) :: (J ++ [none])) := wo_app_mid (by rw [List.length_map]; have := sl1000; omega)
    simp only [evS_5, evE_22, evE_1, evL_1, evL_2, getV_0, getV_s, lft_some, Rs.bind_ok, ty, wo, List.map_append, List.map_cons, List.map_nil]
theorem loop_Rd {S : Sto} {w0 w1 w2 w3 : W} {o6 : Option W} {lg : List LgF} {x : Nat} {s : Str} (h40 : lg.length ≤ 40) : ∀ (n rd : Nat) (ts : List KD) (J : Sto) (o8 o9 o10 o11 : Option W), okTs (elE lg x) s ts → ts.length = rd + 1 → rd + n < 100 →
    ∃ ts' J' o8' o9' o10' o11', okTs (elE lg x) s ts' ∧ ts'.length = rd + n + 1 ∧
    turnsV (.nm 8) (evSs G_law_tables bodyRd) (rngD (rd : Nat) n) [some w0, some w1, some w2, some w3, some (.v (.tup (lg.map legD))), some (.v (.lst (prL lg x))), o6, some (.r S.length), o8, o9, o10, o11] (S ++ some (.lst (ts.map fzD)) :: J) = .ok (.nx [some w0, some w1, some w2, some w3, some (.v (.tup (lg.map legD))), some (.v (.lst (prL lg x))), o6, some (.r S.length), o8', o9', o10', o11']) (S ++ some (.lst (ts'.map fzD)) :: J')
  | 0, rd, ts, J, o8, o9, o10, o11, ok, hl, _ => ⟨ts, J, o8, o9, o10, o11, ok, hl, rfl⟩
  | n + 1, rd, ts, J, o8, o9, o10, o11, ok, hl, hn => by
    obtain ⟨kd, p9, p10, p11, ok1, e1⟩ := turn_Rd (S := S) (J := J) (w0 := w0) (w1 := w1) (w2 := w2) (w3 := w3) (o6 := o6) (o9 := o9) (o10 := o10) (o11 := o11) h40 ok hl (by omega)
    obtain ⟨ts', J', q8, q9, q10, q11, ok2, l2, e2⟩ := loop_Rd (S := S) (w0 := w0) (w1 := w1) (w2 := w2) (w3 := w3) (o6 := o6) (lg := lg) (x := x) (s := s) h40 n (rd + 1) (ts ++ [kd]) (J ++ [none]) (some (.v (.int (rd : Nat)))) p9 p10 p11 ok1 (by rw [List.length_append, List.length_singleton, hl]) (by omega)
    refine ⟨ts', J', q8, q9, q10, q11, ok2, by omega, ?_⟩
    have er : rngD ((rd : Nat) : Int) (n + 1) = .int ((rd : Nat) : Int) :: rngD ((rd + 1 : Nat) : Int) n := rfl
    rw [er]
    conv => lhs; unfold turnsV
    simp only [bindV_nm, setV2_0, setV2_s, e1, Rs.bind_ok, e2]
theorem bc0 (r : Rs (List W)) : callV G_law_tables 0 r = r.bind fun ws S => if ws.length = 2 then F_law_value ws S else .no := by unfold G_law_tables; rfl
theorem v_law_tables {S : Sto} {ws : List Str} {lg : List LgF} (b : NB ws lg) {x : Nat} (hx : x < 2 ^ 200) {s : Str} : ∃ ts J, okTs (elE lg x) s ts ∧ ts.length = ws.length ∧
    F_law_tables [.v (netK ws lg), .v (.str s), .v (.int (x : Nat))] S = .ok (.v (.lst (ts.map fzD))) (S ++ J) := by
  have n1 := b.n1
  have n8 := b.n8
  obtain ⟨ts, J, o8, o9, o10, o11, ok, l, e⟩ := loop_Rd (S := S) (w0 := .v (netK ws lg)) (w1 := .v (.str s)) (w2 := .v (.int (x : Nat))) (w3 := .v (.tp .k (ws.map D.str))) (o6 := none) (lg := lg) (x := x) (s := s) b.l40 (ws.length - 1) 0 [[(.inr s, .int 0)]] [] none none none none (fun i t hi => by
    cases i with
    | zero =>
      have hi := Option.some.inj hi
      subst hi
      intro v
      rw [valG_cons]
      show _ = ((updF (fun _ => none) s 0 : TF) v).map D.int
      unfold updF
      by_cases q : v = s
      · subst q; simp
      · have : (Sum.inr s : Key) ≠ Sum.inr v := fun z => q (Sum.inr.inj z).symm
        rw [if_neg this, if_neg q]; rfl
    | succ i => simp at hi) rfl (by omega)
  refine ⟨ts, none :: J, ok, by omega, ?_⟩
  have ln : ((ws.map D.str).length : Int) = (ws.length : Nat) := by rw [List.length_map]
  have ir : itW .rng1 [.v (.int ((ws.length : Nat) - 1 : Int))] = some (rngD 0 (ws.length - 1)) := by
    have := it_rng (j := (ws.length : Nat) - 1) (by omega) (by omega)
    rw [show ((ws.length : Nat) - 1 : Int).toNat = ws.length - 1 by omega] at this
    exact this
  have key : ∀ L : List LgF, (∀ l ∈ L, FoB l.2.2) → compV (.nm 6) (evC G_law_tables []) (evE G_law_tables (.call 0 (.idx (.loc 6) (.int 2)) [(.loc 2)])) [some (.v (netK ws lg)), some (.v (.str s)), some (.v (.int (x : Nat))), some (.v (.tp .k (ws.map D.str))), some (.v (.tup (lg.map legD))), none, none, none, none, none, none, none] (L.map legD) S = .ok (prL L x) S := by
    intro L
    induction L with
    | nil => intro _; rfl
    | cons l L ih =>
      intro h
      have x2 : ∀ S, ixW S (.v (legD l)) (.v (.int 2)) = some (.v (foD l.2.2)) := fun S => ix_tp (i := 2) rfl
      rw [List.map_cons]
      conv => lhs; unfold compV
      simp only [bindV_nm, setV2_0, setV2_s, evC_1, Rs.bind_ok, evE_19, evE_16, evE_1, evE_4, evL_1, evL_2, getV_0, getV_s, lft_some, x2, bc0, List.length_cons, List.length_nil, Nat.zero_add, Nat.reduceAdd, if_true, v_law_value (h l (by simp)) hx, ih fun m hm => h m (List.mem_cons_of_mem _ hm)]
      rfl
  have c := key lg b.fo
  rw [e_law_tables]
  have hB : B_law_tables = [.asg (.tp [3, 4]) (.loc 0), .asg (.nm 5) (.comp false (.call 0 (.idx (.loc 6) (.int 2)) [(.loc 2)]) (.nm 6) .seq [(.loc 4)] [] [("leg", 6)]), .asg (.nm 7) (.lst true [(.dis false [(.loc 1), (.int 0)])]), .fors (.nm 8) .rng1 [(.bin .sub (.blt .len (.loc 3) []) (.int 1))] bodyRd, .fz 7, .ret (.loc 7)] := rfl
  rw [hB]
  refine out_step (e1 := [some (.v (netK ws lg)), some (.v (.str s)), some (.v (.int (x : Nat))), some (.v (.tp .k (ws.map D.str))), some (.v (.tup (lg.map legD))), none, none, none, none, none, none, none]) (S1 := S) ?_ (out_step (e1 := [some (.v (netK ws lg)), some (.v (.str s)), some (.v (.int (x : Nat))), some (.v (.tp .k (ws.map D.str))), some (.v (.tup (lg.map legD))), some (.v (.lst (prL lg x))), none, none, none, none, none, none]) (S1 := S) ?_ (out_step (e1 := [some (.v (netK ws lg)), some (.v (.str s)), some (.v (.int (x : Nat))), some (.v (.tp .k (ws.map D.str))), some (.v (.tup (lg.map legD))), some (.v (.lst (prL lg x))), none, some (.r S.length), none, none, none, none]) (S1 := S ++ [some (.lst ([[((.inr s : Key), D.int 0)]].map fzD))]) ?_ (out_step (e1 := [some (.v (netK ws lg)), some (.v (.str s)), some (.v (.int (x : Nat))), some (.v (.tp .k (ws.map D.str))), some (.v (.tup (lg.map legD))), some (.v (.lst (prL lg x))), none, some (.r S.length), o8, o9, o10, o11]) (S1 := S ++ some (.lst (ts.map fzD)) :: J) ?_ (out_step (e1 := [some (.v (netK ws lg)), some (.v (.str s)), some (.v (.int (x : Nat))), some (.v (.tp .k (ws.map D.str))), some (.v (.tup (lg.map legD))), some (.v (.lst (prL lg x))), none, some (.v (.lst (ts.map fzD))), o8, o9, o10, o11]) (S1 := S ++ none :: J) ?_ (out_ret ?_)))))
  · rw [evS_1]
    simp only [evE_1, getV_0, lft_some, Rs.bind_ok]
    rfl
  · rw [evS_1]
    simp only [evE_23, evE_1, evL_1, evL_2, getV_0, getV_s, lft_some, Rs.bind_ok, itW_tp, wipeV_cons, wipeV_nil, wipeV1_0, wipeV1_s, List.map_cons, List.map_nil, c, calm_ok, compR_ok, bindV_nm, setV2_0, setV2_s]
  · rw [evS_1]
    simp only [evE_15, evE_26, evP_1, evP_2, evE_1, evE_4, evL_1, evL_2, getV_0, getV_s, lft_some, Rs.bind_ok, calm_ok]
    rfl
  · rw [evS_9]
    simp only [evE_7, evE_20, evE_1, evE_4, evL_1, evL_2, getV_0, getV_s, lft_some, Rs.bind_ok, bt_len, rd1_some' rdW_tp, lenA_tp', ln, lfv_some, rd2_some' rdW_i rdW_i, bo_sub, vsub_int, ir]
    exact e
  · have g : getS (S ++ some (.lst (ts.map fzD)) :: J) S.length = some (.lst (ts.map fzD)) := getS_mid
    have st : setS (S ++ some (.lst (ts.map fzD)) :: J) S.length none = S ++ none :: J := setS_mid
    rw [evS_14]
    unfold fzV
    simp only [getV_0, getV_s, g, st, setV2_0, setV2_s]
  · simp only [evS_6, evE_1, getV_0, getV_s, lft_some, Rs.bind_ok]
end K85

/-! k85: the law's triple of an office -/
namespace K85
open PySem PySem.Spec PyProof.Rows L2 Z CM
/-- prices by number of legs, at one office -/
def psF (E : List EL) (s v : Str) : Nat → Nat → List P2
  | _, 0 => []
  | k, m + 1 => match tbl E s k v with
    | some a => (a, k) :: psF E s v (k + 1) m
    | none => psF E s v (k + 1) m
theorem mem_ps {E : List EL} {s v : Str} {q : P2} : ∀ m k, q ∈ psF E s v k m ↔ k ≤ q.2 ∧ q.2 < k + m ∧ tbl E s q.2 v = some q.1
  | 0, k => by
    constructor
    · intro h; cases h
    · intro h; omega
  | m + 1, k => by
    have ih := mem_ps (E := E) (s := s) (v := v) (q := q) m (k + 1)
    obtain ⟨a, n⟩ := q
    dsimp only at ih ⊢
    unfold psF
    cases h : tbl E s k v with
    | none =>
      dsimp only
      rw [ih]
      constructor
      · intro ⟨h1, h2, h3⟩; exact ⟨by omega, by omega, h3⟩
      · intro ⟨h1, h2, h3⟩
        refine ⟨?_, by omega, h3⟩
        rcases Nat.lt_or_ge k n with c | c
        · omega
        · have : n = k := by omega
          subst this
          rw [h] at h3; cases h3
    | some b =>
      dsimp only
      rw [List.mem_cons, ih]
      constructor
      · intro z
        rcases z with z | ⟨h1, h2, h3⟩
        · cases z; exact ⟨Nat.le_refl _, by omega, h⟩
        · exact ⟨by omega, by omega, h3⟩
      · intro ⟨h1, h2, h3⟩
        rcases Nat.lt_or_ge k n with c | c
        · exact .inr ⟨by omega, by omega, h3⟩
        · have : n = k := by omega
          subst this
          rw [h] at h3
          rw [Option.some.inj h3]; exact .inl rfl
theorem lt_p2 {p q : P2} : ltD (p2D p) (p2D q) = decide (lt2 p q) := by
  have h := vlt_p2 (p := p) (q := q)
  have h2 : vlt (p2D p) (p2D q) = some (.bl (ltD (p2D p) (p2D q))) := rfl
  rw [h2] at h
  injection h with h
  injection h
theorem least_p2 {p : P2} : ∀ (qs : List P2) (q0 : P2), (∀ q ∈ q0 :: qs, le2 p q) → p ∈ q0 :: qs → leastP (p2D q0) (qs.map p2D) = p2D p
  | [], q0, _, h => by
    rw [List.mem_singleton] at h
    subst h; rfl
  | q :: qs, q0, ha, h => by
    show leastP (if ltD (p2D q) (p2D q0) = true then p2D q else p2D q0) (qs.map p2D) = _
    rw [lt_p2]
    by_cases c : lt2 q q0
    · rw [if_pos (decide_eq_true c)]
      refine least_p2 qs q (fun z hz => ha z (List.mem_cons_of_mem _ hz)) ?_
      rcases List.mem_cons.mp h with e | h
      · subst e
        have h1 := ha q (by simp)
        have h2 := le2_anti h1 (lt2_le c)
        rw [h2]; simp
      · exact h
    · rw [if_neg (by simpa using c)]
      refine least_p2 qs q0 (fun z hz => ha z (by
        rcases List.mem_cons.mp hz with e | hz
        · rw [e]; simp
        · exact List.mem_cons_of_mem _ (List.mem_cons_of_mem _ hz))) ?_
      rcases List.mem_cons.mp h with e | h
      · rw [e]; simp
      · rcases List.mem_cons.mp h with e | h
        · subst e
          have h1 := ha q0 (by simp)
          have h2 := le2_anti h1 (not_lt2 c)
          rw [h2]; simp
        · exact List.mem_cons_of_mem _ h
theorem min_p2 {p : P2} {ps : List P2} (ha : ∀ q ∈ ps, le2 p q) (h : p ∈ ps) : Z.minPA M00 (.lst (ps.map p2D)) = some (p2D p) := by
  cases ps with
  | nil => cases h
  | cons q qs =>
    have ib : ((q :: qs).map p2D).all ipB = true := by
      rw [List.all_map, List.all_eq_true]
      intro z _; rfl
    show (if ((q :: qs).map p2D).all ipB = true then some (leastP (p2D q) (qs.map p2D)) else none) = _
    rw [if_pos ib, least_p2 qs q ha h]
theorem hc0 (r : Rs (List W)) : callV G_law_triple 0 r = r.bind fun ws S => if ws.length = 2 then F_law_value ws S else .no := by unfold G_law_triple; rfl
def bodyP : List Sx := [.asg (.tp [9, 10, 11]) (.idx (.idx (.loc 0) (.int 1)) (.loc 8)), .asg (.nm 12) (.call 0 (.loc 11) [(.loc 3)]), .ifs (.bol true [(.cmp .eq (.loc 10) (.loc 2)), (.cmp .isnot (.loc 12) .non), (.cmp .isin (.loc 9) (.idx (.loc 1) (.bin .sub (.loc 7) (.int 1))))])
    [.ifs (.cmp .eq (.bin .add (.idx (.idx (.loc 1) (.bin .sub (.loc 7) (.int 1))) (.loc 9)) (.loc 12)) (.loc 6))
    [.ret (.tup [(.loc 6), (.loc 7), (.loc 8)])]
    []]
    []]
theorem comp_P {S : Sto} {E : List EL} {s v : Str} {ts : List KD} (ok : okTs E s ts) {w0 w3 : W} {o5 : Option W} : ∀ m k, k + m ≤ ts.length → compV (.nm 5) (evC G_law_triple [(.cmp .isin (.loc 2) (.idx (.loc 1) (.loc 5)))]) (evE G_law_triple (.tup [(.idx (.idx (.loc 1) (.loc 5)) (.loc 2)), (.loc 5)])) [some w0, some (.v (.lst (ts.map fzD))), some (.v (.str v)), some w3, none, o5, none, none, none, none, none, none, none] (rngD (k : Nat) m) S = .ok ((psF E s v k m).map p2D) S
  | 0, k, _ => rfl
  | m + 1, k, h => by
    have kl : k < ts.length := by omega
    have rk := ok _ _ (List.getElem?_eq_getElem kl)
    have x0 : ∀ S, ixW S (.v (.lst (ts.map fzD))) (.v (.int (k : Nat))) = some (.v (fzD ts[k])) := fun S => ix_lst (by rw [List.getElem?_map, List.getElem?_eq_getElem kl]; rfl)
    have er : rngD ((k : Nat) : Int) (m + 1) = .int ((k : Nat) : Int) :: rngD ((k + 1 : Nat) : Int) m := rfl
    have ih := comp_P (S := S) (v := v) ok (w0 := w0) (w3 := w3) (o5 := o5) m (k + 1) (by omega)
    rw [er]
    conv => lhs; unfold compV
    unfold psF
    cases ht : tbl E s k v with
    | none =>
      simp only [bindV_nm, setV2_0, setV2_s, evC_2, evT_1, evE_16, evE_1, getV_0, getV_s, lft_some, Rs.bind_ok, x0, co_in, in_fz rk, ht, Option.isSome_none, blO_some, ih]
    | some a =>
      simp only [bindV_nm, setV2_0, setV2_s, evC_2, evT_1, evE_14, evE_16, evE_1, evL_1, evL_2, getV_0, getV_s, lft_some, Rs.bind_ok, x0, co_in, in_fz rk, ix_fz rk ht, ht, Option.isSome_some, blO_some, plnW_cons, plnW_nil, List.length_cons, List.length_nil, Nat.zero_add, Nat.reduceAdd, sl_2, if_true, ih]
      rfl
section
variable {ws : List Str} {lg : List LgF} (b : NB ws lg) {x : Nat} (hx : x < 2 ^ 200) {s v : Str} (hs : s ∈ ws)
include b hx hs
theorem turn_P {S : Sto} {ts : List KD} (ok : okTs (elE lg x) s ts) {P : Int} {C k : Nat} (hC : C < ts.length) (bs : Bst (elE lg x) s v (P, C + 1)) {w4 w5 : Option W} {o9 o10 o11 o12 : Option W} {l : LgF} (hl : lg[k]? = some l) :
    (fitB (elE lg x) ws s v (l.1, l.2.1, valF l.2.2 x) = true ∧ evSs G_law_triple bodyP [some (.v (netK ws lg)), some (.v (.lst (ts.map fzD))), some (.v (.str v)), some (.v (.int (x : Nat))), w4, w5, some (.v (.int P)), some (.v (.int ((C + 1 : Nat) : Int))), some (.v (.int (k : Nat))), o9, o10, o11, o12] S = .ok (.rt (.v (.tup [.int P, .int ((C + 1 : Nat) : Int), .int (k : Nat)]))) S) ∨
    (fitB (elE lg x) ws s v (l.1, l.2.1, valF l.2.2 x) = false ∧ ∃ p9 p10 p11 p12, evSs G_law_triple bodyP [some (.v (netK ws lg)), some (.v (.lst (ts.map fzD))), some (.v (.str v)), some (.v (.int (x : Nat))), w4, w5, some (.v (.int P)), some (.v (.int ((C + 1 : Nat) : Int))), some (.v (.int (k : Nat))), o9, o10, o11, o12] S = .ok (.nx [some (.v (netK ws lg)), some (.v (.lst (ts.map fzD))), some (.v (.str v)), some (.v (.int (x : Nat))), w4, w5, some (.v (.int P)), some (.v (.int ((C + 1 : Nat) : Int))), some (.v (.int (k : Nat))), p9, p10, p11, p12]) S) := by
  have g := b.gr hs x
  have he : (l.1, l.2.1, valF l.2.2 x) ∈ elE lg x := List.mem_of_getElem? (el_get hl)
  have hf : FoB l.2.2 := b.fo l (List.mem_of_getElem? hl)
  have iff := fun (bb : Bst (elE lg x) s l.2.1 (P, C + 1)) => last_iff g (v := l.2.1) he bb
  have kv := kn_of g bs
  have x0 : ∀ S, ixW S (.v (netK ws lg)) (.v (.int 1)) = some (.v (.tup (lg.map legD))) := fun S => ix_tp (i := 1) rfl
  have x1 : ∀ S, ixW S (.v (.tup (lg.map legD))) (.v (.int (k : Nat))) = some (.v (legD l)) := fun S => ix_tp (by rw [List.getElem?_map, hl]; rfl)
  have rk := ok _ _ (List.getElem?_eq_getElem hC)
  have x2 : ∀ S, ixW S (.v (.lst (ts.map fzD))) (.v (.int (((C + 1 : Nat) : Int) - 1))) = some (.v (fzD ts[C])) := fun S => by
    rw [show ((C + 1 : Nat) : Int) - 1 = ((C : Nat) : Int) by omega]
    exact ix_lst (by rw [List.getElem?_map, List.getElem?_eq_getElem hC]; rfl)
  unfold bodyP
  have s1 : evS G_law_triple (.asg (.tp [9, 10, 11]) (.idx (.idx (.loc 0) (.int 1)) (.loc 8))) [some (.v (netK ws lg)), some (.v (.lst (ts.map fzD))), some (.v (.str v)), some (.v (.int (x : Nat))), w4, w5, some (.v (.int P)), some (.v (.int ((C + 1 : Nat) : Int))), some (.v (.int (k : Nat))), o9, o10, o11, o12] S = .ok (.nx [some (.v (netK ws lg)), some (.v (.lst (ts.map fzD))), some (.v (.str v)), some (.v (.int (x : Nat))), w4, w5, some (.v (.int P)), some (.v (.int ((C + 1 : Nat) : Int))), some (.v (.int (k : Nat))), some (.v (.str l.1)), some (.v (.str l.2.1)), some (.v (foD l.2.2)), o12]) S := by
    rw [evS_1]
    simp only [evE_16, evE_1, evE_4, getV_0, getV_s, lft_some, Rs.bind_ok, x0, x1]
    rfl
  have s2 : evS G_law_triple (.asg (.nm 12) (.call 0 (.loc 11) [(.loc 3)])) [some (.v (netK ws lg)), some (.v (.lst (ts.map fzD))), some (.v (.str v)), some (.v (.int (x : Nat))), w4, w5, some (.v (.int P)), some (.v (.int ((C + 1 : Nat) : Int))), some (.v (.int (k : Nat))), some (.v (.str l.1)), some (.v (.str l.2.1)), some (.v (foD l.2.2)), o12] S = .ok (.nx [some (.v (netK ws lg)), some (.v (.lst (ts.map fzD))), some (.v (.str v)), some (.v (.int (x : Nat))), w4, w5, some (.v (.int P)), some (.v (.int ((C + 1 : Nat) : Int))), some (.v (.int (k : Nat))), some (.v (.str l.1)), some (.v (.str l.2.1)), some (.v (foD l.2.2)), some (.v (oD (valF l.2.2 x)))]) S := by
    simp only [evS_1, evE_19, evE_1, evL_1, evL_2, getV_0, getV_s, lft_some, Rs.bind_ok, hc0, List.length_cons, List.length_nil, Nat.zero_add, Nat.reduceAdd, if_true, v_law_value hf hx, bindV_nm, setV2_0, setV2_s]
  by_cases hv : l.2.1 = v
  · have iff := iff (by rw [hv]; exact bs)
    cases hc : valF l.2.2 x with
    | none =>
      rw [hc] at s2 iff
      refine .inr ⟨?_, some (.v (.str l.1)), some (.v (.str l.2.1)), some (.v (foD l.2.2)), some (.v .non), nx_step s1 (nx_step s2 (nx_step (if_ff (S1 := S) ?_ evSs_1) evSs_1))⟩
      · exact fit_no (K := kn (elE lg x) ws s) (by unfold behF; dsimp only; cases kn (elE lg x) ws s l.1 <;> rfl) v
      · simp only [evT_3, evB_3, evT_1, evE_16, evE_1, evE_2, getV_0, getV_s, lft_some, Rs.bind_ok, co_eq, rd2_some' rdW_str rdW_str, veq_str, hv, decide_true, co_isn, nonW_non, if_true, oD, Bool.not_true]
    | some c =>
      rw [hc] at s2 iff
      cases hu : tbl (elE lg x) s C l.1 with
      | none =>
        refine .inr ⟨?_, some (.v (.str l.1)), some (.v (.str l.2.1)), some (.v (foD l.2.2)), some (.v (.int c)), nx_step s1 (nx_step s2 (nx_step (if_ff (S1 := S) ?_ evSs_1) evSs_1))⟩
        · refine fit_ne (K := kn (elE lg x) ws s) (e := (l.1, l.2.1, some c)) (fun z => ?_) v
          dsimp only at z
          rw [hv, kv] at z
          rw [hv] at iff
          obtain ⟨a, c', _, h2, _⟩ := iff.mp z
          rw [hu] at h2; cases h2
        · simp only [evT_3, evB_2, evB_3, evT_1, evE_7, evE_16, evE_1, evE_2, evE_4, getV_0, getV_s, lft_some, Rs.bind_ok, co_eq, rd2_some' rdW_str rdW_str, veq_str, hv, decide_true, co_isn, nonW_non, nonW_int, if_true, oD, Bool.not_false, rd2_some' rdW_i rdW_i, bo_sub, vsub_int, lfv_some, x2, co_in, in_fz rk, hu, Option.isSome_none, blO_some]
      | some a =>
        have c1 : evT G_law_triple (.bol true [(.cmp .eq (.loc 10) (.loc 2)), (.cmp .isnot (.loc 12) .non), (.cmp .isin (.loc 9) (.idx (.loc 1) (.bin .sub (.loc 7) (.int 1))))]) [some (.v (netK ws lg)), some (.v (.lst (ts.map fzD))), some (.v (.str v)), some (.v (.int (x : Nat))), w4, w5, some (.v (.int P)), some (.v (.int ((C + 1 : Nat) : Int))), some (.v (.int (k : Nat))), some (.v (.str l.1)), some (.v (.str l.2.1)), some (.v (foD l.2.2)), some (.v (.int c))] S = .ok true S := by
          simp only [evT_3, evB_2, evB_3, evT_1, evE_7, evE_16, evE_1, evE_2, evE_4, getV_0, getV_s, lft_some, Rs.bind_ok, co_eq, rd2_some' rdW_str rdW_str, veq_str, hv, decide_true, co_isn, nonW_non, nonW_int, if_true, oD, Bool.not_false, rd2_some' rdW_i rdW_i, bo_sub, vsub_int, lfv_some, x2, co_in, in_fz rk, hu, Option.isSome_some, blO_some]
        have c2 : evT G_law_triple (.cmp .eq (.bin .add (.idx (.idx (.loc 1) (.bin .sub (.loc 7) (.int 1))) (.loc 9)) (.loc 12)) (.loc 6)) [some (.v (netK ws lg)), some (.v (.lst (ts.map fzD))), some (.v (.str v)), some (.v (.int (x : Nat))), w4, w5, some (.v (.int P)), some (.v (.int ((C + 1 : Nat) : Int))), some (.v (.int (k : Nat))), some (.v (.str l.1)), some (.v (.str l.2.1)), some (.v (foD l.2.2)), some (.v (.int c))] S = .ok (decide (a + c = P)) S := by
          simp only [evT_1, evE_7, evE_16, evE_1, evE_4, getV_0, getV_s, lft_some, Rs.bind_ok, rd2_some' rdW_i rdW_i, bo_sub, bo_add, vsub_int, vadd_int, lfv_some, x2, ix_fz rk hu, co_eq, veq_int]
        by_cases q : a + c = P
        · rw [decide_eq_true q] at c2
          refine .inl ⟨?_, nx_step s1 (nx_step s2 (rt_step (if_tt c1 (rt_step (if_tt c2 (rt_step ?_))))))⟩
          · have z := iff.mpr ⟨a, c, rfl, hu, q⟩
            unfold fitB
            rw [z]
            dsimp only
            rw [kv, decide_eq_true hv]; simp
          · simp only [evS_6, evE_14, evE_1, evL_1, evL_2, getV_0, getV_s, lft_some, Rs.bind_ok, plnW_cons, plnW_nil, List.length_cons, List.length_nil, Nat.zero_add, Nat.reduceAdd, sl_3, if_true]
        · rw [decide_eq_false q] at c2
          refine .inr ⟨?_, some (.v (.str l.1)), some (.v (.str l.2.1)), some (.v (foD l.2.2)), some (.v (.int c)), nx_step s1 (nx_step s2 (nx_step (if_tt c1 (nx_step (if_ff c2 evSs_1) evSs_1)) evSs_1))⟩
          refine fit_ne (K := kn (elE lg x) ws s) (e := (l.1, l.2.1, some c)) (fun z => ?_) v
          dsimp only at z
          rw [hv, kv] at z
          rw [hv] at iff
          obtain ⟨a', c', h1, h2, h3⟩ := iff.mp z
          rw [hu] at h2
          cases h1
          cases h2
          exact q h3
  · refine .inr ⟨?_, some (.v (.str l.1)), some (.v (.str l.2.1)), some (.v (foD l.2.2)), some (.v (oD (valF l.2.2 x))), nx_step s1 (nx_step s2 (nx_step (if_ff (S1 := S) ?_ evSs_1) evSs_1))⟩
    · exact fit_oth (K := kn (elE lg x) ws s) (e := (l.1, l.2.1, valF l.2.2 x)) (fun z => hv z.symm)
    · simp only [evT_3, evB_3, evT_1, evE_1, getV_0, getV_s, lft_some, Rs.bind_ok, co_eq, rd2_some' rdW_str rdW_str, veq_str, decide_eq_false hv]
end
end K85

/-! k85: the law's triple of an office, whole -/
namespace K85
open PySem PySem.Spec PyProof.Rows L2 Z CM
def tripD (E : List EL) (ws : List Str) (s v : Str) : D := match kn E ws s v with
  | none => .tup [.non, .non, .non]
  | some p => .tup [.int p.1, .int (p.2 : Nat), oD ((lstI E ws s v).map fun i => ((i : Nat) : Int))]
section
variable {ws : List Str} {lg : List LgF} (b : NB ws lg) {x : Nat} (hx : x < 2 ^ 200) {s v : Str} (hs : s ∈ ws)
include b hx hs
theorem loop_P {S : Sto} {ts : List KD} (ok : okTs (elE lg x) s ts) {P : Int} {C : Nat} (hC : C < ts.length) (bs : Bst (elE lg x) s v (P, C + 1)) {w4 w5 : Option W} : ∀ (m k : Nat) (o8 o9 o10 o11 o12 : Option W), k + m = lg.length →
    (∃ j, ((elE lg x).drop k).findIdx? (fitB (elE lg x) ws s v) = some j ∧ turnsV (.nm 8) (evSs G_law_triple bodyP) (rngD (k : Nat) m) [some (.v (netK ws lg)), some (.v (.lst (ts.map fzD))), some (.v (.str v)), some (.v (.int (x : Nat))), w4, w5, some (.v (.int P)), some (.v (.int ((C + 1 : Nat) : Int))), o8, o9, o10, o11, o12] S = .ok (.rt (.v (.tup [.int P, .int ((C + 1 : Nat) : Int), .int ((k + j : Nat) : Int)]))) S) ∨
    (((elE lg x).drop k).findIdx? (fitB (elE lg x) ws s v) = none ∧ ∃ p8 p9 p10 p11 p12, turnsV (.nm 8) (evSs G_law_triple bodyP) (rngD (k : Nat) m) [some (.v (netK ws lg)), some (.v (.lst (ts.map fzD))), some (.v (.str v)), some (.v (.int (x : Nat))), w4, w5, some (.v (.int P)), some (.v (.int ((C + 1 : Nat) : Int))), o8, o9, o10, o11, o12] S = .ok (.nx [some (.v (netK ws lg)), some (.v (.lst (ts.map fzD))), some (.v (.str v)), some (.v (.int (x : Nat))), w4, w5, some (.v (.int P)), some (.v (.int ((C + 1 : Nat) : Int))), p8, p9, p10, p11, p12]) S)
  | 0, k, o8, o9, o10, o11, o12, hk => by
    refine .inr ⟨?_, o8, o9, o10, o11, o12, rfl⟩
    rw [List.drop_eq_nil_of_le (by unfold elE; rw [List.length_map]; omega)]
    rfl
  | m + 1, k, o8, o9, o10, o11, o12, hk => by
    have kl : k < lg.length := by omega
    have dr : (elE lg x).drop k = (lg[k].1, lg[k].2.1, valF lg[k].2.2 x) :: (elE lg x).drop (k + 1) := by
      have h : k < (elE lg x).length := by unfold elE; rw [List.length_map]; exact kl
      rw [List.drop_eq_getElem_cons h]
      congr 1
      simp [elE]
    have er : rngD ((k : Nat) : Int) (m + 1) = .int ((k : Nat) : Int) :: rngD ((k + 1 : Nat) : Int) m := rfl
    rw [dr, er, List.findIdx?_cons]
    rcases turn_P b hx hs (S := S) ok hC bs (w4 := w4) (w5 := w5) (o9 := o9) (o10 := o10) (o11 := o11) (o12 := o12) (List.getElem?_eq_getElem kl) with ⟨f, e⟩ | ⟨f, p9, p10, p11, p12, e⟩
    · refine .inl ⟨0, by rw [f]; rfl, ?_⟩
      conv => lhs; unfold turnsV
      simp only [bindV_nm, setV2_0, setV2_s, e, Rs.bind_ok]
      rfl
    · rw [f]
      rcases loop_P (S := S) ok hC bs (w4 := w4) (w5 := w5) m (k + 1) (some (.v (.int (k : Nat)))) p9 p10 p11 p12 (by omega) with ⟨j, h1, h2⟩ | ⟨h1, q8, q9, q10, q11, q12, h2⟩
      · refine .inl ⟨j + 1, by rw [h1]; rfl, ?_⟩
        conv => lhs; unfold turnsV
        simp only [bindV_nm, setV2_0, setV2_s, e, Rs.bind_ok, h2]
        rw [show k + (j + 1) = k + 1 + j by omega]
      · refine .inr ⟨by rw [h1]; rfl, q8, q9, q10, q11, q12, ?_⟩
        conv => lhs; unfold turnsV
        simp only [bindV_nm, setV2_0, setV2_s, e, Rs.bind_ok, h2]
theorem v_law_triple {S : Sto} {ts : List KD} (ok : okTs (elE lg x) s ts) (hl : ts.length = ws.length) : F_law_triple [.v (netK ws lg), .v (.lst (ts.map fzD)), .v (.str v), .v (.int (x : Nat))] S = .ok (.v (tripD (elE lg x) ws s v)) S := by
  have g := b.gr hs x
  have n8 := b.n8
  have l40 := b.l40
  have hB : B_law_triple = [.asg (.nm 4) (.comp false (.tup [(.idx (.idx (.loc 1) (.loc 5)) (.loc 2)), (.loc 5)]) (.nm 5) .rng1 [(.blt .len (.loc 1) [])] [(.cmp .isin (.loc 2) (.idx (.loc 1) (.loc 5)))] [("k", 5)]), .ifs (.cmp .eq (.blt .len (.loc 4) []) (.int 0)) [.ret (.tup [.non, .non, .non])] [], .asg (.tp [6, 7]) (.blt .minP (.loc 4) []), .ifs (.cmp .eq (.loc 7) (.int 0)) [.ret (.tup [(.loc 6), (.loc 7), .non])] [], .fors (.nm 8) .rng1 [(.blt .len (.idx (.loc 0) (.int 1)) [])] bodyP, .ret (.tup [(.loc 6), (.loc 7), .non])] := rfl
  have c := comp_P (S := S) (v := v) ok (w0 := .v (netK ws lg)) (w3 := .v (.int (x : Nat))) (o5 := none) ts.length 0 (by omega)
  have lt : ((ts.map fzD).length : Int) = (ts.length : Nat) := by rw [List.length_map]
  have ir : itW .rng1 [.v (.int (ts.length : Nat))] = some (rngD 0 ts.length) := it_rng (by omega) (by omega)
  have st1 : evS G_law_triple (.asg (.nm 4) (.comp false (.tup [(.idx (.idx (.loc 1) (.loc 5)) (.loc 2)), (.loc 5)]) (.nm 5) .rng1 [(.blt .len (.loc 1) [])] [(.cmp .isin (.loc 2) (.idx (.loc 1) (.loc 5)))] [("k", 5)])) [some (.v (netK ws lg)), some (.v (.lst (ts.map fzD))), some (.v (.str v)), some (.v (.int (x : Nat))), none, none, none, none, none, none, none, none, none] S = .ok (.nx [some (.v (netK ws lg)), some (.v (.lst (ts.map fzD))), some (.v (.str v)), some (.v (.int (x : Nat))), some (.v (.lst ((psF (elE lg x) s v 0 ts.length).map p2D))), none, none, none, none, none, none, none, none]) S := by
    rw [evS_1]
    simp only [evE_23, evE_20, evE_1, evL_1, evL_2, getV_0, getV_s, lft_some, Rs.bind_ok, bt_len, rd1_some' rdW_lst, lenA_lst', lt, lfv_some, ir, wipeV_cons, wipeV_nil, wipeV1_0, wipeV1_s, List.map_cons, List.map_nil]
    rw [show (rngD 0 ts.length) = rngD ((0 : Nat) : Int) ts.length from rfl, c]
    simp only [calm_ok, compR_ok, Rs.bind_ok, bindV_nm, setV2_0, setV2_s]
  have tst : ∀ t : Bool, decide ((((psF (elE lg x) s v 0 ts.length).map p2D).length : Int) = 0) = t → evT G_law_triple (.cmp .eq (.blt .len (.loc 4) []) (.int 0)) [some (.v (netK ws lg)), some (.v (.lst (ts.map fzD))), some (.v (.str v)), some (.v (.int (x : Nat))), some (.v (.lst ((psF (elE lg x) s v 0 ts.length).map p2D))), none, none, none, none, none, none, none, none] S = .ok t S := fun t ht => by
    simp only [evT_1, evE_20, evE_1, evE_4, evL_1, getV_0, getV_s, lft_some, Rs.bind_ok, bt_len, rd1_some' rdW_lst, lenA_lst', lfv_some, co_eq, rd2_some' rdW_i rdW_i, veq_int, ht]
  rw [e_law_triple, hB]
  unfold tripD
  cases hk : kn (elE lg x) ws s v with
  | none =>
    have em : psF (elE lg x) s v 0 ts.length = [] := by
      cases q : psF (elE lg x) s v 0 ts.length with
      | nil => rfl
      | cons p ps =>
        have : p ∈ psF (elE lg x) s v 0 ts.length := by rw [q]; simp
        obtain ⟨_, _, h⟩ := (mem_ps _ _).mp this
        obtain ⟨l, w⟩ := tbl_walk h
        obtain ⟨p', hp⟩ := kn_walk g w
        rw [hk] at hp; cases hp
    refine out_step st1 (out_ret (if_tt (tst true (by rw [em]; rfl)) (rt_step ?_)))
    simp only [evS_6, evE_14, evE_2, evL_1, evL_2, Rs.bind_ok, plnW_cons, plnW_nil, List.length_cons, List.length_nil, Nat.zero_add, Nat.reduceAdd, sl_3, if_true]
  | some p =>
    have bp := kn_best g hk
    have le := bp.le_n g
    have hm : p ∈ psF (elE lg x) s v 0 ts.length := (mem_ps _ _).mpr ⟨by omega, by omega, best_tbl bp⟩
    have mi := min_p2 (ps := psF (elE lg x) s v 0 ts.length) (p := p) (fun q hq => tbl_le bp ((mem_ps _ _).mp hq).2.2) hm
    have ne : decide ((((psF (elE lg x) s v 0 ts.length).map p2D).length : Int) = 0) = false := by
      refine decide_eq_false fun z => ?_
      rw [List.length_map] at z
      have := List.length_pos_of_mem hm
      omega
    have st3 : evS G_law_triple (.asg (.tp [6, 7]) (.blt .minP (.loc 4) [])) [some (.v (netK ws lg)), some (.v (.lst (ts.map fzD))), some (.v (.str v)), some (.v (.int (x : Nat))), some (.v (.lst ((psF (elE lg x) s v 0 ts.length).map p2D))), none, none, none, none, none, none, none, none] S = .ok (.nx [some (.v (netK ws lg)), some (.v (.lst (ts.map fzD))), some (.v (.str v)), some (.v (.int (x : Nat))), some (.v (.lst ((psF (elE lg x) s v 0 ts.length).map p2D))), none, some (.v (.int p.1)), some (.v (.int (p.2 : Nat))), none, none, none, none, none]) S := by
      rw [evS_1]
      simp only [evE_20, evE_1, evL_1, getV_0, getV_s, lft_some, Rs.bind_ok, bt_minP, rd1_some' rdW_lst, mi, lfv_some]
      rfl
    refine out_step st1 (out_step (if_ff (tst false ne) evSs_1) (out_step st3 ?_))
    obtain ⟨P, n⟩ := p
    cases n with
    | zero =>
      have e := bp.zero rfl
      subst e
      rw [lst_start g]
      refine out_ret (if_tt (S1 := S) ?_ (rt_step ?_))
      · simp only [evT_1, evE_1, evE_4, getV_0, getV_s, lft_some, Rs.bind_ok, co_eq, rd2_some' rdW_i rdW_i, veq_int]
        rfl
      · simp only [evS_6, evE_14, evE_1, evE_2, evL_1, evL_2, getV_0, getV_s, lft_some, Rs.bind_ok, plnW_cons, plnW_nil, List.length_cons, List.length_nil, Nat.zero_add, Nat.reduceAdd, sl_3, if_true]
        rfl
    | succ C =>
      have ln : ((lg.map legD).length : Int) = (lg.length : Nat) := by rw [List.length_map]
      have ir2 : itW .rng1 [.v (.int (lg.length : Nat))] = some (rngD 0 lg.length) := it_rng (by omega) (by omega)
      have x0 : ∀ S, ixW S (.v (netK ws lg)) (.v (.int 1)) = some (.v (.tup (lg.map legD))) := fun S => ix_tp (i := 1) rfl
      have nz : decide (((C + 1 : Nat) : Int) = 0) = false := decide_eq_false (by omega)
      refine out_step (if_ff (S1 := S) ?_ evSs_1) ?_
      · dsimp only
        simp only [evT_1, evE_1, evE_4, getV_0, getV_s, lft_some, Rs.bind_ok, co_eq, rd2_some' rdW_i rdW_i, veq_int, nz]
      · have lp := loop_P b hx hs (v := v) (S := S) ok (P := P) (C := C) (by dsimp only at le; omega) bp (w4 := some (.v (.lst ((psF (elE lg x) s v 0 ts.length).map p2D)))) (w5 := none) lg.length 0 none none none none none (by omega)
        rw [List.drop_zero] at lp
        have fs : ∀ r, turnsV (.nm 8) (evSs G_law_triple bodyP) (rngD ((0 : Nat) : Int) lg.length) [some (.v (netK ws lg)), some (.v (.lst (ts.map fzD))), some (.v (.str v)), some (.v (.int (x : Nat))), some (.v (.lst ((psF (elE lg x) s v 0 ts.length).map p2D))), none, some (.v (.int P)), some (.v (.int ((C + 1 : Nat) : Int))), none, none, none, none, none] S = r → evS G_law_triple (.fors (.nm 8) .rng1 [(.blt .len (.idx (.loc 0) (.int 1)) [])] bodyP) [some (.v (netK ws lg)), some (.v (.lst (ts.map fzD))), some (.v (.str v)), some (.v (.int (x : Nat))), some (.v (.lst ((psF (elE lg x) s v 0 ts.length).map p2D))), none, some (.v (.int P)), some (.v (.int ((C + 1 : Nat) : Int))), none, none, none, none, none] S = r := fun r hr => by
          rw [evS_9]
          simp only [evE_20, evE_16, evE_1, evE_4, evL_1, evL_2, getV_0, getV_s, lft_some, Rs.bind_ok, x0, bt_len, rd1_some' rdW_tp, lenA_tp', ln, lfv_some, ir2]
          exact hr
        rcases lp with ⟨j, h1, h2⟩ | ⟨h1, q8, q9, q10, q11, q12, h2⟩
        · have h1 : lstI (elE lg x) ws s v = some j := h1
          rw [h1]
          have := out_ret (r := [.ret (.tup [(.loc 6), (.loc 7), .non])]) (fs _ h2)
          rw [Nat.zero_add] at this
          exact this
        · have h1 : lstI (elE lg x) ws s v = none := h1
          rw [h1]
          refine out_step (fs _ h2) (out_ret ?_)
          simp only [evS_6, evE_14, evE_1, evE_2, evL_1, evL_2, getV_0, getV_s, lft_some, Rs.bind_ok, plnW_cons, plnW_nil, List.length_cons, List.length_nil, Nat.zero_add, Nat.reduceAdd, sl_3, if_true]
          rfl
end
end K85

/-! k85: the due way -/
namespace K85
open PySem PySem.Spec PyProof.Rows L2 Z CM
theorem dc0 (r : Rs (List W)) : callV G_law_due 0 r = r.bind fun ws S => if ws.length = 3 then F_law_tables ws S else .no := by unfold G_law_due; rfl
theorem dc1 (r : Rs (List W)) : callV G_law_due 1 r = r.bind fun ws S => if ws.length = 4 then F_law_triple ws S else .no := by unfold G_law_due; rfl
theorem trip_lst {E : List EL} {ws : List Str} {s v : Str} {i : Nat} (h : lstI E ws s v = some i) : ∃ a b, tripD E ws s v = .tup [a, b, .int (i : Nat)] := by
  obtain ⟨e, _, h2, _⟩ := lst_some h
  unfold tripD
  cases hk : kn E ws s v with
  | none =>
    unfold fitB at h2
    rw [hk] at h2
    cases hb : behF (kn E ws s) e with
    | none => rw [hb] at h2; simp at h2
    | some q => rw [hb] at h2; simp at h2
  | some p => exact ⟨_, _, by rw [h]; rfl⟩
def bodyD : List Sx := [.ifs (.cmp .ne (.loc 6) (.loc 1))
    [.asg (.nm 8) (.idx (.call 1 (.loc 0) [(.loc 4), (.loc 6), (.loc 3)]) (.int 2)), .ifs (.cmp .is (.loc 8) .non)
    [.ret .non]
    [], .asg (.nm 5) (.bin .add (.lst false [(.loc 8)]) (.loc 5)), .asg (.nm 6) (.idx (.idx (.idx (.loc 0) (.int 1)) (.loc 8)) (.int 0))]
    []]
section
variable {ws : List Str} {lg : List LgF} (b : NB ws lg) {x : Nat} (hx : x < 2 ^ 200) {s : Str} (hs : s ∈ ws)
theorem ne_D {S : Sto} {w0 w2 w3 w4 w5 : W} {o7 o8 : Option W} {s v : Str} : evT G_law_due (.cmp .ne (.loc 6) (.loc 1)) [some w0, some (.v (.str s)), some w2, some w3, some w4, some w5, some (.v (.str v)), o7, o8] S = .ok (!decide (v = s)) S := by
  simp only [evT_1, evE_1, getV_0, getV_s, lft_some, Rs.bind_ok, co_ne, rd2_some' rdW_str rdW_str, vne_str]
include b hx hs
theorem asg_D {S : Sto} {ts : List KD} (ok : okTs (elE lg x) s ts) (hl : ts.length = ws.length) {w2 w5 : W} {o7 o8 : Option W} {v : Str} {a c z : D} (ht : tripD (elE lg x) ws s v = .tup [a, c, z]) : evS G_law_due (.asg (.nm 8) (.idx (.call 1 (.loc 0) [(.loc 4), (.loc 6), (.loc 3)]) (.int 2))) [some (.v (netK ws lg)), some (.v (.str s)), some w2, some (.v (.int (x : Nat))), some (.v (.lst (ts.map fzD))), some w5, some (.v (.str v)), o7, o8] S = .ok (.nx [some (.v (netK ws lg)), some (.v (.str s)), some w2, some (.v (.int (x : Nat))), some (.v (.lst (ts.map fzD))), some w5, some (.v (.str v)), o7, some (.v z)]) S := by
  have x1 : ∀ S, ixW S (.v (.tup [a, c, z])) (.v (.int 2)) = some (.v z) := fun S => ix_tp (i := 2) rfl
  have tr := v_law_triple b hx hs (S := S) (v := v) ok hl
  rw [ht] at tr
  simp only [evS_1, evE_16, evE_19, evE_1, evE_4, evL_1, evL_2, getV_0, getV_s, lft_some, Rs.bind_ok, dc1, List.length_cons, List.length_nil, Nat.zero_add, Nat.reduceAdd, if_true, tr, x1, bindV_nm, setV2_0, setV2_s]
theorem turn_D {S : Sto} {ts : List KD} (ok : okTs (elE lg x) s ts) (hl : ts.length = ws.length) {w2 : W} {acc : List D} {o7 o8 : Option W} {u v : Str} {oc : Option Int} {i : Nat} (ne : v ≠ s) (hi : lstI (elE lg x) ws s v = some i) (he : (elE lg x)[i]? = some (u, v, oc)) (ha : acc.length < 1000) :
    evSs G_law_due bodyD [some (.v (netK ws lg)), some (.v (.str s)), some w2, some (.v (.int (x : Nat))), some (.v (.lst (ts.map fzD))), some (.v (.lst acc)), some (.v (.str v)), o7, o8] S = .ok (.nx [some (.v (netK ws lg)), some (.v (.str s)), some w2, some (.v (.int (x : Nat))), some (.v (.lst (ts.map fzD))), some (.v (.lst (.int (i : Nat) :: acc))), some (.v (.str u)), o7, some (.v (.int (i : Nat)))]) S := by
  obtain ⟨a, c, hr⟩ := trip_lst hi
  obtain ⟨l, hlg, hu, _, _⟩ := el_inv he
  have x0 : ∀ S, ixW S (.v (netK ws lg)) (.v (.int 1)) = some (.v (.tup (lg.map legD))) := fun S => ix_tp (i := 1) rfl
  have x2 : ∀ S, ixW S (.v (.tup (lg.map legD))) (.v (.int (i : Nat))) = some (.v (legD l)) := fun S => ix_tp (by rw [List.getElem?_map, hlg]; rfl)
  have x3 : ∀ S, ixW S (.v (legD l)) (.v (.int 0)) = some (.v (.str u)) := fun S => ix_tp (i := 0) (by rw [← hu]; rfl)
  have ad : vadd (.lst [.int (i : Nat)]) (.lst acc) = some (.lst (.int (i : Nat) :: acc)) := vadd_lst (a := [.int (i : Nat)]) (b := acc) (by have := sl1000; rw [List.length_singleton]; omega)
  unfold bodyD
  refine nx_step (if_tt (S1 := S) (by rw [ne_D, decide_eq_false ne]; rfl) (nx_step (asg_D b hx hs ok hl hr) (nx_step (if_ff (S1 := S) ?_ evSs_1) (nx_step (e1 := [some (.v (netK ws lg)), some (.v (.str s)), some w2, some (.v (.int (x : Nat))), some (.v (.lst (ts.map fzD))), some (.v (.lst (.int (i : Nat) :: acc))), some (.v (.str v)), o7, some (.v (.int (i : Nat)))]) (S1 := S) ?_ (nx_step ?_ evSs_1))))) evSs_1
  · simp only [evT_1, evE_1, evE_2, getV_0, getV_s, lft_some, Rs.bind_ok, co_is, nonW_non, nonW_int, if_true]
  · simp only [evS_1, evE_7, evE_15, evE_1, evL_1, evL_2, getV_0, getV_s, lft_some, Rs.bind_ok, plnW_cons, plnW_nil, List.length_cons, List.length_nil, Nat.zero_add, sl_1, if_true, rd2_some' rdW_lst rdW_lst, bo_add, ad, lfv_some, bindV_nm, setV2_0, setV2_s]
  · simp only [evS_1, evE_16, evE_1, evE_4, getV_0, getV_s, lft_some, Rs.bind_ok, x0, x2, x3, bindV_nm, setV2_0, setV2_s]
theorem loop_D {S : Sto} {ts : List KD} (ok : okTs (elE lg x) s ts) (hl : ts.length = ws.length) {w2 : W} : ∀ (items : List D) (v : Str) (r : List Nat) (acc : List D) (o7 o8 : Option W), Pth (elE lg x) ws s v r → r.length ≤ items.length → acc.length + r.length < 1000 → ∃ o7' o8',
    turnsV (.nm 7) (evSs G_law_due bodyD) items [some (.v (netK ws lg)), some (.v (.str s)), some w2, some (.v (.int (x : Nat))), some (.v (.lst (ts.map fzD))), some (.v (.lst acc)), some (.v (.str v)), o7, o8] S = .ok (.nx [some (.v (netK ws lg)), some (.v (.str s)), some w2, some (.v (.int (x : Nat))), some (.v (.lst (ts.map fzD))), some (.v (.lst (iD r ++ acc))), some (.v (.str s)), o7', o8']) S
  | [], v, r, acc, o7, o8, p, h, _ => by
    cases p with
    | nil => exact ⟨o7, o8, rfl⟩
    | step _ _ _ _ => rw [List.length_append, List.length_singleton, List.length_nil] at h; omega
  | d :: items, v, r, acc, o7, o8, p, h, ha => by
    rw [List.length_cons] at h
    cases p with
    | nil =>
      obtain ⟨q7, q8, e⟩ := loop_D (S := S) ok hl (w2 := w2) items s [] acc (some (.v d)) o8 .nil (by simp) (by simpa using ha)
      refine ⟨q7, q8, ?_⟩
      have st : evSs G_law_due bodyD [some (.v (netK ws lg)), some (.v (.str s)), some w2, some (.v (.int (x : Nat))), some (.v (.lst (ts.map fzD))), some (.v (.lst acc)), some (.v (.str s)), some (.v d), o8] S = .ok (.nx [some (.v (netK ws lg)), some (.v (.str s)), some w2, some (.v (.int (x : Nat))), some (.v (.lst (ts.map fzD))), some (.v (.lst acc)), some (.v (.str s)), some (.v d), o8]) S := by
        unfold bodyD
        exact nx_step (if_ff (S1 := S) (by rw [ne_D, decide_eq_true rfl]; rfl) evSs_1) evSs_1
      conv => lhs; unfold turnsV
      simp only [bindV_nm, setV2_0, setV2_s, st, Rs.bind_ok, e]
    | @step u _ oc r i ne hi he p =>
      rw [List.length_append, List.length_singleton] at h ha
      obtain ⟨q7, q8, e⟩ := loop_D (S := S) ok hl (w2 := w2) items u r (.int (i : Nat) :: acc) (some (.v d)) (some (.v (.int (i : Nat)))) p (by omega) (by rw [List.length_cons]; omega)
      refine ⟨q7, q8, ?_⟩
      conv => lhs; unfold turnsV
      simp only [bindV_nm, setV2_0, setV2_s, turn_D b hx hs ok hl ne hi he (show acc.length < 1000 by omega), Rs.bind_ok, e]
      unfold iD
      rw [List.map_append, List.append_assoc]
      rfl
theorem v_law_due {S : Sto} {v : Str} : ∃ J,
    (∀ r, Pth (elE lg x) ws s v r → r.length ≤ ws.length → F_law_due [.v (netK ws lg), .v (.str s), .v (.str v), .v (.int (x : Nat))] S = .ok (.v (.tup (iD r))) (S ++ J)) ∧
    (kn (elE lg x) ws s v = none → F_law_due [.v (netK ws lg), .v (.str s), .v (.str v), .v (.int (x : Nat))] S = .ok (.v .non) (S ++ J)) := by
  have g := b.gr hs x
  have n1 := b.n1
  have n8 := b.n8
  obtain ⟨ts, J, ok, hl, e⟩ := v_law_tables (S := S) b hx (s := s)
  have hB : B_law_due = [.asg (.nm 4) (.call 0 (.loc 0) [(.loc 1), (.loc 3)]), .asg (.nm 5) (.lst false []), .asg (.nm 6) (.loc 2), .fors (.nm 7) .rng1 [(.blt .len (.idx (.loc 0) (.int 0)) [])] bodyD, .ret (.blt .tupT (.loc 5) [])] := rfl
  have s1 : evS G_law_due (.asg (.nm 4) (.call 0 (.loc 0) [(.loc 1), (.loc 3)])) [some (.v (netK ws lg)), some (.v (.str s)), some (.v (.str v)), some (.v (.int (x : Nat))), none, none, none, none, none] S = .ok (.nx [some (.v (netK ws lg)), some (.v (.str s)), some (.v (.str v)), some (.v (.int (x : Nat))), some (.v (.lst (ts.map fzD))), none, none, none, none]) (S ++ J) := by
    simp only [evS_1, evE_19, evE_1, evL_1, evL_2, getV_0, getV_s, lft_some, Rs.bind_ok, dc0, List.length_cons, List.length_nil, Nat.zero_add, Nat.reduceAdd, if_true, e, bindV_nm, setV2_0, setV2_s]
  have s2 : ∀ T, evS G_law_due (.asg (.nm 5) (.lst false [])) [some (.v (netK ws lg)), some (.v (.str s)), some (.v (.str v)), some (.v (.int (x : Nat))), some (.v (.lst (ts.map fzD))), none, none, none, none] T = .ok (.nx [some (.v (netK ws lg)), some (.v (.str s)), some (.v (.str v)), some (.v (.int (x : Nat))), some (.v (.lst (ts.map fzD))), some (.v (.lst [])), none, none, none]) T := fun T => by
    simp only [evS_1, evE_15, evL_1, Rs.bind_ok, plnW_nil, List.length_nil, sl_0, if_true, bindV_nm, setV2_0, setV2_s]
  have s3 : ∀ T, evS G_law_due (.asg (.nm 6) (.loc 2)) [some (.v (netK ws lg)), some (.v (.str s)), some (.v (.str v)), some (.v (.int (x : Nat))), some (.v (.lst (ts.map fzD))), some (.v (.lst [])), none, none, none] T = .ok (.nx [some (.v (netK ws lg)), some (.v (.str s)), some (.v (.str v)), some (.v (.int (x : Nat))), some (.v (.lst (ts.map fzD))), some (.v (.lst [])), some (.v (.str v)), none, none]) T := fun T => by
    simp only [evS_1, evE_1, getV_0, getV_s, lft_some, Rs.bind_ok, bindV_nm, setV2_0, setV2_s]
  have x0 : ∀ S, ixW S (.v (netK ws lg)) (.v (.int 0)) = some (.v (.tp .k (ws.map D.str))) := fun S => ix_tp (i := 0) rfl
  have ln : ((ws.map D.str).length : Int) = (ws.length : Nat) := by rw [List.length_map]
  have ir : itW .rng1 [.v (.int (ws.length : Nat))] = some (rngD 0 ws.length) := it_rng (by omega) (by omega)
  have fs : ∀ r, turnsV (.nm 7) (evSs G_law_due bodyD) (rngD 0 ws.length) [some (.v (netK ws lg)), some (.v (.str s)), some (.v (.str v)), some (.v (.int (x : Nat))), some (.v (.lst (ts.map fzD))), some (.v (.lst [])), some (.v (.str v)), none, none] (S ++ J) = r → evS G_law_due (.fors (.nm 7) .rng1 [(.blt .len (.idx (.loc 0) (.int 0)) [])] bodyD) [some (.v (netK ws lg)), some (.v (.str s)), some (.v (.str v)), some (.v (.int (x : Nat))), some (.v (.lst (ts.map fzD))), some (.v (.lst [])), some (.v (.str v)), none, none] (S ++ J) = r := fun r hr => by
    rw [evS_9]
    simp only [evE_20, evE_16, evE_1, evE_4, evL_1, evL_2, getV_0, getV_s, lft_some, Rs.bind_ok, x0, bt_len, rd1_some' rdW_tp, lenA_tp', ln, lfv_some, ir]
    exact hr
  refine ⟨J, fun r p hr => ?_, fun hk => ?_⟩
  · obtain ⟨q7, q8, ed⟩ := loop_D b hx hs (S := S ++ J) ok hl (w2 := .v (.str v)) (rngD 0 ws.length) v r [] none none p (by rw [rng_len]; exact hr) (by simp; omega)
    rw [List.append_nil] at ed
    rw [e_law_due, hB]
    refine out_step s1 (out_step (s2 _) (out_step (s3 _) (out_step (fs _ ed) (out_ret ?_))))
    simp only [evS_6, evE_20, evE_1, evL_1, getV_0, getV_s, lft_some, Rs.bind_ok, bt_tupT, rd1_some' rdW_lst, tup_lst, lfv_some]
  · have ne : v ≠ s := fun z => by
      subst z
      rw [kn_of g (Bst.start g)] at hk; cases hk
    have tr : tripD (elE lg x) ws s v = .tup [.non, .non, .non] := by unfold tripD; rw [hk]
    obtain ⟨n, hn⟩ : ∃ n, ws.length = n + 1 := ⟨ws.length - 1, by omega⟩
    have ed : turnsV (.nm 7) (evSs G_law_due bodyD) (rngD 0 ws.length) [some (.v (netK ws lg)), some (.v (.str s)), some (.v (.str v)), some (.v (.int (x : Nat))), some (.v (.lst (ts.map fzD))), some (.v (.lst [])), some (.v (.str v)), none, none] (S ++ J) = .ok (.rt (.v .non)) (S ++ J) := by
      rw [hn]
      have er : rngD 0 (n + 1) = .int 0 :: rngD 1 n := rfl
      have st : evSs G_law_due bodyD [some (.v (netK ws lg)), some (.v (.str s)), some (.v (.str v)), some (.v (.int (x : Nat))), some (.v (.lst (ts.map fzD))), some (.v (.lst [])), some (.v (.str v)), some (.v (.int 0)), none] (S ++ J) = .ok (.rt (.v .non)) (S ++ J) := by
        unfold bodyD
        refine rt_step (if_tt (S1 := S ++ J) (by rw [ne_D, decide_eq_false ne]; rfl) (nx_step (asg_D b hx hs ok hl tr) (rt_step (if_tt (S1 := S ++ J) ?_ (rt_step ?_)))))
        · simp only [evT_1, evE_1, evE_2, getV_0, getV_s, lft_some, Rs.bind_ok, co_is, nonW_non, if_true]
        · simp only [evS_6, evE_2, Rs.bind_ok]
      rw [er]
      conv => lhs; unfold turnsV
      simp only [bindV_nm, setV2_0, setV2_s, st, Rs.bind_ok]
    rw [e_law_due, hB]
    exact out_step s1 (out_step (s2 _) (out_step (s3 _) (out_ret (fs _ ed))))
end
end K85

/-! k85: what is told is the way, and leads -/
namespace K85
open PySem PySem.Spec PyProof.Rows L2 Z CM
theorem iD_lay (r : List Nat) : layL 59 (iD r) = true := by
  rw [layL_all, List.all_eq_true]
  intro d hd
  obtain ⟨i, _, rfl⟩ := List.mem_map.mp hd
  rfl
theorem veq_iD (r : List Nat) : veq (.tup (iD r)) (.tup (iD r)) = some (.bl true) := by
  have h : lay 60 (.tup (iD r)) = true := iD_lay r
  unfold veq veqOk
  rw [h, if_pos (by simp), eqv_py, PySem.SeqAt.eqv_refl _ (lay_py 60 _ h).1]
theorem way_none {S : Sto} : F_law_is_way [.v .non, .v .non] S = .ok (.v (.bl true)) S := by
  rw [e_law_is_way]
  unfold B_law_is_way
  refine out_ret (if_tt (S1 := S) ?_ (rt_step ?_))
  · simp only [evT_1, evE_1, evE_2, getV_0, getV_s, lft_some, Rs.bind_ok, co_is, nonW_non, if_true]
  · simp only [evS_6, evE_9, evE_1, evE_2, getV_0, getV_s, lft_some, Rs.bind_ok, co_is, nonW_non, if_true, lfv_some]
def bodyE : List Sx := [.ifs (.bol false [(.nt (.isi .tint (.loc 2))), (.isi .tbool (.loc 2))])
    [.ret (.bl false)]
    []]
theorem loop_E {S : Sto} {w0 w1 : W} : ∀ (r : List Nat) (o2 : Option W), ∃ o2', turnsV (.nm 2) (evSs G_law_is_way bodyE) (iD r) [some w0, some w1, o2] S = .ok (.nx [some w0, some w1, o2']) S
  | [], o2 => ⟨o2, rfl⟩
  | i :: r, o2 => by
    obtain ⟨o, e⟩ := loop_E (S := S) (w0 := w0) (w1 := w1) r (some (.v (.int (i : Nat))))
    refine ⟨o, ?_⟩
    have st : evSs G_law_is_way bodyE [some w0, some w1, some (.v (.int (i : Nat)))] S = .ok (.nx [some w0, some w1, some (.v (.int (i : Nat)))]) S := by
      have t1 : isTy M00 (.int (i : Nat)) .tint = some true := rfl
      have t2 : isTy M00 (.int (i : Nat)) .tbool = some false := rfl
      unfold bodyE
      refine nx_step (if_ff (S1 := S) ?_ evSs_1) evSs_1
      simp only [evT_3, evB_2, evB_4, evT_4, evT_13, evE_1, getV_0, getV_s, lft_some, Rs.bind_ok, rd1_some' rdW_i, t1, t2, blO_some, lfv_some, truV_ok, truW_bl, Bool.not_true]
    show turnsV (.nm 2) (evSs G_law_is_way bodyE) (.int (i : Nat) :: iD r) _ S = _
    conv => lhs; unfold turnsV
    simp only [bindV_nm, setV2_0, setV2_s, st, Rs.bind_ok, e]
theorem way_same {S : Sto} {r : List Nat} : F_law_is_way [.v (.tup (iD r)), .v (.tup (iD r))] S = .ok (.v (.bl true)) S := by
  obtain ⟨o2, e⟩ := loop_E (S := S) (w0 := .v (.tup (iD r))) (w1 := .v (.tup (iD r))) r none
  have hB : B_law_is_way = [.ifs (.cmp .is (.loc 1) .non) [.ret (.cmp .is (.loc 0) .non)] [], .ifs (.bol false [(.nt (.isi .ttup (.loc 0))), (.cmp .ne (.blt .len (.loc 0) []) (.blt .len (.loc 1) []))]) [.ret (.bl false)] [], .fors (.nm 2) .seq [(.loc 0)] bodyE, .ret (.cmp .eq (.loc 0) (.loc 1))] := rfl
  have t1 : isTy M00 (.tup (iD r)) .ttup = some true := rfl
  have ne : vne (.int ((iD r).length : Int)) (.int ((iD r).length : Int)) = some (.bl false) := by rw [vne_int]; simp
  rw [e_law_is_way, hB]
  refine out_step (if_ff (S1 := S) ?_ evSs_1) (out_step (if_ff (S1 := S) ?_ evSs_1) (out_step (e1 := [some (.v (.tup (iD r))), some (.v (.tup (iD r))), o2]) (S1 := S) ?_ (out_ret ?_)))
  · simp only [evT_1, evE_1, evE_2, getV_0, getV_s, lft_some, Rs.bind_ok, co_is, nonW_non, nonW_tp, if_true]
  · simp only [evT_3, evB_2, evB_4, evT_4, evT_13, evT_1, evE_20, evE_1, evL_1, getV_0, getV_s, lft_some, Rs.bind_ok, rd1_some' rdW_tp, t1, blO_some, lfv_some, truV_ok, truW_bl, Bool.not_true, bt_len, lenA_tp', co_ne, rd2_some' rdW_i rdW_i, ne]
  · rw [evS_9]
    simp only [evE_1, evL_1, evL_2, getV_0, getV_s, lft_some, Rs.bind_ok, itW_tp]
    exact e
  · simp only [evS_6, evE_9, evE_1, getV_0, getV_s, lft_some, Rs.bind_ok, co_eq, rd2_some' rdW_tp rdW_tp, veq_iD, lfv_some]
/-! leads -/
theorem lc0 (r : Rs (List W)) : callV G_law_leads 0 r = r.bind fun ws S => if ws.length = 2 then F_law_value ws S else .no := by unfold G_law_leads; rfl
theorem lc1 (r : Rs (List W)) : callV G_law_leads 1 r = r.bind fun ws S => if ws.length = 3 then F_law_tables ws S else .no := by unfold G_law_leads; rfl
def bodyA : List Sx := [.ifs (.cmp .ne (.idx (.idx (.idx (.loc 0) (.int 1)) (.loc 7)) (.int 0)) (.loc 5))
    [.ret (.bl false)]
    [], .asg (.nm 6) (.bin .add (.loc 6) (.call 0 (.idx (.idx (.idx (.loc 0) (.int 1)) (.loc 7)) (.int 2)) [(.loc 3)])), .asg (.nm 5) (.idx (.idx (.idx (.loc 0) (.int 1)) (.loc 7)) (.int 1))]
def fsI (E : List EL) (s v : Str) (k m : Nat) : List Int := (psF E s v k m).map (·.1)
theorem ints_map : ∀ l : List Int, intsOf (l.map D.int) = some l
  | [] => rfl
  | i :: l => by
    show (match intsOf (l.map D.int) with | some l => some (i :: l) | none => none) = _
    rw [ints_map l]
theorem min_is {l : List Int} {P : Int} (h : P ∈ l) (ha : ∀ y ∈ l, P ≤ y) : Z.minL M00 (.lst (l.map D.int)) = some (.int P) := by
  cases l with
  | nil => cases h
  | cons n ns =>
    show (match intsOf ((n :: ns).map D.int) with | some (n :: ns) => some (D.int (leastI n ns)) | _ => none) = _
    rw [ints_map]
    show some (D.int (leastI n ns)) = _
    obtain ⟨h1, h2⟩ := leastI_mem ns n
    have := ha _ h1
    have := h2 _ h
    rw [show leastI n ns = P by omega]
theorem comp_A {S : Sto} {E : List EL} {s v : Str} {w0 w1 w3 w4 w5 w6 w8 : W} {o7 o9 : Option W} : ∀ (ts : List KD) (k : Nat), (∀ i t, ts[i]? = some t → Rkd t (tbl E s (k + i))) → compV (.nm 9) (evC G_law_leads [(.cmp .isin (.loc 2) (.loc 9))]) (evE G_law_leads (.idx (.loc 9) (.loc 2))) [some w0, some w1, some (.v (.str v)), some w3, some w4, some w5, some w6, o7, some w8, o9] (ts.map fzD) S = .ok ((fsI E s v k ts.length).map D.int) S
  | [], k, _ => rfl
  | t :: ts, k, h => by
    have rk : Rkd t (tbl E s k) := h 0 t rfl
    have ih := comp_A (S := S) (v := v) (w0 := w0) (w1 := w1) (w3 := w3) (w4 := w4) (w5 := w5) (w6 := w6) (w8 := w8) (o7 := o7) (o9 := o9) ts (k + 1) (fun i t hi => by
      have := h (i + 1) t hi
      rw [show k + (i + 1) = k + 1 + i by omega] at this
      exact this)
    rw [List.map_cons, List.length_cons]
    conv => lhs; unfold compV
    unfold fsI psF
    cases ht : tbl E s k v with
    | none =>
      simp only [bindV_nm, setV2_0, setV2_s, evC_2, evT_1, evE_1, getV_0, getV_s, lft_some, Rs.bind_ok, co_in, in_fz rk, ht, Option.isSome_none, blO_some, ih]
      rfl
    | some a =>
      simp only [bindV_nm, setV2_0, setV2_s, evC_2, evT_1, evE_16, evE_1, getV_0, getV_s, lft_some, Rs.bind_ok, co_in, in_fz rk, ix_fz rk ht, ht, Option.isSome_some, blO_some, ih]
      rfl
section
variable {ws : List Str} {lg : List LgF} (b : NB ws lg) {x : Nat} (hx : x < 2 ^ 200) {s : Str} (hs : s ∈ ws)
include b hx hs
theorem turn_A {S : Sto} {w1 w2 w4 : W} {o8 o9 : Option W} {u v : Str} {c P : Int} {i : Nat} (he : (elE lg x)[i]? = some (u, v, some c)) :
    evSs G_law_leads bodyA [some (.v (netK ws lg)), some w1, some w2, some (.v (.int (x : Nat))), some w4, some (.v (.str u)), some (.v (.int P)), some (.v (.int (i : Nat))), o8, o9] S = .ok (.nx [some (.v (netK ws lg)), some w1, some w2, some (.v (.int (x : Nat))), some w4, some (.v (.str v)), some (.v (.int (P + c))), some (.v (.int (i : Nat))), o8, o9]) S := by
  obtain ⟨l, hlg, hu, hv, hc⟩ := el_inv he
  have hf : FoB l.2.2 := b.fo l (List.mem_of_getElem? hlg)
  have x0 : ∀ S, ixW S (.v (netK ws lg)) (.v (.int 1)) = some (.v (.tup (lg.map legD))) := fun S => ix_tp (i := 1) rfl
  have x2 : ∀ S, ixW S (.v (.tup (lg.map legD))) (.v (.int (i : Nat))) = some (.v (legD l)) := fun S => ix_tp (by rw [List.getElem?_map, hlg]; rfl)
  have x3 : ∀ S, ixW S (.v (legD l)) (.v (.int 0)) = some (.v (.str u)) := fun S => ix_tp (i := 0) (by rw [← hu]; rfl)
  have x4 : ∀ S, ixW S (.v (legD l)) (.v (.int 1)) = some (.v (.str v)) := fun S => ix_tp (i := 1) (by rw [← hv]; rfl)
  have x5 : ∀ S, ixW S (.v (legD l)) (.v (.int 2)) = some (.v (foD l.2.2)) := fun S => ix_tp (i := 2) rfl
  have lv : ∀ S, F_law_value [.v (foD l.2.2), .v (.int (x : Nat))] S = .ok (.v (.int c)) S := fun S => by
    rw [v_law_value hf hx, hc]; rfl
  unfold bodyA
  refine nx_step (if_ff (S1 := S) ?_ evSs_1) (nx_step (e1 := [some (.v (netK ws lg)), some w1, some w2, some (.v (.int (x : Nat))), some w4, some (.v (.str u)), some (.v (.int (P + c))), some (.v (.int (i : Nat))), o8, o9]) (S1 := S) ?_ (nx_step ?_ evSs_1))
  · simp only [evT_1, evE_16, evE_1, evE_4, getV_0, getV_s, lft_some, Rs.bind_ok, x0, x2, x3, co_ne, rd2_some' rdW_str rdW_str, vne_str]
    simp
  · simp only [evS_1, evE_7, evE_19, evE_16, evE_1, evE_4, evL_1, evL_2, getV_0, getV_s, lft_some, Rs.bind_ok, x0, x2, x5, lc0, List.length_cons, List.length_nil, Nat.zero_add, Nat.reduceAdd, if_true, lv, rd2_some' rdW_i rdW_i, bo_add, vadd_int, lfv_some, bindV_nm, setV2_0, setV2_s]
  · simp only [evS_1, evE_16, evE_1, evE_4, getV_0, getV_s, lft_some, Rs.bind_ok, x0, x2, x4, bindV_nm, setV2_0, setV2_s]
theorem loop_A {S : Sto} {w1 w2 w4 : W} {o8 o9 : Option W} {v : Str} {r : List Nat} (p : Pth (elE lg x) ws s v r) : ∃ q, kn (elE lg x) ws s v = some q ∧ ∀ (rest : List D) (o7 : Option W), ∃ o7',
    turnsV (.nm 7) (evSs G_law_leads bodyA) (iD r ++ rest) [some (.v (netK ws lg)), some w1, some w2, some (.v (.int (x : Nat))), some w4, some (.v (.str s)), some (.v (.int 0)), o7, o8, o9] S = turnsV (.nm 7) (evSs G_law_leads bodyA) rest [some (.v (netK ws lg)), some w1, some w2, some (.v (.int (x : Nat))), some w4, some (.v (.str v)), some (.v (.int q.1)), o7', o8, o9] S := by
  have g := b.gr hs x
  induction p with
  | nil => exact ⟨(0, 0), kn_of g (Bst.start g), fun rest o7 => ⟨o7, rfl⟩⟩
  | @step u v oc r i ne hi he p ih =>
    obtain ⟨q, hq, ih⟩ := ih
    obtain ⟨e, e1, e2, _⟩ := lst_some hi
    rw [he] at e1
    have e1 := Option.some.inj e1
    obtain ⟨u', c, p', s1, s2, s3⟩ := fit_shape g (List.mem_of_getElem? he) (e1 ▸ e2)
    have s1 : (u, v, oc) = (u', v, some c) := s1
    cases s1
    rw [hq] at s2
    cases s2
    refine ⟨_, s3, fun rest o7 => ?_⟩
    obtain ⟨o, ih⟩ := ih (.int (i : Nat) :: rest) o7
    refine ⟨some (.v (.int (i : Nat))), ?_⟩
    have ap : iD (r ++ [i]) ++ rest = iD r ++ (.int (i : Nat) :: rest) := by
      unfold iD
      rw [List.map_append, List.append_assoc]; rfl
    rw [ap, ih]
    conv => lhs; unfold turnsV
    simp only [bindV_nm, setV2_0, setV2_s, turn_A b hx hs he, Rs.bind_ok]
theorem v_law_leads {S : Sto} {v : Str} {r : List Nat} (p : Pth (elE lg x) ws s v r) : ∃ J, F_law_leads [.v (netK ws lg), .v (.str s), .v (.str v), .v (.int (x : Nat)), .v (.tup (iD r))] S = .ok (.v (.bl true)) (S ++ J) := by
  have g := b.gr hs x
  obtain ⟨ts, J, ok, hl, et⟩ := v_law_tables (S := S) b hx (s := s)
  obtain ⟨q, hq, lp⟩ := loop_A b hx hs (S := S) (w1 := .v (.str s)) (w2 := .v (.str v)) (w4 := .v (.tup (iD r))) (o8 := none) (o9 := none) p
  obtain ⟨o7, lp⟩ := lp [] none
  rw [List.append_nil] at lp
  have bq := kn_best g hq
  have le := bq.le_n g
  have mi : Z.minL M00 (.lst ((fsI (elE lg x) s v 0 ts.length).map D.int)) = some (.int q.1) := by
    refine min_is (List.mem_map.mpr ⟨q, (mem_ps _ _).mpr ⟨by omega, by omega, best_tbl bq⟩, rfl⟩) fun y hy => ?_
    obtain ⟨z, hz, rfl⟩ := List.mem_map.mp hy
    have := tbl_le bq ((mem_ps _ _).mp hz).2.2
    unfold le2 at this
    dsimp only at this
    omega
  have c := comp_A (S := S ++ J) (E := elE lg x) (s := s) (v := v) (w0 := .v (netK ws lg)) (w1 := .v (.str s)) (w3 := .v (.int (x : Nat))) (w4 := .v (.tup (iD r))) (w5 := .v (.str v)) (w6 := .v (.int q.1)) (w8 := .v (.lst (ts.map fzD))) (o7 := o7) (o9 := none) ts 0 (fun i t hi => by rw [Nat.zero_add]; exact ok i t hi)
  have hB : B_law_leads = [.asg (.nm 5) (.loc 1), .asg (.nm 6) (.int 0), .fors (.nm 7) .seq [(.loc 4)] bodyA, .asg (.nm 8) (.call 1 (.loc 0) [(.loc 1), (.loc 3)]), .ret (.bol true [(.cmp .eq (.loc 5) (.loc 2)), (.cmp .eq (.loc 6) (.blt .minL (.comp false (.idx (.loc 9) (.loc 2)) (.nm 9) .seq [(.loc 8)] [(.cmp .isin (.loc 2) (.loc 9))] [("table", 9)]) []))])] := rfl
  refine ⟨J, ?_⟩
  rw [e_law_leads, hB]
  refine out_step (e1 := [some (.v (netK ws lg)), some (.v (.str s)), some (.v (.str v)), some (.v (.int (x : Nat))), some (.v (.tup (iD r))), some (.v (.str s)), none, none, none, none]) (S1 := S) ?_ (out_step (e1 := [some (.v (netK ws lg)), some (.v (.str s)), some (.v (.str v)), some (.v (.int (x : Nat))), some (.v (.tup (iD r))), some (.v (.str s)), some (.v (.int 0)), none, none, none]) (S1 := S) ?_ (out_step (e1 := [some (.v (netK ws lg)), some (.v (.str s)), some (.v (.str v)), some (.v (.int (x : Nat))), some (.v (.tup (iD r))), some (.v (.str v)), some (.v (.int q.1)), o7, none, none]) (S1 := S) ?_ (out_step (e1 := [some (.v (netK ws lg)), some (.v (.str s)), some (.v (.str v)), some (.v (.int (x : Nat))), some (.v (.tup (iD r))), some (.v (.str v)), some (.v (.int q.1)), o7, some (.v (.lst (ts.map fzD))), none]) (S1 := S ++ J) ?_ (out_ret ?_))))
  · simp only [evS_1, evE_1, getV_0, getV_s, lft_some, Rs.bind_ok, bindV_nm, setV2_0, setV2_s]
  · simp only [evS_1, evE_4, Rs.bind_ok, bindV_nm, setV2_0, setV2_s]
  · rw [evS_9]
    simp only [evE_1, evL_1, evL_2, getV_0, getV_s, lft_some, Rs.bind_ok, itW_tp]
    rw [lp]; rfl
  · simp only [evS_1, evE_19, evE_1, evL_1, evL_2, getV_0, getV_s, lft_some, Rs.bind_ok, lc1, List.length_cons, List.length_nil, Nat.zero_add, Nat.reduceAdd, if_true, et, bindV_nm, setV2_0, setV2_s]
  · rw [evS_6]
    simp only [evE_11, evV_2, evV_3, evE_9, evE_20, evE_23, evE_1, evL_1, evL_2, getV_0, getV_s, lft_some, Rs.bind_ok, co_eq, rd2_some' rdW_str rdW_str, veq_str, decide_true, lfv_some, blW_bl, itW_lst, wipeV_cons, wipeV_nil, wipeV1_0, wipeV1_s, List.map_cons, List.map_nil, c, calm_ok, compR_ok, bt_minL, rd1_some' rdW_lst, mi, rd2_some' rdW_i rdW_i, veq_int]
end
end K85

/-! k85: very large weights -/
namespace K85
open PySem PySem.Spec PyProof.Rows L2 Z CM
theorem pth_inv {E : List EL} {ws : List Str} {s v : Str} {r : List Nat} (p : Pth E ws s v r) : (v = s ∧ r = []) ∨ ∃ u oc r' i, v ≠ s ∧ lstI E ws s v = some i ∧ E[i]? = some (u, v, oc) ∧ Pth E ws s u r' ∧ r = r' ++ [i] := by
  cases p with
  | nil => exact .inl ⟨rfl, rfl⟩
  | step h1 h2 h3 h4 => exact .inr ⟨_, _, _, _, h1, h2, h3, h4, rfl⟩
section
variable {A B C Z : Str} (hAB : A ≠ B) (hAC : A ≠ C) (hAZ : A ≠ Z) (hBC : B ≠ C) (hBZ : B ≠ Z) (hCZ : C ≠ Z) {X Y c2 c3 : Int}
def bigE (A B C Z : Str) (X Y c2 c3 : Int) : List EL := [(A, B, some X), (A, B, some Y), (B, C, some c2), (C, Z, some c3)]
theorem big_at {i : Nat} {u v : Str} {oc : Option Int} (h : (bigE A B C Z X Y c2 c3)[i]? = some (u, v, oc)) : (i = 0 ∧ u = A ∧ v = B) ∨ (i = 1 ∧ u = A ∧ v = B) ∨ (i = 2 ∧ u = B ∧ v = C) ∨ (i = 3 ∧ u = C ∧ v = Z) := by
  unfold bigE at h
  rcases i with _ | _ | _ | _ | i
  · have h := Option.some.inj h; cases h; exact .inl ⟨rfl, rfl, rfl⟩
  · have h := Option.some.inj h; cases h; exact .inr (.inl ⟨rfl, rfl, rfl⟩)
  · have h := Option.some.inj h; cases h; exact .inr (.inr (.inl ⟨rfl, rfl, rfl⟩))
  · have h := Option.some.inj h; cases h; exact .inr (.inr (.inr ⟨rfl, rfl, rfl⟩))
  · simp at h
include hAB hAC hAZ hBC hBZ hCZ
theorem big_path {ws : List Str} (g : Gr (bigE A B C Z X Y c2 c3) ws A) {r : List Nat} (p : Pth (bigE A B C Z X Y c2 c3) ws A Z r) : r = [if Y < X then 1 else 0, 2, 3] := by
  rcases pth_inv p with ⟨h, _⟩ | ⟨u1, oc1, r1, i1, _, _, g1, p1, e1⟩
  · exact absurd h.symm hAZ
  have k1 : i1 = 3 ∧ u1 = C := by
    rcases big_at g1 with ⟨_, _, q⟩ | ⟨_, _, q⟩ | ⟨_, _, q⟩ | ⟨a, b, _⟩
    · exact absurd q.symm hBZ
    · exact absurd q.symm hBZ
    · exact absurd q.symm hCZ
    · exact ⟨a, b⟩
  rw [k1.2] at p1
  rcases pth_inv p1 with ⟨h, _⟩ | ⟨u2, oc2, r2, i2, _, _, g2, p2, e2⟩
  · exact absurd h.symm hAC
  have k2 : i2 = 2 ∧ u2 = B := by
    rcases big_at g2 with ⟨_, _, q⟩ | ⟨_, _, q⟩ | ⟨a, b, _⟩ | ⟨_, _, q⟩
    · exact absurd q.symm hBC
    · exact absurd q.symm hBC
    · exact ⟨a, b⟩
    · exact absurd q hCZ
  rw [k2.2] at p2
  rcases pth_inv p2 with ⟨h, _⟩ | ⟨u3, oc3, r3, i3, _, hi, g3, p3, e3⟩
  · exact absurd h.symm hAB
  have k3 : (i3 = 0 ∨ i3 = 1) ∧ u3 = A := by
    rcases big_at g3 with ⟨a, b, _⟩ | ⟨a, b, _⟩ | ⟨_, _, q⟩ | ⟨_, _, q⟩
    · exact ⟨.inl a, b⟩
    · exact ⟨.inr a, b⟩
    · exact absurd q hBC
    · exact absurd q hBZ
  rw [k3.2] at p3
  rcases pth_inv p3 with ⟨_, e4⟩ | ⟨_, _, _, _, h, _⟩
  · rw [e1, e2, e3, e4, k1.1, k2.1]
    have key : i3 = if Y < X then 1 else 0 := by
      have kA := kn_of g (Bst.start g)
      obtain ⟨e, f1, f2, f3⟩ := lst_some hi
      have m0 : (A, B, some X) ∈ bigE A B C Z X Y c2 c3 := List.mem_of_getElem? (i := 0) rfl
      have m1 : (A, B, some Y) ∈ bigE A B C Z X Y c2 c3 := List.mem_of_getElem? (i := 1) rfl
      rcases k3.1 with h | h
      · rw [h] at f1
        have f1 : (A, B, some X) = e := Option.some.inj f1
        rw [← f1] at f2
        obtain ⟨a, c, q, s1, s2, s3⟩ := fit_shape g m0 f2
        cases s1
        rw [kA] at s2
        cases s2
        have := (kn_best g s3).low _ _ (Wk.step Wk.nil m1)
        unfold le2 at this
        dsimp only [List.length_cons, List.length_nil] at this
        rw [if_neg (by omega)]; exact h
      · rw [h] at f1 f3
        have f1 : (A, B, some Y) = e := Option.some.inj f1
        rw [← f1] at f2
        obtain ⟨a, c, q, s1, s2, s3⟩ := fit_shape g m1 f2
        cases s1
        rw [kA] at s2
        cases s2
        have := (kn_best g s3).low _ _ (Wk.step Wk.nil m0)
        unfold le2 at this
        dsimp only [List.length_cons, List.length_nil] at this
        have nf := f3 0 (by omega) (A, B, some X) rfl
        by_cases z : X = Y
        · have f2' : fitB (bigE A B C Z X Y c2 c3) ws A B (A, B, some X) = true := by
            have : ((A, B, some X) : EL) = (A, B, some Y) := by rw [z]
            rw [this]; exact f2
          rw [f2'] at nf; cases nf
        · rw [if_pos (by omega)]; exact h
    rw [key]; rfl
  · exact absurd rfl h
omit hAB hAC hAZ hBC hBZ hCZ in
theorem big_some {ws : List Str} (g : Gr (bigE A B C Z X Y c2 c3) ws A) : kn (bigE A B C Z X Y c2 c3) ws A Z ≠ none := fun h => by
  have m1 : (A, B, some X) ∈ bigE A B C Z X Y c2 c3 := List.mem_of_getElem? (i := 0) rfl
  have m2 : (B, C, some c2) ∈ bigE A B C Z X Y c2 c3 := List.mem_of_getElem? (i := 2) rfl
  have m3 : (C, Z, some c3) ∈ bigE A B C Z X Y c2 c3 := List.mem_of_getElem? (i := 3) rfl
  obtain ⟨p, hp⟩ := kn_walk g (Wk.step (Wk.step (Wk.step Wk.nil m1) m2) m3)
  rw [h] at hp; cases hp
end
/-! the forms -/
def combF (n : Nat) : Fo := ([], (some 1, 0) :: List.replicate n (some 0, 0))
theorem val_tail {ts : List (Option Int × Int)} (h1 : 1 ≤ ts.length) (h : ∀ p ∈ ts, ∃ v, p.1 = some v) (x : Nat) : ∃ c, valF ([], ts) x = some c := by
  unfold valF
  rw [if_neg (show ¬ (x < (([] : List (Option Int)), ts).1.length) from Nat.not_lt_zero x)]
  have lt : (x - 0) % ts.length < ts.length := Nat.mod_lt _ (by omega)
  have e : ts[(x - 0) % ts.length]? = some ts[(x - 0) % ts.length] := List.getElem?_eq_getElem lt
  obtain ⟨v, hv⟩ := h _ (List.getElem_mem lt)
  refine ⟨v + ts[(x - 0) % ts.length].2 * (((x - 0) / ts.length : Nat) : Int), ?_⟩
  show (match ts[(x - 0) % ts.length]? with
    | some (some v, s) => some (v + s * (((x - 0) / ts.length : Nat) : Int))
    | _ => none) = _
  rw [e]
  generalize ts[(x - 0) % ts.length] = q at hv
  obtain ⟨a, b⟩ := q
  dsimp only at hv
  subst hv
  rfl
theorem val_one {v st : Int} {x : Nat} : valF ([], [(some v, st)]) x = some (v + st * (x : Int)) := by
  unfold valF
  rw [if_neg (show ¬ (x < (([] : List (Option Int)), [(some v, st)]).1.length) from Nat.not_lt_zero x)]
  show (match [(some v, st)][(x - 0) % 1]? with
    | some (some v, s) => some (v + s * (((x - 0) / 1 : Nat) : Int))
    | _ => none) = _
  rw [Nat.mod_one, Nat.div_one]
  rfl
theorem comb_val (n x : Nat) : ∃ c, valF (combF n) x = some c := val_tail (by simp) (fun p hp => by
  rcases List.mem_cons.mp hp with e | hp
  · exact ⟨1, by rw [e]⟩
  · exact ⟨0, by rw [(List.mem_replicate.mp hp).2]⟩) x
theorem comb_b {n : Nat} (h : n < 100) : FoB (combF n) where
  t1 := by simp [combF]
  tl := by simp [combF]; omega
  hl := by simp [combF]
  h := fun o ho => by simp [combF] at ho
  t := fun p hp => by
    rcases List.mem_cons.mp hp with e | hp
    · rw [e]; exact ⟨fun i h => by cases h; decide, by decide, by decide +kernel⟩
    · rw [(List.mem_replicate.mp hp).2]; exact ⟨fun i h => by cases h; decide, by decide, by decide +kernel⟩
theorem one_b {v st : Int} (h : 0 ≤ v) (h2 : 0 ≤ st) (h3 : st < 2 ^ 200) : FoB ([], [(some v, st)]) where
  t1 := by simp
  tl := by simp
  hl := by simp
  h := fun o ho => by simp at ho
  t := fun p hp => by
    rw [List.mem_singleton.mp hp]
    exact ⟨fun i e => by cases e; exact h, h2, h3⟩
theorem v_law_comb {S : Sto} {n : Nat} (h : 2 ≤ n) (h2 : n < 100) : F_law_comb [.v (.int ((n + 1 : Nat) : Int))] S = .ok (.v (foD (combF n))) S := by
  have mu : vmul (.tup [.tup [.int 0, .int 0]]) (.int (((n + 1 : Nat) : Int) - 1)) = some (.tup (List.replicate n (.tup [.int 0, .int 0]))) := by
    rw [show ((n + 1 : Nat) : Int) - 1 = (n : Nat) by omega]
    show (if [D.tup [.int 0, .int 0]] ≠ [] ∧ 2 ≤ ((n : Nat) : Int) ∧ [D.tup [.int 0, .int 0]].length * ((n : Nat) : Int).toNat ≤ 1000000 then some (D.tup (List.replicate ((n : Nat) : Int).toNat [D.tup [.int 0, .int 0]]).flatten) else none) = _
    rw [if_pos ⟨by simp, by omega, by simp; omega⟩, Int.toNat_natCast, List.flatten_replicate_singleton]
  have ad : vadd (.tup [.tup [.int 1, .int 0]]) (.tup (List.replicate n (.tup [.int 0, .int 0]))) = some (.tup (.tup [.int 1, .int 0] :: List.replicate n (.tup [.int 0, .int 0]))) := vadd_tup (a := [.tup [.int 1, .int 0]]) (by rw [List.length_replicate, List.length_singleton]; have := sl1000; omega)
  rw [e_law_comb]
  unfold B_law_comb
  refine out_ret ?_
  simp only [evS_6, evE_14, evE_7, evE_1, evE_4, evL_1, evL_2, getV_0, lft_some, Rs.bind_ok, plnW_cons, plnW_nil, List.length_cons, List.length_nil, Nat.zero_add, Nat.reduceAdd, sl_0, sl_1, sl_2, if_true, rd2_some' rdW_i rdW_i, rd2_some' rdW_tp rdW_i, rd2_some' rdW_tp rdW_tp, bo_sub, bo_mul, bo_add, vsub_int, mu, ad, lfv_some]
  unfold foD combF
  rw [List.map_cons, List.map_replicate]
  rfl
/-! the walk -/
def bigL (F : Nat) : List LgF := [("a", "b", [], [(some 0, 1)]), ("a", "b", [], [(some (F : Nat), 0)]), ("b", "c", combF 31), ("c", "d", combF 32)]
def bigW : List Str := ["a", "b", "c", "d"]
theorem big_nb (F : Nat) : NB bigW (bigL F) where
  n1 := by decide
  n8 := by decide
  l40 := by simp [bigL]
  fo := fun l hl => by
    simp only [bigL, List.mem_cons, List.not_mem_nil, or_false] at hl
    rcases hl with rfl | rfl | rfl | rfl
    · exact one_b (by decide) (by decide) (by decide +kernel)
    · exact one_b (by omega) (by decide) (by decide +kernel)
    · exact comb_b (by decide)
    · exact comb_b (by decide)
  ends := fun l hl => by
    simp only [bigL, List.mem_cons, List.not_mem_nil, or_false] at hl
    rcases hl with rfl | rfl | rfl | rfl <;> exact ⟨by simp [bigW], by simp [bigW]⟩
theorem big_el (F x : Nat) : ∃ c2 c3, elE (bigL F) x = bigE "a" "b" "c" "d" (x : Nat) (F : Nat) c2 c3 := by
  obtain ⟨c2, h2⟩ := comb_val 31 x
  obtain ⟨c3, h3⟩ := comb_val 32 x
  refine ⟨c2, c3, ?_⟩
  unfold elE bigL bigE
  simp only [List.map_cons, List.map_nil, h2, h3, val_one]
  have h0 : (0 : Int) + 1 * ((x : Nat) : Int) = x := by omega
  have h1 : ((F : Nat) : Int) + 0 * ((x : Nat) : Int) = F := by omega
  rw [h0, h1]
theorem oc0 (r : Rs (List W)) : callV G_law_too_large_holds 0 r = r.bind fun ws S => if ws.length = 1 then F_law_far ws S else .no := by unfold G_law_too_large_holds; rfl
theorem oc1 (r : Rs (List W)) : callV G_law_too_large_holds 1 r = r.bind fun ws S => if ws.length = 1 then F_law_comb ws S else .no := by unfold G_law_too_large_holds; rfl
theorem oc2 (r : Rs (List W)) : callV G_law_too_large_holds 2 r = r.bind fun ws S => if ws.length = 2 then F_law_is_way ws S else .no := by unfold G_law_too_large_holds; rfl
theorem oc3 (r : Rs (List W)) : callV G_law_too_large_holds 3 r = r.bind fun ws S => if ws.length = 4 then Fway ws S else .no := by unfold G_law_too_large_holds; rfl
def bodyG : List Sx := [.asg (.nm 4) (.tup [(.blt .int (.cmp .gt (.loc 3) (.loc 1)) []), (.int 2), (.int 3)]), .ifs (.nt (.call 2 (.call 3 (.tup [(.tupF [(.str "a"), (.str "b"), (.str "c"), (.str "d")]), (.loc 2)]) [(.str "a"), (.str "d"), (.loc 3)]) [(.loc 4)]))
    [.ret (.bl false)]
    []]
theorem turn_G {S : Sto} {w0 : W} {o4 : Option W} {F x : Nat} (hx : x < 2 ^ 200) : ∃ J o4', evSs G_law_too_large_holds bodyG [some w0, some (.v (.int (F : Nat))), some (.v (.tup ((bigL F).map legD))), some (.v (.int (x : Nat))), o4] S = .ok (.nx [some w0, some (.v (.int (F : Nat))), some (.v (.tup ((bigL F).map legD))), some (.v (.int (x : Nat))), o4']) (S ++ J) := by
  have nb := big_nb F
  have ha : ("a" : Str) ∈ bigW := by simp [bigW]
  have hd : ("d" : Str) ∈ bigW := by simp [bigW]
  obtain ⟨c2, c3, he⟩ := big_el F x
  have g := nb.gr ha x
  rw [he] at g
  obtain ⟨J, hw⟩ := v_way (S := S) nb hx ha hd
  rw [he] at hw
  rcases hw with ⟨h, _⟩ | ⟨r, p, _, hw⟩
  · exact absurd h (big_some g)
  have hr := big_path (by decide) (by decide) (by decide) (by decide) (by decide) (by decide) g p
  have du : D.tup [.int (if decide (((F : Nat) : Int) < ((x : Nat) : Int)) = true then 1 else 0), .int 2, .int 3] = .tup (iD r) := by
    rw [hr]
    by_cases q : ((F : Nat) : Int) < ((x : Nat) : Int)
    · rw [if_pos (decide_eq_true q), if_pos q]; rfl
    · rw [if_neg (by simpa using q), if_neg q]; rfl
  have vg : vgt (.int ((x : Nat) : Int)) (.int ((F : Nat) : Int)) = some (.bl (decide (((F : Nat) : Int) < ((x : Nat) : Int)))) := rfl
  refine ⟨J, some (.v (.tup (iD r))), ?_⟩
  unfold bodyG
  refine nx_step (e1 := [some w0, some (.v (.int (F : Nat))), some (.v (.tup ((bigL F).map legD))), some (.v (.int (x : Nat))), some (.v (.tup (iD r)))]) (S1 := S) ?_ (nx_step (if_ff (S1 := S ++ J) ?_ evSs_1) evSs_1)
  · simp only [evS_1, evE_14, evE_20, evE_9, evE_1, evE_4, evL_1, evL_2, getV_0, getV_s, lft_some, Rs.bind_ok, co_gt, rd2_some' rdW_i rdW_i, vg, lfv_some, bt_int, rd1_some' rdW_bl, int_bl, plnW_cons, plnW_nil, List.length_cons, List.length_nil, Nat.zero_add, Nat.reduceAdd, sl_3, if_true, du, bindV_nm, setV2_0, setV2_s]
  · have hw' : Fway [.v (.tup [.tp .k [.str "a", .str "b", .str "c", .str "d"], .tup ((bigL F).map legD)]), .v (.str "a"), .v (.str "d"), .v (.int (x : Nat))] S = .ok (.v (.tup (iD r))) (S ++ J) := hw
    simp only [evT_4, evT_11, evE_14, evE_14f, evE_19, evE_1, evE_5, evL_1, evL_2, getV_0, getV_s, lft_some, Rs.bind_ok, plnW_cons, plnW_nil, List.length_cons, List.length_nil, Nat.zero_add, Nat.reduceAdd, sl_2, sl_4, if_true, oc2, oc3, hw', way_same, truV_ok, truW_bl, Bool.not_true]
theorem loop_G {w0 : W} {F : Nat} : ∀ (xs : List Nat) (S : Sto) (o3 o4 : Option W), (∀ x ∈ xs, x < 2 ^ 200) → ∃ J o3' o4', turnsV (.nm 3) (evSs G_law_too_large_holds bodyG) (iD xs) [some w0, some (.v (.int (F : Nat))), some (.v (.tup ((bigL F).map legD))), o3, o4] S = .ok (.nx [some w0, some (.v (.int (F : Nat))), some (.v (.tup ((bigL F).map legD))), o3', o4']) (S ++ J)
  | [], S, o3, o4, _ => ⟨[], o3, o4, by rw [List.append_nil]; rfl⟩
  | x :: xs, S, o3, o4, h => by
    obtain ⟨J, p4, e⟩ := turn_G (S := S) (w0 := w0) (o4 := o4) (F := F) (h x (by simp))
    obtain ⟨K, q3, q4, e2⟩ := loop_G (w0 := w0) (F := F) xs (S ++ J) (some (.v (.int (x : Nat)))) p4 fun z hz => h z (List.mem_cons_of_mem _ hz)
    refine ⟨J ++ K, q3, q4, ?_⟩
    show turnsV _ _ (.int (x : Nat) :: iD xs) _ S = _
    conv => lhs; unfold turnsV
    simp only [bindV_nm, setV2_0, setV2_s, e, Rs.bind_ok, e2, List.append_assoc]
theorem vm_g {i j : Int} (h : mulOk i j = true) : vmul (.int i) (.int j) = some (.int (i * j)) := if_pos h
theorem v_too_large (s : Stt) (J : Sto) : ∃ (s' : Stt) (K : Sto), F_law_too_large_holds [.r 0] (SS s J) = .ok (.v (.bl true)) (SS s' (J ++ K)) := by
  obtain ⟨n, s1, hn, ef⟩ := v_far s J
  obtain ⟨F, hF⟩ : ∃ F, F = 5000 + n := ⟨_, rfl⟩
  have F1 : F < 2 ^ 101 := by omega
  obtain ⟨K, o3, o4, e⟩ := loop_G (w0 := .r 0) (F := F) [F - 1, F, F + 1, 2 * F] (SS s1 J) none none (fun x hx => by
    simp only [List.mem_cons, List.not_mem_nil, or_false] at hx
    rcases hx with rfl | rfl | rfl | rfl <;> omega)
  refine ⟨s1, K, ?_⟩
  have c31 : ∀ S, F_law_comb [.v (.int 32)] S = .ok (.v (foD (combF 31))) S := fun S => v_law_comb (n := 31) (by decide) (by decide)
  have c32 : ∀ S, F_law_comb [.v (.int 33)] S = .ok (.v (foD (combF 32))) S := fun S => v_law_comb (n := 32) (by decide) (by decide)
  have ad : vadd (.tup [.tup [.str "a", .str "b", .tup [.tup [], .tup [.tup [.int 0, .int 1]]]], .tup [.str "a", .str "b", .tup [.tup [], .tup [.tup [.int (F : Nat), .int 0]]]]]) (.tup [.tup [.str "b", .str "c", foD (combF 31)], .tup [.str "c", .str "d", foD (combF 32)]]) = some (.tup ((bigL F).map legD)) := (vadd_tup (by show 2 + 2 ≤ sizeLine; decide)).trans rfl
  have aF : vadd (.int 5000) (.int (n : Nat)) = some (.int (F : Nat)) := by rw [vadd_int, hF]; congr 2
  have it : [D.int ((F : Nat) - 1), .int (F : Nat), .int ((F : Nat) + 1), .int (2 * (F : Nat))] = iD [F - 1, F, F + 1, 2 * F] := by
    unfold iD
    simp only [List.map_cons, List.map_nil]
    have h1 : ((F - 1 : Nat) : Int) = (F : Nat) - 1 := by omega
    have h2 : ((F + 1 : Nat) : Int) = (F : Nat) + 1 := by omega
    have h3 : ((2 * F : Nat) : Int) = 2 * (F : Nat) := by omega
    rw [h1, h2, h3]
  have mu : vmul (.int 2) (.int (F : Nat)) = some (.int (2 * (F : Nat))) := vm_g (mulOk_l (by decide +kernel))
  have hB : B_law_too_large_holds = [.asg (.nm 1) (.bin .add (.int 5000) (.call 0 (.loc 0) [])), .asg (.nm 2) (.tup [(.tup [(.str "a"), (.str "b"), (.tup [(.tup []), (.tup [(.tup [(.int 0), (.int 1)])])])]), (.tup [(.str "a"), (.str "b"), (.tup [(.tup []), (.tup [(.tup [(.loc 1), (.int 0)])])])])]), .asg (.nm 2) (.bin .add (.loc 2) (.tup [(.tup [(.str "b"), (.str "c"), (.call 1 (.int 32) [])]), (.tup [(.str "c"), (.str "d"), (.call 1 (.int 33) [])])])), .fors (.nm 3) .seq [(.lst false [(.bin .sub (.loc 1) (.int 1)), (.loc 1), (.bin .add (.loc 1) (.int 1)), (.bin .mul (.int 2) (.loc 1))])] bodyG, .ret (.bl true)] := rfl
  rw [e_law_too_large_holds, hB]
  refine out_step (e1 := [some (.r 0), some (.v (.int (F : Nat))), none, none, none]) (S1 := SS s1 J) ?_ (out_step (e1 := [some (.r 0), some (.v (.int (F : Nat))), some (.v (.tup [.tup [.str "a", .str "b", .tup [.tup [], .tup [.tup [.int 0, .int 1]]]], .tup [.str "a", .str "b", .tup [.tup [], .tup [.tup [.int (F : Nat), .int 0]]]]])), none, none]) (S1 := SS s1 J) ?_ (out_step (e1 := [some (.r 0), some (.v (.int (F : Nat))), some (.v (.tup ((bigL F).map legD))), none, none]) (S1 := SS s1 J) ?_ (out_step (e1 := [some (.r 0), some (.v (.int (F : Nat))), some (.v (.tup ((bigL F).map legD))), o3, o4]) (S1 := SS s1 J ++ K) ?_ (out_ret ?_))))
  · simp only [evS_1, evE_7, evE_19, evE_1, evE_4, evL_1, getV_0, getV_s, lft_some, Rs.bind_ok, oc0, List.length_cons, List.length_nil, Nat.zero_add, if_true, ef, rd2_some' rdW_i rdW_i, bo_add, aF, lfv_some, bindV_nm, setV2_0, setV2_s]
  · simp only [evS_1, evE_14, evE_1, evE_4, evE_5, evL_1, evL_2, getV_0, getV_s, lft_some, Rs.bind_ok, plnW_cons, plnW_nil, List.length_cons, List.length_nil, Nat.zero_add, Nat.reduceAdd, sl_0, sl_1, sl_2, sl_3, if_true, bindV_nm, setV2_0, setV2_s]
  · simp only [evS_1, evE_7, evE_14, evE_19, evE_1, evE_4, evE_5, evL_1, evL_2, getV_0, getV_s, lft_some, Rs.bind_ok, oc1, List.length_cons, List.length_nil, Nat.zero_add, if_true, c31, c32, plnW_cons, plnW_nil, Nat.reduceAdd, sl_2, sl_3, rd2_some' rdW_tp rdW_tp, bo_add, ad, lfv_some, bindV_nm, setV2_0, setV2_s]
  · rw [evS_9]
    simp only [evE_15, evE_7, evE_1, evE_4, evL_1, evL_2, getV_0, getV_s, lft_some, Rs.bind_ok, rd2_some' rdW_i rdW_i, bo_add, bo_sub, bo_mul, vadd_int, vsub_int, mu, lfv_some, plnW_cons, plnW_nil, List.length_cons, List.length_nil, Nat.zero_add, Nat.reduceAdd, sl_4, if_true, itW_lst, it]
    exact e
  · rw [evS_6]
    simp only [evE_3, Rs.bind_ok]
    rfl
end K85

/-! k85: the law -/
namespace K85
open PySem PySem.Spec PyProof.Rows L2 Z CM
theorem ec0 (r : Rs (List W)) : callV Glaw 0 r = r.bind fun ws S => if ws.length = 1 then F_law_state ws S else .no := by unfold Glaw; rfl
theorem ec1 (r : Rs (List W)) : callV Glaw 1 r = r.bind fun ws S => if ws.length = 3 then F_law_network ws S else .no := by unfold Glaw; rfl
theorem ec2 (r : Rs (List W)) : callV Glaw 2 r = r.bind fun ws S => if ws.length = 2 then F_law_draw ws S else .no := by unfold Glaw; rfl
theorem ec3 (r : Rs (List W)) : callV Glaw 3 r = r.bind fun ws S => if ws.length = 1 then F_law_far ws S else .no := by unfold Glaw; rfl
theorem ec4 (r : Rs (List W)) : callV Glaw 4 r = r.bind fun ws S => if ws.length = 4 then F_law_due ws S else .no := by unfold Glaw; rfl
theorem ec5 (r : Rs (List W)) : callV Glaw 5 r = r.bind fun ws S => if ws.length = 4 then Fway ws S else .no := by unfold Glaw; rfl
theorem ec6 (r : Rs (List W)) : callV Glaw 6 r = r.bind fun ws S => if ws.length = 2 then F_law_is_way ws S else .no := by unfold Glaw; rfl
theorem ec7 (r : Rs (List W)) : callV Glaw 7 r = r.bind fun ws S => if ws.length = 5 then F_law_leads ws S else .no := by unfold Glaw; rfl
theorem ec8 (r : Rs (List W)) : callV Glaw 8 r = r.bind fun ws S => if ws.length = 1 then F_law_too_large_holds ws S else .no := by unfold Glaw; rfl
theorem law_state (ns : List Int) : F_law_state [.v (.flst (ns.map D.int))] [] = .ok (.r 0) (SS ⟨ns, 0, 0, 0, false, by decide⟩ []) := by
  rw [e_law_state]
  unfold B_law_state G_law_state
  have hl : lstW [] (.v (.flst (ns.map D.int))) = some (ns.map D.int) := rfl
  simp [hl]
  rfl
def bodyQ : List Sx := [.asg (.nm 5) (.idx (.loc 3) (.call 2 (.loc 1) [(.blt .len (.loc 3) [])])), .asg (.nm 6) (.idx (.loc 3) (.call 2 (.loc 1) [(.blt .len (.loc 3) [])])), .asg (.nm 7) (.idx (.lst false [(.call 2 (.loc 1) [(.int 12)]), (.call 2 (.loc 1) [(.int 3000)]), (.call 3 (.loc 1) [])]) (.call 2 (.loc 1) [(.int 3)])), .asg (.nm 8) (.call 4 (.loc 2) [(.loc 5), (.loc 6), (.loc 7)]), .asg (.nm 9) (.call 5 (.loc 2) [(.loc 5), (.loc 6), (.loc 7)]), .ifs (.nt (.call 6 (.loc 9) [(.loc 8)]))
    [.ret (.bl false)]
    [], .ifs (.bol true [(.cmp .isnot (.loc 9) .non), (.nt (.call 7 (.loc 2) [(.loc 5), (.loc 6), (.loc 7), (.loc 9)]))])
    [.ret (.bl false)]
    []]
theorem SS_J {s : Stt} {J K : Sto} : SS s J ++ K = SS s (J ++ K) := rfl
theorem turn_Q {ws : List Str} {lg : List LgF} (b : NB ws lg) {w0 : Option W} {o4 o5 o6 o7 o8 o9 : Option W} (s : Stt) (J : Sto) : ∃ (s' : Stt) (K : Sto) (p5 p6 p7 p8 p9 : Option W),
    evSs Glaw bodyQ [w0, some (.r 0), some (.v (netK ws lg)), some (.v (.tp .k (ws.map D.str))), o4, o5, o6, o7, o8, o9] (SS s J) = .ok (.nx [w0, some (.r 0), some (.v (netK ws lg)), some (.v (.tp .k (ws.map D.str))), o4, p5, p6, p7, p8, p9]) (SS s' (J ++ K)) := by
  have n1 := b.n1
  have n8 := b.n8
  obtain ⟨a, s1, a0, a1, ha⟩ := v_draw s J (lim := ws.length) (by omega) (by omega)
  obtain ⟨ka, rfl⟩ : ∃ k : Nat, a = k := ⟨a.toNat, by omega⟩
  obtain ⟨c, s2, c0, c1, hc⟩ := v_draw s1 J (lim := ws.length) (by omega) (by omega)
  obtain ⟨kc, rfl⟩ : ∃ k : Nat, c = k := ⟨c.toNat, by omega⟩
  obtain ⟨u, s3, u0, u1, hu⟩ := v_draw s2 J (lim := 12) (by omega) (by omega)
  obtain ⟨ku, rfl⟩ : ∃ k : Nat, u = k := ⟨u.toNat, by omega⟩
  obtain ⟨v, s4, v0, v1, hv⟩ := v_draw s3 J (lim := 3000) (by omega) (by omega)
  obtain ⟨kv, rfl⟩ : ∃ k : Nat, v = k := ⟨v.toNat, by omega⟩
  obtain ⟨F, s5, F1, hF⟩ := v_far s4 J
  obtain ⟨d, s6, d0, d1, hd⟩ := v_draw s5 J (lim := 3) (by omega) (by omega)
  obtain ⟨x, hx, ix⟩ : ∃ x : Nat, x < 2 ^ 200 ∧ ∀ S, ixW S (.v (.lst [.int (ku : Nat), .int (kv : Nat), .int (F : Nat)])) (.v (.int d)) = some (.v (.int (x : Nat))) := by
    by_cases q0 : d = 0
    · exact ⟨ku, by omega, fun S => by rw [ix3 d0 d1, if_pos q0]⟩
    · by_cases q1 : d = 1
      · exact ⟨kv, by omega, fun S => by rw [ix3 d0 d1, if_neg q0, if_pos q1]⟩
      · exact ⟨F, by omega, fun S => by rw [ix3 d0 d1, if_neg q0, if_neg q1]⟩
  have la : ka < ws.length := by omega
  have lc : kc < ws.length := by omega
  have xa : ∀ S, ixW S (.v (.tp .k (ws.map D.str))) (.v (.int ((ka : Nat) : Int))) = some (.v (.str ws[ka])) := fun S => ix_tp (by rw [List.getElem?_map, List.getElem?_eq_getElem la]; rfl)
  have xc : ∀ S, ixW S (.v (.tp .k (ws.map D.str))) (.v (.int ((kc : Nat) : Int))) = some (.v (.str ws[kc])) := fun S => ix_tp (by rw [List.getElem?_map, List.getElem?_eq_getElem lc]; rfl)
  have ms : ws[ka] ∈ ws := List.getElem_mem la
  have mg : ws[kc] ∈ ws := List.getElem_mem lc
  have ln : ((ws.map D.str).length : Int) = (ws.length : Nat) := by rw [List.length_map]
  generalize ws[ka] = st at xa ms
  generalize ws[kc] = gl at xc mg
  obtain ⟨K1, due1, due2⟩ := v_law_due b hx ms (S := SS s6 J) (v := gl)
  obtain ⟨K2, hw⟩ := v_way (S := SS s6 J ++ K1) b hx ms mg
  have st1 : evS Glaw (.asg (.nm 5) (.idx (.loc 3) (.call 2 (.loc 1) [(.blt .len (.loc 3) [])]))) [w0, some (.r 0), some (.v (netK ws lg)), some (.v (.tp .k (ws.map D.str))), o4, o5, o6, o7, o8, o9] (SS s J) = .ok (.nx [w0, some (.r 0), some (.v (netK ws lg)), some (.v (.tp .k (ws.map D.str))), o4, some (.v (.str st)), o6, o7, o8, o9]) (SS s1 J) := by
    simp only [evS_1, evE_16, evE_19, evE_20, evE_1, evL_1, evL_2, getV_0, getV_s, lft_some, Rs.bind_ok, ec2, bt_len, rd1_some' rdW_tp, lenA_tp', ln, lfv_some, List.length_cons, List.length_nil, Nat.zero_add, Nat.reduceAdd, if_true, ha, xa, bindV_nm, setV2_0, setV2_s]
  have st2 : evS Glaw (.asg (.nm 6) (.idx (.loc 3) (.call 2 (.loc 1) [(.blt .len (.loc 3) [])]))) [w0, some (.r 0), some (.v (netK ws lg)), some (.v (.tp .k (ws.map D.str))), o4, some (.v (.str st)), o6, o7, o8, o9] (SS s1 J) = .ok (.nx [w0, some (.r 0), some (.v (netK ws lg)), some (.v (.tp .k (ws.map D.str))), o4, some (.v (.str st)), some (.v (.str gl)), o7, o8, o9]) (SS s2 J) := by
    simp only [evS_1, evE_16, evE_19, evE_20, evE_1, evL_1, evL_2, getV_0, getV_s, lft_some, Rs.bind_ok, ec2, bt_len, rd1_some' rdW_tp, lenA_tp', ln, lfv_some, List.length_cons, List.length_nil, Nat.zero_add, Nat.reduceAdd, if_true, hc, xc, bindV_nm, setV2_0, setV2_s]
  have st3 : evS Glaw (.asg (.nm 7) (.idx (.lst false [(.call 2 (.loc 1) [(.int 12)]), (.call 2 (.loc 1) [(.int 3000)]), (.call 3 (.loc 1) [])]) (.call 2 (.loc 1) [(.int 3)]))) [w0, some (.r 0), some (.v (netK ws lg)), some (.v (.tp .k (ws.map D.str))), o4, some (.v (.str st)), some (.v (.str gl)), o7, o8, o9] (SS s2 J) = .ok (.nx [w0, some (.r 0), some (.v (netK ws lg)), some (.v (.tp .k (ws.map D.str))), o4, some (.v (.str st)), some (.v (.str gl)), some (.v (.int (x : Nat))), o8, o9]) (SS s6 J) := by
    simp only [evS_1, evE_15, evE_16, evE_19, evE_1, evE_4, evL_1, evL_2, getV_0, getV_s, lft_some, Rs.bind_ok, ec2, ec3, List.length_cons, List.length_nil, Nat.zero_add, Nat.reduceAdd, if_true, hu, hv, hF, hd, plnW_cons, plnW_nil, sl_3, ix, bindV_nm, setV2_0, setV2_s]
  have st4 : ∀ d, F_law_due [.v (netK ws lg), .v (.str st), .v (.str gl), .v (.int (x : Nat))] (SS s6 J) = .ok (.v d) (SS s6 J ++ K1) → evS Glaw (.asg (.nm 8) (.call 4 (.loc 2) [(.loc 5), (.loc 6), (.loc 7)])) [w0, some (.r 0), some (.v (netK ws lg)), some (.v (.tp .k (ws.map D.str))), o4, some (.v (.str st)), some (.v (.str gl)), some (.v (.int (x : Nat))), o8, o9] (SS s6 J) = .ok (.nx [w0, some (.r 0), some (.v (netK ws lg)), some (.v (.tp .k (ws.map D.str))), o4, some (.v (.str st)), some (.v (.str gl)), some (.v (.int (x : Nat))), some (.v d), o9]) (SS s6 J ++ K1) := fun d h => by
    simp only [evS_1, evE_19, evE_1, evL_1, evL_2, getV_0, getV_s, lft_some, Rs.bind_ok, ec4, List.length_cons, List.length_nil, Nat.zero_add, Nat.reduceAdd, if_true, h, bindV_nm, setV2_0, setV2_s]
  have st5 : ∀ d d', Fway [.v (netK ws lg), .v (.str st), .v (.str gl), .v (.int (x : Nat))] (SS s6 J ++ K1) = .ok (.v d') (SS s6 J ++ K1 ++ K2) → evS Glaw (.asg (.nm 9) (.call 5 (.loc 2) [(.loc 5), (.loc 6), (.loc 7)])) [w0, some (.r 0), some (.v (netK ws lg)), some (.v (.tp .k (ws.map D.str))), o4, some (.v (.str st)), some (.v (.str gl)), some (.v (.int (x : Nat))), some (.v d), o9] (SS s6 J ++ K1) = .ok (.nx [w0, some (.r 0), some (.v (netK ws lg)), some (.v (.tp .k (ws.map D.str))), o4, some (.v (.str st)), some (.v (.str gl)), some (.v (.int (x : Nat))), some (.v d), some (.v d')]) (SS s6 J ++ K1 ++ K2) := fun d d' h => by
    simp only [evS_1, evE_19, evE_1, evL_1, evL_2, getV_0, getV_s, lft_some, Rs.bind_ok, ec5, List.length_cons, List.length_nil, Nat.zero_add, Nat.reduceAdd, if_true, h, bindV_nm, setV2_0, setV2_s]
  unfold bodyQ
  rcases hw with ⟨hk, hw⟩ | ⟨r, p, rl, hw⟩
  · refine ⟨s6, K1 ++ K2, some (.v (.str st)), some (.v (.str gl)), some (.v (.int (x : Nat))), some (.v .non), some (.v .non), nx_step st1 (nx_step st2 (nx_step st3 (nx_step (st4 _ (due2 hk)) (nx_step (st5 _ _ hw) (nx_step (if_ff (S1 := SS s6 J ++ K1 ++ K2) ?_ evSs_1) (nx_step (if_ff (S1 := SS s6 J ++ K1 ++ K2) ?_ evSs_1) ?_))))))⟩
    · simp only [evT_4, evT_11, evE_1, evL_1, evL_2, getV_0, getV_s, lft_some, Rs.bind_ok, ec6, List.length_cons, List.length_nil, Nat.zero_add, Nat.reduceAdd, if_true, way_none, truV_ok, truW_bl, Bool.not_true]
    · simp only [evT_3, evB_3, evT_1, evE_1, evE_2, getV_0, getV_s, lft_some, Rs.bind_ok, co_isn, nonW_non, if_true, Bool.not_true]
    · rw [evSs_1, SS_J, SS_J, List.append_assoc]
  · obtain ⟨K3, hl⟩ := v_law_leads b hx ms (S := SS s6 J ++ K1 ++ K2) p
    refine ⟨s6, K1 ++ K2 ++ K3, some (.v (.str st)), some (.v (.str gl)), some (.v (.int (x : Nat))), some (.v (.tup (iD r))), some (.v (.tup (iD r))), nx_step st1 (nx_step st2 (nx_step st3 (nx_step (st4 _ (due1 r p (by omega))) (nx_step (st5 _ _ hw) (nx_step (if_ff (S1 := SS s6 J ++ K1 ++ K2) ?_ evSs_1) (nx_step (if_ff (S1 := SS s6 J ++ K1 ++ K2 ++ K3) ?_ evSs_1) ?_))))))⟩
    · simp only [evT_4, evT_11, evE_1, evL_1, evL_2, getV_0, getV_s, lft_some, Rs.bind_ok, ec6, List.length_cons, List.length_nil, Nat.zero_add, Nat.reduceAdd, if_true, way_same, truV_ok, truW_bl, Bool.not_true]
    · simp only [evT_3, evT_4, evB_2, evB_3, evT_1, evT_11, evE_1, evE_2, evL_1, evL_2, getV_0, getV_s, lft_some, Rs.bind_ok, co_isn, nonW_non, nonW_tp, if_true, Bool.not_false, ec7, List.length_cons, List.length_nil, Nat.zero_add, Nat.reduceAdd, hl, truV_ok, truW_bl, Bool.not_true]
    · rw [evSs_1, SS_J, SS_J, SS_J, List.append_assoc, List.append_assoc, List.append_assoc]
theorem loop_Q {ws : List Str} {lg : List LgF} (b : NB ws lg) {w0 : Option W} : ∀ (items : List D) (s : Stt) (J : Sto) (o4 o5 o6 o7 o8 o9 : Option W), ∃ (s' : Stt) (K : Sto) (p4 p5 p6 p7 p8 p9 : Option W),
    turnsV (.nm 4) (evSs Glaw bodyQ) items [w0, some (.r 0), some (.v (netK ws lg)), some (.v (.tp .k (ws.map D.str))), o4, o5, o6, o7, o8, o9] (SS s J) = .ok (.nx [w0, some (.r 0), some (.v (netK ws lg)), some (.v (.tp .k (ws.map D.str))), p4, p5, p6, p7, p8, p9]) (SS s' (J ++ K))
  | [], s, J, o4, o5, o6, o7, o8, o9 => ⟨s, [], o4, o5, o6, o7, o8, o9, by rw [List.append_nil]; rfl⟩
  | d :: items, s, J, o4, o5, o6, o7, o8, o9 => by
    obtain ⟨s1, K1, p5, p6, p7, p8, p9, e1⟩ := turn_Q b (w0 := w0) (o4 := some (.v d)) (o5 := o5) (o6 := o6) (o7 := o7) (o8 := o8) (o9 := o9) s J
    obtain ⟨s2, K2, q4, q5, q6, q7, q8, q9, e2⟩ := loop_Q b (w0 := w0) items s1 (J ++ K1) (some (.v d)) p5 p6 p7 p8 p9
    refine ⟨s2, K1 ++ K2, q4, q5, q6, q7, q8, q9, ?_⟩
    conv => lhs; unfold turnsV
    simp only [bindV_nm, setV2_0, setV2_s, e1, Rs.bind_ok, e2, List.append_assoc]
theorem v_law (ns : List Int) : ∃ S', Flaw [.v (.flst (ns.map D.int))] [] = .ok (.v (.bl true)) S' := by
  have lst := law_state ns
  obtain ⟨a, s1, a0, a1, ha⟩ := v_draw ⟨ns, 0, 0, 0, false, by decide⟩ [] (lim := 2) (by omega) (by omega)
  obtain ⟨c, s2, c0, c1, hc⟩ := v_draw s1 [] (lim := 2) (by omega) (by omega)
  obtain ⟨most, m1, m2, hm⟩ : ∃ most : Int, 2 ≤ most ∧ most ≤ 8 ∧ ∀ S, ixW S (.v (.lst [.int 4, .int 8])) (.v (.int a)) = some (.v (.int most)) := by
    by_cases q : a = 0
    · exact ⟨4, by omega, by omega, fun S => by rw [ix2 a0 a1, if_pos q]⟩
    · exact ⟨8, by omega, by omega, fun S => by rw [ix2 a0 a1, if_neg q]⟩
  obtain ⟨many, y1, y2, hy⟩ : ∃ many : Int, 0 ≤ many ∧ many ≤ 30 ∧ ∀ S, ixW S (.v (.lst [.int 8, .int 30])) (.v (.int c)) = some (.v (.int many)) := by
    by_cases q : c = 0
    · exact ⟨8, by omega, by omega, fun S => by rw [ix2 c0 c1, if_pos q]⟩
    · exact ⟨30, by omega, by omega, fun S => by rw [ix2 c0 c1, if_neg q]⟩
  obtain ⟨ws, lg, s3, K3, b, hn⟩ := v_law_network s2 [] m1 m2 y1 y2
  have n1 := b.n1
  obtain ⟨s4, K4, p4, p5, p6, p7, p8, p9, hq⟩ := loop_Q b (w0 := some (.v (.flst (ns.map D.int)))) (rngD 0 8) s3 ([] ++ K3) none none none none none none
  have x0 : ∀ S, ixW S (.v (netK ws lg)) (.v (.int 0)) = some (.v (.tp .k (ws.map D.str))) := fun S => ix_tp (i := 0) rfl
  have l0 : 0 < ws.length := by omega
  have xw : ∀ S, ixW S (.v (.tp .k (ws.map D.str))) (.v (.int 0)) = some (.v (.str ws[0])) := fun S => ix_tp (i := 0) (by rw [List.getElem?_map, List.getElem?_eq_getElem l0]; rfl)
  have mw : ws[0] ∈ ws := List.getElem_mem l0
  generalize ws[0] = w at xw mw
  have g := b.gr mw 7
  obtain ⟨K5, hw⟩ := v_way (S := SS s4 ([] ++ K3 ++ K4)) b (x := 7) (by decide +kernel) mw mw
  have hw : Fway [.v (netK ws lg), .v (.str w), .v (.str w), .v (.int 7)] (SS s4 ([] ++ K3 ++ K4)) = .ok (.v (.tup [])) (SS s4 ([] ++ K3 ++ K4 ++ K5)) := by
    rcases hw with ⟨h, _⟩ | ⟨r, p, _, h⟩
    · rw [kn_of g (Bst.start g)] at h; cases h
    · rcases pth_inv p with ⟨_, e⟩ | ⟨_, _, _, _, h2, _⟩
      · rw [e] at h; exact h
      · exact absurd rfl h2
  obtain ⟨s6, K6, ht⟩ := v_too_large s4 ([] ++ K3 ++ K4 ++ K5)
  have ve : veq (.tup []) (.tup []) = some (.bl true) := veq_iD []
  have ir : itW .rng1 [.v (.int 8)] = some (rngD 0 8) := it_rng (by omega) (by omega)
  refine ⟨SS s6 ([] ++ K3 ++ K4 ++ K5 ++ K6), ?_⟩
  have hB : Blaw = [.asg (.nm 1) (.call 0 (.loc 0) []), .asg (.nm 2) (.call 1 (.loc 1) [(.idx (.lst false [(.int 4), (.int 8)]) (.call 2 (.loc 1) [(.int 2)])), (.idx (.lst false [(.int 8), (.int 30)]) (.call 2 (.loc 1) [(.int 2)]))]), .asg (.nm 3) (.idx (.loc 2) (.int 0)), .fors (.nm 4) .rng1 [(.int 8)] bodyQ, .ret (.bol true [(.cmp .eq (.call 5 (.loc 2) [(.idx (.loc 3) (.int 0)), (.idx (.loc 3) (.int 0)), (.int 7)]) (.tup [])), (.call 8 (.loc 1) [])])] := rfl
  rw [elaw, hB]
  refine out_step (e1 := [some (.v (.flst (ns.map D.int))), some (.r 0), none, none, none, none, none, none, none, none]) (S1 := SS ⟨ns, 0, 0, 0, false, by decide⟩ []) ?_ (out_step (e1 := [some (.v (.flst (ns.map D.int))), some (.r 0), some (.v (netK ws lg)), none, none, none, none, none, none, none]) (S1 := SS s3 ([] ++ K3)) ?_ (out_step (e1 := [some (.v (.flst (ns.map D.int))), some (.r 0), some (.v (netK ws lg)), some (.v (.tp .k (ws.map D.str))), none, none, none, none, none, none]) (S1 := SS s3 ([] ++ K3)) ?_ (out_step (by rw [evS_9]; simp only [evE_4, evL_1, evL_2, Rs.bind_ok, ir]; exact hq) (out_ret ?_))))
  · simp only [evS_1, evE_19, evE_1, evL_1, getV_0, getV_s, lft_some, Rs.bind_ok, ec0, List.length_cons, List.length_nil, Nat.zero_add, if_true, lst, bindV_nm, setV2_0, setV2_s]
  · simp only [evS_1, evE_15, evE_16, evE_19, evE_1, evE_4, evL_1, evL_2, getV_0, getV_s, lft_some, Rs.bind_ok, ec1, ec2, List.length_cons, List.length_nil, Nat.zero_add, Nat.reduceAdd, if_true, ha, hc, plnW_cons, plnW_nil, sl_2, hm, hy, hn, bindV_nm, setV2_0, setV2_s]
  · simp only [evS_1, evE_16, evE_1, evE_4, getV_0, getV_s, lft_some, Rs.bind_ok, x0, bindV_nm, setV2_0, setV2_s]
  · simp only [evS_6, evE_11, evV_2, evV_3, evE_9, evE_14, evE_16, evE_19, evE_1, evE_4, evL_1, evL_2, getV_0, getV_s, lft_some, Rs.bind_ok, ec5, ec8, List.length_cons, List.length_nil, Nat.zero_add, Nat.reduceAdd, if_true, xw, hw, plnW_nil, sl_0, co_eq, rd2_some' rdW_tp rdW_tp, ve, lfv_some, blW_bl, ht]
theorem lawHolds (ns : List Int) (h : ns.length ≤ 63) : spV Flaw [.flst (ns.map D.int)] M00 (fun v _ => v = .bl true) noX := by
  obtain ⟨S', h⟩ := v_law ns
  exact lawV h
end K85

namespace K85
open PySem PySem.Spec PyProof.Rows L2 Z CM

structure FA (K : PySem.W.Frag) : Prop where
  dvalue_at : DF K "value_at" svalue_at
  d_is_less : DF K "_is_less" s_is_less
  d_behind : DF K "_behind" s_behind
  d_known_for : DF K "_known_for" s_known_for
  dtriples_for : DF K "triples_for" striples_for
  dway : DF K "way" sway
  d_law_state : DF K "_law_state" s_law_state
  d_law_draw : DF K "_law_draw" s_law_draw
  d_law_far : DF K "_law_far" s_law_far
  d_law_value : DF K "_law_value" s_law_value
  d_law_name : DF K "_law_name" s_law_name
  d_law_offices : DF K "_law_offices" s_law_offices
  d_law_in_order : DF K "_law_in_order" s_law_in_order
  d_law_comb : DF K "_law_comb" s_law_comb
  d_law_any_number : DF K "_law_any_number" s_law_any_number
  d_law_any_form : DF K "_law_any_form" s_law_any_form
  d_law_network : DF K "_law_network" s_law_network
  d_law_tables : DF K "_law_tables" s_law_tables
  d_law_triple : DF K "_law_triple" s_law_triple
  d_law_due : DF K "_law_due" s_law_due
  d_law_is_way : DF K "_law_is_way" s_law_is_way
  d_law_leads : DF K "_law_leads" s_law_leads
  d_law_too_large_holds : DF K "_law_too_large_holds" s_law_too_large_holds
  dlaw : DF K "law" slaw
  cNO_WAY : DC K "NO_WAY" (D.tp .s [D.non, D.non, D.non])
  bbool : DB K "bool"
  bint : DB K "int"
  bisinstance : DB K "isinstance"
  blen : DB K "len"
  blist : DB K "list"
  bmin : DB K "min"
  brange : DB K "range"
  bset : DB K "set"
  bsorted : DB K "sorted"
  btuple : DB K "tuple"
section
variable {P : Program} {w : World} {K : PySem.W.Frag} {mg : Str → Option Value} {base h : Heap}
theorem ovalue_at : scopeOk Nvalue_at ["form", "x"] (defScope svalue_at) = true := by decide +kernel
theorem tvalue_at : chkSs (gtOf Gvalue_at) Nvalue_at (defScope svalue_at) Bvalue_at (defBody svalue_at) = true := by decide +kernel
theorem cvalue_at (X : K.In h) (g : h.Ns mainGlobals mg) (A : FA K) : Cal P w K mg base (XRof K) 1 "value_at" 2 (spV Fvalue_at) :=
  cal_mk (G := gtOf Gvalue_at) X g A.dvalue_at ovalue_at rfl (fun _ _ _ _ _ _ us hl => match us, hl with | [_, _], _ => rfl) .nil .nil (.cons (A.blen) .nil) (fun z => absurd z (by decide +kernel)) tvalue_at (fun ds M Q E _ h => pV Gvalue_at 7 Bvalue_at ds M Q E h)
theorem o_is_less : scopeOk N_is_less ["ahead", "known"] (defScope s_is_less) = true := by decide +kernel
theorem t_is_less : chkSs (gtOf G_is_less) N_is_less (defScope s_is_less) B_is_less (defBody s_is_less) = true := by decide +kernel
theorem c_is_less (X : K.In h) (g : h.Ns mainGlobals mg) (A : FA K) : Cal P w K mg base (XRof K) 1 "_is_less" 2 (spV F_is_less) :=
  cal_mk (G := gtOf G_is_less) X g A.d_is_less o_is_less rfl (fun _ _ _ _ _ _ us hl => match us, hl with | [_, _], _ => rfl) .nil .nil .nil (fun z => absurd z (by decide +kernel)) t_is_less (fun ds M Q E _ h => pV G_is_less 2 B_is_less ds M Q E h)
theorem o_behind : scopeOk N_behind ["legs", "prices", "known", "at"] (defScope s_behind) = true := by decide +kernel
theorem t_behind : chkSs (gtOf G_behind) N_behind (defScope s_behind) B_behind (defBody s_behind) = true := by decide +kernel
theorem c_behind (X : K.In h) (g : h.Ns mainGlobals mg) (A : FA K) : Cal P w K mg base (XRof K) 1 "_behind" 4 (spV F_behind) :=
  cal_mk (G := gtOf G_behind) X g A.d_behind o_behind rfl (fun _ _ _ _ _ _ us hl => match us, hl with | [_, _, _, _], _ => rfl) .nil .nil .nil (fun z => absurd z (by decide +kernel)) t_behind (fun ds M Q E _ h => pV G_behind 5 B_behind ds M Q E h)
theorem o_known_for : scopeOk N_known_for ["network", "start", "prices"] (defScope s_known_for) = true := by decide +kernel
theorem t_known_for : chkSs (gtOf G_known_for) N_known_for (defScope s_known_for) B_known_for (defBody s_known_for) = true := by decide +kernel
theorem c_known_for (X : K.In h) (g : h.Ns mainGlobals mg) (A : FA K) : Cal P w K mg base (XRof K) 2 "_known_for" 3 (spV F_known_for) :=
  cal_mk (G := gtOf G_known_for) X g A.d_known_for o_known_for rfl (fun _ _ _ _ _ _ us hl => match us, hl with | [_, _, _], _ => rfl) (.cons ((c_behind X g A).mono (by decide)) (.cons ((c_is_less X g A).mono (by decide)) .nil)) .nil (.cons (A.brange) (.cons (A.blen) .nil)) (fun z => absurd z (by decide +kernel)) t_known_for (fun ds M Q E _ h => pV G_known_for 9 B_known_for ds M Q E h)
theorem otriples_for : scopeOk Ntriples_for ["network", "start", "prices"] (defScope striples_for) = true := by decide +kernel
theorem ttriples_for : chkSs (gtOf Gtriples_for) Ntriples_for (defScope striples_for) Btriples_for (defBody striples_for) = true := by decide +kernel
theorem ctriples_for (X : K.In h) (g : h.Ns mainGlobals mg) (A : FA K) : Cal P w K mg base (XRof K) 3 "triples_for" 3 (spV Ftriples_for) :=
  cal_mk (G := gtOf Gtriples_for) X g A.dtriples_for otriples_for rfl (fun _ _ _ _ _ _ us hl => match us, hl with | [_, _, _], _ => rfl) (.cons ((c_known_for X g A).mono (by decide)) (.cons ((c_behind X g A).mono (by decide)) .nil)) (.cons (A.cNO_WAY) .nil) (.cons (A.brange) (.cons (A.blen) .nil)) (fun z => absurd z (by decide +kernel)) ttriples_for (fun ds M Q E _ h => pV Gtriples_for 10 Btriples_for ds M Q E h)
theorem oway : scopeOk Nway ["network", "start", "goal", "x"] (defScope sway) = true := by decide +kernel
theorem tway : chkSs (gtOf Gway) Nway (defScope sway) Bway (defBody sway) = true := by decide +kernel
theorem cway (X : K.In h) (g : h.Ns mainGlobals mg) (A : FA K) : Cal P w K mg base (XRof K) 4 "way" 4 (spV Fway) :=
  cal_mk (G := gtOf Gway) X g A.dway oway rfl (fun _ _ _ _ _ _ us hl => match us, hl with | [_, _, _, _], _ => rfl) (.cons ((ctriples_for X g A).mono (by decide)) (.cons ((cvalue_at X g A).mono (by decide)) .nil)) (.cons (A.cNO_WAY) .nil) (.cons (A.btuple) .nil) (fun z => absurd z (by decide +kernel)) tway (fun ds M Q E _ h => pV Gway 11 Bway ds M Q E h)
theorem o_law_state : scopeOk N_law_state ["script"] (defScope s_law_state) = true := by decide +kernel
theorem t_law_state : chkSs (gtOf G_law_state) N_law_state (defScope s_law_state) B_law_state (defBody s_law_state) = true := by decide +kernel
theorem c_law_state (X : K.In h) (g : h.Ns mainGlobals mg) (A : FA K) : Cal P w K mg base (XRof K) 1 "_law_state" 1 (spV F_law_state) :=
  cal_mk (G := gtOf G_law_state) X g A.d_law_state o_law_state rfl (fun _ _ _ _ _ _ us hl => match us, hl with | [_], _ => rfl) .nil .nil (.cons (A.blist) .nil) (fun z => absurd z (by decide +kernel)) t_law_state (fun ds M Q E _ h => pV G_law_state 1 B_law_state ds M Q E h)
theorem o_law_draw : scopeOk N_law_draw ["state", "limit"] (defScope s_law_draw) = true := by decide +kernel
theorem t_law_draw : chkSs (gtOf G_law_draw) N_law_draw (defScope s_law_draw) B_law_draw (defBody s_law_draw) = true := by decide +kernel
theorem c_law_draw (X : K.In h) (g : h.Ns mainGlobals mg) (A : FA K) : Cal P w K mg base (XRof K) 1 "_law_draw" 2 (spV F_law_draw) :=
  cal_mk (G := gtOf G_law_draw) X g A.d_law_draw o_law_draw rfl (fun _ _ _ _ _ _ us hl => match us, hl with | [_, _], _ => rfl) .nil .nil (.cons (A.blen) (.cons (A.bint) .nil)) (fun z => absurd z (by decide +kernel)) t_law_draw (fun ds M Q E _ h => pV G_law_draw 5 B_law_draw ds M Q E h)
theorem o_law_far : scopeOk N_law_far ["state"] (defScope s_law_far) = true := by decide +kernel
theorem t_law_far : chkSs (gtOf G_law_far) N_law_far (defScope s_law_far) B_law_far (defBody s_law_far) = true := by decide +kernel
theorem c_law_far (X : K.In h) (g : h.Ns mainGlobals mg) (A : FA K) : Cal P w K mg base (XRof K) 2 "_law_far" 1 (spV F_law_far) :=
  cal_mk (G := gtOf G_law_far) X g A.d_law_far o_law_far rfl (fun _ _ _ _ _ _ us hl => match us, hl with | [_], _ => rfl) (.cons ((c_law_draw X g A).mono (by decide)) .nil) .nil (.cons (A.brange) .nil) (fun z => absurd z (by decide +kernel)) t_law_far (fun ds M Q E _ h => pV G_law_far 3 B_law_far ds M Q E h)
theorem o_law_value : scopeOk N_law_value ["form", "x"] (defScope s_law_value) = true := by decide +kernel
theorem t_law_value : chkSs (gtOf G_law_value) N_law_value (defScope s_law_value) B_law_value (defBody s_law_value) = true := by decide +kernel
theorem c_law_value (X : K.In h) (g : h.Ns mainGlobals mg) (A : FA K) : Cal P w K mg base (XRof K) 1 "_law_value" 2 (spV F_law_value) :=
  cal_mk (G := gtOf G_law_value) X g A.d_law_value o_law_value rfl (fun _ _ _ _ _ _ us hl => match us, hl with | [_, _], _ => rfl) .nil .nil (.cons (A.blen) (.cons (A.bint) .nil)) (fun z => absurd z (by decide +kernel)) t_law_value (fun ds M Q E _ h => pV G_law_value 5 B_law_value ds M Q E h)
theorem o_law_name : scopeOk N_law_name ["state"] (defScope s_law_name) = true := by decide +kernel
theorem t_law_name : chkSs (gtOf G_law_name) N_law_name (defScope s_law_name) B_law_name (defBody s_law_name) = true := by decide +kernel
theorem c_law_name (X : K.In h) (g : h.Ns mainGlobals mg) (A : FA K) : Cal P w K mg base (XRof K) 2 "_law_name" 1 (spV F_law_name) :=
  cal_mk (G := gtOf G_law_name) X g A.d_law_name o_law_name rfl (fun _ _ _ _ _ _ us hl => match us, hl with | [_], _ => rfl) (.cons ((c_law_draw X g A).mono (by decide)) .nil) .nil (.cons (A.brange) .nil) (fun z => absurd z (by decide +kernel)) t_law_name (fun ds M Q E _ h => pV G_law_name 5 B_law_name ds M Q E h)
theorem o_law_offices : scopeOk N_law_offices ["state", "count"] (defScope s_law_offices) = true := by decide +kernel
theorem t_law_offices : chkSs (gtOf G_law_offices) N_law_offices (defScope s_law_offices) B_law_offices (defBody s_law_offices) = true := by decide +kernel
theorem c_law_offices (X : K.In h) (g : h.Ns mainGlobals mg) (A : FA K) : Cal P w K mg base (XRof K) 3 "_law_offices" 2 (spV F_law_offices) :=
  cal_mk (G := gtOf G_law_offices) X g A.d_law_offices o_law_offices rfl (fun _ _ _ _ _ _ us hl => match us, hl with | [_, _], _ => rfl) (.cons ((c_law_name X g A).mono (by decide)) .nil) .nil (.cons (A.brange) (.cons (A.btuple) (.cons (A.bsorted) .nil))) (fun z => absurd z (by decide +kernel)) t_law_offices (fun ds M Q E _ h => pV G_law_offices 7 B_law_offices ds M Q E h)
theorem o_law_in_order : scopeOk N_law_in_order ["legs"] (defScope s_law_in_order) = true := by decide +kernel
theorem t_law_in_order : chkSs (gtOf G_law_in_order) N_law_in_order (defScope s_law_in_order) B_law_in_order (defBody s_law_in_order) = true := by decide +kernel
theorem c_law_in_order (X : K.In h) (g : h.Ns mainGlobals mg) (A : FA K) : Cal P w K mg base (XRof K) 1 "_law_in_order" 1 (spV F_law_in_order) :=
  cal_mk (G := gtOf G_law_in_order) X g A.d_law_in_order o_law_in_order rfl (fun _ _ _ _ _ _ us hl => match us, hl with | [_], _ => rfl) .nil .nil (.cons (A.bsorted) (.cons (A.bset) (.cons (A.btuple) .nil))) (fun z => absurd z (by decide +kernel)) t_law_in_order (fun ds M Q E _ h => pV G_law_in_order 4 B_law_in_order ds M Q E h)
theorem o_law_comb : scopeOk N_law_comb ["size"] (defScope s_law_comb) = true := by decide +kernel
theorem t_law_comb : chkSs (gtOf G_law_comb) N_law_comb (defScope s_law_comb) B_law_comb (defBody s_law_comb) = true := by decide +kernel
theorem c_law_comb (X : K.In h) (g : h.Ns mainGlobals mg) (A : FA K) : Cal P w K mg base (XRof K) 1 "_law_comb" 1 (spV F_law_comb) :=
  cal_mk (G := gtOf G_law_comb) X g A.d_law_comb o_law_comb rfl (fun _ _ _ _ _ _ us hl => match us, hl with | [_], _ => rfl) .nil .nil .nil (fun z => absurd z (by decide +kernel)) t_law_comb (fun ds M Q E _ h => pV G_law_comb 1 B_law_comb ds M Q E h)
theorem o_law_any_number : scopeOk N_law_any_number ["state"] (defScope s_law_any_number) = true := by decide +kernel
theorem t_law_any_number : chkSs (gtOf G_law_any_number) N_law_any_number (defScope s_law_any_number) B_law_any_number (defBody s_law_any_number) = true := by decide +kernel
theorem c_law_any_number (X : K.In h) (g : h.Ns mainGlobals mg) (A : FA K) : Cal P w K mg base (XRof K) 2 "_law_any_number" 1 (spV F_law_any_number) :=
  cal_mk (G := gtOf G_law_any_number) X g A.d_law_any_number o_law_any_number rfl (fun _ _ _ _ _ _ us hl => match us, hl with | [_], _ => rfl) (.cons ((c_law_draw X g A).mono (by decide)) .nil) .nil .nil (fun z => absurd z (by decide +kernel)) t_law_any_number (fun ds M Q E _ h => pV G_law_any_number 1 B_law_any_number ds M Q E h)
theorem o_law_any_form : scopeOk N_law_any_form ["state"] (defScope s_law_any_form) = true := by decide +kernel
theorem t_law_any_form : chkSs (gtOf G_law_any_form) N_law_any_form (defScope s_law_any_form) B_law_any_form (defBody s_law_any_form) = true := by decide +kernel
theorem c_law_any_form (X : K.In h) (g : h.Ns mainGlobals mg) (A : FA K) : Cal P w K mg base (XRof K) 3 "_law_any_form" 1 (spV F_law_any_form) :=
  cal_mk (G := gtOf G_law_any_form) X g A.d_law_any_form o_law_any_form rfl (fun _ _ _ _ _ _ us hl => match us, hl with | [_], _ => rfl) (.cons ((c_law_draw X g A).mono (by decide)) (.cons ((c_law_any_number X g A).mono (by decide)) .nil)) .nil (.cons (A.brange) (.cons (A.bint) (.cons (A.btuple) .nil))) (fun z => absurd z (by decide +kernel)) t_law_any_form (fun ds M Q E _ h => pV G_law_any_form 5 B_law_any_form ds M Q E h)
theorem o_law_network : scopeOk N_law_network ["state", "most", "many"] (defScope s_law_network) = true := by decide +kernel
theorem t_law_network : chkSs (gtOf G_law_network) N_law_network (defScope s_law_network) B_law_network (defBody s_law_network) = true := by decide +kernel
theorem c_law_network (X : K.In h) (g : h.Ns mainGlobals mg) (A : FA K) : Cal P w K mg base (XRof K) 4 "_law_network" 3 (spV F_law_network) :=
  cal_mk (G := gtOf G_law_network) X g A.d_law_network o_law_network rfl (fun _ _ _ _ _ _ us hl => match us, hl with | [_, _, _], _ => rfl) (.cons ((c_law_offices X g A).mono (by decide)) (.cons ((c_law_draw X g A).mono (by decide)) (.cons ((c_law_any_form X g A).mono (by decide)) (.cons ((c_law_in_order X g A).mono (by decide)) .nil)))) .nil (.cons (A.brange) (.cons (A.blen) (.cons (A.bint) .nil))) (fun z => absurd z (by decide +kernel)) t_law_network (fun ds M Q E _ h => pV G_law_network 10 B_law_network ds M Q E h)
theorem o_law_tables : scopeOk N_law_tables ["network", "start", "x"] (defScope s_law_tables) = true := by decide +kernel
theorem t_law_tables : chkSs (gtOf G_law_tables) N_law_tables (defScope s_law_tables) B_law_tables (defBody s_law_tables) = true := by decide +kernel
theorem c_law_tables (X : K.In h) (g : h.Ns mainGlobals mg) (A : FA K) : Cal P w K mg base (XRof K) 2 "_law_tables" 3 (spV F_law_tables) :=
  cal_mk (G := gtOf G_law_tables) X g A.d_law_tables o_law_tables rfl (fun _ _ _ _ _ _ us hl => match us, hl with | [_, _, _], _ => rfl) (.cons ((c_law_value X g A).mono (by decide)) .nil) .nil (.cons (A.brange) (.cons (A.blen) .nil)) (fun z => absurd z (by decide +kernel)) t_law_tables (fun ds M Q E _ h => pV G_law_tables 12 B_law_tables ds M Q E h)
theorem o_law_triple : scopeOk N_law_triple ["network", "tables", "office", "x"] (defScope s_law_triple) = true := by decide +kernel
theorem t_law_triple : chkSs (gtOf G_law_triple) N_law_triple (defScope s_law_triple) B_law_triple (defBody s_law_triple) = true := by decide +kernel
theorem c_law_triple (X : K.In h) (g : h.Ns mainGlobals mg) (A : FA K) : Cal P w K mg base (XRof K) 2 "_law_triple" 4 (spV F_law_triple) :=
  cal_mk (G := gtOf G_law_triple) X g A.d_law_triple o_law_triple rfl (fun _ _ _ _ _ _ us hl => match us, hl with | [_, _, _, _], _ => rfl) (.cons ((c_law_value X g A).mono (by decide)) .nil) .nil (.cons (A.brange) (.cons (A.blen) (.cons (A.bmin) .nil))) (fun z => absurd z (by decide +kernel)) t_law_triple (fun ds M Q E _ h => pV G_law_triple 13 B_law_triple ds M Q E h)
theorem o_law_due : scopeOk N_law_due ["network", "start", "goal", "x"] (defScope s_law_due) = true := by decide +kernel
theorem t_law_due : chkSs (gtOf G_law_due) N_law_due (defScope s_law_due) B_law_due (defBody s_law_due) = true := by decide +kernel
theorem c_law_due (X : K.In h) (g : h.Ns mainGlobals mg) (A : FA K) : Cal P w K mg base (XRof K) 3 "_law_due" 4 (spV F_law_due) :=
  cal_mk (G := gtOf G_law_due) X g A.d_law_due o_law_due rfl (fun _ _ _ _ _ _ us hl => match us, hl with | [_, _, _, _], _ => rfl) (.cons ((c_law_tables X g A).mono (by decide)) (.cons ((c_law_triple X g A).mono (by decide)) .nil)) .nil (.cons (A.brange) (.cons (A.blen) (.cons (A.btuple) .nil))) (fun z => absurd z (by decide +kernel)) t_law_due (fun ds M Q E _ h => pV G_law_due 9 B_law_due ds M Q E h)
theorem o_law_is_way : scopeOk N_law_is_way ["told", "due"] (defScope s_law_is_way) = true := by decide +kernel
theorem t_law_is_way : chkSs (gtOf G_law_is_way) N_law_is_way (defScope s_law_is_way) B_law_is_way (defBody s_law_is_way) = true := by decide +kernel
theorem c_law_is_way (X : K.In h) (g : h.Ns mainGlobals mg) (A : FA K) : Cal P w K mg base (XRof K) 1 "_law_is_way" 2 (spV F_law_is_way) :=
  cal_mk (G := gtOf G_law_is_way) X g A.d_law_is_way o_law_is_way rfl (fun _ _ _ _ _ _ us hl => match us, hl with | [_, _], _ => rfl) .nil .nil (.cons (A.bisinstance) (.cons (A.btuple) (.cons (A.blen) (.cons (A.bint) (.cons (A.bbool) .nil))))) (fun z => absurd z (by decide +kernel)) t_law_is_way (fun ds M Q E _ h => pV G_law_is_way 3 B_law_is_way ds M Q E h)
theorem o_law_leads : scopeOk N_law_leads ["network", "start", "goal", "x", "told"] (defScope s_law_leads) = true := by decide +kernel
theorem t_law_leads : chkSs (gtOf G_law_leads) N_law_leads (defScope s_law_leads) B_law_leads (defBody s_law_leads) = true := by decide +kernel
theorem c_law_leads (X : K.In h) (g : h.Ns mainGlobals mg) (A : FA K) : Cal P w K mg base (XRof K) 3 "_law_leads" 5 (spV F_law_leads) :=
  cal_mk (G := gtOf G_law_leads) X g A.d_law_leads o_law_leads rfl (fun _ _ _ _ _ _ us hl => match us, hl with | [_, _, _, _, _], _ => rfl) (.cons ((c_law_value X g A).mono (by decide)) (.cons ((c_law_tables X g A).mono (by decide)) .nil)) .nil (.cons (A.bmin) .nil) (fun z => absurd z (by decide +kernel)) t_law_leads (fun ds M Q E _ h => pV G_law_leads 10 B_law_leads ds M Q E h)
theorem o_law_too_large_holds : scopeOk N_law_too_large_holds ["state"] (defScope s_law_too_large_holds) = true := by decide +kernel
theorem t_law_too_large_holds : chkSs (gtOf G_law_too_large_holds) N_law_too_large_holds (defScope s_law_too_large_holds) B_law_too_large_holds (defBody s_law_too_large_holds) = true := by decide +kernel
theorem c_law_too_large_holds (X : K.In h) (g : h.Ns mainGlobals mg) (A : FA K) : Cal P w K mg base (XRof K) 5 "_law_too_large_holds" 1 (spV F_law_too_large_holds) :=
  cal_mk (G := gtOf G_law_too_large_holds) X g A.d_law_too_large_holds o_law_too_large_holds rfl (fun _ _ _ _ _ _ us hl => match us, hl with | [_], _ => rfl) (.cons ((c_law_far X g A).mono (by decide)) (.cons ((c_law_comb X g A).mono (by decide)) (.cons ((c_law_is_way X g A).mono (by decide)) (.cons ((cway X g A).mono (by decide)) .nil)))) .nil (.cons (A.bint) .nil) (fun z => absurd z (by decide +kernel)) t_law_too_large_holds (fun ds M Q E _ h => pV G_law_too_large_holds 5 B_law_too_large_holds ds M Q E h)
theorem olaw : scopeOk Nlaw ["script"] (defScope slaw) = true := by decide +kernel
theorem tlaw : chkSs (gtOf Glaw) Nlaw (defScope slaw) Blaw (defBody slaw) = true := by decide +kernel
theorem claw (X : K.In h) (g : h.Ns mainGlobals mg) (A : FA K) {f : Addr} {fd : FuncData} (F : Fun K "law" "law" slaw f fd) : FnOk P w K mg base (L2.CX P w) 6 f fd ["script"] (liftSp K (XRof K) 1 (spV Flaw)) :=
  law_mk (G := gtOf Glaw) X g F olaw rfl (.cons ((c_law_state X g A).mono (by decide)) (.cons ((c_law_network X g A).mono (by decide)) (.cons ((c_law_draw X g A).mono (by decide)) (.cons ((c_law_far X g A).mono (by decide)) (.cons ((c_law_due X g A).mono (by decide)) (.cons ((cway X g A).mono (by decide)) (.cons ((c_law_is_way X g A).mono (by decide)) (.cons ((c_law_leads X g A).mono (by decide)) (.cons ((c_law_too_large_holds X g A).mono (by decide)) .nil))))))))) .nil (.cons (A.brange) (.cons (A.blen) .nil)) (fun z => absurd z (by decide +kernel)) tlaw (fun ds M Q E _ h => pV Glaw 10 Blaw ds M Q E h)
end
theorem law_end2 {FAx : PySem.W.Frag → Prop} {l : PySem.W.OpenLaw} {n k : Nat} {q : Program} {loose : List Str} {XP : (Str → Option Value) → Heap → Prop} {YP : World → Heap → Prop} {d : DefRec} {K : Params → PySem.W.Frag} {sp : Sp3} {st : Stmt}
    (hd : d.name = "law") (hn : l.most = some n) (hn2 : n ≤ sizeLine) (hdf : d.params.defaults = []) (hr : Room k callerA) (hY : ∀ (w : World) (h : Heap), YP w h → (K w.params).In h)
    (hb : ∀ (s : Shared) (u kV doc pm : Value) (an : Option Addr) (cdv ct : Value), BindsTo s (PySem.W.fnOf "law" "law" (defArgs st) (defBody st) (defScope st) .none kV doc pm an cdv ct) ⟨[u], []⟩ [("script", u)])
    (dd : ∀ K, FAx K → DF K "law" st)
    (C : ∀ (w : World) (mg : Str → Option Value) (base h : Heap), (K w.params).In h → h.Ns mainGlobals mg → FAx (K w.params) → ∀ f fd, Fun (K w.params) "law" "law" st f fd → FnOk l.prog w (K w.params) mg base (L2.CX l.prog w) k f fd ["script"] (liftSp (K w.params) (XRof (K w.params)) 1 sp))
    (hsp : ∀ ns : List Int, ns.length ≤ n → sp [.flst (ns.map D.int)] M00 (fun v _ => v = .bl true) noX) (A : ∀ w : World, FAx (K w.params)) : PySem.W.WalkO q loose XP YP l.row.toRowW d [] (fun f vs => PySem.call f vs) :=
  law_end (XR := fun w => XRof (K w.params)) hd hn hn2 hdf hr hY hb (fun w => dd _ (A w)) (fun w mg base h KX G f fd F => C w mg base h KX G (A w) f fd F) hsp
end K85
open PySem PySem.W PyProof.Rows
set_option maxHeartbeats 0 in
theorem PySem.Challenge.cw_letterways_k85_ways_of_one_letter_holds : PySem.Challenge.rw_letterways_k85_ways_of_one_letter.Holds :=
  by
  w_on; o_law; k_head; (case hw => w_witness2)
  k_fill
  refine' K85.law_end2 (FAx := K85.FA) (l := PySem.Challenge.rw_letterways_k85_ways_of_one_letter) (n := 63) (k := 6) (sp := Z.spV K85.Flaw) (st := K85.slaw) rfl rfl (by decide) rfl ⟨rfl, by decide, by decide⟩ (fun w h Y => PySem.W.kIn_of Y) (fun _ _ _ _ _ _ _ _ => .of_eq rfl) (fun _ A => A.dlaw) (fun w mg base h KX G A f fd F => K85.claw KX G A F) (fun ns hl => K85.lawHolds ns hl) ?A
  case A =>
    intro w
    refine' K85.FA.mk ?dvalue_at ?d_is_less ?d_behind ?d_known_for ?dtriples_for ?dway ?d_law_state ?d_law_draw ?d_law_far ?d_law_value ?d_law_name ?d_law_offices ?d_law_in_order ?d_law_comb ?d_law_any_number ?d_law_any_form ?d_law_network ?d_law_tables ?d_law_triple ?d_law_due ?d_law_is_way ?d_law_leads ?d_law_too_large_holds ?dlaw ?cNO_WAY ?bbool ?bint ?bisinstance ?blen ?blist ?bmin ?brange ?bset ?bsorted ?btuple
    case dvalue_at => (refine' Z.DF.mk ?a ?l ?c ?k; (case a => k_is); (case l => k_is); (case c => k_is); (case k => k_is))
    case d_is_less => (refine' Z.DF.mk ?a ?l ?c ?k; (case a => k_is); (case l => k_is); (case c => k_is); (case k => k_is))
    case d_behind => (refine' Z.DF.mk ?a ?l ?c ?k; (case a => k_is); (case l => k_is); (case c => k_is); (case k => k_is))
    case d_known_for => (refine' Z.DF.mk ?a ?l ?c ?k; (case a => k_is); (case l => k_is); (case c => k_is); (case k => k_is))
    case dtriples_for => (refine' Z.DF.mk ?a ?l ?c ?k; (case a => k_is); (case l => k_is); (case c => k_is); (case k => k_is))
    case dway => (refine' Z.DF.mk ?a ?l ?c ?k; (case a => k_is); (case l => k_is); (case c => k_is); (case k => k_is))
    case d_law_state => (refine' Z.DF.mk ?a ?l ?c ?k; (case a => k_is); (case l => k_is); (case c => k_is); (case k => k_is))
    case d_law_draw => (refine' Z.DF.mk ?a ?l ?c ?k; (case a => k_is); (case l => k_is); (case c => k_is); (case k => k_is))
    case d_law_far => (refine' Z.DF.mk ?a ?l ?c ?k; (case a => k_is); (case l => k_is); (case c => k_is); (case k => k_is))
    case d_law_value => (refine' Z.DF.mk ?a ?l ?c ?k; (case a => k_is); (case l => k_is); (case c => k_is); (case k => k_is))
    case d_law_name => (refine' Z.DF.mk ?a ?l ?c ?k; (case a => k_is); (case l => k_is); (case c => k_is); (case k => k_is))
    case d_law_offices => (refine' Z.DF.mk ?a ?l ?c ?k; (case a => k_is); (case l => k_is); (case c => k_is); (case k => k_is))
    case d_law_in_order => (refine' Z.DF.mk ?a ?l ?c ?k; (case a => k_is); (case l => k_is); (case c => k_is); (case k => k_is))
    case d_law_comb => (refine' Z.DF.mk ?a ?l ?c ?k; (case a => k_is); (case l => k_is); (case c => k_is); (case k => k_is))
    case d_law_any_number => (refine' Z.DF.mk ?a ?l ?c ?k; (case a => k_is); (case l => k_is); (case c => k_is); (case k => k_is))
    case d_law_any_form => (refine' Z.DF.mk ?a ?l ?c ?k; (case a => k_is); (case l => k_is); (case c => k_is); (case k => k_is))
    case d_law_network => (refine' Z.DF.mk ?a ?l ?c ?k; (case a => k_is); (case l => k_is); (case c => k_is); (case k => k_is))
    case d_law_tables => (refine' Z.DF.mk ?a ?l ?c ?k; (case a => k_is); (case l => k_is); (case c => k_is); (case k => k_is))
    case d_law_triple => (refine' Z.DF.mk ?a ?l ?c ?k; (case a => k_is); (case l => k_is); (case c => k_is); (case k => k_is))
    case d_law_due => (refine' Z.DF.mk ?a ?l ?c ?k; (case a => k_is); (case l => k_is); (case c => k_is); (case k => k_is))
    case d_law_is_way => (refine' Z.DF.mk ?a ?l ?c ?k; (case a => k_is); (case l => k_is); (case c => k_is); (case k => k_is))
    case d_law_leads => (refine' Z.DF.mk ?a ?l ?c ?k; (case a => k_is); (case l => k_is); (case c => k_is); (case k => k_is))
    case d_law_too_large_holds => (refine' Z.DF.mk ?a ?l ?c ?k; (case a => k_is); (case l => k_is); (case c => k_is); (case k => k_is))
    case dlaw => (refine' Z.DF.mk ?a ?l ?c ?k; (case a => k_is); (case l => k_is); (case c => k_is); (case k => k_is))
    case cNO_WAY => (refine' Z.DC.tup ?h ?l ?r; (case h => k_is); (case l => k_is); (case r => exact ⟨_, rfl, ⟨_, rfl, ⟨_, rfl, rfl⟩⟩⟩))
    case bbool => (show PySem.W.nsIn _ _ _ = some none; k_is)
    case bint => (show PySem.W.nsIn _ _ _ = some none; k_is)
    case bisinstance => (show PySem.W.nsIn _ _ _ = some none; k_is)
    case blen => (show PySem.W.nsIn _ _ _ = some none; k_is)
    case blist => (show PySem.W.nsIn _ _ _ = some none; k_is)
    case bmin => (show PySem.W.nsIn _ _ _ = some none; k_is)
    case brange => (show PySem.W.nsIn _ _ _ = some none; k_is)
    case bset => (show PySem.W.nsIn _ _ _ = some none; k_is)
    case bsorted => (show PySem.W.nsIn _ _ _ = some none; k_is)
    case btuple => (show PySem.W.nsIn _ _ _ = some none; k_is)

