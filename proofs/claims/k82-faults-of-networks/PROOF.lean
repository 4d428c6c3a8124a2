import PyProof.Rows.All
import HandS.ForMost
import HandS.ForExc
import HandS.TupAny
import HandS.TupMul
import HandS.IsInst
import HandS.Deep
import HandS.Wide
import HandS.Style
import KE.DataCmp
import PyProof.StrBlock2
import HandS.RaiseMore
import HandS.Text
import KE.SortCalls
import HandS.Conv
import HandS.More
import HandS.Small
import HandS.SetKeys
import HandS.Strs
import HandS.ForSpec
import Open.SpecLaws
import KE.OsGo
import HandS.TupSets
import HandS.FStr
import KE.IntTextLaws
import PySem.Challenge.RW_letterways_k82_faults_of_networks
import KE.IntBitsLaws
set_option Elab.async false
set_option linter.all false
set_option maxRecDepth 100000
set_option maxHeartbeats 2000000
namespace Z
open PySem PySem.Spec PyProof.Rows L2

/-- how a tuple stands: made and tracked; of the written part; made and known to its object -/
inductive TK where
  | t | s | k
  deriving DecidableEq, Inhabited
/-- data: tuples and frozen lists and dicts by their content, mutable things by their address -/
inductive D where
  | non
  | bl (b : Bool)
  | int (i : Int)
  | str (x : Str)
  | ref (a : Addr)
  | tp (k : TK) (ds : List D)
  | lst (ds : List D)
  | flst (ds : List D)
  | dK (ks : List Key) (ds : List D)
  | dT (ks : List (List Key)) (ds : List D)
  deriving Inhabited
abbrev D.tup (ds : List D) : D := .tp .t ds
/-- a mutable thing -/
inductive MO where
  | lst (ds : List D)
  | dK (kvs : List (Key × D))
  | dT (kvs : List (List Key × D))
  | ins (C : Addr) (fs : List (Str × D))
abbrev MH := Addr → Option MO
def up (M : MH) (a : Addr) (o : MO) : MH := fun b => if b = a then some o else M b
def er (M : MH) (a : Addr) : MH := fun b => if b = a then none else M b
@[simp] theorem up_same {M : MH} {a : Addr} {o : MO} : up M a o a = some o := by unfold up; rw [if_pos rfl]
theorem up_ne {M : MH} {a b : Addr} {o : MO} (h : b ≠ a) : up M a o b = M b := by unfold up; rw [if_neg h]
@[simp] theorem up_up {M : MH} {a : Addr} {o u : MO} : up (up M a o) a u = up M a u := by
  funext b; unfold up; split <;> rfl
theorem er_up {M : MH} {a : Addr} {o : MO} (h : M a = none) : er (up M a o) a = M := by
  funext b; unfold er up
  by_cases e : b = a
  · rw [if_pos e, e, h]
  · rw [if_neg e, if_neg e]

section
variable (K : PySem.W.Frag)
/-- a tuple, a list of the written part -/
def StT (a : Addr) (xs : List V) : Prop :=
  ∃ (o : Obj) (its : Array Value) (n : Nat), K.lookup a = some o ∧ o.cls = .type "tuple" ∧ o.data = .seq its n ∧ its.size ≤ sizeLine ∧ Vals xs its.toList
def TupR (M : MH) (H : Hp) (a : Addr) (vs : List V) : TK → Prop
  | .t => M a = none ∧ H a = some (.tup vs)
  | .s => StT K a vs
  | .k => ∃ o, M a = none ∧ H a = some (.frz o (.tup vs)) ∧ o.dict = none
/-- a list that stays: the script's, or one of the written part -/
def FlR (M : MH) (H : Hp) (a : Addr) (vs : List V) : Prop :=
  (∃ o, M a = none ∧ H a = some (.frz o (.lst vs))) ∨
    ∃ (o : Obj) (its : Array Value) (n : Nat), K.lookup a = some o ∧ o.cls = .type "list" ∧ o.dict = none ∧ o.data = .seq its n ∧ its.size ≤ sizeLine ∧ Vals vs its.toList
mutual
def Rp (M : MH) (H : Hp) : D → V → Prop
  | .non, v => v = .non
  | .bl b, v => v = .bl b
  | .int i, v => v = .int i
  | .str x, v => v = .str x
  | .ref a, v => v = .ref a
  | .tp k ds, v => ∃ a vs, v = .ref a ∧ TupR K M H a vs k ∧ RpL M H ds vs
  | .lst ds, v => ∃ a vs, v = .ref a ∧ M a = none ∧ H a = some (.lst vs) ∧ RpL M H ds vs
  | .flst ds, v => ∃ a vs, v = .ref a ∧ FlR K M H a vs ∧ RpL M H ds vs
  | .dK ks ds, v => ∃ a vs, v = .ref a ∧ M a = none ∧ Rd H a (.dK (ks.zip vs)) ∧ ks.length = ds.length ∧ RpL M H ds vs
  | .dT ks ds, v => ∃ a vs, v = .ref a ∧ M a = none ∧ Rd H a (.dT (ks.zip vs)) ∧ ks.length = ds.length ∧ RpL M H ds vs
def RpL (M : MH) (H : Hp) : List D → List V → Prop
  | [], vs => vs = []
  | d :: ds, vs => ∃ v r, vs = v :: r ∧ Rp M H d v ∧ RpL M H ds r
end
/-- nothing that stands unmarked is touched -/
def Ev (M : MH) (H : Hp) (M' : MH) (H' : Hp) : Prop := ∀ a o, H a = some o → M a = none → H' a = some o ∧ M' a = none
theorem Ev.refl (M : MH) (H : Hp) : Ev M H M H := fun _ _ h m => ⟨h, m⟩
theorem Ev.trans {M M1 M2 : MH} {H H1 H2 : Hp} (a : Ev M H M1 H1) (b : Ev M1 H1 M2 H2) : Ev M H M2 H2 := fun c o h m =>
  let ⟨h1, m1⟩ := a c o h m
  b c o h1 m1
variable {K}
theorem TupR.ev {M M' : MH} {H H' : Hp} (e : Ev M H M' H') {a : Addr} {vs : List V} {k : TK} (r : TupR K M H a vs k) : TupR K M' H' a vs k := by
  cases k with
  | t =>
    obtain ⟨g1, g2⟩ := e a _ r.2 r.1
    exact ⟨g2, g1⟩
  | s => exact r
  | k =>
    obtain ⟨o, h1, h2, h3⟩ := r
    obtain ⟨g1, g2⟩ := e a _ h2 h1
    exact ⟨o, g2, g1, h3⟩
theorem FlR.ev {M M' : MH} {H H' : Hp} (e : Ev M H M' H') {a : Addr} {vs : List V} (r : FlR K M H a vs) : FlR K M' H' a vs := by
  rcases r with ⟨o, h1, h2⟩ | r
  · obtain ⟨g1, g2⟩ := e a _ h2 h1
    exact .inl ⟨o, g2, g1⟩
  · exact .inr r
theorem FlR.sq {M : MH} {H : Hp} {a : Addr} {vs : List V} (r : FlR K M H a vs) : SqL K H a vs := by
  rcases r with ⟨o, h1, h2⟩ | r
  · exact .inl (.inr ⟨o, h2⟩)
  · exact .inr r
theorem TupR.sq {M : MH} {H : Hp} {a : Addr} {vs : List V} {k : TK} (r : TupR K M H a vs k) : SqT K H a vs := by
  cases k with
  | t => exact .inl (.inl r.2)
  | s => exact .inr r
  | k =>
    obtain ⟨o, h1, h2, h3⟩ := r
    exact .inl (.inr ⟨o, h2⟩)
theorem Rd.ev {M M' : MH} {H H' : Hp} (e : Ev M H M' H') {a : Addr} {u : HO} (m : M a = none) (r : Rd H a u) : Rd H' a u ∧ M' a = none := by
  rcases r with h | ⟨o, h⟩
  · obtain ⟨g1, g2⟩ := e a _ h m
    exact ⟨.inl g1, g2⟩
  · obtain ⟨g1, g2⟩ := e a _ h m
    exact ⟨.inr ⟨o, g1⟩, g2⟩
mutual
theorem Rp.ev {M M' : MH} {H H' : Hp} (e : Ev M H M' H') : ∀ (d : D) (v : V), Rp K M H d v → Rp K M' H' d v
  | .non, _, h => h
  | .bl _, _, h => h
  | .int _, _, h => h
  | .str _, _, h => h
  | .ref _, _, h => h
  | .tp k ds, v, h => by
    obtain ⟨a, vs, h1, h2, h3⟩ := h
    exact ⟨a, vs, h1, h2.ev e, RpL.ev e ds vs h3⟩
  | .lst ds, v, h => by
    obtain ⟨a, vs, h1, h2, h3, h4⟩ := h
    obtain ⟨g1, g2⟩ := e a _ h3 h2
    exact ⟨a, vs, h1, g2, g1, RpL.ev e ds vs h4⟩
  | .flst ds, v, h => by
    obtain ⟨a, vs, h1, h2, h3⟩ := h
    exact ⟨a, vs, h1, h2.ev e, RpL.ev e ds vs h3⟩
  | .dK ks ds, v, h => by
    obtain ⟨a, vs, h1, h2, h3, h4, h5⟩ := h
    obtain ⟨g1, g2⟩ := Rd.ev e h2 h3
    exact ⟨a, vs, h1, g2, g1, h4, RpL.ev e ds vs h5⟩
  | .dT ks ds, v, h => by
    obtain ⟨a, vs, h1, h2, h3, h4, h5⟩ := h
    obtain ⟨g1, g2⟩ := Rd.ev e h2 h3
    exact ⟨a, vs, h1, g2, g1, h4, RpL.ev e ds vs h5⟩
theorem RpL.ev {M M' : MH} {H H' : Hp} (e : Ev M H M' H') : ∀ (ds : List D) (vs : List V), RpL K M H ds vs → RpL K M' H' ds vs
  | [], _, h => h
  | d :: ds, vs, h => by
    obtain ⟨v, r, h1, h2, h3⟩ := h
    exact ⟨v, r, h1, Rp.ev e d v h2, RpL.ev e ds r h3⟩
end
theorem RpL.length {M : MH} {H : Hp} : ∀ {ds : List D} {vs : List V}, RpL K M H ds vs → vs.length = ds.length
  | [], _, h => by
    have h : _ = [] := h
    subst h; rfl
  | d :: ds, vs, h => by
    obtain ⟨v, r, h1, h2, h3⟩ := h
    subst h1
    simp only [List.length_cons, RpL.length h3]
theorem RpL.get {M : MH} {H : Hp} : ∀ {ds : List D} {vs : List V} {i : Nat} {d : D}, RpL K M H ds vs → ds[i]? = some d → ∃ v, vs[i]? = some v ∧ Rp K M H d v
  | [], _, _, _, _, e => by simp at e
  | d :: ds, vs, 0, d', h, e => by
    obtain ⟨v, r, h1, h2, h3⟩ := h
    subst h1
    have e' : d = d' := by simpa using e
    subst e'
    exact ⟨v, rfl, h2⟩
  | d :: ds, vs, i + 1, d', h, e => by
    obtain ⟨v, r, h1, h2, h3⟩ := h
    subst h1
    obtain ⟨w, e1, e2⟩ := RpL.get (i := i) h3 (by simpa using e)
    exact ⟨w, by simpa using e1, e2⟩
theorem RpL.get' {M : MH} {H : Hp} {ds : List D} {vs : List V} {i : Nat} {v : V} (h : RpL K M H ds vs) (e : vs[i]? = some v) : ∃ d, ds[i]? = some d ∧ Rp K M H d v := by
  have hl := h.length
  obtain ⟨h1, h2⟩ := List.getElem?_eq_some_iff.mp e
  have h3 : i < ds.length := by omega
  obtain ⟨w, e1, e2⟩ := h.get (List.getElem?_eq_getElem h3)
  rw [e] at e1
  cases e1
  exact ⟨_, List.getElem?_eq_getElem h3, e2⟩
theorem RpL.append {M : MH} {H : Hp} : ∀ {ds es : List D} {vs ws : List V}, RpL K M H ds vs → RpL K M H es ws → RpL K M H (ds ++ es) (vs ++ ws)
  | [], _, _, _, h, g => by
    have h : _ = [] := h
    subst h; exact g
  | d :: ds, es, vs, ws, h, g => by
    obtain ⟨v, r, h1, h2, h3⟩ := h
    subst h1
    exact ⟨v, r ++ ws, rfl, h2, RpL.append h3 g⟩
theorem RpL.take {M : MH} {H : Hp} : ∀ (n : Nat) {ds : List D} {vs : List V}, RpL K M H ds vs → RpL K M H (ds.take n) (vs.take n)
  | 0, _, _, _ => by simp [RpL]
  | n + 1, [], _, h => by
    have h : _ = [] := h
    subst h; simp [RpL]
  | n + 1, d :: ds, vs, h => by
    obtain ⟨v, r, h1, h2, h3⟩ := h
    subst h1
    exact ⟨v, r.take n, rfl, h2, RpL.take n h3⟩
theorem RpL.drop {M : MH} {H : Hp} : ∀ (n : Nat) {ds : List D} {vs : List V}, RpL K M H ds vs → RpL K M H (ds.drop n) (vs.drop n)
  | 0, _, _, h => h
  | n + 1, [], _, h => by
    have h : _ = [] := h
    subst h; simp [RpL]
  | n + 1, d :: ds, vs, h => by
    obtain ⟨v, r, h1, h2, h3⟩ := h
    subst h1
    exact RpL.drop n h3
theorem RpL.set {M : MH} {H : Hp} {d : D} {v : V} (hd : Rp K M H d v) : ∀ (i : Nat) {ds : List D} {vs : List V}, RpL K M H ds vs → RpL K M H (ds.set i d) (vs.set i v)
  | _, [], _, h => by
    have h : _ = [] := h
    subst h; simp [RpL]
  | 0, d' :: ds, vs, h => by
    obtain ⟨w, r, h1, h2, h3⟩ := h
    subst h1
    exact ⟨v, r, rfl, hd, h3⟩
  | i + 1, d' :: ds, vs, h => by
    obtain ⟨w, r, h1, h2, h3⟩ := h
    subst h1
    exact ⟨w, r.set i v, rfl, h2, RpL.set hd i h3⟩
theorem RpL.reverse {M : MH} {H : Hp} : ∀ {ds : List D} {vs : List V}, RpL K M H ds vs → RpL K M H ds.reverse vs.reverse
  | [], _, h => by
    have h : _ = [] := h
    subst h; exact rfl
  | d :: ds, vs, h => by
    obtain ⟨w, r, h1, h2, h3⟩ := h
    subst h1
    rw [List.reverse_cons, List.reverse_cons]
    exact RpL.append (RpL.reverse h3) ⟨w, [], rfl, h2, rfl⟩
theorem RpL.one {M : MH} {H : Hp} {d : D} {v : V} (h : Rp K M H d v) : RpL K M H [d] [v] := ⟨v, [], rfl, h, rfl⟩
end
end Z

namespace Z
open PySem PySem.Spec PyProof.Rows L2

section
variable (K : PySem.W.Frag)
def OR (M : MH) (H : Hp) (a : Addr) : MO → Prop
  | .lst ds => ∃ vs, H a = some (.lst vs) ∧ RpL K M H ds vs
  | .dK kvs => ∃ vs, H a = some (.dK ((kvs.map (·.1)).zip vs)) ∧ RpL K M H (kvs.map (·.2)) vs
  | .dT kvs => ∃ vs, H a = some (.dT ((kvs.map (·.1)).zip vs)) ∧ RpL K M H (kvs.map (·.2)) vs
  | .ins C fs => ∃ dx vs, H a = some (.ins C dx ((fs.map (·.1)).zip vs)) ∧ RpL K M H (fs.map (·.2)) vs
def RM (M : MH) (H : Hp) : Prop := ∀ a o, M a = some o → OR K M H a o
variable {K}
theorem OR.has {M : MH} {H : Hp} {a : Addr} {o : MO} (h : OR K M H a o) : ∃ u, H a = some u := by
  cases o with
  | lst ds => obtain ⟨vs, h, _⟩ := h; exact ⟨_, h⟩
  | dK ds => obtain ⟨vs, h, _⟩ := h; exact ⟨_, h⟩
  | dT ds => obtain ⟨vs, h, _⟩ := h; exact ⟨_, h⟩
  | ins C fs => obtain ⟨dx, vs, h, _⟩ := h; exact ⟨_, h⟩
theorem OR.ev {M M' : MH} {H H' : Hp} (e : Ev M H M' H') {a : Addr} {o : MO} (he : H' a = H a) (h : OR K M H a o) : OR K M' H' a o := by
  cases o with
  | lst ds => obtain ⟨vs, h, r⟩ := h; exact ⟨vs, he.trans h, RpL.ev e _ _ r⟩
  | dK ds => obtain ⟨vs, h, r⟩ := h; exact ⟨vs, he.trans h, RpL.ev e _ _ r⟩
  | dT ds => obtain ⟨vs, h, r⟩ := h; exact ⟨vs, he.trans h, RpL.ev e _ _ r⟩
  | ins C fs => obtain ⟨dx, vs, h, r⟩ := h; exact ⟨dx, vs, he.trans h, RpL.ev e _ _ r⟩
theorem RM.free {M : MH} {H : Hp} (h : RM K M H) {p : Addr} (e : H p = none) : M p = none := by
  cases q : M p with
  | none => rfl
  | some o =>
    obtain ⟨u, z⟩ := (h p o q).has
    rw [e] at z; cases z
/-- a new thing, unmarked -/
theorem Ev.new {M : MH} {H : Hp} {p : Addr} {u : HO} (e : H p = none) : Ev M H M (upd H p u) := fun a o h m =>
  ⟨by rw [upd_ne (ne_of_none h e)]; exact h, m⟩
theorem RM.new {M : MH} {H : Hp} {p : Addr} {u : HO} (h : RM K M H) (e : H p = none) : RM K M (upd H p u) := fun a o q => by
  obtain ⟨v, z⟩ := (h a o q).has
  exact (h a o q).ev (Ev.new e) (by rw [upd_ne (ne_of_none z e)])
/-- a new thing, marked -/
theorem Ev.newM {M : MH} {H : Hp} {p : Addr} {u : HO} {o : MO} (e : H p = none) : Ev M H (up M p o) (upd H p u) := fun a w h m =>
  ⟨by rw [upd_ne (ne_of_none h e)]; exact h, by rw [up_ne (ne_of_none h e)]; exact m⟩
theorem RM.newM {M : MH} {H : Hp} {p : Addr} {u : HO} {o : MO} (h : RM K M H) (e : H p = none) (n : OR K (up M p o) (upd H p u) p o) : RM K (up M p o) (upd H p u) := fun a w q => by
  by_cases z : a = p
  · subst z
    rw [up_same] at q
    cases q
    exact n
  · rw [up_ne z] at q
    exact (h a w q).ev (Ev.newM e) (upd_ne z)
/-- a marked thing is written -/
theorem Ev.wr {M : MH} {H : Hp} {p : Addr} {u : HO} {o o' : MO} (e : M p = some o') : Ev M H (up M p o) (upd H p u) := fun a w h m => by
  have z : a ≠ p := fun z => by subst z; rw [e] at m; cases m
  exact ⟨by rw [upd_ne z]; exact h, by rw [up_ne z]; exact m⟩
theorem RM.wr {M : MH} {H : Hp} {p : Addr} {u : HO} {o o' : MO} (h : RM K M H) (e : M p = some o') (n : OR K (up M p o) (upd H p u) p o) : RM K (up M p o) (upd H p u) := fun a w q => by
  by_cases z : a = p
  · subst z
    rw [up_same] at q
    cases q
    exact n
  · rw [up_ne z] at q
    exact (h a w q).ev (Ev.wr e) (upd_ne z)
/-- a marked thing is forgotten -/
def Sub (M' M : MH) : Prop := ∀ a o, M' a = some o → M a = some o
theorem Sub.refl (M : MH) : Sub M M := fun _ _ h => h
theorem Sub.trans {A B C : MH} (h : Sub A B) (g : Sub B C) : Sub A C := fun a o q => g a o (h a o q)
theorem Ev.sub {M M' : MH} {H : Hp} (s : Sub M' M) : Ev M H M' H := fun a o h m => ⟨h, by
  cases q : M' a with
  | none => rfl
  | some w => rw [s a w q] at m; cases m⟩
theorem RM.sub {M M' : MH} {H : Hp} (h : RM K M H) (s : Sub M' M) : RM K M' H := fun a o q => (h a o (s a o q)).ev (Ev.sub s) rfl
theorem er_none {M : MH} {p : Addr} : er M p p = none := by unfold er; rw [if_pos rfl]
theorem Sub.er {M : MH} {p : Addr} : Sub (er M p) M := fun a o q => by
  unfold Z.er at q
  by_cases z : a = p
  · rw [if_pos z] at q; cases q
  · rw [if_neg z] at q; exact q
theorem Sub.up {M : MH} {p : Addr} {o : MO} (h : M p = .none) : Sub M (up M p o) := fun a w q => by
  rw [up_ne (fun z => by subst z; rw [h] at q; cases q)]; exact q
end

/-! ### slots -/
abbrev En := List (Option D)
def getE : En → Nat → Option D
  | [], _ => none
  | x :: _, 0 => x
  | _ :: r, n + 1 => getE r n
def setE : En → Nat → D → En
  | [], _, _ => []
  | _ :: r, 0, d => some d :: r
  | x :: r, n + 1, d => x :: setE r n d
def wipeE1 : En → Nat → En
  | [], _ => []
  | _ :: r, 0 => none :: r
  | x :: r, n + 1 => x :: wipeE1 r n
def wipeE : En → List Nat → En
  | e, [] => e
  | e, v :: vs => wipeE1 (wipeE e vs) v
theorem getE_eq : ∀ (e : En) (i : Nat), getE e i = (e[i]?).join
  | [], i => by simp [getE]
  | x :: r, 0 => by cases x <;> simp [getE]
  | x :: r, n + 1 => by
    show getE r n = _
    rw [getE_eq r n]; simp
theorem setE_eq : ∀ (e : En) (i : Nat) (d : D), setE e i d = e.set i (some d)
  | [], i, d => by simp [setE]
  | x :: r, 0, d => by simp [setE]
  | x :: r, n + 1, d => by
    show x :: setE r n d = _
    rw [setE_eq r n d]; simp
theorem wipeE1_eq : ∀ (e : En) (i : Nat), wipeE1 e i = e.set i none
  | [], i => by simp [wipeE1]
  | x :: r, 0 => by simp [wipeE1]
  | x :: r, n + 1 => by
    show x :: wipeE1 r n = _
    rw [wipeE1_eq r n]; simp
section
variable (K : PySem.W.Frag)
structure RS (M : MH) (H : Hp) (e : En) (σ : L2.St) : Prop where
  len : e.length = σ.length
  get : ∀ i d, getE e i = some d → ∃ v, σ[i]? = some (some v) ∧ Rp K M H d v
variable {K}
theorem RS.ev {M M' : MH} {H H' : Hp} (v : Ev M H M' H') {e : En} {σ : L2.St} (r : RS K M H e σ) : RS K M' H' e σ :=
  ⟨r.len, fun i d h => let ⟨w, h1, h2⟩ := r.get i d h; ⟨w, h1, Rp.ev v d w h2⟩⟩
theorem RS.set {M : MH} {H : Hp} {e : En} {σ : L2.St} (r : RS K M H e σ) (i : Nat) {d : D} {v : V} (h : Rp K M H d v) : RS K M H (setE e i d) (σ.set i (some v)) := by
  refine ⟨by rw [setE_eq, List.length_set, List.length_set]; exact r.len, fun j d' hj => ?_⟩
  rw [getE_eq, setE_eq] at hj
  by_cases z : j = i
  · subst z
    by_cases hl : j < e.length
    · rw [List.getElem?_set_self hl] at hj
      have hj : d = d' := by simpa using hj
      subst hj
      exact ⟨v, List.getElem?_set_self (by rw [← r.len]; exact hl), h⟩
    · rw [List.getElem?_eq_none (by rw [List.length_set]; omega)] at hj
      cases hj
  · rw [List.getElem?_set_ne (Ne.symm z)] at hj
    obtain ⟨w, h1, h2⟩ := r.get j d' (by rw [getE_eq]; exact hj)
    exact ⟨w, by rw [List.getElem?_set_ne (Ne.symm z)]; exact h1, h2⟩
theorem RS.wipe1 {M : MH} {H : Hp} {e : En} {σ : L2.St} (r : RS K M H e σ) (i : Nat) : RS K M H (wipeE1 e i) (σ.set i none) := by
  refine ⟨by rw [wipeE1_eq, List.length_set, List.length_set]; exact r.len, fun j d' hj => ?_⟩
  rw [getE_eq, wipeE1_eq] at hj
  by_cases z : j = i
  · subst z
    by_cases hl : j < e.length
    · rw [List.getElem?_set_self hl] at hj
      cases hj
    · rw [List.getElem?_eq_none (by rw [List.length_set]; omega)] at hj
      cases hj
  · rw [List.getElem?_set_ne (Ne.symm z)] at hj
    obtain ⟨w, h1, h2⟩ := r.get j d' (by rw [getE_eq]; exact hj)
    exact ⟨w, by rw [List.getElem?_set_ne (Ne.symm z)]; exact h1, h2⟩
theorem RS.wipe {M : MH} {H : Hp} {e : En} {σ : L2.St} (r : RS K M H e σ) : ∀ vs : List Nat, RS K M H (wipeE e vs) (wipe σ vs)
  | [] => r
  | v :: vs => (RS.wipe r vs).wipe1 v
end

/-! ### lifted readings -/
abbrev Q3 := D → MH → Prop
abbrev T3 := En → MH → Q3 → Prop
abbrev TB3 := En → MH → (Bool → MH → Prop) → Prop
abbrev TL3 := En → MH → (List D → MH → Prop) → Prop
abbrev O1 := D → MH → Q3 → Prop
abbrev O2 := D → D → MH → Q3 → Prop
abbrev OL := List D → MH → Q3 → Prop
section
variable (K : PySem.W.Frag) (M0 : MH) (H0 : Hp)
/-- what is wanted of data is what is wanted of values -/
def Cv (M : MH) (H : Hp) (Q3 : Q3) (Q : VK) : Prop := ∀ d M' v H', Q3 d M' → Rp K M' H' d v → RM K M' H' → Ev M H M' H' → Q v H'
def CvB (M : MH) (H : Hp) (Q3 : Bool → MH → Prop) (Q : Bool → Hp → Prop) : Prop := ∀ b M' H', Q3 b M' → RM K M' H' → Ev M H M' H' → Q b H'
def CvL (M : MH) (H : Hp) (Q3 : List D → MH → Prop) (Q : List V → Hp → Prop) : Prop := ∀ ds M' vs H', Q3 ds M' → RpL K M' H' ds vs → RM K M' H' → Ev M H M' H' → Q vs H'
def LE (t : T3) : TE := fun σ H Q => ∃ e M Q3, RS K M H e σ ∧ RM K M H ∧ Ev M0 H0 M H ∧ t e M Q3 ∧ Cv K M H Q3 Q
def LT (t : TB3) : TT := fun σ H Q => ∃ e M Q3, RS K M H e σ ∧ RM K M H ∧ Ev M0 H0 M H ∧ t e M Q3 ∧ CvB K M H Q3 Q
def LA (t : TL3) : TA := fun σ H Q => ∃ e M Q3, RS K M H e σ ∧ RM K M H ∧ Ev M0 H0 M H ∧ t e M Q3 ∧ CvL K M H Q3 Q
def LO1 (o : O1) : V → Hp → VK → Prop := fun x H Q => ∃ d M Q3, Rp K M H d x ∧ RM K M H ∧ o d M Q3 ∧ Cv K M H Q3 Q
def LO2 (o : O2) : R2 := fun x y H Q => ∃ d1 d2 M Q3, Rp K M H d1 x ∧ Rp K M H d2 y ∧ RM K M H ∧ o d1 d2 M Q3 ∧ Cv K M H Q3 Q
def LOL (o : OL) : List V → Hp → VK → Prop := fun xs H Q => ∃ ds M Q3, RpL K M H ds xs ∧ RM K M H ∧ o ds M Q3 ∧ Cv K M H Q3 Q
variable {K M0 H0}
theorem Cv.from {M M1 : MH} {H H1 : Hp} {Q3 : Q3} {Q : VK} (c : Cv K M H Q3 Q) (e : Ev M H M1 H1) : Cv K M1 H1 Q3 Q := fun d M' v H' q r m e' => c d M' v H' q r m (e.trans e')
theorem CvB.from {M M1 : MH} {H H1 : Hp} {Q3 : Bool → MH → Prop} {Q : Bool → Hp → Prop} (c : CvB K M H Q3 Q) (e : Ev M H M1 H1) : CvB K M1 H1 Q3 Q := fun d M' H' q m e' => c d M' H' q m (e.trans e')
theorem CvL.from {M M1 : MH} {H H1 : Hp} {Q3 : List D → MH → Prop} {Q : List V → Hp → Prop} (c : CvL K M H Q3 Q) (e : Ev M H M1 H1) : CvL K M1 H1 Q3 Q := fun d M' v H' q r m e' => c d M' v H' q r m (e.trans e')
theorem Cv.now {M : MH} {H : Hp} {Q3 : Q3} {Q : VK} (c : Cv K M H Q3 Q) {d : D} {v : V} (m : RM K M H) (q : Q3 d M) (r : Rp K M H d v) : Q v H := c d M v H q r m (Ev.refl M H)
theorem _root_.L2.PE.imp {X : Cx} {e : Expr} {t t' : TE} (h : PE X e t) (f : ∀ σ H Q, t' σ H Q → t σ H Q) : PE X e t' := ⟨fun pins s σ H Q I q => h.run pins s σ H Q I (f _ _ _ q)⟩
theorem _root_.L2.PT.imp {X : Cx} {e : Expr} {t t' : TT} (h : PT X e t) (f : ∀ σ H Q, t' σ H Q → t σ H Q) : PT X e t' := ⟨fun pins s σ H Q I q => h.run pins s σ H Q I (f _ _ _ q)⟩
theorem _root_.L2.PW.imp {X : Cx} {e : Expr} {t t' : TT} (h : PW X e t) (f : ∀ σ H Q, t' σ H Q → t σ H Q) : PW X e t' := ⟨fun w pins s σ H Q I q => h.run w pins s σ H Q I (f _ _ _ q)⟩
theorem _root_.L2.PA.imp {X : Cx} {es : List Expr} {t t' : TA} (h : PA X es t) (f : ∀ σ H Q, t' σ H Q → t σ H Q) : PA X es t' := ⟨fun pos pins s σ H Q I q => h.run pos pins s σ H Q I (f _ _ _ q)⟩
theorem _root_.L2.PS.imp {X : Cx} {st : Stmt} {t t' : TS} (h : PS X st t) (f : ∀ D σ H, t' D σ H → t D σ H) : PS X st t' := ⟨fun pins s σ H D I q => h.run pins s σ H D I (f _ _ _ q)⟩
theorem _root_.L2.PSs.imp {X : Cx} {st : List Stmt} {t t' : TS} (h : PSs X st t) (f : ∀ D σ H, t' D σ H → t D σ H) : PSs X st t' := ⟨fun pins s σ H D I q => h.run pins s σ H D I (f _ _ _ q)⟩
theorem _root_.L2.PI.imp {X : Cx} {tg it : Expr} {t t' : TI} (h : PI X tg it t) (f : ∀ σ H R, t' σ H R → t σ H R) : PI X tg it t' := ⟨fun pins s σ H R I q => h.run pins s σ H R I (f _ _ _ q)⟩
theorem oimp {X : Cx} {f : Value → Value → Sem Value} {r r' : R2} (h : OpR X f r) (g : ∀ x y H Q, r' x y H Q → r x y H Q) : OpR X f r' := fun pins s σ H x y v u Q I rx ry q => h pins s σ H x y v u Q I rx ry (g _ _ _ _ q)
theorem uimp {X : Cx} {f : Value → Sem Value} {r r' : V → Hp → VK → Prop} (h : UnR X f r) (g : ∀ x H Q, r' x H Q → r x H Q) : UnR X f r' := fun pins s σ H x v Q I rx q => h pins s σ H x v Q I rx (g _ _ _ q)
theorem cimp {X : Cx} {f : Value} {r r' : List V → Hp → VK → Prop} (h : CallR X f r) (g : ∀ x H Q, r' x H Q → r x H Q) : CallR X f r' := fun pins s σ H x v Q I rx q => h pins s σ H x v Q I rx (g _ _ _ q)

/-! #### sequencing -/
/-- one part, then something -/
theorem LE.then {t : T3} {σ : L2.St} {e : En} {M : MH} {H : Hp} {P : Q3} {Q : VK} (rs : RS K M H e σ) (rm : RM K M H) (ev : Ev M0 H0 M H) (h : t e M P)
    (f : ∀ d M1 v H1, P d M1 → Rp K M1 H1 d v → RS K M1 H1 e σ → RM K M1 H1 → Ev M0 H0 M1 H1 → Ev M H M1 H1 → Q v H1) : LE K M0 H0 t σ H Q :=
  ⟨e, M, P, rs, rm, ev, h, fun d M1 v H1 q r m e1 => f d M1 v H1 q r (rs.ev e1) m (ev.trans e1) e1⟩
theorem LT.then {t : TB3} {σ : L2.St} {e : En} {M : MH} {H : Hp} {P : Bool → MH → Prop} {Q : Bool → Hp → Prop} (rs : RS K M H e σ) (rm : RM K M H) (ev : Ev M0 H0 M H) (h : t e M P)
    (f : ∀ d M1 H1, P d M1 → RS K M1 H1 e σ → RM K M1 H1 → Ev M0 H0 M1 H1 → Ev M H M1 H1 → Q d H1) : LT K M0 H0 t σ H Q :=
  ⟨e, M, P, rs, rm, ev, h, fun d M1 H1 q m e1 => f d M1 H1 q (rs.ev e1) m (ev.trans e1) e1⟩
theorem LA.then {t : TL3} {σ : L2.St} {e : En} {M : MH} {H : Hp} {P : List D → MH → Prop} {Q : List V → Hp → Prop} (rs : RS K M H e σ) (rm : RM K M H) (ev : Ev M0 H0 M H) (h : t e M P)
    (f : ∀ d M1 v H1, P d M1 → RpL K M1 H1 d v → RS K M1 H1 e σ → RM K M1 H1 → Ev M0 H0 M1 H1 → Ev M H M1 H1 → Q v H1) : LA K M0 H0 t σ H Q :=
  ⟨e, M, P, rs, rm, ev, h, fun d M1 v H1 q r m e1 => f d M1 v H1 q r (rs.ev e1) m (ev.trans e1) e1⟩

/-! #### names, constants -/
def loc3 (i : Nat) : T3 := fun e M Q => match getE e i with | some d => Q d M | none => False
def con3 (d : D) : T3 := fun _ M Q => Q d M
section
variable {X : Cx}
theorem z_loc {e : Expr} {i : Nat} (h : PE X e (tVar i)) : PE X e (LE K M0 H0 (loc3 i)) := h.imp fun σ H Q ⟨en, M, P, rs, rm, ev, t, c⟩ => by
  unfold loc3 at t
  cases q : getE en i with
  | none => rw [q] at t; exact t.elim
  | some d =>
    rw [q] at t
    obtain ⟨v, h1, h2⟩ := rs.get i d q
    exact ⟨v, h1, c.now rm t h2⟩
theorem z_con {e : Expr} {d : D} {v : V} (h : PE X e (tC v)) (r : ∀ M H, Rp K M H d v) : PE X e (LE K M0 H0 (con3 d)) := h.imp fun σ H Q ⟨en, M, P, rs, rm, ev, t, c⟩ => c.now rm t (r M H)
/-! #### operators -/
def op2 (o : O2) (ta tb : T3) : T3 := fun e M Q => ta e M fun x M1 => tb e M1 fun y M2 => o x y M2 Q
def op1 (o : O1) (ta : T3) : T3 := fun e M Q => ta e M fun x M1 => o x M1 Q
theorem lo2 {o : O2} {ta tb : T3} {σ : L2.St} {H : Hp} {Q : VK} (h : LE K M0 H0 (op2 o ta tb) σ H Q) : tOp (LO2 K o) (LE K M0 H0 ta) (LE K M0 H0 tb) σ H Q := by
  obtain ⟨en, M, P, rs, rm, ev, t, c⟩ := h
  exact LE.then rs rm ev t fun x M1 v1 H1 t1 r1 rs1 rm1 ev1 e1 => LE.then rs1 rm1 ev1 t1 fun y M2 v2 H2 t2 r2 rs2 rm2 ev2 e2 =>
    ⟨x, y, M2, P, Rp.ev e2 _ _ r1, r2, rm2, t2, c.from (e1.trans e2)⟩
theorem lo1 {o : O1} {ta : T3} {σ : L2.St} {H : Hp} {Q : VK} (h : LE K M0 H0 (op1 o ta) σ H Q) : tUn (LO1 K o) (LE K M0 H0 ta) σ H Q := by
  obtain ⟨en, M, P, rs, rm, ev, t, c⟩ := h
  exact LE.then rs rm ev t fun x M1 v1 H1 t1 r1 rs1 rm1 ev1 e1 => ⟨x, M1, P, r1, rm1, t1, c.from e1⟩
variable {a b : Expr} {ta tb : T3} {pos : Pos}
theorem z_op {op : Operator} {o : O2} (ho : OpR X (binaryOp op) (LO2 K o)) (ha : PE X a (LE K M0 H0 ta)) (hb : PE X b (LE K M0 H0 tb)) : PE X (.BinOp a op b pos) (LE K M0 H0 (op2 o ta tb)) :=
  (pe_op ho ha hb).imp fun _ _ _ h => lo2 h
theorem z_un {op : UnaryOp} {o : O1} (ho : UnR X (unaryOp op) (LO1 K o)) (ha : PE X a (LE K M0 H0 ta)) : PE X (.UnaryOp op a pos) (LE K M0 H0 (op1 o ta)) :=
  (pe_un ho ha).imp fun _ _ _ h => lo1 h
theorem z_cmp {op : CmpOp} {o : O2} (ho : OpR X (compareOp op) (LO2 K o)) (ha : PE X a (LE K M0 H0 ta)) (hb : PE X b (LE K M0 H0 tb)) (hm : behindInMarks op b = false) : PE X (.Compare a [op] [b] pos) (LE K M0 H0 (op2 o ta tb)) :=
  (pe_cmpR ho ha hb hm).imp fun _ _ _ h => lo2 h
/-- a value that is a bool, as a test -/
def tst (t : T3) : TB3 := fun e M Q => t e M fun d M1 => match d with | .bl b => Q b M1 | _ => False
theorem lt_of {t : T3} {σ : L2.St} {H : Hp} {Q : Bool → Hp → Prop} (h : LT K M0 H0 (tst t) σ H Q) : LE K M0 H0 t σ H fun x H1 => ∃ k, x = .bl k ∧ Q k H1 := by
  obtain ⟨en, M, P, rs, rm, ev, t, c⟩ := h
  refine LE.then rs rm ev t fun x M1 v1 H1 t1 r1 rs1 rm1 ev1 e1 => ?_
  cases x with
  | bl b => exact ⟨b, r1, c b M1 H1 t1 rm1 e1⟩
  | _ => exact t1.elim
theorem z_tcmp {op : CmpOp} {o : O2} (ho : OpR X (compareOp op) (LO2 K o)) (ha : PE X a (LE K M0 H0 ta)) (hb : PE X b (LE K M0 H0 tb)) (hm : behindInMarks op b = false) : PT X (.Compare a [op] [b] pos) (LT K M0 H0 (tst (op2 o ta tb))) :=
  (pt_cmpR ho ha hb hm).imp fun _ _ _ h => by
    have h := lt_of h
    obtain ⟨en, M, P, rs, rm, ev, t, c⟩ := h
    exact lo2 ⟨en, M, P, rs, rm, ev, t, c⟩
/-! #### a op1 b op2 c -/
def chain3 (o o' : O2) (ta tb tc : T3) : T3 := fun e M Q => ta e M fun x M1 => tb e M1 fun y M2 => o x y M2 fun z M3 => match z with
  | .bl true => tc e M3 fun w M4 => o' y w M4 Q
  | .bl false => Q (.bl false) M3
  | _ => False
theorem lchain {o o' : O2} {ta tb tc : T3} {σ : L2.St} {H : Hp} {Q : VK} (h : LE K M0 H0 (chain3 o o' ta tb tc) σ H Q) : tChain (LO2 K o) (LO2 K o') (LE K M0 H0 ta) (LE K M0 H0 tb) (LE K M0 H0 tc) σ H Q := by
  obtain ⟨en, M, P, rs, rm, ev, t, c⟩ := h
  refine LE.then rs rm ev t fun x M1 v1 H1 t1 r1 rs1 rm1 ev1 e1 => LE.then rs1 rm1 ev1 t1 fun y M2 v2 H2 t2 r2 rs2 rm2 ev2 e2 => ?_
  refine ⟨x, y, M2, _, Rp.ev e2 _ _ r1, r2, rm2, t2, fun z M3 v3 H3 t3 r3 rm3 e3 => ?_⟩
  cases z with
  | bl k =>
    refine ⟨k, r3, ?_⟩
    cases k with
    | true =>
      rw [if_pos rfl]
      exact LE.then (rs2.ev e3) rm3 (ev2.trans e3) t3 fun w M4 v4 H4 t4 r4 rs4 rm4 ev4 e4 => ⟨y, w, M4, P, Rp.ev (e3.trans e4) _ _ r2, r4, rm4, t4, c.from (e1.trans (e2.trans (e3.trans e4)))⟩
    | false =>
      rw [if_neg Bool.false_ne_true]
      exact c (.bl false) M3 _ H3 t3 rfl rm3 (e1.trans (e2.trans e3))
  | _ => exact t3.elim
theorem z_chain {op op' : CmpOp} {o o' : O2} {tc : T3} {c : Expr} (ho : OpR X (compareOp op) (LO2 K o)) (ho' : OpR X (compareOp op') (LO2 K o')) (ha : PE X a (LE K M0 H0 ta)) (hb : PE X b (LE K M0 H0 tb)) (hc : PE X c (LE K M0 H0 tc))
    (hm : lastMarks [op, op'] [b, c] = false) : PE X (.Compare a [op, op'] [b, c] pos) (LE K M0 H0 (chain3 o o' ta tb tc)) := (pe_chain ho ho' ha hb hc hm).imp fun _ _ _ h => lchain h
theorem z_tchain {op op' : CmpOp} {o o' : O2} {tc : T3} {c : Expr} (ho : OpR X (compareOp op) (LO2 K o)) (ho' : OpR X (compareOp op') (LO2 K o')) (ha : PE X a (LE K M0 H0 ta)) (hb : PE X b (LE K M0 H0 tb)) (hc : PE X c (LE K M0 H0 tc))
    (hm : lastMarks [op, op'] [b, c] = false) : PT X (.Compare a [op, op'] [b, c] pos) (LT K M0 H0 (tst (chain3 o o' ta tb tc))) := (pt_chain ho ho' ha hb hc hm).imp fun _ _ _ h => lchain (lt_of h)

/-! #### and, or, not, if as values of any kind come later; here as tests and as bools -/
def and3 (t u : TB3) : TB3 := fun e M Q => t e M fun b M1 => match b with | true => u e M1 Q | false => Q false M1
def or3 (t u : TB3) : TB3 := fun e M Q => t e M fun b M1 => match b with | true => Q true M1 | false => u e M1 Q
def not3 (t : TB3) : TB3 := fun e M Q => t e M fun b M1 => Q (!b) M1
def ite3 (t : TB3) (a b : T3) : T3 := fun e M Q => t e M fun c M1 => match c with | true => a e M1 Q | false => b e M1 Q
def andV3 (t u : T3) : T3 := fun e M Q => t e M fun d M1 => match d with | .bl true => u e M1 Q | .bl false => Q (.bl false) M1 | _ => False
def orV3 (t u : T3) : T3 := fun e M Q => t e M fun d M1 => match d with | .bl true => Q (.bl true) M1 | .bl false => u e M1 Q | _ => False
def notV3 (t : T3) : T3 := fun e M Q => t e M fun d M1 => match d with | .bl b => Q (.bl (!b)) M1 | _ => False
variable {tA tB : TB3} {rest : List Expr}
theorem z_wand (ha : PT X a (LT K M0 H0 tA)) (hb : PW X (.BoolOp .And (b :: rest) pos) (LT K M0 H0 tB)) : PW X (.BoolOp .And (a :: b :: rest) pos) (LT K M0 H0 (and3 tA tB)) :=
  (pw_and ha hb).imp fun σ H Q ⟨en, M, P, rs, rm, ev, t, c⟩ => LT.then rs rm ev t fun d M1 H1 t1 rs1 rm1 ev1 e1 => by
    cases d with
    | true => rw [if_pos rfl]; exact ⟨en, M1, P, rs1, rm1, ev1, t1, c.from e1⟩
    | false => rw [if_neg Bool.false_ne_true]; exact c false M1 H1 t1 rm1 e1
theorem z_wor (ha : PT X a (LT K M0 H0 tA)) (hb : PW X (.BoolOp .Or (b :: rest) pos) (LT K M0 H0 tB)) : PW X (.BoolOp .Or (a :: b :: rest) pos) (LT K M0 H0 (or3 tA tB)) :=
  (pw_or ha hb).imp fun σ H Q ⟨en, M, P, rs, rm, ev, t, c⟩ => LT.then rs rm ev t fun d M1 H1 t1 rs1 rm1 ev1 e1 => by
    cases d with
    | true => rw [if_pos rfl]; exact c true M1 H1 t1 rm1 e1
    | false => rw [if_neg Bool.false_ne_true]; exact ⟨en, M1, P, rs1, rm1, ev1, t1, c.from e1⟩
theorem z_wand1 (ha : PT X a (LT K M0 H0 tA)) : PW X (.BoolOp .And [a] pos) (LT K M0 H0 tA) := pw_and1 ha
theorem z_wor1 (ha : PT X a (LT K M0 H0 tA)) : PW X (.BoolOp .Or [a] pos) (LT K M0 H0 tA) := pw_or1 ha
theorem z_not (ha : PT X a (LT K M0 H0 tA)) : PT X (.UnaryOp .Not a pos) (LT K M0 H0 (not3 tA)) :=
  (pt_not ha).imp fun σ H Q ⟨en, M, P, rs, rm, ev, t, c⟩ => LT.then rs rm ev t fun d M1 H1 t1 rs1 rm1 ev1 e1 => c (!d) M1 H1 t1 rm1 e1
theorem z_ite {c : Expr} (hc : PT X c (LT K M0 H0 tA)) (ha : PE X a (LE K M0 H0 ta)) (hb : PE X b (LE K M0 H0 tb)) : PE X (.IfExp c a b pos) (LE K M0 H0 (ite3 tA ta tb)) :=
  (pe_ifExp hc ha hb).imp fun σ H Q ⟨en, M, P, rs, rm, ev, t, c⟩ => LT.then rs rm ev t fun d M1 H1 t1 rs1 rm1 ev1 e1 => by
    cases d with
    | true => rw [if_pos rfl]; exact ⟨en, M1, P, rs1, rm1, ev1, t1, c.from e1⟩
    | false => rw [if_neg Bool.false_ne_true]; exact ⟨en, M1, P, rs1, rm1, ev1, t1, c.from e1⟩
theorem z_vand (ha : PE X a (LE K M0 H0 ta)) (hb : PE X (.BoolOp .And (b :: rest) pos) (LE K M0 H0 tb)) : PE X (.BoolOp .And (a :: b :: rest) pos) (LE K M0 H0 (andV3 ta tb)) :=
  (pe_and ha hb).imp fun σ H Q ⟨en, M, P, rs, rm, ev, t, c⟩ => LE.then rs rm ev t fun d M1 v1 H1 t1 r1 rs1 rm1 ev1 e1 => by
    cases d with
    | bl k =>
      refine ⟨k, r1, ?_⟩
      cases k with
      | true => rw [if_pos rfl]; exact ⟨en, M1, P, rs1, rm1, ev1, t1, c.from e1⟩
      | false => rw [if_neg Bool.false_ne_true]; exact c (.bl false) M1 _ H1 t1 rfl rm1 e1
    | _ => exact t1.elim
theorem z_vor (ha : PE X a (LE K M0 H0 ta)) (hb : PE X (.BoolOp .Or (b :: rest) pos) (LE K M0 H0 tb)) : PE X (.BoolOp .Or (a :: b :: rest) pos) (LE K M0 H0 (orV3 ta tb)) :=
  (pe_or ha hb).imp fun σ H Q ⟨en, M, P, rs, rm, ev, t, c⟩ => LE.then rs rm ev t fun d M1 v1 H1 t1 r1 rs1 rm1 ev1 e1 => by
    cases d with
    | bl k =>
      refine ⟨k, r1, ?_⟩
      cases k with
      | true => rw [if_pos rfl]; exact c (.bl true) M1 _ H1 t1 rfl rm1 e1
      | false => rw [if_neg Bool.false_ne_true]; exact ⟨en, M1, P, rs1, rm1, ev1, t1, c.from e1⟩
    | _ => exact t1.elim
theorem z_vnot (ha : PE X a (LE K M0 H0 ta)) : PE X (.UnaryOp .Not a pos) (LE K M0 H0 (notV3 ta)) :=
  (pe_not ha).imp fun σ H Q ⟨en, M, P, rs, rm, ev, t, c⟩ => LE.then rs rm ev t fun d M1 v1 H1 t1 r1 rs1 rm1 ev1 e1 => by
    cases d with
    | bl k => exact ⟨k, r1, c (.bl (!k)) M1 _ H1 t1 rfl rm1 e1⟩
    | _ => exact t1.elim
/-! #### argument lists, displays -/
def nil3 : TL3 := fun _ M Q => Q [] M
def cons3 (t : T3) (u : TL3) : TL3 := fun e M Q => t e M fun d M1 => u e M1 fun ds M2 => Q (d :: ds) M2
variable {es : List Expr} {tl : TL3}
theorem z_nil : PA X [] (LA K M0 H0 nil3) := pa_nil.imp fun σ H Q ⟨en, M, P, rs, rm, ev, t, c⟩ => c [] M [] H t rfl rm (Ev.refl _ _)
theorem z_cons (ha : PE X a (LE K M0 H0 ta)) (hr : PA X es (LA K M0 H0 tl)) (hs : starEach (a :: es) X.env = (false, eval a X.env) :: starEach es X.env) : PA X (a :: es) (LA K M0 H0 (cons3 ta tl)) :=
  (pa_cons ha hr hs).imp fun σ H Q ⟨en, M, P, rs, rm, ev, t, c⟩ => LE.then rs rm ev t fun d M1 v1 H1 t1 r1 rs1 rm1 ev1 e1 =>
    LA.then rs1 rm1 ev1 t1 fun ds M2 vs H2 t2 r2 rs2 rm2 ev2 e2 => c (d :: ds) M2 (v1 :: vs) H2 t2 ⟨v1, vs, rfl, Rp.ev e2 _ _ r1, r2⟩ rm2 (e1.trans e2)
def tup3 (t : TL3) : T3 := fun e M Q => t e M fun ds M1 => ds.length ≤ sizeLine ∧ Q (.tup ds) M1
def lst3 (t : TL3) : T3 := fun e M Q => t e M fun ds M1 => ds.length ≤ sizeLine ∧ Q (.lst ds) M1
def lstM3 (t : TL3) : T3 := fun e M Q => t e M fun ds M1 => ds.length ≤ sizeLine ∧ ∀ p, M1 p = none → Q (.ref p) (up M1 p (.lst ds))
theorem Rp.tupNew {M : MH} {H : Hp} {p : Addr} {ds : List D} {vs : List V} (rm : RM K M H) (hp : H p = none) (r : RpL K M H ds vs) : Rp K M (upd H p (.tup vs)) (.tup ds) (.ref p) :=
  ⟨p, vs, rfl, ⟨rm.free hp, upd_same⟩, RpL.ev (Ev.new hp) _ _ r⟩
theorem Rp.lstNew {M : MH} {H : Hp} {p : Addr} {ds : List D} {vs : List V} (rm : RM K M H) (hp : H p = none) (r : RpL K M H ds vs) : Rp K M (upd H p (.lst vs)) (.lst ds) (.ref p) :=
  ⟨p, vs, rfl, rm.free hp, upd_same, RpL.ev (Ev.new hp) _ _ r⟩
theorem RM.lstNew {M : MH} {H : Hp} {p : Addr} {ds : List D} {vs : List V} (rm : RM K M H) (hp : H p = none) (r : RpL K M H ds vs) : RM K (up M p (.lst ds)) (upd H p (.lst vs)) :=
  rm.newM hp ⟨vs, upd_same, RpL.ev (Ev.newM hp) _ _ r⟩
theorem z_tup {k : Nat} (h : PA X es (LA K M0 H0 tl)) : PE X (.Tuple es k pos) (LE K M0 H0 (tup3 tl)) :=
  (pe_tup h).imp fun σ H Q ⟨en, M, P, rs, rm, ev, t, c⟩ => LA.then rs rm ev t fun ds M1 vs H1 ⟨hl, t1⟩ r1 rs1 rm1 ev1 e1 =>
    ⟨by rw [r1.length]; exact hl, fun p hp => c (.tup ds) M1 (.ref p) _ t1 (Rp.tupNew rm1 hp r1) (rm1.new hp) (e1.trans (Ev.new hp))⟩
theorem z_lst (h : PA X es (LA K M0 H0 tl)) : PE X (.List es pos) (LE K M0 H0 (lst3 tl)) :=
  (pe_lst h).imp fun σ H Q ⟨en, M, P, rs, rm, ev, t, c⟩ => LA.then rs rm ev t fun ds M1 vs H1 ⟨hl, t1⟩ r1 rs1 rm1 ev1 e1 =>
    ⟨by rw [r1.length]; exact hl, fun p hp => c (.lst ds) M1 (.ref p) _ t1 (Rp.lstNew rm1 hp r1) (rm1.new hp) (e1.trans (Ev.new hp))⟩
theorem z_lstM (h : PA X es (LA K M0 H0 tl)) : PE X (.List es pos) (LE K M0 H0 (lstM3 tl)) :=
  (pe_lst h).imp fun σ H Q ⟨en, M, P, rs, rm, ev, t, c⟩ => LA.then rs rm ev t fun ds M1 vs H1 ⟨hl, t1⟩ r1 rs1 rm1 ev1 e1 =>
    ⟨by rw [r1.length]; exact hl, fun p hp => c (.ref p) _ (.ref p) _ (t1 p (rm1.free hp)) rfl (rm1.lstNew hp r1) (e1.trans (Ev.newM hp))⟩
end
end
end Z

namespace Z
open PySem PySem.Spec PyProof.Rows L2

/-! ### reading -/
def asT : D → Option (List D)
  | .tp _ ds => some ds
  | _ => none
def asL (M : MH) : D → Option (List D)
  | .lst ds => some ds
  | .flst ds => some ds
  | .ref a => match M a with | some (.lst ds) => some ds | _ => none
  | _ => none
/-- a list that may be anything but the script -/
def exL (M : MH) : D → Option (List D)
  | .lst ds => some ds
  | .ref a => match M a with | some (.lst ds) => some ds | _ => none
  | _ => none
/-- a tracked list by its content -/
def rdL (M : MH) : D → D
  | .ref a => match M a with | some (.lst ds) => .lst ds | _ => .ref a
  | d => d
mutual
def toPy : D → PyData
  | .non => .none
  | .bl b => .bool b
  | .int i => .int i
  | .str x => .str x
  | .tp _ ds => .tuple (toPyL ds)
  | .lst ds => .list (toPyL ds)
  | .flst _ => .dict []
  | .ref _ => .dict []
  | .dK _ _ => .dict []
  | .dT _ _ => .dict []
def toPyL : List D → List PyData
  | [] => []
  | d :: ds => toPy d :: toPyL ds
end
mutual
/-- ==, by data -/
def eqv : D → D → Bool
  | .non, .non => true
  | .bl a, .bl b => a == b
  | .bl a, .int j => (if a then 1 else 0) == j
  | .int i, .bl b => i == (if b then 1 else 0)
  | .int i, .int j => i == j
  | .str x, .str y => x == y
  | .tp _ xs, .tp _ ys => eqvL xs ys
  | .lst xs, .lst ys => eqvL xs ys
  | _, _ => false
def eqvL : List D → List D → Bool
  | [], [] => true
  | x :: xs, y :: ys => eqv x y && eqvL xs ys
  | _, _ => false
end
mutual
theorem eqv_py : ∀ x y : D, eqv x y = PyData.eqv (toPy x) (toPy y)
  | .tp _ xs, y => by cases y <;> simp only [eqv, toPy, PyData.eqv] <;> exact eqvL_py xs _
  | .lst xs, y => by cases y <;> simp only [eqv, toPy, PyData.eqv] <;> exact eqvL_py xs _
  | .non, y => by cases y <;> simp only [eqv, toPy, PyData.eqv]
  | .bl _, y => by cases y <;> simp only [eqv, toPy, PyData.eqv]
  | .int _, y => by cases y <;> simp only [eqv, toPy, PyData.eqv]
  | .str _, y => by cases y <;> simp only [eqv, toPy, PyData.eqv]
  | .ref _, y => by cases y <;> simp only [eqv, toPy, PyData.eqv]
  | .flst _, y => by cases y <;> simp only [eqv, toPy, PyData.eqv]
  | .dK _ _, y => by cases y <;> simp only [eqv, toPy, PyData.eqv]
  | .dT _ _, y => by cases y <;> simp only [eqv, toPy, PyData.eqv]
theorem eqvL_py : ∀ xs ys : List D, eqvL xs ys = PyData.eqvAll (toPyL xs) (toPyL ys)
  | [], [] => by simp only [eqvL, toPyL, PyData.eqvAll]
  | [], _ :: _ => by simp only [eqvL, toPyL, PyData.eqvAll]
  | _ :: _, [] => by simp only [eqvL, toPyL, PyData.eqvAll]
  | x :: xs, y :: ys => by simp only [eqvL, toPyL, PyData.eqvAll, eqv_py x y, eqvL_py xs ys]
end
mutual
/-- plain data of a depth below n whose texts are texts -/
def lay : Nat → D → Bool
  | _, .non => true
  | _, .bl _ => true
  | _, .int _ => true
  | _, .str x => PyData.strOk x
  | n + 1, .tp _ ds => layL n ds
  | n + 1, .lst ds => layL n ds
  | _, _ => false
def layL : Nat → List D → Bool
  | _, [] => true
  | n, d :: ds => lay n d && layL n ds
end
theorem layL_all (n : Nat) : ∀ ds : List D, layL n ds = ds.all (lay n)
  | [] => by simp [layL]
  | d :: ds => by rw [layL, layL_all n ds]; simp
mutual
theorem lay_py : ∀ (n : Nat) (d : D), lay n d = true → (toPy d).canLay0 = true ∧ (toPy d).depth ≤ n
  | _, .non, _ => by simp [toPy, PyData.canLay0, PyData.depth]
  | _, .bl _, _ => by simp [toPy, PyData.canLay0, PyData.depth]
  | _, .int _, _ => by simp [toPy, PyData.canLay0, PyData.depth]
  | n, .str x, h => by
    have h' : PyData.strOk x = true := by cases n <;> simpa [lay] using h
    simp [toPy, PyData.canLay0, PyData.depth, h']
  | n + 1, .tp _ ds, h => by
    obtain ⟨h1, h2⟩ := layL_py n ds (by simpa [lay] using h)
    simp only [toPy, PyData.canLay0, PyData.depth]
    exact ⟨h1, by omega⟩
  | n + 1, .lst ds, h => by
    obtain ⟨h1, h2⟩ := layL_py n ds (by simpa [lay] using h)
    simp only [toPy, PyData.canLay0, PyData.depth]
    exact ⟨h1, by omega⟩
  | 0, .tp _ _, h => by simp [lay] at h
  | 0, .lst _, h => by simp [lay] at h
  | n, .ref _, h => by cases n <;> simp [lay] at h
  | n, .flst _, h => by cases n <;> simp [lay] at h
  | n, .dK _ _, h => by cases n <;> simp [lay] at h
  | n, .dT _ _, h => by cases n <;> simp [lay] at h
theorem layL_py : ∀ (n : Nat) (ds : List D), layL n ds = true → PyData.canLayAll0 (toPyL ds) = true ∧ PyData.depthAll (toPyL ds) ≤ n
  | _, [], _ => by simp [toPyL, PyData.canLayAll0, PyData.depthAll]
  | n, d :: ds, h => by
    rw [layL, Bool.and_eq_true] at h
    obtain ⟨h1, h2⟩ := lay_py n d h.1
    obtain ⟨g1, g2⟩ := layL_py n ds h.2
    simp only [toPyL, PyData.canLayAll0, PyData.depthAll, h1, g1, Bool.and_self, true_and]
    omega
end
mutual
/-- plain data of a depth at most n -/
def pd : Nat → D → Bool
  | _, .non => true
  | _, .bl _ => true
  | _, .int _ => true
  | _, .str _ => true
  | n + 1, .tp _ ds => pdL n ds
  | n + 1, .lst ds => pdL n ds
  | _, _ => false
def pdL : Nat → List D → Bool
  | _, [] => true
  | n, d :: ds => pd n d && pdL n ds
end
mutual
theorem pd_lay : ∀ (n : Nat) (d : D), lay n d = true → pd n d = true
  | n, .non, _ => by cases n <;> rfl
  | n, .bl _, _ => by cases n <;> rfl
  | n, .int _, _ => by cases n <;> rfl
  | n, .str _, _ => by cases n <;> rfl
  | n + 1, .tp _ ds, h => by
    simp only [lay] at h
    simp only [pd]
    exact pdL_lay n ds h
  | n + 1, .lst ds, h => by
    simp only [lay] at h
    simp only [pd]
    exact pdL_lay n ds h
  | 0, .tp _ _, h => by simp [lay] at h
  | 0, .lst _, h => by simp [lay] at h
  | n, .flst _, h => by cases n <;> simp [lay] at h
  | n, .ref _, h => by cases n <;> simp [lay] at h
  | n, .dK _ _, h => by cases n <;> simp [lay] at h
  | n, .dT _ _, h => by cases n <;> simp [lay] at h
theorem pdL_lay : ∀ (n : Nat) (ds : List D), layL n ds = true → pdL n ds = true
  | _, [], _ => rfl
  | n, d :: ds, h => by
    rw [layL, Bool.and_eq_true] at h
    rw [pdL, pd_lay n d h.1, pdL_lay n ds h.2]; rfl
end
mutual
theorem pd_depth : ∀ (n : Nat) (d : D), pd n d = true → (toPy d).depth ≤ n
  | n, .non, _ => by simp [toPy, PyData.depth]
  | n, .bl _, _ => by simp [toPy, PyData.depth]
  | n, .int _, _ => by simp [toPy, PyData.depth]
  | n, .str _, _ => by simp [toPy, PyData.depth]
  | n + 1, .tp _ ds, h => by
    have := pdL_depth n ds (by simpa [pd] using h)
    simp only [toPy, PyData.depth]; omega
  | n + 1, .lst ds, h => by
    have := pdL_depth n ds (by simpa [pd] using h)
    simp only [toPy, PyData.depth]; omega
  | 0, .tp _ _, h => by simp [pd] at h
  | 0, .lst _, h => by simp [pd] at h
  | n, .flst _, h => by cases n <;> simp [pd] at h
  | n, .ref _, h => by cases n <;> simp [pd] at h
  | n, .dK _ _, h => by cases n <;> simp [pd] at h
  | n, .dT _ _, h => by cases n <;> simp [pd] at h
theorem pdL_depth : ∀ (n : Nat) (ds : List D), pdL n ds = true → PyData.depthAll (toPyL ds) ≤ n
  | _, [], _ => by simp [toPyL, PyData.depthAll]
  | n, d :: ds, h => by
    rw [pdL, Bool.and_eq_true] at h
    have h1 := pd_depth n d h.1
    have h2 := pdL_depth n ds h.2
    simp only [toPyL, PyData.depthAll]; omega
end
theorem shaped_of_lay {d : D} (h : lay 60 d = true) : SeqAt.shaped (toPy d) = true := by
  obtain ⟨h1, h2⟩ := lay_py 60 d h
  unfold SeqAt.shaped
  rw [h1, decide_eq_true (by omega)]; rfl
/-! ### order -/
mutual
def ltD : D → D → Bool
  | .bl a, .bl b => decide (b2i a < b2i b)
  | .int i, .int j => decide (i < j)
  | .str x, .str y => decide (x.cps.toList < y.cps.toList)
  | .tp _ xs, .tp _ ys => ltL xs ys
  | .lst xs, .lst ys => ltL xs ys
  | _, _ => false
def ltL : List D → List D → Bool
  | x :: xs, y :: ys => if eqv x y = true then ltL xs ys else ltD x y
  | [], _ :: _ => true
  | _, _ => false
end
mutual
def likeD : D → D → Bool
  | .non, .non => true
  | .bl _, .bl _ => true
  | .int _, .int _ => true
  | .str _, .str _ => true
  | .tp _ xs, .tp _ ys => likeL xs ys
  | .lst xs, .lst ys => likeL xs ys
  | _, _ => false
def likeL : List D → List D → Bool
  | x :: xs, y :: ys => likeD x y && likeL xs ys
  | _, _ => true
end
mutual
theorem like_py : ∀ x y : D, likeD x y = true → PySem.W.alike (toPy x) (toPy y) = true
  | .tp _ xs, y, h => by cases y <;> simp only [likeD, Bool.false_eq_true] at h <;> simp only [toPy, PySem.W.alike] <;> exact likeL_py xs _ h
  | .lst xs, y, h => by cases y <;> simp only [likeD, Bool.false_eq_true] at h <;> simp only [toPy, PySem.W.alike] <;> exact likeL_py xs _ h
  | .non, y, h => by cases y <;> simp only [likeD, Bool.false_eq_true] at h <;> simp only [toPy, PySem.W.alike]
  | .bl _, y, h => by cases y <;> simp only [likeD, Bool.false_eq_true] at h <;> simp only [toPy, PySem.W.alike]
  | .int _, y, h => by cases y <;> simp only [likeD, Bool.false_eq_true] at h <;> simp only [toPy, PySem.W.alike]
  | .str _, y, h => by cases y <;> simp only [likeD, Bool.false_eq_true] at h <;> simp only [toPy, PySem.W.alike]
  | .ref _, y, h => by cases y <;> simp only [likeD, Bool.false_eq_true] at h
  | .flst _, y, h => by cases y <;> simp only [likeD, Bool.false_eq_true] at h
  | .dK _ _, y, h => by cases y <;> simp only [likeD, Bool.false_eq_true] at h
  | .dT _ _, y, h => by cases y <;> simp only [likeD, Bool.false_eq_true] at h
theorem likeL_py : ∀ xs ys : List D, likeL xs ys = true → PySem.W.alikeAll (toPyL xs) (toPyL ys) = true
  | [], ys, _ => by cases ys <;> simp only [toPyL, PySem.W.alikeAll]
  | _ :: _, [], _ => by simp only [toPyL, PySem.W.alikeAll]
  | x :: xs, y :: ys, h => by
    rw [likeL, Bool.and_eq_true] at h
    simp only [toPyL, PySem.W.alikeAll, like_py x y h.1, likeL_py xs ys h.2, Bool.and_self]
end
mutual
theorem lt_py : ∀ x y : D, likeD x y = true → PySem.W.dataLt (toPy x) (toPy y) = ltD x y
  | .tp _ xs, y, h => by cases y <;> simp only [likeD, Bool.false_eq_true] at h <;> simp only [toPy, PySem.W.dataLt_tuple, ltD] <;> exact ltL_py xs _ h
  | .lst xs, y, h => by cases y <;> simp only [likeD, Bool.false_eq_true] at h <;> simp only [toPy, PySem.W.dataLt_list, ltD] <;> exact ltL_py xs _ h
  | .non, y, h => by cases y <;> simp only [likeD, Bool.false_eq_true] at h <;> simp only [toPy, ltD] <;> rfl
  | .bl _, y, h => by cases y <;> simp only [likeD, Bool.false_eq_true] at h <;> simp only [toPy, ltD, PySem.W.dataLt_bool]
  | .int _, y, h => by cases y <;> simp only [likeD, Bool.false_eq_true] at h <;> simp only [toPy, ltD, PySem.W.dataLt_int]
  | .str _, y, h => by cases y <;> simp only [likeD, Bool.false_eq_true] at h <;> simp only [toPy, ltD, PySem.W.dataLt_str]
  | .ref _, y, h => by cases y <;> simp only [likeD, Bool.false_eq_true] at h
  | .flst _, y, h => by cases y <;> simp only [likeD, Bool.false_eq_true] at h
  | .dK _ _, y, h => by cases y <;> simp only [likeD, Bool.false_eq_true] at h
  | .dT _ _, y, h => by cases y <;> simp only [likeD, Bool.false_eq_true] at h
theorem ltL_py : ∀ xs ys : List D, likeL xs ys = true → PyProof.Rows.lexLt itemOrd (PySem.W.keyToksAll (toPyL xs)) (PySem.W.keyToksAll (toPyL ys)) = ltL xs ys
  | [], [], _ => by simp only [toPyL, ltL]; decide +kernel
  | [], y :: ys, _ => by
    simp only [toPyL, ltL]
    rw [PySem.W.toks_all_cons]
    show PyProof.Rows.lexLt itemOrd [Sum.inl 0] (Sum.inl 1 :: _) = true
    rfl
  | _ :: _, [], _ => by
    simp only [toPyL, ltL]
    rw [PySem.W.toks_all_cons]
    rfl
  | x :: xs, y :: ys, h => by
    rw [likeL, Bool.and_eq_true] at h
    have hl := like_py x y h.1
    simp only [toPyL, ltL]
    by_cases e : eqv x y = true
    · rw [if_pos e, PySem.W.dataLt_all_yes hl (by rw [← eqv_py]; exact e)]
      exact ltL_py xs ys h.2
    · rw [if_neg e, PySem.W.dataLt_all_no hl (by rw [← eqv_py]; simpa using e)]
      exact lt_py x y h.1
end
section
variable {K : PySem.W.Frag} {M : MH} {H : Hp}
theorem asT_sq {d : D} {ds : List D} {v : V} (e : asT d = some ds) (r : Rp K M H d v) : ∃ a vs, v = .ref a ∧ SqT K H a vs ∧ RpL K M H ds vs := by
  cases d with
  | tp k es =>
    have e : es = ds := by simpa [asT] using e
    subst e
    obtain ⟨a, vs, h1, h2, h3⟩ := r
    exact ⟨a, vs, h1, h2.sq, h3⟩
  | _ => simp [asT] at e
theorem asL_sq {d : D} {ds : List D} {v : V} (m : RM K M H) (e : asL M d = some ds) (r : Rp K M H d v) : ∃ a vs, v = .ref a ∧ SqL K H a vs ∧ RpL K M H ds vs := by
  cases d with
  | lst es =>
    have e : es = ds := by simpa [asL] using e
    subst e
    obtain ⟨a, vs, h1, h2, h3, h4⟩ := r
    exact ⟨a, vs, h1, .inl (.inl h3), h4⟩
  | flst es =>
    have e : es = ds := by simpa [asL] using e
    subst e
    obtain ⟨a, vs, h1, h2, h3⟩ := r
    exact ⟨a, vs, h1, h2.sq, h3⟩
  | ref a =>
    have r : v = .ref a := r
    dsimp only [asL] at e
    cases q : M a with
    | none => rw [q] at e; cases e
    | some o =>
      rw [q] at e
      cases o with
      | lst es =>
        have e : es = ds := by simpa using e
        subst e
        obtain ⟨vs, h1, h2⟩ := m a _ q
        exact ⟨a, vs, r, .inl (.inl h1), h2⟩
      | _ => cases e
  | _ => simp [asL] at e
theorem exL_sq {d : D} {ds : List D} {v : V} (m : RM K M H) (e : exL M d = some ds) (r : Rp K M H d v) : ∃ a vs, v = .ref a ∧ H a = some (.lst vs) ∧ RpL K M H ds vs := by
  cases d with
  | lst es =>
    have e : es = ds := by simpa [exL] using e
    subst e
    obtain ⟨a, vs, h1, h2, h3, h4⟩ := r
    exact ⟨a, vs, h1, h3, h4⟩
  | ref a =>
    have r : v = .ref a := r
    dsimp only [exL] at e
    cases q : M a with
    | none => rw [q] at e; cases e
    | some o =>
      rw [q] at e
      cases o with
      | lst es =>
        have e : es = ds := by simpa using e
        subst e
        obtain ⟨vs, h1, h2⟩ := m a _ q
        exact ⟨a, vs, r, h1, h2⟩
      | _ => cases e
  | _ => simp [exL] at e
mutual
theorem Rp.dp : ∀ (n : Nat) (d : D) (v : V), Rp K M H d v → pd n d = true → Dp K H v (toPy d)
  | _, .non, v, r, _ => by
    have r : v = .non := r
    subst r; exact .non
  | _, .bl b, v, r, _ => by
    have r : v = .bl b := r
    subst r; exact .bl b
  | _, .int i, v, r, _ => by
    have r : v = .int i := r
    subst r; exact .int i
  | _, .str x, v, r, _ => by
    have r : v = .str x := r
    subst r; exact .str x
  | n + 1, .tp _ ds, v, r, h => by
    obtain ⟨a, vs, h1, h2, h3⟩ := r
    subst h1
    exact .tup h2.sq (RpL.dp n ds vs h3 h)
  | n + 1, .lst ds, v, r, h => by
    obtain ⟨a, vs, h1, h2, h3, h4⟩ := r
    subst h1
    exact .lst (.inl (.inl h3)) (RpL.dp n ds vs h4 h)
  | 0, .tp _ _, v, r, h => by simp [pd] at h
  | 0, .lst _, v, r, h => by simp [pd] at h
  | n, .flst _, v, r, h => by cases n <;> simp [pd] at h
  | n, .ref _, v, r, h => by cases n <;> simp [pd] at h
  | n, .dK _ _, v, r, h => by cases n <;> simp [pd] at h
  | n, .dT _ _, v, r, h => by cases n <;> simp [pd] at h
theorem RpL.dp : ∀ (n : Nat) (ds : List D) (vs : List V), RpL K M H ds vs → pdL n ds = true → DpAll K H vs (toPyL ds)
  | _, [], vs, r, _ => by
    have r : vs = [] := r
    subst r; exact .nil
  | n, d :: ds, vs, r, h => by
    obtain ⟨v, w, h1, h2, h3⟩ := r
    subst h1
    rw [pdL, Bool.and_eq_true] at h
    exact .cons (Rp.dp n d v h2 h.1) (RpL.dp n ds w h3 h.2)
end
theorem rdL_rp {d : D} {v : V} (m : RM K M H) (r : Rp K M H d v) : (∃ ds, asL M d = some ds ∧ rdL M d = .lst ds) ∨ rdL M d = d := by
  cases d with
  | ref a =>
    dsimp only [rdL, asL]
    cases q : M a with
    | none => exact .inr rfl
    | some o =>
      cases o with
      | lst es => exact .inl ⟨es, rfl, rfl⟩
      | _ => exact .inr rfl
  | _ => exact .inr rfl
theorem rdL_dp {n : Nat} {d : D} {v : V} (m : RM K M H) (r : Rp K M H d v) (h : pd n (rdL M d) = true) : Dp K H v (toPy (rdL M d)) := by
  rcases rdL_rp m r with ⟨ds, e1, e2⟩ | e
  · obtain ⟨a, vs, h1, h2, h3⟩ := asL_sq m e1 r
    rw [e2] at h ⊢
    subst h1
    cases n with
    | zero => simp [pd] at h
    | succ n => exact .lst h2 (RpL.dp n ds vs h3 h)
  · rw [e] at h ⊢
    exact Rp.dp n d v r h
end
end Z

/-! X2: a tuple times a number, up to a million members in all. -/
namespace Z
open PySem PySem.Spec PyProof.Rows L2
def rRepW (K : PySem.W.Frag) : R2 := fun x y H Q => ∃ a m us, x = .ref a ∧ y = .int m ∧ SqT K H a us ∧ us ≠ [] ∧ 2 ≤ m ∧ us.length * m.toNat ≤ 1000000 ∧ ∀ b, H b = none → Q (.ref b) (upd H b (.tup (List.replicate m.toNat us).flatten))
theorem op_repW {X : Cx} : OpR X (binaryOp .Mult) (rRepW X.K) := by
  intro pins sh st hp x y v u Q inv rx ry ⟨a, m, us, ex, ey, sq, ne, m2, sz, q⟩
  subst ex; subst ey
  cases rx
  obtain ⟨tk, ev⟩ := ry
  subst ev
  obtain ⟨ws, rel, ⟨⟨c, dct, dat, slo⟩, at_, c1, cnt, d1⟩, _⟩ := inv.tuple sq
  dsimp only at c1 d1
  subst c1; subst d1
  have len : ws.length = us.length := rel.length.symm
  have wne : ws ≠ [] := fun z => ne (List.eq_nil_of_length_eq_zero (by rw [← len, z]; rfl))
  have em : ws.toArray.isEmpty = false := by
    cases ws with
    | nil => exact absurd rfl wne
    | cons _ _ => rfl
  have prod : ((ws.toArray.size : Nat) : Int) * m ≤ 1000000 := by
    have e : m = ((m.toNat : Nat) : Int) := by omega
    rw [List.size_toArray, len, e, ← Int.natCast_mul]
    omega
  have pos : 1 ≤ us.length := by
    cases us with
    | nil => exact absurd rfl ne
    | cons _ _ => simp
  have mle : m.toNat ≤ 1000000 := Nat.le_trans (Nat.le_mul_of_pos_left _ pos) sz
  have whole : (List.replicate m.toNat us).flatten.length ≤ sizeLine := by
    rw [PyProof.Rows.lm_len_rep_flat, sizeLine_eq, Nat.mul_comm]
    omega
  have whole' : (List.replicate m.toNat ws).flatten.length ≤ sizeLine := by
    rw [PyProof.Rows.lm_len_rep_flat, len, sizeLine_eq, Nat.mul_comm]
    omega
  have k0 : (decide (m < -(2 ^ 63)) || decide (m ≥ 2 ^ 63)) = false := by
    have n1 : ¬ m < -(2 ^ 63) := by omega
    have n2 : ¬ m ≥ 2 ^ 63 := by omega
    simp only [decide_eq_false n1, decide_eq_false n2, Bool.or_self]
  have k1 : (ws.toArray.isEmpty || m == 1) = false := by
    have n1 : (m == 1) = false := beq_eq_false_iff_ne.mpr (by omega)
    simp only [em, n1, Bool.or_self]
  have k2 : (decide (m ≤ 0) || ws.toArray.isEmpty) = false := by
    have n1 : ¬ m ≤ 0 := by omega
    simp only [em, decide_eq_false n1, Bool.or_self]
  have k4 : Builtin.Tuple.tupleTooMany (((ws.toArray.size : Nat) : Int) * m) = false := by
    unfold Builtin.Tuple.tupleTooMany
    have n1 := sizeLine_eq
    exact decide_eq_false (by rw [n1]; omega)
  have last := tuple_mulW a ws.toArray cnt dct slo m tk k0 k1 k2 (by omega) k4 (by rw [size_rep, List.size_toArray]; exact whole')
  have first := int_rmul_tuple m tk a ws.toArray cnt dct slo
  refine wpAny_binaryOp_repeat_ref (T := "tuple") (U := "int") (by decide) ⟨_, at_, rfl⟩ (fun z => typeIs_int z m tk) noFill_tuple_mul F.fills_int_mul F.slot_int_rmul repeat_tuple F.slot_int_index.lookup ?_
  refine call_meets F.slot_int_rmul (typeIs_int sh m tk) F.entry_int_rmul (F.args_int_rmul_2 _ _) first ⟨at_, rfl, ⟨_, at_, rfl⟩, ?_⟩
  refine call_meets F.slot_tuple_mul ⟨_, at_, rfl⟩ F.entry_tuple_mul (F.args_tuple_mul_2 _ _) last ⟨at_, ?_⟩
  rw [size_rep]
  have laid := inv.laid (t' := sh.toks) (o := .tup (List.replicate m.toNat us).flatten) (fun b o z => Heap.get?_push_of_some _ z) (Nat.le_refl _) ⟨whole, _, rel.rep m.toNat, IsTup.new _ _⟩
  exact ⟨.ref sh.heap.objs.size, _, laid, rfl, q _ (inv.hok.fresh (Nat.le_refl _))⟩
end Z

namespace Z
open PySem PySem.Spec PyProof.Rows L2

/-! ### arithmetic -/
def add3 : O2 := fun x y M Q => match x, y with
  | .int i, .int j => Q (.int (i + j)) M
  | .str a, .str b => a.length + b.length ≤ sizeLine ∧ Q (.str (a ++ b)) M
  | .tup a, .tup b => a.length + b.length ≤ sizeLine ∧ Q (.tup (a ++ b)) M
  | x, y => match exL M x, exL M y with
    | some a, some b => a.length + b.length ≤ sizeLine ∧ Q (.lst (a ++ b)) M
    | _, _ => False
def sub3 : O2 := fun x y M Q => match x, y with
  | .int i, .int j => Q (.int (i - j)) M
  | _, _ => False
def WideOk (i j : Int) : Prop := IntMulOk i j
def mul3 : O2 := fun x y M Q => match x, y with
  | .int i, .int j => WideOk i j ∧ Q (.int (i * j)) M
  | .tup a, .int k => a ≠ [] ∧ 2 ≤ k ∧ a.length * k.toNat ≤ 1000000 ∧ Q (.tup (List.replicate k.toNat a).flatten) M
  | .str a, .int k => (0 ≤ k ∧ k ≤ 1000 ∧ a.length ≤ 1000) ∧ Q (.str (Txt.mul a k)) M
  | x, .int k => match exL M x with
    | some a => -(2 ^ 63) ≤ k ∧ k < 2 ^ 63 ∧ a.length * k.toNat ≤ sizeLine ∧ Q (.lst (List.replicate k.toNat a).flatten) M
    | none => False
  | _, _ => False
def fdv3 : O2 := fun x y M Q => match x, y with
  | .int i, .int j => (j ≠ 0 ∧ j.natAbs < 1073741824) ∧ Q (.int (i.fdiv j)) M
  | _, _ => False
def mod3 : O2 := fun x y M Q => match x, y with
  | .int i, .int j => j ≠ 0 ∧ Q (.int (i.fmod j)) M
  | _, _ => False
def pow3 : O2 := fun x y M Q => match x, y with
  | .int i, .int j => (0 ≤ j ∧ j ≤ 1000000 ∧ i.natAbs < 2 ^ 64) ∧ Q (.int (i ^ j.toNat)) M
  | _, _ => False
def neg3 : O1 := fun x M Q => match x with
  | .int i => Q (.int (-i)) M
  | _ => False
theorem rp_int {K : PySem.W.Frag} {M : MH} {H : Hp} {i : Int} {v : V} (h : Rp K M H (.int i) v) : v = .int i := h
theorem rp_str {K : PySem.W.Frag} {M : MH} {H : Hp} {x : Str} {v : V} (h : Rp K M H (.str x) v) : v = .str x := h
theorem rp_bl {K : PySem.W.Frag} {M : MH} {H : Hp} {b : Bool} {v : V} (h : Rp K M H (.bl b) v) : v = .bl b := h
section
variable {X : Cx}
theorem zo_sub : OpR X (binaryOp .Sub) (LO2 X.K sub3) := oimp op_sub fun x y H Q ⟨d1, d2, M, Q3, r1, r2, rm, o, c⟩ => by
  unfold sub3 at o
  split at o
  · exact ⟨_, _, r1, r2, c.now rm o rfl⟩
  · exact o.elim
theorem zo_fdv : OpR X (binaryOp .FloorDiv) (LO2 X.K fdv3) := oimp op_fdivN fun x y H Q ⟨d1, d2, M, Q3, r1, r2, rm, o, c⟩ => by
  unfold fdv3 at o
  split at o
  · exact ⟨_, _, r1, r2, o.1, c.now rm o.2 rfl⟩
  · exact o.elim
theorem zo_mod : OpR X (binaryOp .Mod) (LO2 X.K mod3) := oimp op_modN fun x y H Q ⟨d1, d2, M, Q3, r1, r2, rm, o, c⟩ => by
  unfold mod3 at o
  split at o
  · exact ⟨_, _, r1, r2, o.1, c.now rm o.2 rfl⟩
  · exact o.elim
theorem zo_pow : OpR X (binaryOp .Pow) (LO2 X.K pow3) := oimp op_pow fun x y H Q ⟨d1, d2, M, Q3, r1, r2, rm, o, c⟩ => by
  unfold pow3 at o
  split at o
  · exact ⟨_, _, r1, r2, o.1, c.now rm o.2 rfl⟩
  · exact o.elim
theorem zo_neg : UnR X (unaryOp .USub) (LO1 X.K neg3) := uimp un_neg fun x H Q ⟨d1, M, Q3, r1, rm, o, c⟩ => by
  unfold neg3 at o
  split at o
  · exact ⟨_, r1, c.now rm o rfl⟩
  · exact o.elim
theorem op_mulOk : OpR X (binaryOp .Mult) (rI IntMulOk fun i j => .int (i * j)) := opI fun _ _ _ _ _ _ _ hc q => mul_int q hc
theorem or2 {f : Value → Value → Sem Value} {r r' : R2} (h : OpR X f r) (h' : OpR X f r') : OpR X f (fun x y H Q => r x y H Q ∨ r' x y H Q) := OpR.or h h'
theorem zo_add : OpR X (binaryOp .Add) (LO2 X.K add3) := oimp (or2 op_add (or2 op_add_str (or2 op_catA op_cat))) fun x y H Q ⟨d1, d2, M, Q3, r1, r2, rm, o, c⟩ => by
  unfold add3 at o
  split at o
  · exact .inl ⟨_, _, r1, r2, c.now rm o rfl⟩
  · exact .inr (.inl ⟨_, _, r1, r2, o.1, c.now rm o.2 rfl⟩)
  · rename_i a b
    obtain ⟨p, vs, h1, ⟨h2, h3⟩, h4⟩ := r1
    obtain ⟨q, ws, g1, ⟨g2, g3⟩, g4⟩ := r2
    obtain ⟨o1, o2⟩ := o
    refine .inr (.inr (.inl ⟨p, q, vs, ws, h1, g1, .inl (.inl h3), .inl (.inl g3), by rw [h4.length, g4.length]; exact o1, fun e => ?_, fun _ e => ?_, fun _ _ l hl => ?_⟩))
    · have ea : a = [] := by
        have := h4.length
        rw [e] at this
        exact List.eq_nil_of_length_eq_zero this.symm
      subst ea
      exact c.now rm o2 ⟨q, ws, rfl, ⟨g2, g3⟩, g4⟩
    · have eb : b = [] := by
        have := g4.length
        rw [e] at this
        exact List.eq_nil_of_length_eq_zero this.symm
      subst eb
      rw [List.append_nil] at o2
      exact c.now rm o2 ⟨p, vs, rfl, ⟨h2, h3⟩, h4⟩
    · exact c _ M _ _ o2 (Rp.tupNew rm hl (h4.append g4)) (rm.new hl) (Ev.new hl)
  · split at o
    · rename_i a b e1 e2
      obtain ⟨p, vs, h1, h3, h4⟩ := exL_sq rm e1 r1
      obtain ⟨q, ws, g1, g3, g4⟩ := exL_sq rm e2 r2
      exact .inr (.inr (.inr ⟨p, q, vs, ws, h1, g1, h3, g3, by rw [h4.length, g4.length]; exact o.1, fun l hl => c _ M _ _ o.2 (Rp.lstNew rm hl (h4.append g4)) (rm.new hl) (Ev.new hl)⟩))
    · exact o.elim
/-- lists one behind the other, a new one that may change -/
def addM3 : O2 := fun x y M Q => match exL M x, exL M y with
  | some a, some b => a.length + b.length ≤ sizeLine ∧ ∀ p, M p = none → Q (.ref p) (up M p (.lst (a ++ b)))
  | _, _ => False
theorem zo_addM : OpR X (binaryOp .Add) (LO2 X.K addM3) := oimp op_cat fun x y H Q ⟨d1, d2, M, Q3, r1, r2, rm, o, c⟩ => by
  unfold addM3 at o
  split at o
  · rename_i a b e1 e2
    obtain ⟨p, vs, h1, h3, h4⟩ := exL_sq rm e1 r1
    obtain ⟨q, ws, g1, g3, g4⟩ := exL_sq rm e2 r2
    exact ⟨p, q, vs, ws, h1, g1, h3, g3, by rw [h4.length, g4.length]; exact o.1, fun l hl => c _ _ _ _ (o.2 l (rm.free hl)) rfl (rm.lstNew hl (h4.append g4)) (Ev.newM hl)⟩
  · exact o.elim
theorem RpL.rep {K : PySem.W.Frag} {M : MH} {H : Hp} {ds : List D} {vs : List V} (h : RpL K M H ds vs) : ∀ n : Nat, RpL K M H (List.replicate n ds).flatten (List.replicate n vs).flatten
  | 0 => rfl
  | n + 1 => by
    rw [List.replicate_succ, List.replicate_succ, List.flatten_cons, List.flatten_cons]
    exact h.append (RpL.rep h n)
theorem mul_fits {a : Str} {k : Int} (h0 : 0 ≤ k) (h1 : k ≤ 1000) (h2 : a.length ≤ 1000) : MulOk a k := by
  refine ⟨?_, fun h3 _ => ?_, fun h3 _ => ?_⟩
  · rw [decide_eq_false (by omega), decide_eq_false (by omega)]; rfl
  · have hk : 1 ≤ k := by omega
    have : (2 ^ 63 - 1) / 1000 ≤ ((2 : Int) ^ 63 - 1) / k := by
      refine Int.le_ediv_of_mul_le (by omega) ?_
      have : ((2 : Int) ^ 63 - 1) / 1000 * k ≤ ((2 : Int) ^ 63 - 1) / 1000 * 1000 := Int.mul_le_mul_of_nonneg_left h1 (by decide)
      exact Int.le_trans this (by decide)
    have h4 : (1000 : Int) ≤ (2 ^ 63 - 1) / 1000 := by decide
    omega
  · unfold Builtin.Str.tooLong
    have h4 : a.length * k.toNat ≤ 1000 * 1000 := Nat.mul_le_mul h2 (by omega)
    have h5 : 1000 * 1000 ≤ sizeLine := by decide
    exact decide_eq_false (by omega)
theorem op_mul_str : OpR X (binaryOp .Mult) (fun x y H Q => ∃ a n, x = .str a ∧ y = .int n ∧ MulOk a n ∧ Q (.str (Txt.mul a n)) H) := by
  intro pins s σ H x y v u Q I rx ry h
  obtain ⟨a, n, rfl, rfl, ok, q⟩ := h
  obtain ⟨t, rfl⟩ := rx
  obtain ⟨t2, rfl⟩ := ry
  exact PySem.SB.mul ok fun t' k => ⟨.str (Txt.mul a n), H, I.tok _, ⟨_, rfl⟩, q⟩
theorem zo_mul : OpR X (binaryOp .Mult) (LO2 X.K mul3) := oimp (or2 op_mulOk (or2 op_repW (or2 op_rep op_mul_str))) fun x y H Q ⟨d1, d2, M, Q3, r1, r2, rm, o, c⟩ => by
  unfold mul3 at o
  split at o
  · exact .inl ⟨_, _, r1, r2, o.1, c.now rm o.2 rfl⟩
  · rename_i a k
    obtain ⟨p, vs, h1, ⟨h2, h3⟩, h4⟩ := r1
    obtain ⟨o1, o2, o3, o5⟩ := o
    refine .inr (.inl ⟨p, k, vs, h1, r2, .inl (.inl h3), fun e => o1 ?_, o2, by rw [h4.length]; exact o3, fun l hl => c _ M _ _ o5 (Rp.tupNew rm hl (h4.rep _)) (rm.new hl) (Ev.new hl)⟩)
    have := h4.length
    rw [e] at this
    exact List.eq_nil_of_length_eq_zero this.symm
  · exact .inr (.inr (.inr ⟨_, _, rp_str r1, rp_int r2, mul_fits o.1.1 o.1.2.1 o.1.2.2, c.now rm o.2 rfl⟩))
  · split at o
    · rename_i e1
      obtain ⟨p, vs, h1, h3, h4⟩ := exL_sq rm e1 r1
      exact .inr (.inr (.inl ⟨p, _, vs, h1, r2, h3, o.1, o.2.1, by rw [h4.length]; exact o.2.2.1, fun l hl => c _ M _ _ o.2.2.2 (Rp.lstNew rm hl (h4.rep _)) (rm.new hl) (Ev.new hl)⟩))
    · exact o.elim
  · exact o.elim
end

/-! ### == and != -/
/-- scalars that are compared at sight -/
def sc2 : D → D → Bool
  | .non, .non => true | .non, .int _ => true | .int _, .non => true | .non, .bl _ => true | .bl _, .non => true | .non, .str _ => true | .str _, .non => true
  | .int _, .int _ => true | .bl _, .bl _ => true | .str _, .str _ => true
  | .int _, .str _ => true | .str _, .int _ => true | .bl _, .str _ => true | .str _, .bl _ => true
  | _, _ => false
def eqOk (M : MH) (x y : D) : Bool := sc2 x y || (lay 60 (rdL M x) && lay 60 (rdL M y))
def eq3 : O2 := fun x y M Q => eqOk M x y = true ∧ Q (.bl (eqv (rdL M x) (rdL M y))) M
def ne3 : O2 := fun x y M Q => eqOk M x y = true ∧ Q (.bl (!eqv (rdL M x) (rdL M y))) M
section
variable {X : Cx}
theorem sc2_scal {K : PySem.W.Frag} {M : MH} {H : Hp} {x y : D} {v w : V} (h : sc2 x y = true) (rx : Rp K M H x v) (ry : Rp K M H y w) : scal v w = true ∧ decide (v = w) = eqv (rdL M x) (rdL M y) := by
  cases x <;> cases y <;> first
    | (exact absurd h Bool.false_ne_true)
    | (have rx := show v = _ from rx
       have ry := show w = _ from ry
       subst rx; subst ry
       refine ⟨rfl, ?_⟩
       simp only [eqv, rdL]
       first | exact dec_int | exact dec_bl | exact dec_str | simp)
theorem zo_eq (hu : X.A.units + 64 < cLine) : OpR X (compareOp .Eq) (LO2 X.K eq3) := oimp (or2 op_eq (op_eqD hu)) fun x y H Q ⟨d1, d2, M, Q3, r1, r2, rm, o, c⟩ => by
  obtain ⟨h, o⟩ := o
  unfold eqOk at h
  rw [Bool.or_eq_true] at h
  rcases h with h | h
  · obtain ⟨h1, h2⟩ := sc2_scal h r1 r2
    exact .inl ⟨h1, c.now rm o (by rw [h2]; rfl)⟩
  · rw [Bool.and_eq_true] at h
    refine .inr ⟨_, _, rdL_dp rm r1 (pd_lay _ _ h.1), rdL_dp rm r2 (pd_lay _ _ h.2), shaped_of_lay h.1, shaped_of_lay h.2, c.now rm o ?_⟩
    rw [eqv_py]; rfl
theorem zo_ne (hu : X.A.units + 64 < cLine) : OpR X (compareOp .NotEq) (LO2 X.K ne3) := oimp (or2 op_ne (op_neD hu)) fun x y H Q ⟨d1, d2, M, Q3, r1, r2, rm, o, c⟩ => by
  obtain ⟨h, o⟩ := o
  unfold eqOk at h
  rw [Bool.or_eq_true] at h
  rcases h with h | h
  · obtain ⟨h1, h2⟩ := sc2_scal h r1 r2
    exact .inl ⟨h1, c.now rm o (by rw [h2]; rfl)⟩
  · rw [Bool.and_eq_true] at h
    refine .inr ⟨_, _, rdL_dp rm r1 (pd_lay _ _ h.1), rdL_dp rm r2 (pd_lay _ _ h.2), shaped_of_lay h.1, shaped_of_lay h.2, c.now rm o ?_⟩
    rw [eqv_py]; rfl
end
/-! ### < <= > >= -/
def notNon : D → Bool
  | .non => false
  | _ => true
def ltOk (M : MH) (x y : D) : Bool := likeD (rdL M x) (rdL M y) && notNon (rdL M x) && pd 60 (rdL M x) && pd 60 (rdL M y)
def lt3 : O2 := fun x y M Q => match x, y with
  | .int i, .int j => Q (.bl (decide (i < j))) M
  | x, y => ltOk M x y = true ∧ Q (.bl (ltD (rdL M x) (rdL M y))) M
def le3 : O2 := fun x y M Q => match x, y with
  | .int i, .int j => Q (.bl (decide (i ≤ j))) M
  | x, y => ltOk M x y = true ∧ Q (.bl (!ltD (rdL M y) (rdL M x))) M
def gt3 : O2 := fun x y M Q => match x, y with
  | .int i, .int j => Q (.bl (decide (j < i))) M
  | x, y => ltOk M x y = true ∧ Q (.bl (ltD (rdL M y) (rdL M x))) M
def ge3 : O2 := fun x y M Q => match x, y with
  | .int i, .int j => Q (.bl (decide (j ≤ i))) M
  | x, y => ltOk M x y = true ∧ Q (.bl (!ltD (rdL M x) (rdL M y))) M
section
variable {X : Cx}
/-- an order's operator on data -/
theorem op_ord {op : CmpOp} {g : PyData → PyData → Bool}
    (rule : ∀ (s : Shared) (da db : PyData) (a b : Value) (as bs : List Addr) (Q : Value → Shared → Prop), Reads s.heap a da as → Reads s.heap b db bs → PySem.W.alike da db = true → da ≠ .none → X.A.units + min da.depth db.depth < cLine → Q (.bool (g da db)) s → wpAny (model X.prog X.w) X.A (compareOp op a b) Q X.xe s) :
    OpR X (compareOp op) (fun x y H Q => ∃ da db, Dp X.K H x da ∧ Dp X.K H y db ∧ PySem.W.alike da db = true ∧ da ≠ .none ∧ X.A.units + min da.depth db.depth < cLine ∧ Q (.bl (g da db)) H) := by
  intro pins s σ H x y v u Q I rx ry ⟨da, db, h1, h2, h3, h4, h5, q⟩
  obtain ⟨as, g1⟩ := Dp.reads I da x v h1 rx
  obtain ⟨bs, g2⟩ := Dp.reads I db y u h2 ry
  exact rule s da db v u as bs _ g1 g2 h3 h4 h5 ⟨.bl _, H, I, rfl, q⟩
theorem ltOk_parts {M : MH} {H : Hp} {x y : D} {v w : V} (hu : X.A.units + 64 < cLine) (rm : RM X.K M H) (h : ltOk M x y = true) (rx : Rp X.K M H x v) (ry : Rp X.K M H y w) :
    Dp X.K H v (toPy (rdL M x)) ∧ Dp X.K H w (toPy (rdL M y)) ∧ PySem.W.alike (toPy (rdL M x)) (toPy (rdL M y)) = true ∧ toPy (rdL M x) ≠ .none ∧ X.A.units + min (toPy (rdL M x)).depth (toPy (rdL M y)).depth < cLine ∧ likeD (rdL M x) (rdL M y) = true := by
  unfold ltOk at h
  simp only [Bool.and_eq_true] at h
  obtain ⟨⟨⟨h1, h2⟩, h3⟩, h4⟩ := h
  refine ⟨rdL_dp rm rx h3, rdL_dp rm ry h4, like_py _ _ h1, fun e => ?_, ?_, h1⟩
  · revert h2 e
    cases rdL M x <;> simp [notNon, toPy]
  · have := pd_depth _ _ h3
    omega
mutual
theorem like_comm : ∀ x y : D, likeD x y = likeD y x
  | .tp _ xs, y => by cases y <;> simp only [likeD] <;> exact likeL_comm xs _
  | .lst xs, y => by cases y <;> simp only [likeD] <;> exact likeL_comm xs _
  | .non, y => by cases y <;> simp only [likeD]
  | .bl _, y => by cases y <;> simp only [likeD]
  | .int _, y => by cases y <;> simp only [likeD]
  | .str _, y => by cases y <;> simp only [likeD]
  | .ref _, y => by cases y <;> simp only [likeD]
  | .flst _, y => by cases y <;> simp only [likeD]
  | .dK _ _, y => by cases y <;> simp only [likeD]
  | .dT _ _, y => by cases y <;> simp only [likeD]
theorem likeL_comm : ∀ xs ys : List D, likeL xs ys = likeL ys xs
  | [], [] => rfl
  | [], _ :: _ => by simp only [likeL]
  | _ :: _, [] => by simp only [likeL]
  | x :: xs, y :: ys => by simp only [likeL, like_comm x y, likeL_comm xs ys]
end
theorem zo_lt (hu : X.A.units + 64 < cLine) : OpR X (compareOp .Lt) (LO2 X.K lt3) := oimp (or2 op_lt (op_ord fun s da db a b as bs Q => PySem.W.lt_data)) fun x y H Q ⟨d1, d2, M, Q3, r1, r2, rm, o, c⟩ => by
  unfold lt3 at o
  split at o
  · exact .inl ⟨_, _, r1, r2, c.now rm o rfl⟩
  · obtain ⟨h1, h2, h3, h4, h5, h6⟩ := ltOk_parts hu rm o.1 r1 r2
    exact .inr ⟨_, _, h1, h2, h3, h4, h5, c.now rm o.2 (by rw [lt_py _ _ h6]; rfl)⟩
theorem zo_le (hu : X.A.units + 64 < cLine) : OpR X (compareOp .LtE) (LO2 X.K le3) := oimp (or2 op_le (op_ord fun s da db a b as bs Q => PySem.W.le_data)) fun x y H Q ⟨d1, d2, M, Q3, r1, r2, rm, o, c⟩ => by
  unfold le3 at o
  split at o
  · exact .inl ⟨_, _, r1, r2, c.now rm o rfl⟩
  · obtain ⟨h1, h2, h3, h4, h5, h6⟩ := ltOk_parts hu rm o.1 r1 r2
    exact .inr ⟨_, _, h1, h2, h3, h4, h5, c.now rm o.2 (by rw [lt_py _ _ (by rw [like_comm]; exact h6)]; rfl)⟩
theorem zo_gt (hu : X.A.units + 64 < cLine) : OpR X (compareOp .Gt) (LO2 X.K gt3) := oimp (or2 op_gt (op_ord (g := fun a b => PySem.W.dataLt b a) fun s da db a b as bs Q => PySem.W.gt_data)) fun x y H Q ⟨d1, d2, M, Q3, r1, r2, rm, o, c⟩ => by
  unfold gt3 at o
  split at o
  · exact .inl ⟨_, _, r1, r2, c.now rm o rfl⟩
  · obtain ⟨h1, h2, h3, h4, h5, h6⟩ := ltOk_parts hu rm o.1 r1 r2
    exact .inr ⟨_, _, h1, h2, h3, h4, h5, c.now rm o.2 (by rw [lt_py _ _ (by rw [like_comm]; exact h6)]; rfl)⟩
theorem zo_ge (hu : X.A.units + 64 < cLine) : OpR X (compareOp .GtE) (LO2 X.K ge3) := oimp (or2 op_ge (op_ord (g := fun a b => !PySem.W.dataLt a b) fun s da db a b as bs Q => PySem.W.ge_data)) fun x y H Q ⟨d1, d2, M, Q3, r1, r2, rm, o, c⟩ => by
  unfold ge3 at o
  split at o
  · exact .inl ⟨_, _, r1, r2, c.now rm o rfl⟩
  · obtain ⟨h1, h2, h3, h4, h5, h6⟩ := ltOk_parts hu rm o.1 r1 r2
    exact .inr ⟨_, _, h1, h2, h3, h4, h5, c.now rm o.2 (by rw [lt_py _ _ h6]; rfl)⟩
end
/-! ### is None -/
def isNon : D → Bool
  | .non => true
  | _ => false
def isN3 : O2 := fun x y M Q => match y with | .non => Q (.bl (isNon x)) M | _ => False
def notN3 : O2 := fun x y M Q => match y with | .non => Q (.bl (!isNon x)) M | _ => False
theorem isNon_v {K : PySem.W.Frag} {M : MH} {H : Hp} {d : D} {v : V} (r : Rp K M H d v) : decide (v = .non) = isNon d := by
  cases d with
  | non =>
    have r := show v = _ from r
    subst r; rfl
  | bl _ =>
    have r := show v = _ from r
    subst r; rfl
  | int _ =>
    have r := show v = _ from r
    subst r; rfl
  | str _ =>
    have r := show v = _ from r
    subst r; rfl
  | ref _ =>
    have r := show v = _ from r
    subst r; rfl
  | tp _ _ => obtain ⟨a, vs, h, _⟩ := r; subst h; rfl
  | lst _ => obtain ⟨a, vs, h, _⟩ := r; subst h; rfl
  | flst _ => obtain ⟨a, vs, h, _⟩ := r; subst h; rfl
  | dK _ _ => obtain ⟨a, vs, h, _⟩ := r; subst h; rfl
  | dT _ _ => obtain ⟨a, vs, h, _⟩ := r; subst h; rfl
section
variable {X : Cx}
theorem zo_isN : OpR X (compareOp .Is) (LO2 X.K isN3) := oimp op_isN fun x y H Q ⟨d1, d2, M, Q3, r1, r2, rm, o, c⟩ => by
  unfold isN3 at o
  split at o
  · exact ⟨r2, c.now rm o (by rw [isNon_v r1]; rfl)⟩
  · exact o.elim
theorem zo_notN : OpR X (compareOp .IsNot) (LO2 X.K notN3) := oimp op_notN fun x y H Q ⟨d1, d2, M, Q3, r1, r2, rm, o, c⟩ => by
  unfold notN3 at o
  split at o
  · exact ⟨r2, c.now rm o (by rw [isNon_v r1]; rfl)⟩
  · exact o.elim
end
/-! ### dicts, by look-up -/
def asK (M : MH) : D → Option (List (Key × D))
  | .dK ks ds => some (ks.zip ds)
  | .ref a => match M a with | some (.dK kvs) => some kvs | _ => none
  | _ => none
def asD (M : MH) : D → Option (List (List Key × D))
  | .dT ks ds => some (ks.zip ds)
  | .ref a => match M a with | some (.dT kvs) => some kvs | _ => none
  | _ => none
def keyK : D → Option Key
  | .int i => some (.inl i)
  | .str x => some (.inr x)
  | _ => none
def keysK : List D → Option (List Key)
  | [] => some []
  | d :: ds => match keyK d, keysK ds with | some k, some ks => some (k :: ks) | _, _ => none
def keyT : D → Option (List Key)
  | .tup ds => keysK ds
  | _ => none
section
variable {κ : Type} [DecidableEq κ]
def valD (kvs : List (κ × D)) (k : κ) : Option D := (kvs.find? fun kv => decide (kv.1 = k)).map (·.2)
def putD (kvs : List (κ × D)) (k : κ) (v : D) : List (κ × D) :=
  if (kvs.any fun kv => decide (kv.1 = k)) = true then kvs.map (fun kv => if kv.1 = k then (kv.1, v) else kv) else kvs ++ [(k, v)]
theorem valD_nil {k : κ} : valD ([] : List (κ × D)) k = none := rfl
theorem valD_pos {p : κ × D} {r : List (κ × D)} {k : κ} (e : p.1 = k) : valD (p :: r) k = some p.2 := by simp [valD, List.find?_cons, e]
theorem valD_neg {p : κ × D} {r : List (κ × D)} {k : κ} (e : ¬ p.1 = k) : valD (p :: r) k = valD r k := by simp [valD, List.find?_cons, e]
end
section
variable {K : PySem.W.Frag} {M : MH} {H : Hp} {κ : Type} [DecidableEq κ]
/-- a dict's pairs over its values -/
theorem val_rp {k : κ} : ∀ {kvs : List (κ × D)} {vs : List V}, RpL K M H (kvs.map (·.2)) vs → (valD kvs k = none ∧ valV ((kvs.map (·.1)).zip vs) k = none) ∨ ∃ d v, valD kvs k = some d ∧ valV ((kvs.map (·.1)).zip vs) k = some v ∧ Rp K M H d v
  | [], vs, h => .inl ⟨rfl, by simp [valV_nil]⟩
  | p :: r, vs, h => by
    obtain ⟨v, w, h1, h2, h3⟩ := h
    subst h1
    rw [List.map_cons, List.zip_cons_cons]
    by_cases e : p.1 = k
    · exact .inr ⟨p.2, v, valD_pos e, valV_pos (p := (p.1, v)) e, h2⟩
    · rw [valD_neg e, valV_neg (p := (p.1, v)) e]
      exact val_rp h3
theorem put_rp {k : κ} {d : D} {v : V} (hd : Rp K M H d v) {kvs : List (κ × D)} {vs : List V} (h : RpL K M H (kvs.map (·.2)) vs) :
    ∃ ws, putK ((kvs.map (·.1)).zip vs) k v = ((putD kvs k d).map (·.1)).zip ws ∧ RpL K M H ((putD kvs k d).map (·.2)) ws := by
  have any : ∀ {kvs : List (κ × D)} {vs : List V}, RpL K M H (kvs.map (·.2)) vs → (((kvs.map (·.1)).zip vs).any fun kv => decide (kv.1 = k)) = kvs.any fun kv => decide (kv.1 = k) := by
    intro kvs
    induction kvs with
    | nil => intro vs h; simp
    | cons p r ih =>
      intro vs h
      obtain ⟨u, w, h1, h2, h3⟩ := h
      subst h1
      rw [List.map_cons, List.zip_cons_cons, List.any_cons, List.any_cons, ih h3]
  have mp : ∀ {kvs : List (κ × D)} {vs : List V}, RpL K M H (kvs.map (·.2)) vs → ∃ ws, (((kvs.map (·.1)).zip vs).map fun kv => if kv.1 = k then (kv.1, v) else kv) = ((kvs.map fun kv => if kv.1 = k then (kv.1, d) else kv).map (·.1)).zip ws ∧ RpL K M H ((kvs.map fun kv => if kv.1 = k then (kv.1, d) else kv).map (·.2)) ws := by
    intro kvs
    induction kvs with
    | nil =>
      intro vs h
      have h : vs = [] := h
      subst h
      exact ⟨[], rfl, rfl⟩
    | cons p r ih =>
      intro vs h
      obtain ⟨u, w, h1, h2, h3⟩ := h
      subst h1
      obtain ⟨ws, e1, e2⟩ := ih h3
      by_cases e : p.1 = k
      · refine ⟨v :: ws, ?_, ?_⟩
        · simp only [List.map_cons, List.zip_cons_cons, if_pos e, e1]
        · simp only [List.map_cons, if_pos e]
          exact ⟨v, ws, rfl, hd, e2⟩
      · refine ⟨u :: ws, ?_, ?_⟩
        · simp only [List.map_cons, List.zip_cons_cons, if_neg e, e1]
        · simp only [List.map_cons, if_neg e]
          exact ⟨u, ws, rfl, h2, e2⟩
  unfold putK putD
  rw [any h]
  by_cases a : (kvs.any fun kv => decide (kv.1 = k)) = true
  · rw [if_pos a, if_pos a]
    exact mp h
  · rw [if_neg a, if_neg a]
    refine ⟨vs ++ [v], ?_, ?_⟩
    · rw [List.map_append, List.map_cons, List.map_nil, List.zip_append (by rw [h.length]; simp)]
      rfl
    · rw [List.map_append]
      exact h.append (RpL.one hd)
theorem keyK_v {d : D} {k : Key} {v : V} (e : keyK d = some k) (r : Rp K M H d v) : v = kV k := by
  cases d with
  | int i =>
    have e : Sum.inl i = k := by simpa [keyK] using e
    subst e
    exact r
  | str x =>
    have e : Sum.inr x = k := by simpa [keyK] using e
    subst e
    exact r
  | _ => simp [keyK] at e
theorem keysK_v : ∀ {ds : List D} {ks : List Key} {vs : List V}, keysK ds = some ks → RpL K M H ds vs → vs = ks.map kV
  | [], ks, vs, e, r => by
    have e : [] = ks := by simpa [keysK] using e
    subst e
    exact r
  | d :: ds, ks, vs, e, r => by
    obtain ⟨v, w, h1, h2, h3⟩ := r
    subst h1
    unfold keysK at e
    split at e
    · rename_i k ks' e1 e2
      have e : k :: ks' = ks := by simpa using e
      subst e
      rw [keyK_v e1 h2, keysK_v e2 h3]; rfl
    · cases e
theorem asK_h {d : D} {kvs : List (Key × D)} {v : V} (m : RM K M H) (e : asK M d = some kvs) (r : Rp K M H d v) : ∃ a vs, v = .ref a ∧ Rd H a (.dK ((kvs.map (·.1)).zip vs)) ∧ RpL K M H (kvs.map (·.2)) vs := by
  cases d with
  | dK ks ds =>
    have e : ks.zip ds = kvs := by simpa [asK] using e
    subst e
    obtain ⟨a, vs, h1, h2, h3, h4, h5⟩ := r
    refine ⟨a, vs, h1, ?_, ?_⟩
    · rw [List.map_fst_zip (Nat.le_of_eq h4)]; exact h3
    · rw [List.map_snd_zip (Nat.le_of_eq h4.symm)]; exact h5
  | ref a =>
    dsimp only [asK] at e
    cases q : M a with
    | none => rw [q] at e; cases e
    | some o =>
      rw [q] at e
      cases o with
      | dK kvs' =>
        have e : kvs' = kvs := by simpa using e
        subst e
        obtain ⟨vs, h1, h2⟩ := m a _ q
        exact ⟨a, vs, r, .inl h1, h2⟩
      | _ => cases e
  | _ => simp [asK] at e
theorem asD_h {d : D} {kvs : List (List Key × D)} {v : V} (m : RM K M H) (e : asD M d = some kvs) (r : Rp K M H d v) : ∃ a vs, v = .ref a ∧ Rd H a (.dT ((kvs.map (·.1)).zip vs)) ∧ RpL K M H (kvs.map (·.2)) vs := by
  cases d with
  | dT ks ds =>
    have e : ks.zip ds = kvs := by simpa [asD] using e
    subst e
    obtain ⟨a, vs, h1, h2, h3, h4, h5⟩ := r
    refine ⟨a, vs, h1, ?_, ?_⟩
    · rw [List.map_fst_zip (Nat.le_of_eq h4)]; exact h3
    · rw [List.map_snd_zip (Nat.le_of_eq h4.symm)]; exact h5
  | ref a =>
    dsimp only [asD] at e
    cases q : M a with
    | none => rw [q] at e; cases e
    | some o =>
      rw [q] at e
      cases o with
      | dT kvs' =>
        have e : kvs' = kvs := by simpa using e
        subst e
        obtain ⟨vs, h1, h2⟩ := m a _ q
        exact ⟨a, vs, r, .inl h1, h2⟩
      | _ => cases e
  | _ => simp [asD] at e
end
/-- what a dict holds at a key: none where it is no dict or the key no key -/
def dfind (M : MH) (x y : D) : Option (Option D) :=
  match asK M x, keyK y with
  | some kvs, some k => some (valD kvs k)
  | _, _ => match asD M x, keyT y with
    | some kvs, some k => some (valD kvs k)
    | _, _ => none
theorem dfind_h {K : PySem.W.Frag} {M : MH} {H : Hp} {x y : D} {v w : V} {o : Option D} (m : RM K M H) (e : dfind M x y = some o) (rx : Rp K M H x v) (ry : Rp K M H y w) :
    ∃ a r, v = .ref a ∧ DGet H a w r ∧ ((o = none ∧ r = none) ∨ ∃ d u, o = some d ∧ r = some u ∧ Rp K M H d u) := by
  unfold dfind at e
  split at e
  · rename_i kvs k e1 e2
    obtain ⟨a, vs, h1, h2, h3⟩ := asK_h m e1 rx
    have hk := keyK_v e2 ry
    subst hk
    refine ⟨a, _, h1, .inl ⟨_, _, h2, rfl, rfl⟩, ?_⟩
    have e : valD kvs k = o := by simpa using e
    subst e
    rcases val_rp (k := k) h3 with ⟨g1, g2⟩ | ⟨d, u, g1, g2, g3⟩
    · exact .inl ⟨g1, g2⟩
    · exact .inr ⟨d, u, g1, g2, g3⟩
  · split at e
    · rename_i kvs k e1 e2
      obtain ⟨a, vs, h1, h2, h3⟩ := asD_h m e1 rx
      have e : valD kvs k = o := by simpa using e
      subst e
      cases y with
      | tp tk es =>
        cases tk with
        | s => simp [keyT] at e2
        | k => simp [keyT] at e2
        | t =>
        obtain ⟨b, ws, g1, ⟨g2, g3⟩, g4⟩ := ry
        have hk := keysK_v e2 g4
        subst hk g1
        refine ⟨a, _, h1, .inr ⟨_, _, _, h2, rfl, g3, rfl⟩, ?_⟩
        rcases val_rp (k := k) h3 with ⟨g1, g2⟩ | ⟨d, u, g1, g2, g3⟩
        · exact .inl ⟨g1, g2⟩
        · exact .inr ⟨d, u, g1, g2, g3⟩
      | _ => simp [keyT] at e2
    · cases e
/-! ### in, not in -/
def seqM (M : MH) (d : D) : Option (List D) := match asT d with | some ds => some ds | none => asL M d
def inOk (x : D) (ds : List D) : Bool := lay 59 x && layL 59 ds
def inAns (M : MH) (x y : D) : Option Bool :=
  match y with
  | .str z => match x with | .str i => some (!(Builtin.Str.occurrences z i 0 z.length 1).isEmpty) | _ => none
  | y => match seqM M y with
    | some ds => if inOk x ds = true then some (ds.any fun z => eqv z x) else none
    | none => match dfind M y x with
      | some o => some o.isSome
      | none => none
def in3 : O2 := fun x y M Q => match inAns M x y with | some b => Q (.bl b) M | none => False
def nin3 : O2 := fun x y M Q => match inAns M x y with | some b => Q (.bl (!b)) M | none => False
section
variable {X : Cx}
theorem toPyL_get : ∀ {ds : List D} {j : Nat} {z : PyData}, (toPyL ds)[j]? = some z → ∃ d, ds[j]? = some d ∧ toPy d = z
  | [], j, z, h => by simp [toPyL] at h
  | d :: ds, 0, z, h => ⟨d, rfl, by simpa [toPyL] using h⟩
  | d :: ds, j + 1, z, h => by
    obtain ⟨e, h1, h2⟩ := toPyL_get (ds := ds) (j := j) (z := z) (by simpa [toPyL] using h)
    exact ⟨e, by simpa using h1, h2⟩
noncomputable def rowF (us : List Value) (ds : List D) (x : D) (y : Value) : Bool := @decide (∃ (i : Nat) (d : D), us[i]? = some y ∧ ds[i]? = some d ∧ eqv d x = true) (Classical.propDecidable _)
theorem rowF_t {us : List Value} {ds : List D} {x : D} {y : Value} (e : ∃ (i : Nat) (d : D), us[i]? = some y ∧ ds[i]? = some d ∧ eqv d x = true) : rowF us ds x y = true := @decide_eq_true _ (Classical.propDecidable _) e
theorem rowF_f {us : List Value} {ds : List D} {x : D} {y : Value} (e : ¬ ∃ (i : Nat) (d : D), us[i]? = some y ∧ ds[i]? = some d ∧ eqv d x = true) : rowF us ds x y = false := @decide_eq_false _ (Classical.propDecidable _) e
theorem of_rowF {us : List Value} {ds : List D} {x : D} {y : Value} (e : rowF us ds x y = true) : ∃ (i : Nat) (d : D), us[i]? = some y ∧ ds[i]? = some d ∧ eqv d x = true := @of_decide_eq_true _ (Classical.propDecidable _) e
/-- == of a datum and one of a row's items -/
theorem row_eqAt {pins : List (Addr × Obj)} {σ : L2.St} {H : Hp} {M : MH} {s : Shared} (hu : X.A.units + 64 < cLine) (I : Inv X pins σ H s) {x : D} {v : V} {u : Value} (hx : lay 59 x = true) (rx : Rp X.K M H x v) (rv : RelV v u) :
    ∀ {ds : List D} {vs : List V} {us : List Value}, layL 59 ds = true → RpL X.K M H ds vs → Vals vs us → ∃ e : Value → Bool, (∀ y ∈ us, SeqAt.EqAt X.A.in1 s y u (e y)) ∧ us.any e = ds.any fun z => eqv z x := by
  obtain ⟨as, rd⟩ := Dp.reads I _ v u (Rp.dp 59 x v rx (pd_lay _ _ hx)) rv
  have cx := lay_py 59 x hx
  -- the answer by value: read the data back
  have one : ∀ (d : D) (w : V) (y : Value), lay 59 d = true → Rp X.K M H d w → RelV w y → SeqAt.EqAt X.A.in1 s y u (eqv d x) := fun d w y h r q => by
    obtain ⟨bs, rb⟩ := Dp.reads I _ w y (Rp.dp 59 d w r (pd_lay _ _ h)) q
    have cd := lay_py 59 d h
    rw [eqv_py]
    exact SeqAt.eqAt_reads _ _ X.A.in1 s y u _ _ rb rd cd.1 cx.1 (by
      show X.A.units + 1 + _ < cLine
      omega)
  intro ds vs us hl hr hv
  refine ⟨rowF us ds x, fun y hy => ?_, ?_⟩
  · by_cases e : ∃ (i : Nat) (d : D), us[i]? = some y ∧ ds[i]? = some d ∧ eqv d x = true
    · obtain ⟨i, d, h1, h2, h3⟩ := id e
      rw [rowF_t e]
      obtain ⟨w, g1, g2⟩ := hr.get h2
      obtain ⟨y', g3, g4⟩ := hv.get g1
      rw [h1] at g3
      cases g3
      rw [← h3]
      refine one d w y ?_ g2 g4
      rw [layL_all, List.all_eq_true] at hl
      exact hl d (List.mem_of_getElem? h2)
    · rw [rowF_f e]
      obtain ⟨i, hi⟩ := List.getElem?_of_mem hy
      have hil : i < ds.length := by
        have h1 := hv.length
        have h2 := hr.length
        have h3 := (List.getElem?_eq_some_iff.mp hi).1
        omega
      have h2 : ds[i]? = some ds[i] := List.getElem?_eq_getElem hil
      obtain ⟨w, g1, g2⟩ := hr.get h2
      obtain ⟨y', g3, g4⟩ := hv.get g1
      rw [hi] at g3
      cases g3
      have nf : eqv ds[i] x = false := by
        cases q : eqv ds[i] x with
        | false => rfl
        | true => exact (e ⟨i, _, hi, h2, q⟩).elim
      rw [← nf]
      refine one _ w y ?_ g2 g4
      rw [layL_all, List.all_eq_true] at hl
      exact hl _ (List.mem_of_getElem? h2)
  · have len : us.length = ds.length := by rw [← hv.length, hr.length]
    rw [Bool.eq_iff_iff, List.any_eq_true, List.any_eq_true]
    constructor
    · rintro ⟨y, hy, h⟩
      obtain ⟨i, d, h1, h2, h3⟩ := of_rowF h
      exact ⟨d, List.mem_of_getElem? h2, h3⟩
    · rintro ⟨d, hd, h⟩
      obtain ⟨i, hi⟩ := List.getElem?_of_mem hd
      have hil : i < us.length := by
        have := (List.getElem?_eq_some_iff.mp hi).1
        omega
      exact ⟨us[i], List.getElem_mem hil, rowF_t ⟨i, d, List.getElem?_eq_getElem hil, hi, h⟩⟩
theorem seqM_sq {K : PySem.W.Frag} {M : MH} {H : Hp} {d : D} {ds : List D} {v : V} (m : RM K M H) (e : seqM M d = some ds) (r : Rp K M H d v) : ∃ a vs, v = .ref a ∧ (SqL K H a vs ∨ SqT K H a vs) ∧ RpL K M H ds vs := by
  unfold seqM at e
  split at e
  · rename_i ds' e1
    cases e
    obtain ⟨a, vs, h1, h2, h3⟩ := asT_sq e1 r
    exact ⟨a, vs, h1, .inr h2, h3⟩
  · obtain ⟨a, vs, h1, h2, h3⟩ := asL_sq m e r
    exact ⟨a, vs, h1, .inl h2, h3⟩
theorem zo_in (hu : X.A.units + 64 < cLine) : OpR X (compareOp .In) (LO2 X.K in3) := by
  intro pins s σ H x y v u Q I rx ry ⟨d1, d2, M, Q3, r1, r2, rm, o, c⟩
  unfold in3 at o
  split at o
  · rename_i b e
    unfold inAns at e
    split at e
    · rename_i z
      split at e
      · rename_i i
        obtain rfl := Option.some.inj e
        obtain ⟨t, rfl⟩ := rp_str r1 ▸ rx
        obtain ⟨t', rfl⟩ := rp_str r2 ▸ ry
        exact in_str (fin_bl I (c.now rm o rfl) (by simp))
      · cases e
    · split at e
      · rename_i ds e2
        split at e
        · rename_i hok
          obtain rfl := Option.some.inj e
          unfold inOk at hok
          rw [Bool.and_eq_true] at hok
          obtain ⟨a, vs, h1, h2, h3⟩ := seqM_sq rm e2 r2
          subst h1
          cases ry
          rcases h2 with h2 | h2
          · obtain ⟨its, rv, pl, hz⟩ := I.list h2
            obtain ⟨f, g1, g2⟩ := row_eqAt hu I hok.1 r1 rx hok.2 h3 rv
            refine SeqAt.in_listAt f pl.isList (fun w hw => g1 w (by simpa using hw)) ⟨.bl _, H, I, rfl, ?_⟩
            rw [show its.toArray.any f = its.any f by simp, g2]
            exact c.now rm o rfl
          · obtain ⟨its, rv, pl, hz⟩ := I.tuple h2
            obtain ⟨f, g1, g2⟩ := row_eqAt hu I hok.1 r1 rx hok.2 h3 rv
            refine SeqAt.in_tupleAt f pl (fun w hw => g1 w (by simpa using hw)) ⟨.bl _, H, I, rfl, ?_⟩
            rw [show its.toArray.any f = its.any f by simp, g2]
            exact c.now rm o rfl
        · cases e
      · split at e
        · rename_i ov e3
          have e : ov.isSome = b := by simpa using e
          subst e
          obtain ⟨a, r, h1, h2, h3⟩ := dfind_h rm e3 r2 r1
          subst h1
          cases ry
          have hs : r.isSome = ov.isSome := by
            rcases h3 with ⟨g1, g2⟩ | ⟨d, u', g1, g2, _⟩ <;> rw [g1, g2] <;> rfl
          exact d_in (by omega) I h2 rx fun s' I' => ⟨.bl _, H, I', rfl, by rw [hs]; exact c.now rm o rfl⟩
        · cases e
  · exact o.elim
theorem zo_nin (hu : X.A.units + 64 < cLine) : OpR X (compareOp .NotIn) (LO2 X.K nin3) := by
  intro pins s σ H x y v u Q I rx ry ⟨d1, d2, M, Q3, r1, r2, rm, o, c⟩
  unfold nin3 at o
  split at o
  · rename_i b e
    unfold inAns at e
    split at e
    · rename_i z
      split at e
      · rename_i i
        obtain rfl := Option.some.inj e
        obtain ⟨t, rfl⟩ := rp_str r1 ▸ rx
        obtain ⟨t', rfl⟩ := rp_str r2 ▸ ry
        exact notIn_str (fin_bl I (c.now rm o rfl) (by simp))
      · cases e
    · split at e
      · rename_i ds e2
        split at e
        · rename_i hok
          obtain rfl := Option.some.inj e
          unfold inOk at hok
          rw [Bool.and_eq_true] at hok
          obtain ⟨a, vs, h1, h2, h3⟩ := seqM_sq rm e2 r2
          subst h1
          cases ry
          rcases h2 with h2 | h2
          · obtain ⟨its, rv, pl, hz⟩ := I.list h2
            obtain ⟨f, g1, g2⟩ := row_eqAt hu I hok.1 r1 rx hok.2 h3 rv
            refine SeqAt.notIn_listAt f pl.isList (fun w hw => g1 w (by simpa using hw)) ⟨.bl _, H, I, rfl, ?_⟩
            rw [show its.toArray.any f = its.any f by simp, g2]
            exact c.now rm o rfl
          · obtain ⟨its, rv, pl, hz⟩ := I.tuple h2
            obtain ⟨f, g1, g2⟩ := row_eqAt hu I hok.1 r1 rx hok.2 h3 rv
            refine SeqAt.notIn_tupleAt f pl (fun w hw => g1 w (by simpa using hw)) ⟨.bl _, H, I, rfl, ?_⟩
            rw [show its.toArray.any f = its.any f by simp, g2]
            exact c.now rm o rfl
        · cases e
      · split at e
        · rename_i ov e3
          have e : ov.isSome = b := by simpa using e
          subst e
          obtain ⟨a, r, h1, h2, h3⟩ := dfind_h rm e3 r2 r1
          subst h1
          cases ry
          have hs : r.isSome = ov.isSome := by
            rcases h3 with ⟨g1, g2⟩ | ⟨d, u', g1, g2, _⟩ <;> rw [g1, g2] <;> rfl
          exact d_notIn (by omega) I h2 rx fun s' I' => ⟨.bl _, H, I', rfl, by rw [hs]; exact c.now rm o rfl⟩
        · cases e
  · exact o.elim
end
/-! ### subscripts -/
def ixAns (M : MH) (x y : D) : Option D := match y with
  | .int i => match x with
    | .str z => if z.length ≤ sizeLine then (match atI z.cps.toList i with | some c => some (.str ⟨#[c]⟩) | none => none) else none
    | x => match seqM M x with
      | some ds => atI ds i
      | none => (dfind M x (.int i)).join
  | y => (dfind M x y).join
def ix3 : O2 := fun x y M Q => match ixAns M x y with | some d => Q d M | none => False
theorem atI_rp {K : PySem.W.Frag} {M : MH} {H : Hp} {ds : List D} {vs : List V} {i : Int} {d : D} (r : RpL K M H ds vs) (e : atI ds i = some d) : ∃ v, atI vs i = some v ∧ Rp K M H d v := by
  unfold atI at e ⊢
  rw [r.length]
  cases q : ixN ds.length i with
  | none => rw [q] at e; cases e
  | some j =>
    rw [q] at e
    obtain ⟨v, h1, h2⟩ := r.get (show ds[j]? = some d from e)
    exact ⟨v, h1, h2⟩
section
variable {X : Cx}
theorem ix_dict (hu : X.A.units + 1 < cLine) : IxR X (fun x y H Q => ∃ a v, x = .ref a ∧ DGet H a y (some v) ∧ Q v H) := by
  intro value slice pins s σ H x y v u Q I rx ry ⟨a, w, e, g, q⟩ hs
  subst e
  cases rx
  exact tail_any (dict_typeIs I g) PySem.F.slot_dict_getitem.lookup (d_getItem hu I g ry fun w' s3 I3 rw' => ⟨w, H, I3, rw', q⟩) hs
theorem iximp {r r' : R2} (h : IxR X r) (g : ∀ x y H Q, r' x y H Q → r x y H Q) : IxR X r' := fun va sl pins s σ H x y v u Q I rx ry q hs => h va sl pins s σ H x y v u Q I rx ry (g _ _ _ _ q) hs
theorem zi_ix (hu : X.A.units + 64 < cLine) : IxR X (LO2 X.K ix3) := iximp (IxR.or ix_seq (ix_dict (by omega))) fun x y H Q ⟨d1, d2, M, Q3, r1, r2, rm, o, c⟩ => by
  unfold ix3 at o
  split at o
  · rename_i d e
    have dic : ∀ {y' : D}, Rp X.K M H y' y → (dfind M d1 y').join = some d → (∃ a v, x = .ref a ∧ DGet H a y (some v) ∧ Q v H) := fun {y'} ry e => by
      cases q : dfind M d1 y' with
      | none => rw [q] at e; cases e
      | some o' =>
        rw [q] at e
        have e : o' = some d := e
        subst e
        obtain ⟨a, r, h1, h2, h3⟩ := dfind_h rm q r1 ry
        rcases h3 with ⟨g, _⟩ | ⟨d', v, g1, g2, g3⟩
        · cases g
        · cases g1
          subst g2
          exact ⟨a, v, h1, h2, c.now rm o g3⟩
    unfold ixAns at e
    split at e
    · rename_i i
      split at e
      · rename_i z
        split at e
        · rename_i hz
          split at e
          · rename_i ch ec
            obtain rfl := Option.some.inj e
            exact .inl (.inr (.inr ⟨_, _, _, r1, r2, hz, ec, c.now rm o rfl⟩))
          · cases e
        · cases e
      · split at e
        · rename_i ds e1
          obtain ⟨a, vs, h1, h2, h3⟩ := seqM_sq rm e1 r1
          obtain ⟨v, g1, g2⟩ := atI_rp h3 e
          rcases h2 with h2 | h2
          · exact .inl (.inl ⟨a, vs, i, v, h1, r2, h2, g1, c.now rm o g2⟩)
          · exact .inl (.inr (.inl ⟨a, vs, i, v, h1, r2, h2, g1, c.now rm o g2⟩))
        · exact .inr (dic r2 e)
    · exact .inr (dic r2 e)
  · exact o.elim
theorem z_ix {K : PySem.W.Frag} {M0 : MH} {H0 : Hp} {o : O2} {a b : Expr} {ta tb : T3} {pos : Pos} (hr : IxR X (LO2 K o)) (ha : PE X a (LE K M0 H0 ta)) (hb : PE X b (LE K M0 H0 tb)) (hs : PlainIx b) : PE X (.Subscript a b pos) (LE K M0 H0 (op2 o ta tb)) :=
  (pe_ix hr ha hb hs).imp fun _ _ _ h => lo2 h
end
end Z

namespace Z
open PySem PySem.Spec PyProof.Rows L2
def c1 (o : O1) : OL := fun ds M Q => match ds with
  | [d] => o d M Q
  | _ => False
def c2 (o : O2) : OL := fun ds M Q => match ds with
  | [d, e] => o d e M Q
  | _ => False
def ofO (f : MH → D → Option D) : O1 := fun d M Q => match f M d with | some r => Q r M | none => False
def ofO2 (f : MH → D → D → Option D) : O2 := fun d e M Q => match f M d e with | some r => Q r M | none => False
section
variable {K : PySem.W.Frag}
theorem lol1 {o : O1} {xs : List V} {H : Hp} {Q : VK} (h : LOL K (c1 o) xs H Q) : ∃ x, xs = [x] ∧ LO1 K o x H Q := by
  obtain ⟨ds, M, Q3, r, rm, o', c⟩ := h
  unfold c1 at o'
  split at o'
  · obtain ⟨x, y, h1, h2, h3⟩ := r
    have h3 : y = [] := h3
    subst h3
    exact ⟨x, h1, _, M, Q3, h2, rm, o', c⟩
  · exact o'.elim
theorem lol2 {o : O2} {xs : List V} {H : Hp} {Q : VK} (h : LOL K (c2 o) xs H Q) : ∃ x y, xs = [x, y] ∧ LO2 K o x y H Q := by
  obtain ⟨ds, M, Q3, r, rm, o', c⟩ := h
  unfold c2 at o'
  split at o'
  · obtain ⟨x, y, h1, h2, h3⟩ := r
    obtain ⟨x', y', g1, g2, g3⟩ := h3
    have g3 : y' = [] := g3
    subst g3 g1
    exact ⟨x, x', h1, _, _, M, Q3, h2, g2, rm, o', c⟩
  · exact o'.elim
theorem lo1f {f : MH → D → Option D} {x : V} {H : Hp} {Q : VK} (h : LO1 K (ofO f) x H Q) : ∃ d M Q3 r, Rp K M H d x ∧ RM K M H ∧ f M d = some r ∧ Q3 r M ∧ Cv K M H Q3 Q := by
  obtain ⟨d, M, Q3, r, rm, o, c⟩ := h
  unfold ofO at o
  split at o
  · rename_i z e
    exact ⟨d, M, Q3, z, r, rm, e, o, c⟩
  · exact o.elim
end
/-! ### len, int, abs, min, max of two -/
def lenA (M : MH) (d : D) : Option D := match d with
  | .str x => if x.length ≤ sizeLine then some (.int x.length) else none
  | d => match seqM M d with
    | some ds => some (.int ds.length)
    | none => none
def intA (_ : MH) : D → Option D
  | .int i => some (.int i)
  | .bl k => some (.int (if k then 1 else 0))
  | .str x => if x.length ≤ 640 then (match PySem.intText? x with | some n => some (.int n) | none => none) else none
  | _ => none
/-- str() of an int, of a text -/
def strA (_ : MH) : D → Option D
  | .int i => if i.natAbs.log2 < 1920 then some (.str (toString i)) else none
  | .str x => some (.str x)
  | _ => none
def absA (_ : MH) : D → Option D
  | .int i => some (.int (if i < 0 then -i else i))
  | _ => none
def maxA (_ : MH) : D → D → Option D
  | .int i, .int j => some (.int (if j > i then j else i))
  | _, _ => none
def minA (_ : MH) : D → D → Option D
  | .int i, .int j => some (.int (if j < i then j else i))
  | _, _ => none
section
variable {X : Cx}
theorem zc_len : CallR X (.builtin "len") (LOL X.K (c1 (ofO lenA))) := cimp call_len fun xs H Q h => by
  obtain ⟨x, rfl, h'⟩ := lol1 h
  obtain ⟨d, M, Q3, r, r1, rm, e, q, c⟩ := lo1f h'
  unfold lenA at e
  split at e
  · split at e
    · rename_i z hz
      obtain rfl := Option.some.inj e
      have r1 := rp_str r1
      subst r1
      exact ⟨_, z.length, rfl, ⟨hz, rfl⟩, c.now rm q rfl⟩
    · cases e
  · split at e
    · rename_i ds e2
      obtain rfl := Option.some.inj e
      obtain ⟨a, vs, h1, h2, h3⟩ := seqM_sq rm e2 r1
      subst h1
      refine ⟨_, ds.length, rfl, ?_, c.now rm q rfl⟩
      rw [← h3.length]
      rcases h2 with h2 | h2
      · exact .inl ⟨vs, h2, rfl⟩
      · exact .inr ⟨vs, h2, rfl⟩
    · cases e
theorem zc_int : CallR X (.type "int") (LOL X.K (c1 (ofO intA))) := cimp (CallR.or call_int1 call_int_str) fun xs H Q h => by
  obtain ⟨x, rfl, h'⟩ := lol1 h
  obtain ⟨d, M, Q3, r, r1, rm, e, q, c⟩ := lo1f h'
  unfold intA at e
  split at e
  · obtain rfl := Option.some.inj e
    have r1 := rp_int r1
    subst r1
    exact .inl (.inl ⟨_, rfl, c.now rm q rfl⟩)
  · obtain rfl := Option.some.inj e
    have r1 := rp_bl r1
    subst r1
    exact .inl (.inr ⟨_, rfl, c.now rm q rfl⟩)
  · have r1 := rp_str r1
    subst r1
    split at e
    · rename_i hz
      split at e
      · rename_i n hn
        obtain rfl := Option.some.inj e
        exact .inr ⟨_, n, rfl, hn, hz, c.now rm q rfl⟩
      · cases e
    · cases e
  · cases e
theorem zc_strI : CallR X (.type "str") (LOL X.K (c1 (ofO strA))) := cimp (CallR.or call_str_int SkE.call_str_str) fun xs H Q h => by
  obtain ⟨x, rfl, h'⟩ := lol1 h
  obtain ⟨d, M, Q3, r, r1, rm, e, q, c⟩ := lo1f h'
  unfold strA at e
  split at e
  · have r1 := rp_int r1
    subst r1
    split at e
    · rename_i hz
      obtain rfl := Option.some.inj e
      exact .inl ⟨_, rfl, hz, c.now rm q rfl⟩
    · cases e
  · obtain rfl := Option.some.inj e
    have r1 := rp_str r1
    subst r1
    exact .inr ⟨_, rfl, c.now rm q rfl⟩
  · cases e
theorem zc_abs : CallR X (.builtin "abs") (LOL X.K (c1 (ofO absA))) := cimp call_abs fun xs H Q h => by
  obtain ⟨x, rfl, h'⟩ := lol1 h
  obtain ⟨d, M, Q3, r, r1, rm, e, q, c⟩ := lo1f h'
  unfold absA at e
  split at e
  · obtain rfl := Option.some.inj e
    have r1 := rp_int r1
    subst r1
    exact ⟨_, rfl, c.now rm q rfl⟩
  · cases e
theorem zc_max2 (hc : X.calm = true) : CallR X (.builtin "max") (LOL X.K (c2 (ofO2 maxA))) := cimp (call_max2 hc) fun xs H Q h => by
  obtain ⟨x, y, rfl, d, e, M, Q3, r1, r2, rm, o, c⟩ := lol2 h
  unfold ofO2 at o
  split at o
  · rename_i z q
    unfold maxA at q
    split at q
    · obtain rfl := Option.some.inj q
      have r1 := rp_int r1
      have r2 := rp_int r2
      subst r1 r2
      exact ⟨_, _, rfl, c.now rm o rfl⟩
    · cases q
  · exact o.elim
theorem zc_min2 (hc : X.calm = true) : CallR X (.builtin "min") (LOL X.K (c2 (ofO2 minA))) := cimp (call_min2 hc) fun xs H Q h => by
  obtain ⟨x, y, rfl, d, e, M, Q3, r1, r2, rm, o, c⟩ := lol2 h
  unfold ofO2 at o
  split at o
  · rename_i z q
    unfold minA at q
    split at q
    · obtain rfl := Option.some.inj q
      have r1 := rp_int r1
      have r2 := rp_int r2
      subst r1 r2
      exact ⟨_, _, rfl, c.now rm o rfl⟩
    · cases q
  · exact o.elim
end
/-! ### sum, all, any of a list -/
def intsOf : List D → Option (List Int)
  | [] => some []
  | .int i :: r => match intsOf r with | some l => some (i :: l) | none => none
  | _ => none
def blsOf : List D → Option (List Bool)
  | [] => some []
  | .bl i :: r => match blsOf r with | some l => some (i :: l) | none => none
  | _ => none
theorem intsOf_eq : ∀ {ds : List D} {ns : List Int}, intsOf ds = some ns → ds = ns.map D.int
  | [], ns, h => by
    have h : [] = ns := by simpa [intsOf] using h
    subst h; rfl
  | d :: ds, ns, h => by
    cases d with
    | int i =>
      dsimp only [intsOf] at h
      split at h
      · rename_i l e
        obtain rfl := Option.some.inj h
        rw [intsOf_eq e]; rfl
      · cases h
    | _ => simp [intsOf] at h
theorem blsOf_eq : ∀ {ds : List D} {ns : List Bool}, blsOf ds = some ns → ds = ns.map D.bl
  | [], ns, h => by
    have h : [] = ns := by simpa [blsOf] using h
    subst h; rfl
  | d :: ds, ns, h => by
    cases d with
    | bl i =>
      dsimp only [blsOf] at h
      split at h
      · rename_i l e
        obtain rfl := Option.some.inj h
        rw [blsOf_eq e]; rfl
      · cases h
    | _ => simp [blsOf] at h
@[simp] theorem intsOf_map (ns : List Int) : intsOf (ns.map D.int) = some ns := by
  induction ns with
  | nil => rfl
  | cons a r ih => simp only [List.map_cons, intsOf, ih]
@[simp] theorem blsOf_map (ns : List Bool) : blsOf (ns.map D.bl) = some ns := by
  induction ns with
  | nil => rfl
  | cons a r ih => simp only [List.map_cons, blsOf, ih]
theorem ints_v {K : PySem.W.Frag} {M : MH} {H : Hp} : ∀ {ns : List Int} {vs : List V}, RpL K M H (ns.map D.int) vs → vs = ns.map V.int
  | [], vs, h => h
  | n :: ns, vs, h => by
    obtain ⟨v, r, h1, h2, h3⟩ := h
    subst h1
    rw [rp_int h2, ints_v h3]; rfl
theorem bls_v {K : PySem.W.Frag} {M : MH} {H : Hp} : ∀ {ns : List Bool} {vs : List V}, RpL K M H (ns.map D.bl) vs → vs = ns.map V.bl
  | [], vs, h => h
  | n :: ns, vs, h => by
    obtain ⟨v, r, h1, h2, h3⟩ := h
    subst h1
    rw [rp_bl h2, bls_v h3]; rfl
def sumA (M : MH) (d : D) : Option D := match asL M d with
  | some ds => match intsOf ds with | some ns => some (.int ns.sum) | none => none
  | none => none
def allA (M : MH) (d : D) : Option D := match asL M d with
  | some ds => match blsOf ds with | some bs => some (.bl (bs.all id)) | none => none
  | none => none
def anyA (M : MH) (d : D) : Option D := match asL M d with
  | some ds => match blsOf ds with | some bs => some (.bl (bs.any id)) | none => none
  | none => none
/-- the least one of some ints; the greatest one -/
def leastI : Int → List Int → Int
  | m, [] => m
  | m, x :: r => leastI (if x < m then x else m) r
def mostI : Int → List Int → Int
  | m, [] => m
  | m, x :: r => mostI (if x > m then x else m) r
theorem leastI_mem : ∀ (r : List Int) (m : Int), leastI m r ∈ m :: r ∧ ∀ y ∈ m :: r, leastI m r ≤ y
  | [], m => by simp [leastI]
  | x :: r, m => by
    unfold leastI
    obtain ⟨h1, h2⟩ := leastI_mem r (if x < m then x else m)
    by_cases e : x < m
    · rw [if_pos e] at h1 h2 ⊢
      refine ⟨by simp only [List.mem_cons] at h1 ⊢; rcases h1 with h | h <;> simp [h], fun y hy => ?_⟩
      simp only [List.mem_cons] at hy
      have hx := h2 x (by simp)
      rcases hy with hy | hy | hy
      · omega
      · omega
      · exact h2 y (by simp [hy])
    · rw [if_neg e] at h1 h2 ⊢
      refine ⟨by simp only [List.mem_cons] at h1 ⊢; rcases h1 with h | h <;> simp [h], fun y hy => ?_⟩
      simp only [List.mem_cons] at hy
      have hx := h2 m (by simp)
      rcases hy with hy | hy | hy
      · omega
      · omega
      · exact h2 y (by simp [hy])
theorem mostI_mem : ∀ (r : List Int) (m : Int), mostI m r ∈ m :: r ∧ ∀ y ∈ m :: r, y ≤ mostI m r
  | [], m => by simp [mostI]
  | x :: r, m => by
    unfold mostI
    obtain ⟨h1, h2⟩ := mostI_mem r (if x > m then x else m)
    by_cases e : x > m
    · rw [if_pos e] at h1 h2 ⊢
      refine ⟨by simp only [List.mem_cons] at h1 ⊢; rcases h1 with h | h <;> simp [h], fun y hy => ?_⟩
      simp only [List.mem_cons] at hy
      have hx := h2 x (by simp)
      rcases hy with hy | hy | hy
      · omega
      · omega
      · exact h2 y (by simp [hy])
    · rw [if_neg e] at h1 h2 ⊢
      refine ⟨by simp only [List.mem_cons] at h1 ⊢; rcases h1 with h | h <;> simp [h], fun y hy => ?_⟩
      simp only [List.mem_cons] at hy
      have hx := h2 m (by simp)
      rcases hy with hy | hy | hy
      · omega
      · omega
      · exact h2 y (by simp [hy])
def minL (M : MH) (d : D) : Option D := match asL M d with
  | some ds => match intsOf ds with | some (n :: ns) => some (.int (leastI n ns)) | _ => none
  | none => none
def maxL (M : MH) (d : D) : Option D := match asL M d with
  | some ds => match intsOf ds with | some (n :: ns) => some (.int (mostI n ns)) | _ => none
  | none => none
section
variable {X : Cx}
theorem asL_ints {M : MH} {H : Hp} {d : D} {v : V} {ds : List D} {ns : List Int} (rm : RM X.K M H) (e1 : asL M d = some ds) (e2 : intsOf ds = some ns) (r : Rp X.K M H d v) : ∃ a, v = .ref a ∧ SqL X.K H a (ns.map V.int) := by
  obtain ⟨a, vs, h1, h2, h3⟩ := asL_sq rm e1 r
  rw [intsOf_eq e2] at h3
  rw [ints_v h3] at h2
  exact ⟨a, h1, h2⟩
theorem asL_bls {M : MH} {H : Hp} {d : D} {v : V} {ds : List D} {ns : List Bool} (rm : RM X.K M H) (e1 : asL M d = some ds) (e2 : blsOf ds = some ns) (r : Rp X.K M H d v) : ∃ a, v = .ref a ∧ SqL X.K H a (ns.map V.bl) := by
  obtain ⟨a, vs, h1, h2, h3⟩ := asL_sq rm e1 r
  rw [blsOf_eq e2] at h3
  rw [bls_v h3] at h2
  exact ⟨a, h1, h2⟩
theorem zc_sum (hc : X.calm = true) : CallR X (.builtin "sum") (LOL X.K (c1 (ofO sumA))) := cimp (cr_sum hc) fun xs H Q h => by
  obtain ⟨x, rfl, h'⟩ := lol1 h
  obtain ⟨d, M, Q3, r, r1, rm, e, q, c⟩ := lo1f h'
  unfold sumA at e
  split at e
  · split at e
    · obtain rfl := Option.some.inj e
      rename_i e1 _ _ e2
      obtain ⟨a, h1, h2⟩ := asL_ints rm e1 e2 r1
      subst h1
      exact ⟨a, _, rfl, h2, c.now rm q rfl⟩
    · cases e
  · cases e
theorem zc_all (hc : X.calm = true) : CallR X (.builtin "all") (LOL X.K (c1 (ofO allA))) := cimp (cr_all hc) fun xs H Q h => by
  obtain ⟨x, rfl, h'⟩ := lol1 h
  obtain ⟨d, M, Q3, r, r1, rm, e, q, c⟩ := lo1f h'
  unfold allA at e
  split at e
  · split at e
    · obtain rfl := Option.some.inj e
      rename_i e1 _ _ e2
      obtain ⟨a, h1, h2⟩ := asL_bls rm e1 e2 r1
      subst h1
      exact ⟨a, _, rfl, h2, c.now rm q rfl⟩
    · cases e
  · cases e
theorem zc_any (hc : X.calm = true) : CallR X (.builtin "any") (LOL X.K (c1 (ofO anyA))) := cimp (cr_any hc) fun xs H Q h => by
  obtain ⟨x, rfl, h'⟩ := lol1 h
  obtain ⟨d, M, Q3, r, r1, rm, e, q, c⟩ := lo1f h'
  unfold anyA at e
  split at e
  · split at e
    · obtain rfl := Option.some.inj e
      rename_i e1 _ _ e2
      obtain ⟨a, h1, h2⟩ := asL_bls rm e1 e2 r1
      subst h1
      exact ⟨a, _, rfl, h2, c.now rm q rfl⟩
    · cases e
  · cases e
theorem zc_minL (hc : X.calm = true) : CallR X (.builtin "min") (LOL X.K (c1 (ofO minL))) := cimp (cr_min hc) fun xs H Q h => by
  obtain ⟨x, rfl, h'⟩ := lol1 h
  obtain ⟨d, M, Q3, r, r1, rm, e, q, c⟩ := lo1f h'
  unfold minL at e
  split at e
  · split at e
    · obtain rfl := Option.some.inj e
      rename_i e1 _ _ _ e2
      obtain ⟨a, h1, h2⟩ := asL_ints rm e1 e2 r1
      subst h1
      rename_i n ns
      refine ⟨a, _, rfl, h2, by simp, fun m hm hl => ?_⟩
      obtain ⟨g1, g2⟩ := leastI_mem ns n
      have e1 := hl _ g1
      have e2 := g2 _ hm
      have e3 : m = leastI n ns := by omega
      rw [e3]
      exact c.now rm q rfl
    · cases e
  · cases e
theorem zc_maxL (hc : X.calm = true) : CallR X (.builtin "max") (LOL X.K (c1 (ofO maxL))) := cimp (cr_max hc) fun xs H Q h => by
  obtain ⟨x, rfl, h'⟩ := lol1 h
  obtain ⟨d, M, Q3, r, r1, rm, e, q, c⟩ := lo1f h'
  unfold maxL at e
  split at e
  · split at e
    · obtain rfl := Option.some.inj e
      rename_i e1 _ _ _ e2
      obtain ⟨a, h1, h2⟩ := asL_ints rm e1 e2 r1
      subst h1
      rename_i n ns
      refine ⟨a, _, rfl, h2, by simp, fun m hm hl => ?_⟩
      obtain ⟨g1, g2⟩ := mostI_mem ns n
      have e1 := hl _ g1
      have e2 := g2 _ hm
      have e3 : m = mostI n ns := by omega
      rw [e3]
      exact c.now rm q rfl
    · cases e
  · cases e
end
/-! ### tuple(x), list(x) -/
/-- a list that is made, to be changed or not -/
def resL (m : Bool) (ds : List D) (M : MH) (Q : Q3) : Prop := match m with
  | false => Q (.lst ds) M
  | true => ∀ p, M p = none → Q (.ref p) (up M p (.lst ds))
theorem resL_cv {K : PySem.W.Frag} {m : Bool} {ds : List D} {M : MH} {H : Hp} {vs : List V} {Q3 : Q3} {Q : VK} {p : Addr} (h : resL m ds M Q3) (rm : RM K M H) (r : RpL K M H ds vs) (hp : H p = none) (c : Cv K M H Q3 Q) : Q (.ref p) (upd H p (.lst vs)) := by
  cases m with
  | false => exact c _ M _ _ h (Rp.lstNew rm hp r) (rm.new hp) (Ev.new hp)
  | true => exact c _ _ _ _ (h p (rm.free hp)) rfl (rm.lstNew hp r) (Ev.newM hp)
def tupA (k : TK) : O1 := fun d M Q => match k, d with
  | .t, .tp k ds => Q (.tp k ds) M
  | .t, d => match asL M d with | some ds => Q (.tup ds) M | none => False
  | .k, d => match asL M d with | some ds => Q (.tp .k ds) M | none => False
  | .s, _ => False
def kD : Key → D
  | .inl i => .int i
  | .inr x => .str x
def lstA (m : Bool) : O1 := fun d M Q => match seqM M d with
  | some ds => resL m ds M Q
  | none => match asD M d with
    | some kvs => resL m (kvs.map fun kv => D.tup (kv.1.map kD)) M Q
    | none => match asK M d with
      | some kvs => resL m (kvs.map fun kv => kD kv.1) M Q
      | none => False
section
variable {X : Cx}
/-- tuple(a list): the tuple is known to its object -/
theorem call_tuple_k : CallR X (.type "tuple") (fun xs H Q => ∃ p ys, xs = [.ref p] ∧ SqL X.K H p ys ∧ ∀ l o, H l = none → o.dict = none → Q (.ref l) (upd H l (.frz o (.tup ys)))) := by
  intro pins s σ H xs us Q I r ⟨p, ys, e, hq, q⟩
  subst e
  obtain ⟨u, rfl, rx⟩ := vals1 r
  cases rx
  obtain ⟨its, r', pl, hz⟩ := I.list hq
  refine call_tuple_list pl.isList (fun h' kp => ?_) (by have := r'.length; simp only [List.size_toArray]; omega)
  have J : Inv X pins σ H { s with heap := h' } := I.kept (t' := s.toks) kp
  have J2 : Inv X pins σ (upd H h'.objs.size (.frz { cls := .type "tuple", data := .seq its.toArray } (.tup ys))) { s with heap := h'.push { cls := .type "tuple", data := .seq its.toArray } } :=
    J.laid (t' := s.toks) (fun b o e => Heap.get?_push_of_some _ e) (Nat.le_refl _) ⟨Heap.get?_push_size _ rfl, hz, its, r', IsTup.new _ _⟩
  exact ⟨.ref h'.objs.size, _, J2, rfl, q _ _ (J.hok.fresh (Nat.le_refl _)) rfl⟩
theorem zc_tup (k : TK) : CallR X (.type "tuple") (LOL X.K (c1 (tupA k))) := cimp (CallR.or call_tuple_of call_tuple_k) fun xs H Q h => by
  obtain ⟨x, rfl, d, M, Q3, r1, rm, o, c⟩ := lol1 h
  unfold tupA at o
  split at o
  · obtain ⟨a, vs, h1, h2, h3⟩ := r1
    subst h1
    exact .inl ⟨a, vs, rfl, .inr ⟨h2.sq, c.now rm o ⟨a, vs, rfl, h2, h3⟩⟩⟩
  · split at o
    · rename_i e1
      obtain ⟨a, vs, h1, h2, h3⟩ := asL_sq rm e1 r1
      subst h1
      exact .inl ⟨a, vs, rfl, .inl ⟨h2, fun l hl => c _ M _ _ o (Rp.tupNew rm hl h3) (rm.new hl) (Ev.new hl)⟩⟩
    · exact o.elim
  · split at o
    · rename_i e1
      obtain ⟨a, vs, h1, h2, h3⟩ := asL_sq rm e1 r1
      subst h1
      exact .inr ⟨a, vs, rfl, h2, fun l ob hl hd => c _ M _ _ o ⟨l, vs, rfl, ⟨ob, rm.free hl, upd_same, hd⟩, RpL.ev (Ev.new hl) _ _ h3⟩ (rm.new hl) (Ev.new hl)⟩
    · exact o.elim
  · exact o.elim
theorem kD_rp {K : PySem.W.Frag} {M : MH} {H : Hp} : ∀ k : Key, Rp K M H (kD k) (kV k)
  | .inl i => rfl
  | .inr x => rfl
theorem kDs_rp {K : PySem.W.Frag} {M : MH} {H : Hp} : ∀ ks : List Key, RpL K M H (ks.map kD) (ks.map kV)
  | [] => rfl
  | k :: r => ⟨_, _, rfl, kD_rp k, kDs_rp r⟩
theorem keys_rp {K : PySem.W.Frag} {M : MH} {H : Hp} (rm : RM K M H) : ∀ {ps : List (List Key × V)} {bs : List Addr} {kvs : List (List Key × D)}, IsKeys H ps bs → ps.map (·.1) = kvs.map (·.1) → RpL K M H (kvs.map fun kv => D.tup (kv.1.map kD)) (bs.map V.ref)
  | [], bs, kvs, h, e => by
    cases h
    have : kvs = [] := by simpa using e.symm
    subst this; rfl
  | p :: ps, bs, [], h, e => by simp at e
  | p :: ps, bs, kv :: kvs, h, e => by
    rw [List.map_cons, List.map_cons] at e
    obtain ⟨e1, e2⟩ := List.cons.inj e
    cases h with
    | cons h1 h2 =>
      rename_i b bs'
      refine ⟨.ref b, bs'.map V.ref, rfl, ⟨b, _, rfl, ⟨?_, h1⟩, by rw [e1]; exact kDs_rp _⟩, keys_rp rm h2 e2⟩
      cases q : M b with
      | none => rfl
      | some o =>
        exfalso
        have z := rm b o q
        cases o with
        | lst ds => obtain ⟨vs, z, _⟩ := z; rw [h1] at z; cases z
        | dK ds => obtain ⟨vs, z, _⟩ := z; rw [h1] at z; cases z
        | dT ds => obtain ⟨vs, z, _⟩ := z; rw [h1] at z; cases z
        | ins C fs => obtain ⟨dx, vs, z, _⟩ := z; rw [h1] at z; cases z
theorem keysK_rp {K : PySem.W.Frag} {M : MH} {H : Hp} : ∀ {ps : List (Key × V)} {kvs : List (Key × D)}, ps.map (·.1) = kvs.map (·.1) → RpL K M H (kvs.map fun kv => kD kv.1) (ps.map fun kv => kV kv.1)
  | [], kvs, e => by
    have : kvs = [] := by simpa using e.symm
    subst this; rfl
  | p :: ps, [], e => by simp at e
  | p :: ps, kv :: kvs, e => by
    rw [List.map_cons, List.map_cons] at e
    obtain ⟨e1, e2⟩ := List.cons.inj e
    refine ⟨_, _, rfl, ?_, keysK_rp e2⟩
    show Rp K M H (kD kv.1) (kV p.1)
    rw [e1]; exact kD_rp _
theorem zc_lst (hcalm : X.calm = true) (m : Bool) : CallR X (.type "list") (LOL X.K (c1 (lstA m))) := cimp (CallR.or call_list_of (CallR.or (call_list_dT hcalm) (call_listD hcalm))) fun xs H Q h => by
  obtain ⟨x, rfl, d, M, Q3, r1, rm, o, c⟩ := lol1 h
  unfold lstA at o
  split at o
  · rename_i e1
    obtain ⟨a, vs, h1, h2, h3⟩ := seqM_sq rm e1 r1
    subst h1
    exact .inl ⟨a, vs, rfl, h2, fun l hl => resL_cv o rm h3 hl c⟩
  · split at o
    · rename_i kvs e1
      obtain ⟨a, vs, h1, h2, h3⟩ := asD_h rm e1 r1
      subst h1
      have hl : (kvs.map (·.1)).length = vs.length := by rw [h3.length]; simp
      exact .inr (.inl ⟨a, _, rfl, h2, fun p bs hp hk => resL_cv o rm (keys_rp rm hk (by rw [List.map_fst_zip (Nat.le_of_eq hl)])) hp c⟩)
    · split at o
      · rename_i kvs e1
        obtain ⟨a, vs, h1, h2, h3⟩ := asK_h rm e1 r1
        subst h1
        have hl : (kvs.map (·.1)).length = vs.length := by rw [h3.length]; simp
        exact .inr (.inr ⟨a, _, rfl, h2, fun p hp => resL_cv o rm (keysK_rp (by rw [List.map_fst_zip (Nat.le_of_eq hl)])) hp c⟩)
      · exact o.elim
end
/-! ### sorted(a list) -/
def leS (a b : D) : Bool := !PySem.W.dataLt (toPy b) (toPy a)
def sortD (ds : List D) : List D := ds.mergeSort leS
def sortOk (ds : List D) : Prop := (∀ d ∈ ds, ∀ e ∈ ds, likeD d e = true) ∧ (∀ d ∈ ds, pd 60 d = true) ∧ ((∀ d ∈ ds, ∃ k x r, d = .tp k (x :: r)) ∨ ∀ d ∈ ds, d ≠ .non ∧ ∀ k xs, d ≠ .tp k xs)
def srtA : O1 := fun d M Q => match asL M d with
  | some ds => sortOk ds ∧ Q (.lst (sortD ds)) M
  | none => False
section
variable {X : Cx}
theorem toPy_mem : ∀ {ds : List D} {z : PyData}, z ∈ ds.map toPy → ∃ d ∈ ds, toPy d = z := fun h => by
  obtain ⟨d, h1, h2⟩ := List.mem_map.mp h
  exact ⟨d, h1, h2⟩
theorem each_rp {M : MH} {H : Hp} : ∀ {ds : List D} {vs : List V} {us : List Value}, RpL X.K M H ds vs → Vals vs us → PySem.W.EachIs (fun (u : Value) (d : D) => ∃ v, RelV v u ∧ Rp X.K M H d v) us ds
  | [], vs, us, h, r => by
    have h : vs = [] := h
    subst h
    cases r
    exact .nil
  | d :: ds, vs, us, h, r => by
    obtain ⟨v, w, h1, h2, h3⟩ := h
    subst h1
    cases r with
    | cons r1 r2 => exact .cons ⟨v, r1, h2⟩ (each_rp h3 r2)
theorem of_each {M : MH} {H : Hp} : ∀ {ds : List D} {us : List Value}, PySem.W.EachIs (fun (u : Value) (d : D) => ∃ v, RelV v u ∧ Rp X.K M H d v) us ds → ∃ vs, RpL X.K M H ds vs ∧ Vals vs us
  | _, _, .nil => ⟨[], rfl, .nil⟩
  | d :: ds, u :: us, .cons h t => by
    obtain ⟨v, h1, h2⟩ := h
    obtain ⟨vs, g1, g2⟩ := of_each t
    exact ⟨v :: vs, ⟨v, vs, rfl, h2, g1⟩, .cons h1 g2⟩
theorem each_map {α β γ : Type} {R : α → γ → Prop} (f : β → γ) : ∀ {as : List α} {bs : List β}, PySem.W.EachIs (fun a b => R a (f b)) as bs → PySem.W.EachIs R as (bs.map f)
  | _, _, .nil => .nil
  | _, _, .cons h t => .cons h (each_map f t)
theorem each_and {α β : Type} {R : α → β → Prop} {P : β → Prop} : ∀ {as : List α} {bs : List β}, PySem.W.EachIs R as bs → (∀ b ∈ bs, P b) → PySem.W.EachIs (fun a b => R a b ∧ P b) as bs
  | _, _, .nil, _ => .nil
  | _, _, .cons h t, p => .cons ⟨h, p _ (by simp)⟩ (each_and t fun b hb => p b (by simp [hb]))
theorem reads_of {pins : List (Addr × Obj)} {σ : L2.St} {H : Hp} {s : Shared} {M : MH} (I : Inv X pins σ H s) {d : D} {u : Value} (h : (∃ v, RelV v u ∧ Rp X.K M H d v) ∧ pd 60 d = true) : ∃ as, Reads s.heap u (toPy d) as := by
  obtain ⟨⟨v, h1, h2⟩, h3⟩ := h
  exact Dp.reads I _ v u (Rp.dp 60 d v h2 h3) h1
theorem zc_srt (hu : X.A.units + 100 < cLine) : CallR X (.builtin "sorted") (LOL X.K (c1 srtA)) := by
  intro pins s σ H xs us Q I r h
  obtain ⟨x, rfl, d, M, Q3, r1, rm, o, c⟩ := lol1 h
  unfold srtA at o
  split at o
  · rename_i ds e1
    obtain ⟨⟨k1, k2, k3⟩, o⟩ := o
    obtain ⟨a, vs, h1, h2, h3⟩ := asL_sq rm e1 r1
    subst h1
    obtain ⟨its, rv, pl, hz⟩ := I.list h2
    rw [Vals.ref1 r]
    have each := each_rp h3 rv
    -- the state in which it is sorted
    have keep : ∀ b ob, s.heap.get? b = some ob → (PySem.W.sortingHeap (PySem.W.copyHeap s.heap its) (s.heap.objs.size + 1) its).get? b = some ob := fun b ob e => PySem.W.sorting_copy_old e
    have I2 : Inv X pins σ H { s with heap := PySem.W.sortingHeap (PySem.W.copyHeap s.heap its) (s.heap.objs.size + 1) its } := I.kept (t' := s.toks) keep
    have hal : PySem.W.AllAlike (ds.map toPy) := fun z hz z' hz' => by
      obtain ⟨d1, g1, rfl⟩ := toPy_mem hz
      obtain ⟨d2, g2, rfl⟩ := toPy_mem hz'
      exact like_py _ _ (k1 d1 g1 d2 g2)
    have er := each_map (R := fun (u : Value) (p : PyData) => ∃ as, Reads (PySem.W.sortingHeap (PySem.W.copyHeap s.heap its) (s.heap.objs.size + 1) its) u p as) toPy ((each_and each k2).mono fun u d h => reads_of I2 h)
    have S := PySem.W.SortsAt.data (prog := X.prog) (w := X.w) (A := X.A.in1.in1) (s := { s with heap := PySem.W.sortingHeap (PySem.W.copyHeap s.heap its) (s.heap.objs.size + 1) its }) er hal (by
      rcases k3 with k3 | k3
      · refine .inl fun z hz => ?_
        obtain ⟨d1, g1, rfl⟩ := toPy_mem hz
        obtain ⟨k, x, r, rfl⟩ := k3 d1 g1
        exact ⟨toPy x, toPyL r, by simp [toPy, toPyL]⟩
      · refine .inr fun z hz => ?_
        obtain ⟨d1, g1, rfl⟩ := toPy_mem hz
        obtain ⟨n1, n2⟩ := k3 d1 g1
        refine ⟨fun e => n1 ?_, fun xs e => ?_⟩
        · cases d1 <;> simp [toPy] at e
          rfl
        · cases d1 with
          | tp k es => exact n2 k es rfl
          | _ => simp [toPy] at e) (fun z hz => by
        obtain ⟨d1, g1, rfl⟩ := toPy_mem hz
        have := pd_depth 60 d1 (k2 d1 g1)
        show X.A.units + 1 + 1 + _ < cLine
        omega)
    have hlen := rv.length
    refine PySem.W.sorted_vals pl.isList S (by omega) ?_
    have out := PySem.W.sortVals_each (κ := PySem.W.dataKind (PySem.W.sortingHeap (PySem.W.copyHeap s.heap its) (s.heap.objs.size + 1) its) (ds.map toPy)) (rev := false) (fun d => PySem.W.keyToks (toPy d)) each
      ((each_and (each_and each k2) (P := fun d => d ∈ ds) fun b hb => hb).mono fun u d h => by
        obtain ⟨as, rd⟩ := reads_of I2 h.1
        exact PySem.W.dataKind_some hal (List.mem_map.mpr ⟨d, h.2, rfl⟩) rd)
    obtain ⟨ws, w1, w2⟩ := of_each out
    obtain ⟨ep, he'⟩ := PyProof.Rows.sortedAll_at s.heap its (PySem.W.sortVals (PySem.W.dataKind (PySem.W.sortingHeap (PySem.W.copyHeap s.heap its) (s.heap.objs.size + 1) its) (ds.map toPy)) false its its).toArray
    have wl : ws.length ≤ sizeLine := by
      rw [w1.length, (List.mergeSort_perm _ _).length_eq, ← h3.length]; exact hz
    have hf : H (s.heap.objs.size + 1) = none := I.hok.fresh (Nat.le_succ _)
    refine ⟨.ref _, upd H (s.heap.objs.size + 1) (.lst ws), I.laid (t' := s.toks) (fun _ _ => PyProof.Rows.sortedAll_old) (Nat.le_succ _) ⟨wl, _, ep, w2, he'⟩, rfl, ?_⟩
    exact c _ M _ _ o (Rp.lstNew rm hf w1) (rm.new hf) (Ev.new hf)
  · exact o.elim
end
/-! ### isinstance -/
inductive Ty where
  | tint | tbool | tstr | ttup | tlst
  deriving DecidableEq
def Ty.name : Ty → String
  | .tint => "int" | .tbool => "bool" | .tstr => "str" | .ttup => "tuple" | .tlst => "list"
def isTy (M : MH) (d : D) (T : Ty) : Option Bool := match d with
  | .non => some false
  | .bl _ => some (decide (T = .tbool ∨ T = .tint))
  | .int _ => some (decide (T = .tint))
  | .str _ => some (decide (T = .tstr))
  | .tp _ _ => some (decide (T = .ttup))
  | d => match asL M d with
    | some _ => some (decide (T = .tlst))
    | none => none
def isi3 (T : Ty) : O1 := fun d M Q => match isTy M d T with | some b => Q (.bl b) M | none => False
section
variable {X : Cx}
theorem kit_all : ∀ T : Ty, kitB "NoneType" T.name = some false ∧ kitB "bool" T.name = some (decide (T = .tbool ∨ T = .tint)) ∧ kitB "int" T.name = some (decide (T = .tint)) ∧ kitB "str" T.name = some (decide (T = .tstr)) ∧ kitB "tuple" T.name = some (decide (T = .ttup)) ∧ kitB "list" T.name = some (decide (T = .tlst)) := by
  intro T
  cases T <;> decide +kernel
theorem z_isi {K : PySem.W.Frag} {M0 : MH} {H0 : Hp} (hK : X.K = K) {T : Ty} {e : Expr} {te : T3} {p p2 pos : Pos} {tn : Str} (hg : Gl X "isinstance") (hm : X.mg "isinstance" = none) (hgT : Gl X tn) (hmT : X.mg tn = none) (hT : bootBuiltins tn = some (.type T.name)) (hn : tn ≠ "__name__") (hd : (tn == ("__debug__" : Str)) = false)
    (he : PE X e (LE K M0 H0 te)) (hs : starEach [e, .Name tn p2] X.env = [(false, eval e X.env), (false, eval (.Name tn p2) X.env)]) (hp1 : starEach [.Name tn p2] X.env = [(false, eval (.Name tn p2) X.env)]) : PE X (.Call (.Name "isinstance" p) [e, .Name tn p2] [] pos) (LE K M0 H0 (op1 (isi3 T) te)) := by
  subst hK
  have ha : PA X [e, .Name tn p2] (tCons (LE X.K M0 H0 te) (tCons (tC (.ty T.name)) tNil)) := pa_cons he (pa_cons (pe_bltn hgT hmT hT rfl hn hd) pa_nil) (by rw [hs, hp1])
  refine (pe_callB call_isi hg hm (by decide +kernel) ha (by decide) (by decide) (by rw [hs, hp1]) (by rw [hp1]; rfl)).imp fun σ H Q ⟨en, M, P, rs, rm, ev, t, c⟩ => ?_
  refine LE.then rs rm ev t fun d M1 v1 H1 t1 r1 rs1 rm1 ev1 e1 => ?_
  unfold isi3 at t1
  split at t1
  · rename_i b q
    refine ⟨v1, .ty T.name, ?_⟩
    obtain ⟨k1, k2, k3, k4, k5, k6⟩ := kit_all T
    have fin : ∀ {t : String} {b' : Bool}, kitB t T.name = some b' → b = b' → TyX X.K H1 v1 (.type t) → ∃ (t u : Value) (b : Bool), [v1, V.ty T.name] = [v1, .ty T.name] ∧ ClsV (.ty T.name) u ∧ TyX X.K H1 v1 t ∧ PySem.W.kitOne X.K t u = some b ∧ Q (.bl b) H1 := fun {t b'} k e z =>
      ⟨.type t, .type T.name, b', rfl, .ty _, z, kit_ty k, by rw [← e]; exact c _ M1 _ H1 t1 rfl rm1 e1⟩
    have lst : ∀ {ds : List D}, asL M1 d = some ds → TyX X.K H1 v1 (.type "list") := fun {ds} e => by
      obtain ⟨a, vs, h1, h2, h3⟩ := asL_sq rm1 e r1
      subst h1
      rcases h2 with (h2 | ⟨ob, h2⟩) | ⟨o, its, n, h2, h4, _⟩
      · exact .base (.lst h2)
      · exact .base (.frz h2)
      · exact .kList h2 h4
    unfold isTy at q
    split at q
    · have q := Option.some.inj q
      have r1 := show v1 = _ from r1
      subst r1
      exact fin k1 q.symm (.base .non)
    · have q := Option.some.inj q
      have r1 := show v1 = _ from r1
      subst r1
      exact fin k2 q.symm (.base (.bl _))
    · have q := Option.some.inj q
      have r1 := show v1 = _ from r1
      subst r1
      exact fin k3 q.symm (.base (.int _))
    · have q := Option.some.inj q
      have r1 := show v1 = _ from r1
      subst r1
      exact fin k4 q.symm (.base (.str _))
    · have q := Option.some.inj q
      rename_i k _ _
      obtain ⟨a, vs, h1, h2, h3⟩ := r1
      subst h1
      refine fin k5 q.symm ?_
      cases k with
      | t => exact .base (.tup h2.2)
      | s =>
        obtain ⟨o, its, n, g1, g2, _⟩ := h2
        exact .kTuple g1 g2
      | k =>
        obtain ⟨o, g1, g2, _⟩ := h2
        exact .fTuple g2
    · split at q
      · rename_i e2
        have q := Option.some.inj q
        exact fin k6 q.symm (lst e2)
      · cases q
  · exact t1.elim
end
/-! ### a call of a built-in by its name -/
section
variable {X : Cx} {K : PySem.W.Frag} {M0 : MH} {H0 : Hp}
def opL (o : OL) (t : TL3) : T3 := fun e M Q => t e M fun ds M1 => o ds M1 Q
theorem z_callB {id : String} {o : OL} {x : Str} {e : Expr} {es : List Expr} {t : TL3} {p pos : Pos} (hc : CallR X (.builtin id) (LOL K o)) (hg : Gl X x) (hm : X.mg x = none) (hv : bootBuiltins x = some (.builtin id)) (ha : PA X (e :: es) (LA K M0 H0 t))
    (hn : x ≠ "__name__") (hdb : (x == ("__debug__" : Str)) = false) (he : starEach (e :: es) X.env = (false, eval e X.env) :: starEach es X.env) (hpl : (backTo pos (starEach es X.env)).any (·.1) = false) : PE X (.Call (.Name x p) (e :: es) [] pos) (LE K M0 H0 (opL o t)) :=
  (pe_callB hc hg hm hv ha hn hdb he hpl).imp fun σ H Q ⟨en, M, P, rs, rm, ev, t', c⟩ => LA.then rs rm ev t' fun ds M1 vs H1 t1 r1 rs1 rm1 ev1 e1 => ⟨ds, M1, P, r1, rm1, t1, c.from e1⟩
theorem z_callTy {T : String} {o : OL} {x : Str} {e : Expr} {es : List Expr} {t : TL3} {p pos : Pos} (hc : CallR X (.type T) (LOL K o)) (hg : Gl X x) (hm : X.mg x = none) (hv : bootBuiltins x = some (.type T)) (ha : PA X (e :: es) (LA K M0 H0 t))
    (hn : x ≠ "__name__") (hdb : (x == ("__debug__" : Str)) = false) (he : starEach (e :: es) X.env = (false, eval e X.env) :: starEach es X.env) (hpl : (backTo pos (starEach es X.env)).any (·.1) = false) : PE X (.Call (.Name x p) (e :: es) [] pos) (LE K M0 H0 (opL o t)) :=
  (pe_callTy hc hg hm hv ha hn hdb he hpl).imp fun σ H Q ⟨en, M, P, rs, rm, ev, t', c⟩ => LA.then rs rm ev t' fun ds M1 vs H1 t1 r1 rs1 rm1 ev1 e1 => ⟨ds, M1, P, r1, rm1, t1, c.from e1⟩
end
end Z

namespace Z
open PySem PySem.Spec PyProof.Rows L2

structure Ends3 where
  nx : En → MH → Prop
  rt : Q3
  bk : En → MH → Prop
  ct : En → MH → Prop
abbrev TS3 := Ends3 → En → MH → Prop
section
variable (K : PySem.W.Frag) (M0 : MH) (H0 : Hp)
def CvE (M : MH) (H : Hp) (q : En → MH → Prop) (Q : L2.St → Hp → Prop) : Prop := ∀ e' M' σ' H', q e' M' → RS K M' H' e' σ' → RM K M' H' → Ev M H M' H' → Q σ' H'
structure CvS (M : MH) (H : Hp) (D3 : Ends3) (D : Ends) : Prop where
  nx : CvE K M H D3.nx D.nx
  rt : Cv K M H D3.rt D.rt
  bk : CvE K M H D3.bk D.bk
  ct : CvE K M H D3.ct D.ct
def LS (t : TS3) : TS := fun D σ H => ∃ e M D3, RS K M H e σ ∧ RM K M H ∧ Ev M0 H0 M H ∧ t D3 e M ∧ CvS K M H D3 D
variable {K M0 H0}
theorem CvE.from {M M1 : MH} {H H1 : Hp} {q : En → MH → Prop} {Q : L2.St → Hp → Prop} (c : CvE K M H q Q) (e : Ev M H M1 H1) : CvE K M1 H1 q Q := fun e' M' σ' H' h r m e2 => c e' M' σ' H' h r m (e.trans e2)
theorem CvS.from {M M1 : MH} {H H1 : Hp} {D3 : Ends3} {D : Ends} (c : CvS K M H D3 D) (e : Ev M H M1 H1) : CvS K M1 H1 D3 D := ⟨c.nx.from e, c.rt.from e, c.bk.from e, c.ct.from e⟩
section
variable {X : Cx} {st : Stmt} {rest : List Stmt} {t u : TS3} {e : Expr} {te : T3} {pos : Pos}
def next3 : TS3 := fun D e M => D.nx e M
def seq3 (t u : TS3) : TS3 := fun D e M => t { D with nx := u D } e M
theorem z_snil : PSs X [] (LS K M0 H0 next3) := pss_nil.imp fun D σ H ⟨e, M, D3, rs, rm, ev, t, c⟩ => c.nx e M σ H t rs rm (Ev.refl _ _)
theorem z_scons (h1 : PS X st (LS K M0 H0 t)) (h2 : PSs X rest (LS K M0 H0 u)) : PSs X (st :: rest) (LS K M0 H0 (seq3 t u)) :=
  (pss_cons h1 h2).imp fun D σ H ⟨e, M, D3, rs, rm, ev, t, c⟩ => ⟨e, M, { D3 with nx := u D3 }, rs, rm, ev, t,
    ⟨fun e' M' σ' H' h r m e2 => ⟨e', M', D3, r, m, ev.trans e2, h, c.from e2⟩, c.rt, c.bk, c.ct⟩⟩
/-- a step in the proof alone -/
theorem z_ghost {g : TS3} (h : PSs X rest (LS K M0 H0 t)) (f : ∀ D e M σ H, RS K M H e σ → RM K M H → g D e M → ∃ e' M', RS K M' H e' σ ∧ RM K M' H ∧ Ev M H M' H ∧ t D e' M') : PSs X rest (LS K M0 H0 g) :=
  h.imp fun D σ H ⟨e, M, D3, rs, rm, ev, q, c⟩ => by
    obtain ⟨e', M', rs', rm', ev', q'⟩ := f D3 e M σ H rs rm q
    exact ⟨e', M', D3, rs', rm', ev.trans ev', q', c.from ev'⟩
def brk3 : TS3 := fun D e M => D.bk e M
def cnt3 : TS3 := fun D e M => D.ct e M
theorem z_pass : PS X (.Pass pos) (LS K M0 H0 next3) := ps_pass.imp fun D σ H ⟨e, M, D3, rs, rm, ev, t, c⟩ => c.nx e M σ H t rs rm (Ev.refl _ _)
theorem z_break : PS X (.Break pos) (LS K M0 H0 brk3) := ps_break.imp fun D σ H ⟨e, M, D3, rs, rm, ev, t, c⟩ => c.bk e M σ H t rs rm (Ev.refl _ _)
theorem z_cont : PS X (.Continue pos) (LS K M0 H0 cnt3) := ps_continue.imp fun D σ H ⟨e, M, D3, rs, rm, ev, t, c⟩ => c.ct e M σ H t rs rm (Ev.refl _ _)
def drop3 (te : T3) : TS3 := fun D e M => te e M fun _ M1 => D.nx e M1
theorem z_expr (he : PE X e (LE K M0 H0 te)) (hs : swapsWith e none pos.line X.env = pure false) : PS X (.Expr e pos) (LS K M0 H0 (drop3 te)) :=
  (ps_expr he hs).imp fun D σ H ⟨en, M, D3, rs, rm, ev, t, c⟩ => LE.then rs rm ev t fun d M1 v1 H1 t1 r1 rs1 rm1 ev1 e1 => c.nx en M1 σ H1 t1 rs1 rm1 e1
def ret3 (te : T3) : TS3 := fun D e M => te e M D.rt
theorem z_ret (he : PE X e (LE K M0 H0 te)) : PS X (.Return (some e) pos) (LS K M0 H0 (ret3 te)) :=
  (ps_ret he).imp fun D σ H ⟨en, M, D3, rs, rm, ev, t, c⟩ => ⟨en, M, D3.rt, rs, rm, ev, t, c.rt⟩
def retN3 : TS3 := fun D _ M => D.rt .non M
theorem z_retN : PS X (.Return none pos) (LS K M0 H0 retN3) := ps_retN.imp fun D σ H ⟨en, M, D3, rs, rm, ev, t, c⟩ => c.rt.now rm t rfl
def if3 (c : TB3) (t u : TS3) : TS3 := fun D e M => c e M fun b M1 => match b with | true => t D e M1 | false => u D e M1
theorem z_if {c : Expr} {a b : List Stmt} {tc : TB3} (hc : PT X c (LT K M0 H0 tc)) (ha : PSs X a (LS K M0 H0 t)) (hb : PSs X b (LS K M0 H0 u)) : PS X (.If c a b pos) (LS K M0 H0 (if3 tc t u)) :=
  (ps_if hc ha hb).imp fun D σ H ⟨en, M, D3, rs, rm, ev, t, c⟩ => LT.then rs rm ev t fun d M1 H1 t1 rs1 rm1 ev1 e1 => by
    cases d with
    | true => rw [if_pos rfl]; exact ⟨en, M1, D3, rs1, rm1, ev1, t1, c.from e1⟩
    | false => rw [if_neg Bool.false_ne_true]; exact ⟨en, M1, D3, rs1, rm1, ev1, t1, c.from e1⟩
/-! ### targets of names -/
inductive Tg where
  | nm (i : Nat)
  | tp (is : List Nat)
def setAll : En → List Nat → List D → Option En
  | e, [], [] => some e
  | e, i :: is, d :: ds => setAll (setE e i d) is ds
  | _, _, _ => none
def bindT : Tg → D → En → Option En
  | .nm i, d, e => some (setE e i d)
  | .tp is, d, e => match asT d with
    | some ds => setAll e is ds
    | none => none
def gNames : List Nat → TGs
  | [] => gNil
  | i :: is => gCons (gName i) (gNames is)
def gOf (K : PySem.W.Frag) : Tg → TG
  | .nm i => gName i
  | .tp is => gTup K is.length (gNames is)
def Tg.slots : Tg → List Nat
  | .nm i => [i]
  | .tp is => is
/-- the slots that change -/
def setV : L2.St → List Nat → List V → L2.St
  | σ, i :: is, v :: vs => setV (σ.set i (some v)) is vs
  | σ, _, _ => σ
theorem gNames_ok {M : MH} {H : Hp} : ∀ {is : List Nat} {ds : List D} {vs : List V} {e e' : En} {σ : L2.St} {Q : L2.St → Hp → Prop}, setAll e is ds = some e' → RpL K M H ds vs → RS K M H e σ → (RS K M H e' (setV σ is vs) → Q (setV σ is vs) H) → gNames is vs σ H Q
  | [], [], vs, e, e', σ, Q, h, r, rs, q => by
    have r : vs = [] := r
    subst r
    obtain rfl := Option.some.inj h
    exact ⟨rfl, q rs⟩
  | [], _ :: _, _, _, _, _, _, h, _, _, _ => by simp [setAll] at h
  | _ :: _, [], _, _, _, _, _, h, _, _, _ => by simp [setAll] at h
  | i :: is, d :: ds, vs, e, e', σ, Q, h, r, rs, q => by
    obtain ⟨v, w, h1, h2, h3⟩ := r
    subst h1
    exact ⟨v, w, rfl, gNames_ok (e := setE e i d) (by simpa [setAll] using h) h3 (rs.set i h2) q⟩
theorem setAll_len : ∀ {is : List Nat} {ds : List D} {e e' : En}, setAll e is ds = some e' → is.length = ds.length
  | [], [], _, _, _ => rfl
  | [], _ :: _, _, _, h => by simp [setAll] at h
  | _ :: _, [], _, _, h => by simp [setAll] at h
  | i :: is, d :: ds, e, e', h => by
    have := setAll_len (is := is) (ds := ds) (e := setE e i d) (e' := e') (by simpa [setAll] using h)
    simp [this]
/-- binding: the slots of the target are set -/
theorem gOf_ok {M : MH} {H : Hp} {tg : Tg} {d : D} {v : V} {e e' : En} {σ : L2.St} {Q : L2.St → Hp → Prop} (h : bindT tg d e = some e') (r : Rp K M H d v) (rs : RS K M H e σ)
    (q : ∀ vs, RS K M H e' (setV σ tg.slots vs) → Q (setV σ tg.slots vs) H) : gOf K tg v σ H Q := by
  cases tg with
  | nm i =>
    obtain rfl := Option.some.inj h
    exact q [v] (rs.set i r)
  | tp is =>
    dsimp only [bindT] at h
    split at h
    · rename_i ds e1
      obtain ⟨a, vs, h1, h2, h3⟩ := asT_sq e1 r
      exact ⟨a, vs, h1, h2, by rw [h3.length, setAll_len h], gNames_ok h h3 rs (q vs)⟩
    · cases h
theorem wipe_get : ∀ (vs : List Nat) (σ : L2.St) (i : Nat), (wipe σ vs)[i]? = if i ∈ vs ∧ i < σ.length then some none else σ[i]?
  | [], σ, i => by simp [wipe]
  | v :: vs, σ, i => by
    unfold wipe
    by_cases e : v = i
    · subst e
      by_cases hl : v < σ.length
      · rw [List.getElem?_set_self (by rw [wipe_length]; exact hl)]
        simp [hl]
      · rw [List.getElem?_eq_none (by rw [List.length_set, wipe_length]; omega)]
        simp [hl]
    · rw [List.getElem?_set_ne e, wipe_get vs σ i]
      have : i ∈ v :: vs ↔ i ∈ vs := by simp [Ne.symm e]
      simp only [this]
theorem wipe_set {vs : List Nat} {σ : L2.St} {i : Nat} {o : Option V} (h : i ∈ vs) : wipe (σ.set i o) vs = wipe σ vs := by
  refine List.ext_getElem? fun j => ?_
  rw [wipe_get, wipe_get, List.length_set]
  by_cases e : j = i
  · subst e
    by_cases hl : j < σ.length
    · rw [if_pos ⟨h, hl⟩, if_pos ⟨h, hl⟩]
    · rw [if_neg (fun z => hl z.2), if_neg (fun z => hl z.2), List.getElem?_eq_none (by rw [List.length_set]; omega), List.getElem?_eq_none (by omega)]
  · rw [List.getElem?_set_ne (Ne.symm e)]
theorem wipe_setV {vs : List Nat} : ∀ (is : List Nat) (σ : L2.St) (ws : List V), (∀ i ∈ is, i ∈ vs) → wipe (setV σ is ws) vs = wipe σ vs
  | [], σ, ws, _ => by cases ws <;> rfl
  | i :: is, σ, [], _ => rfl
  | i :: is, σ, w :: ws, h => by
    show wipe (setV (σ.set i (some w)) is ws) vs = _
    rw [wipe_setV is _ ws fun j hj => h j (by simp [hj]), wipe_set (h i (by simp))]
theorem wipe_wipe {vs : List Nat} {σ : L2.St} : wipe (wipe σ vs) vs = wipe σ vs := by
  refine List.ext_getElem? fun j => ?_
  rw [wipe_get, wipe_length, wipe_get]
  by_cases h : j ∈ vs ∧ j < σ.length
  · simp only [if_pos h]
  · simp only [if_neg h]
/-! ### assignments -/
def asg3 (te : T3) (tg : Tg) : TS3 := fun D e M => te e M fun d M1 => match bindT tg d e with | some e' => D.nx e' M1 | none => False
theorem z_asg {target : Expr} {tg : Tg} (he : PE X e (LE K M0 H0 te)) (hg : PG X target (gOf K tg)) (hs : swapsWithSole [target] e pos.line X.env = pure false) (hw : swappedStores [target] e X.env = pure none)
    (h1 : (assignEach [target] X.env).map (·.2) = [assign target X.env]) : PS X (.Assign [target] e pos) (LS K M0 H0 (asg3 te tg)) :=
  (ps_asg he hg hs hw h1).imp fun D σ H ⟨en, M, D3, rs, rm, ev, t, c⟩ => LE.then rs rm ev t fun d M1 v1 H1 t1 r1 rs1 rm1 ev1 e1 => by
    split at t1
    · rename_i e' eb
      exact gOf_ok eb r1 rs1 fun vs r => c.nx _ M1 _ H1 t1 r rm1 e1
    · exact t1.elim
theorem z_set {i : Nat} {x : Str} {pos' : Pos} (hN : X.N.Nodup) (hi : X.N[i]? = some x) (hx : Loc X.env.scope x) (he : PE X e (LE K M0 H0 te)) (hs : swapsWith e (some (.Name x pos')) pos.line X.env = pure false) (hf : X.fn x = true ∨ X.env.scope.names.lookup x = some .local) :
    PS X (.Assign [.Name x pos'] e pos) (LS K M0 H0 (asg3 te (.nm i))) :=
  (ps_set hN hi hx he hs hf).imp fun D σ H ⟨en, M, D3, rs, rm, ev, t, c⟩ => LE.then rs rm ev t fun d M1 v1 H1 t1 r1 rs1 rm1 ev1 e1 => c.nx _ M1 _ H1 t1 (rs1.set i r1) rm1 e1
/-- a, b = x, y -/
def par3 (i j : Nat) (ta : TL3) : TS3 := fun D e M => ta e M fun ds M1 => match ds with
  | [d, d'] => D.nx (setE (setE e i d) j d') M1
  | _ => False
theorem z_par {i j : Nat} {x y : Str} {a b : Expr} {ta : TL3} {px py pt : Pos} {kt k2 pt2} (hc : X.calm = true) (hN : X.N.Nodup) (hi : X.N[i]? = some x) (hj : X.N[j]? = some y) (hij : i ≠ j)
    (hx : X.env.scope.names.lookup x = some .local) (hy : X.env.scope.names.lookup y = some .local) (ha : PA X [a, b] (LA K M0 H0 ta))
    (hw : swappedStores [.Tuple [.Name x px, .Name y py] kt pt] (.Tuple [a, b] k2 pt2) X.env = pure (some [x, y])) :
    PS X (.Assign [.Tuple [.Name x px, .Name y py] kt pt] (.Tuple [a, b] k2 pt2) pos) (LS K M0 H0 (par3 i j ta)) :=
  (ps_par hc hN hi hj hij hx hy ha hw rfl).imp fun D σ H ⟨en, M, D3, rs, rm, ev, t, c⟩ => LA.then rs rm ev t fun ds M1 vs H1 t1 r1 rs1 rm1 ev1 e1 => by
    split at t1
    · obtain ⟨v, w, h1, h2, h3⟩ := r1
      obtain ⟨v', w', g1, g2, g3⟩ := h3
      have g3 : w' = [] := g3
      subst g3 g1 h1
      exact ⟨v, v', rfl, c.nx _ M1 _ H1 t1 ((rs1.set i h2).set j g2) rm1 e1⟩
    · exact t1.elim
/-! ### o[i] = v -/
def put3 (M : MH) (o i v : D) : Option MH := match o with
  | .ref a => match M a with
    | some (.lst ds) => match i with
      | .int k => match ixN ds.length k with
        | some j => some (up M a (.lst (ds.set j v)))
        | none => none
      | _ => none
    | some (.dK kvs) => match keyK i with
      | some k => if kvs.length < sizeLine then some (up M a (.dK (putD kvs k v))) else none
      | none => none
    | some (.dT kvs) => match keyT i with
      | some k => if kvs.length < sizeLine then some (up M a (.dT (putD kvs k v))) else none
      | none => none
    | _ => none
  | _ => none
def LSet (K : PySem.W.Frag) : TSet := fun o i v H Q => ∃ d1 d2 d3 M M', Rp K M H d1 o ∧ Rp K M H d2 i ∧ Rp K M H d3 v ∧ RM K M H ∧ put3 M d1 d2 d3 = some M' ∧ ∀ H', RM K M' H' → Ev M H M' H' → Q H'
theorem seti (hu : X.A.units + 1 < cLine) : PSet X (LSet X.K) := by
  intro pins s σ H o i v ov iv u Q I ro ri rv ⟨d1, d2, d3, M, M', r1, r2, r3, rm, e, q⟩
  unfold put3 at e
  split at e
  · rename_i a
    have ea : o = .ref a := r1
    subst ea
    split at e
    · rename_i ds em
      split at e
      · rename_i k
        split at e
        · rename_i j ej
          obtain rfl := Option.some.inj e
          obtain ⟨vs, g1, g2⟩ := rm a _ em
          refine set_list pins s σ H _ _ _ ov iv u Q I ro ri rv ⟨a, vs, k, j, rfl, r2, g1, by rw [g2.length]; exact ej, q _ ?_ (Ev.wr em)⟩
          exact rm.wr em ⟨_, upd_same, (RpL.ev (Ev.wr em) _ _ g2).set (Rp.ev (Ev.wr em) _ _ r3) j⟩
        · cases e
      · cases e
    · rename_i kvs em
      split at e
      · rename_i k ek
        split at e
        · rename_i hz
          obtain rfl := Option.some.inj e
          obtain ⟨vs, g1, g2⟩ := rm a _ em
          have hk := keyK_v ek r2
          subst hk
          obtain ⟨ws, w1, w2⟩ := put_rp (k := k) r3 g2
          refine set_dict hu pins s σ H _ _ _ ov iv u Q I ro ri rv ⟨a, _, rfl, DPut.k g1 ?_, q _ ?_ (Ev.wr em)⟩
          · rw [List.length_zip, List.length_map]; omega
          · refine rm.wr em ⟨ws, ?_, RpL.ev (Ev.wr em) _ _ w2⟩
            rw [upd_same, w1]
        · cases e
      · cases e
    · rename_i kvs em
      split at e
      · rename_i k ek
        split at e
        · rename_i hz
          obtain rfl := Option.some.inj e
          obtain ⟨vs, g1, g2⟩ := rm a _ em
          cases d2 with
          | tp tk es =>
            cases tk with
            | s => simp [keyT] at ek
            | k => simp [keyT] at ek
            | t =>
            obtain ⟨b, bs, b1, ⟨b2, b3⟩, b4⟩ := r2
            have hk := keysK_v ek b4
            subst hk b1
            obtain ⟨ws, w1, w2⟩ := put_rp (k := k) r3 g2
            refine set_dict hu pins s σ H _ _ _ ov iv u Q I ro ri rv ⟨a, _, rfl, DPut.t g1 b3 ?_, q _ ?_ (Ev.wr em)⟩
            · rw [List.length_zip, List.length_map]; omega
            · refine rm.wr em ⟨ws, ?_, RpL.ev (Ev.wr em) _ _ w2⟩
              rw [upd_same, w1]
          | _ => simp [keyT] at ek
        · cases e
      · cases e
    · cases e
  · cases e
def sput3 (to ti te : T3) : TS3 := fun D e M => te e M fun v M1 => to e M1 fun o M2 => ti e M2 fun i M3 => match put3 M3 o i v with | some M4 => D.nx e M4 | none => False
theorem z_sput {o i : Expr} {to ti : T3} {pos' : Pos} (hset : PSet X (LSet K)) (ho : PE X o (LE K M0 H0 to)) (hi : PE X i (LE K M0 H0 ti)) (he : PE X e (LE K M0 H0 te))
    (ha : ∀ v, assign (.Subscript o i pos') X.env v = (do
      let ov ← holding [v] (eval o X.env)
      let iv ← holding [v, ov] (eval i X.env)
      standAt pos'
      holding [v, ov, iv] (setItem ov iv v)
      release [v, ov, iv] []))
    (hs : swapsWithSole [.Subscript o i pos'] e pos.line X.env = pure false) (hw : swappedStores [.Subscript o i pos'] e X.env = pure none)
    (h1 : (assignEach [.Subscript o i pos'] X.env).map (·.2) = [assign (.Subscript o i pos') X.env]) : PS X (.Assign [.Subscript o i pos'] e pos) (LS K M0 H0 (sput3 to ti te)) :=
  (ps_asg he (pg_sub ho hi hset ha) hs hw h1).imp fun D σ H ⟨en, M, D3, rs, rm, ev, t, c⟩ => LE.then rs rm ev t fun v M1 v1 H1 t1 r1 rs1 rm1 ev1 e1 =>
    LE.then rs1 rm1 ev1 t1 fun o M2 v2 H2 t2 r2 rs2 rm2 ev2 e2 => LE.then rs2 rm2 ev2 t2 fun i M3 v3 H3 t3 r3 rs3 rm3 ev3 e3 => by
      split at t3
      · rename_i M4 e4
        exact ⟨o, i, v, M3, M4, Rp.ev e3 _ _ r2, r3, Rp.ev (e2.trans e3) _ _ r1, rm3, e4, fun H' rm' ev' => c.nx en M4 σ H' t3 (rs3.ev ev') rm' (e1.trans (e2.trans (e3.trans ev')))⟩
      · exact t3.elim
end
end
end Z

namespace Z
open PySem PySem.Spec PyProof.Rows L2

section
variable (K : PySem.W.Frag) (M0 : MH) (H0 : Hp)
structure WK (J : It) (items : List D) (M : MH) (H : Hp) : Prop where
  size : items.length ≤ sizeLine
  turn : ∀ M2 H2, Ev M H M2 H2 → RM K M2 H2 → ∀ i d, items[i]? = some d → J.go i H2 ∧ ∀ x H3, J.yld i H2 x H3 → Rp K M2 H3 d x ∧ RM K M2 H3 ∧ Ev M2 H2 M2 H3
  stop : ∀ M2 H2, Ev M H M2 H2 → RM K M2 H2 → J.stop items.length H2
def LI (t : TL3) : TI := fun σ H R => ∃ e M Q3, RS K M H e σ ∧ RM K M H ∧ Ev M0 H0 M H ∧ t e M Q3 ∧ ∀ items M' H' J, Q3 items M' → WK K J items M' H' → RM K M' H' → Ev M H M' H' → R J H'
end
def charsD (x : Str) : List D := x.cps.toList.map fun c => D.str ⟨#[c]⟩
def itemsA (d : D) : Option (List D) := match d with
  | .tp _ ds => some ds
  | .lst ds => some ds
  | .flst ds => some ds
  | .str x => if x.length ≤ sizeLine then some (charsD x) else none
  | _ => none
def iter3 (te : T3) : TL3 := fun e M Q => te e M fun d M1 => match itemsA d with | some ds => Q ds M1 | none => False
def rngD : Int → Nat → List D
  | _, 0 => []
  | lo, n + 1 => .int lo :: rngD (lo + 1) n
theorem rngD_len : ∀ (lo : Int) (n : Nat), (rngD lo n).length = n
  | _, 0 => rfl
  | lo, n + 1 => by show (rngD (lo + 1) n).length + 1 = n + 1; rw [rngD_len]
theorem rngD_get : ∀ (lo : Int) (n i : Nat), i < n → (rngD lo n)[i]? = some (.int (lo + i))
  | _, 0, _, h => by omega
  | lo, n + 1, 0, _ => by simp [rngD]
  | lo, n + 1, i + 1, h => by
    show (rngD (lo + 1) n)[i]? = _
    rw [rngD_get (lo + 1) n i (by omega)]
    congr 2
    omega
def rng1A : TL3 → TL3 := fun ta e M Q => ta e M fun ds M1 => match ds with
  | [.int j] => (-16777216 ≤ j ∧ j ≤ 16777216) ∧ Q (rngD 0 j.toNat) M1
  | _ => False
def rng2A : TL3 → TL3 := fun ta e M Q => ta e M fun ds M1 => match ds with
  | [.int i, .int j] => (-16777216 ≤ i ∧ i ≤ 16777216 ∧ -16777216 ≤ j ∧ j ≤ 16777216 ∧ j - i ≤ 16777216) ∧ Q (rngD i (j - i).toNat) M1
  | _ => False
def enumD : Nat → List D → List D
  | _, [] => []
  | i, d :: r => .tup [.int i, d] :: enumD (i + 1) r
theorem enumD_len : ∀ (i : Nat) (ds : List D), (enumD i ds).length = ds.length
  | _, [] => rfl
  | i, d :: r => by simp [enumD, enumD_len (i + 1) r]
theorem enumD_get : ∀ (i : Nat) (ds : List D) (j : Nat) (z : D), (enumD i ds)[j]? = some z → ∃ d, ds[j]? = some d ∧ z = .tup [.int ((i + j : Nat) : Int), d]
  | i, [], j, z, h => by simp [enumD] at h
  | i, d :: r, 0, z, h => by
    have h : D.tup [.int (i : Nat), d] = z := by simpa [enumD] using h
    exact ⟨d, rfl, by rw [← h]; rfl⟩
  | i, d :: r, j + 1, z, h => by
    obtain ⟨e, h1, h2⟩ := enumD_get (i + 1) r j z (by simpa [enumD] using h)
    refine ⟨e, by simpa using h1, ?_⟩
    rw [h2]
    have : i + 1 + j = i + (j + 1) := by omega
    rw [this]
def enumA : TL3 → TL3 := fun ta e M Q => ta e M fun ds M1 => match ds with
  | [d] => match exL M1 d with
    | some ds => (match d with | .ref _ => False | _ => True) ∧ ds.length ≤ sizeLine ∧ Q (enumD 0 ds) M1
    | none => False
  | _ => False
section
variable {K : PySem.W.Frag} {M0 : MH} {H0 : Hp} {X : Cx} {tg l : Expr} {te : T3} {tl : TL3}
/-- an iterator over a list that is read -/
theorem pie_list {pins : List (Addr × Obj)} {σ : L2.St} {H : Hp} {s : Shared} {R : It → Hp → Prop} {E : Value → Shared → Prop} {a : Addr} {xs : List V} (I : Inv X pins σ H s) (h : SqL X.K H a xs) (q : xs.length ≤ sizeLine → R (Itl X.K a) H) :
    wpAny (model X.prog X.w) X.A (pyIter (.ref a)) (PIE X pins σ tg R) E s := by
  obtain ⟨its, rv, p, hz⟩ := I.list h
  refine wpAny_pyIter_list p.isList ⟨s.heap.objs.size, [s.heap.objs.size], _, _, H, rfl, I.kept (t' := s.toks) fun b o e => Heap.get?_push_of_some _ e, turn_list a _, ⟨_, Heap.get?_push_size _ rfl, rfl, rfl⟩, fun b hb => ?_, q hz⟩
  rw [List.mem_singleton] at hb
  rw [hb]
  exact I.fpOk (Nat.le_refl _) (I.hok.fresh (Nat.le_refl _))
theorem pie_tup {pins : List (Addr × Obj)} {σ : L2.St} {H : Hp} {s : Shared} {R : It → Hp → Prop} {E : Value → Shared → Prop} {a : Addr} {xs : List V} (I : Inv X pins σ H s) (h : SqT X.K H a xs) (q : xs.length ≤ sizeLine → R (Itt X.K a) H) :
    wpAny (model X.prog X.w) X.A (pyIter (.ref a)) (PIE X pins σ tg R) E s := by
  obtain ⟨its, rv, p, hz⟩ := I.tuple h
  refine wpAny_pyIter_tuple (show s.heap.IsTuple a its.toArray from p) ⟨s.heap.objs.size, [s.heap.objs.size], _, _, H, rfl, I.kept (t' := s.toks) fun b o e => Heap.get?_push_of_some _ e, turn_tuple a _, ⟨_, Heap.get?_push_size _ rfl, rfl, rfl⟩, fun b hb => ?_, q hz⟩
  rw [List.mem_singleton] at hb
  rw [hb]
  exact I.fpOk (Nat.le_refl _) (I.hok.fresh (Nat.le_refl _))
theorem pie_str {pins : List (Addr × Obj)} {σ : L2.St} {H : Hp} {s : Shared} {R : It → Hp → Prop} {E : Value → Shared → Prop} {x : Str} {t : Tok} (I : Inv X pins σ H s) (q : R (Its x) H) :
    wpAny (model X.prog X.w) X.A (pyIter (.str x t)) (PIE X pins σ tg R) E s := by
  cases ha : x.cps.all (· < 128)
  · exact wpAny_pyIter_wide ha (pi_one (tk := s.toks) I _ (turn_str _ x t "str_iterator" (.inr rfl)) ⟨_, Heap.get?_push_size _ rfl, rfl, rfl⟩ q)
  · exact wpAny_pyIter_ascii ha (pi_one (tk := s.toks) I _ (turn_str _ x t "str_ascii_iterator" (.inl rfl)) ⟨_, Heap.get?_push_size _ rfl, rfl, rfl⟩ q)
theorem wk_list {a : Addr} {vs : List V} {ds : List D} {M : MH} {H : Hp} (hz : ds.length ≤ sizeLine) (h : ∀ M2 H2, Ev M H M2 H2 → SqL K H2 a vs) (r : RpL K M H ds vs) : WK K (Itl K a) ds M H where
  size := hz
  turn := fun M2 H2 ev rm i d e => by
    obtain ⟨v, g1, g2⟩ := r.get e
    refine ⟨⟨vs, v, h M2 H2 ev, g1⟩, fun x H3 ⟨e1, e2⟩ => ?_⟩
    subst e1
    have := e2 vs (h M2 _ ev)
    rw [g1] at this
    cases this
    exact ⟨Rp.ev ev _ _ g2, rm, Ev.refl _ _⟩
  stop := fun M2 H2 ev rm => ⟨vs, h M2 H2 ev, by rw [r.length]; exact Nat.le_refl _⟩
theorem wk_tup {a : Addr} {vs : List V} {ds : List D} {M : MH} {H : Hp} (hz : ds.length ≤ sizeLine) (h : ∀ M2 H2, Ev M H M2 H2 → SqT K H2 a vs) (r : RpL K M H ds vs) : WK K (Itt K a) ds M H where
  size := hz
  turn := fun M2 H2 ev rm i d e => by
    obtain ⟨v, g1, g2⟩ := r.get e
    refine ⟨⟨vs, v, h M2 H2 ev, g1⟩, fun x H3 ⟨e1, e2⟩ => ?_⟩
    subst e1
    have := e2 vs (h M2 _ ev)
    rw [g1] at this
    cases this
    exact ⟨Rp.ev ev _ _ g2, rm, Ev.refl _ _⟩
  stop := fun M2 H2 ev rm => ⟨vs, h M2 H2 ev, by rw [r.length]; exact Nat.le_refl _⟩
theorem wk_str {x : Str} {M : MH} {H : Hp} (hz : x.length ≤ sizeLine) : WK K (Its x) (charsD x) M H where
  size := by
    unfold charsD
    rw [List.length_map]
    exact hz
  turn := fun M2 H2 ev rm i d e => by
    unfold charsD at e
    rw [List.getElem?_map] at e
    cases q : x.cps.toList[i]? with
    | none => rw [q] at e; cases e
    | some c =>
      rw [q] at e
      have e : D.str ⟨#[c]⟩ = d := by simpa using e
      subst e
      have hc : x.cps[i]? = some c := by simpa using q
      refine ⟨(Array.getElem?_eq_some_iff.mp hc).1, fun y H3 ⟨e1, c', e2, e3⟩ => ?_⟩
      subst e1
      rw [hc] at e2
      cases e2
      exact ⟨e3, rm, Ev.refl _ _⟩
  stop := fun M2 H2 ev rm => by
    show x.cps.size ≤ (charsD x).length
    unfold charsD
    rw [List.length_map]
    exact Nat.le_of_eq (by simp)
theorem wk_rng {lo : Int} {n : Nat} {M : MH} {H : Hp} (hz : n ≤ sizeLine) : WK K (Itr lo n) (rngD lo n) M H where
  size := by rw [rngD_len]; exact hz
  turn := fun M2 H2 ev rm i d e => by
    have hi : i < n := by
      have := (List.getElem?_eq_some_iff.mp e).1
      rw [rngD_len] at this
      exact this
    rw [rngD_get lo n i hi] at e
    cases e
    refine ⟨hi, fun y H3 ⟨e1, e2⟩ => ?_⟩
    subst e1
    exact ⟨e2, rm, Ev.refl _ _⟩
  stop := fun M2 H2 ev rm => by rw [rngD_len]; exact Nat.le_refl n
theorem wk_enum {a : Addr} {vs : List V} {ds : List D} {M : MH} {H : Hp} (hz : ds.length ≤ sizeLine) (h : ∀ M2 H2, Ev M H M2 H2 → SqL K H2 a vs) (r : RpL K M H ds vs) : WK K (Ite K a) (enumD 0 ds) M H where
  size := by rw [enumD_len]; exact hz
  turn := fun M2 H2 ev rm i z e => by
    obtain ⟨d, e1, e2⟩ := enumD_get 0 ds i z e
    obtain ⟨v, g1, g2⟩ := r.get e1
    refine ⟨⟨vs, v, h M2 H2 ev, g1⟩, fun x H3 ⟨T, y, e3, e4, e5, e6⟩ => ?_⟩
    subst e3 e5 e2
    have := e6 vs (h M2 _ ev)
    rw [g1] at this
    cases this
    refine ⟨?_, rm.new e4, Ev.new e4⟩
    have i0 : ((0 + i : Nat) : Int) = (i : Nat) := by omega
    rw [i0]
    exact Rp.tupNew rm e4 ⟨_, _, rfl, rfl, RpL.one (Rp.ev ev _ _ g2)⟩
  stop := fun M2 H2 ev rm => ⟨vs, h M2 H2 ev, by rw [enumD_len, r.length]; exact Nat.le_refl _⟩
theorem z_iter (hK : X.K = K) (hl : PE X l (LE K M0 H0 te)) : PI X tg l (LI K M0 H0 (iter3 te)) := by
  subst hK
  refine ⟨fun pins s σ H R I ⟨en, M, P, rs, rm, ev, t, c⟩ => ?_⟩
  refine thn (hl.run pins s σ H (fun x H1 => ∃ d M1, Rp X.K M1 H1 d x ∧ RM X.K M1 H1 ∧ Ev M H M1 H1 ∧ match itemsA d with | some ds => P ds M1 | none => False) I
    (LE.then rs rm ev t fun d M1 v1 H1 t1 r1 rs1 rm1 ev1 e1 => ⟨d, M1, r1, rm1, e1, t1⟩)) fun u s1 ⟨x, H1, I1, ru, d, M1, rd, rm1, e1, t1⟩ => ?_
  cases d with
  | tp k ds =>
    obtain ⟨a, vs, h1, h2, h3⟩ := rd
    subst h1
    cases ru
    exact pie_tup I1 h2.sq fun hz => c ds M1 H1 _ t1 (wk_tup (by rw [← h3.length]; exact hz) (fun M2 H2 e2 => (h2.ev e2).sq) h3) rm1 e1
  | lst ds =>
    obtain ⟨a, vs, h1, h2, h3, h4⟩ := rd
    subst h1
    cases ru
    exact pie_list I1 (.inl (.inl h3)) fun hz => c ds M1 H1 _ t1 (wk_list (by rw [← h4.length]; exact hz) (fun M2 H2 e2 => .inl (.inl (e2 _ _ h3 h2).1)) h4) rm1 e1
  | flst ds =>
    obtain ⟨a, vs, h1, h2, h3⟩ := rd
    subst h1
    cases ru
    exact pie_list I1 h2.sq fun hz => c ds M1 H1 _ t1 (wk_list (by rw [← h3.length]; exact hz) (fun M2 H2 e2 => (h2.ev e2).sq) h3) rm1 e1
  | str x =>
    obtain ⟨t', rfl⟩ := rp_str rd ▸ ru
    dsimp only [itemsA] at t1
    by_cases hz : x.length ≤ sizeLine
    · rw [if_pos hz] at t1
      exact pie_str I1 (c _ M1 H1 _ t1 (wk_str hz) rm1 e1)
    · rw [if_neg hz] at t1
      exact t1.elim
  | _ => exact t1.elim
theorem z_irng1 {a : Expr} {p pos : Pos} (hg : Gl X "range") (hm : X.mg "range" = none) (ha : PA X [a] (LA K M0 H0 tl)) (hs : starEach [a] X.env = [(false, eval a X.env)]) : PI X tg (.Call (.Name "range" p) [a] [] pos) (LI K M0 H0 (rng1A tl)) :=
  (pi_range1 hg hm ha hs).imp fun σ H R ⟨en, M, P, rs, rm, ev, t, c⟩ => LA.then rs rm ev t fun ds M1 vs H1 t1 r1 rs1 rm1 ev1 e1 => by
    split at t1
    · rename_i j
      obtain ⟨v, w, h1, h2, h3⟩ := r1
      have h3 : w = [] := h3
      subst h3 h1
      obtain ⟨⟨j0, j1⟩, j2⟩ := t1
      exact ⟨j, by rw [rp_int h2], by omega, by omega, c _ M1 H1 _ j2 (wk_rng (by rw [sizeLine_eq]; omega)) rm1 e1⟩
    · exact t1.elim
theorem z_irng2 {a b : Expr} {p pos : Pos} (hg : Gl X "range") (hm : X.mg "range" = none) (ha : PA X [a, b] (LA K M0 H0 tl)) (hs : starEach [a, b] X.env = [(false, eval a X.env), (false, eval b X.env)]) (hs2 : starEach [b] X.env = [(false, eval b X.env)]) :
    PI X tg (.Call (.Name "range" p) [a, b] [] pos) (LI K M0 H0 (rng2A tl)) :=
  (pi_range2 hg hm ha hs hs2).imp fun σ H R ⟨en, M, P, rs, rm, ev, t, c⟩ => LA.then rs rm ev t fun ds M1 vs H1 t1 r1 rs1 rm1 ev1 e1 => by
    split at t1
    · rename_i i j
      obtain ⟨v, w, h1, h2, h3⟩ := r1
      obtain ⟨v', w', g1, g2, g3⟩ := h3
      have g3 : w' = [] := g3
      subst g3 g1 h1
      obtain ⟨⟨j0, j1, j2, j3, j4⟩, t1⟩ := t1
      refine ⟨i, j, by rw [rp_int h2, rp_int g2], ⟨by omega, by omega, by omega, by omega⟩, c _ M1 H1 _ t1 (wk_rng (by rw [sizeLine_eq]; omega)) rm1 e1⟩
    · exact t1.elim
theorem z_ienum {e : Expr} {p pos tpos : Pos} {elts : List Expr} {kk : Nat} (hK : X.K = K) (hg : Gl X "enumerate") (hm : X.mg "enumerate" = none) (ha : PA X [e] (LA K M0 H0 tl)) (hs : starEach [e] X.env = [(false, eval e X.env)]) :
    PI X (.Tuple elts kk tpos) (.Call (.Name "enumerate" p) [e] [] pos) (LI K M0 H0 (enumA tl)) := by
  subst hK
  exact (pi_enum hg hm ha hs).imp fun σ H R ⟨en, M, P, rs, rm, ev, t, c⟩ => LA.then rs rm ev t fun ds M1 vs H1 t1 r1 rs1 rm1 ev1 e1 => by
    split at t1
    · rename_i d
      obtain ⟨v, w, h1, h2, h3⟩ := r1
      have h3 : w = [] := h3
      subst h3 h1
      split at t1
      · rename_i ds e2
        obtain ⟨t2, tz, t1⟩ := t1
        cases d with
        | lst es =>
          have e2 : es = ds := by simpa [exL] using e2
          subst e2
          obtain ⟨a, vs, h1, h2, h3, h4⟩ := h2
          subst h1
          exact ⟨a, vs, rfl, .inl (.inl h3), c _ M1 H1 _ t1 (wk_enum tz (fun M2 H2 e2 => .inl (.inl (e2 _ _ h3 h2).1)) h4) rm1 e1⟩
        | ref a => exact t2.elim
        | _ => simp [exL] at e2
      · exact t1.elim
    · exact t1.elim
/-! ### for -/
/-- the turns of a for, one after another -/
def turns3 (tg : Tg) (body : TS3) (Z : Ends3) : List D → En → MH → Prop
  | [], e, M => Z.nx e M
  | x :: r, e, M => match bindT tg x e with
    | some e1 => body { nx := turns3 tg body Z r, rt := Z.rt, bk := Z.nx, ct := turns3 tg body Z r } e1 M
    | none => False
def for3 (it : TL3) (tg : Tg) (body : TS3) : TS3 := fun D e M => it e M fun items M1 => turns3 tg body D items e M1
theorem z_for {iter : Expr} {tgE : Expr} {bodyE : List Stmt} {it : TL3} {tg : Tg} {body : TS3} {pos : Pos} (hp : PassesOwn (model X.prog X.w) X.A X.env X.xe) (hc : X.calm = true) (hi : PI X tgE iter (LI K M0 H0 it)) (hg : PG X tgE (gOf K tg)) (hb : PSs X bodyE (LS K M0 H0 body))
    (hs : ∀ x, foldedSetIterable iter X.env x = pure x) : PS X (.For tgE iter bodyE [] pos) (LS K M0 H0 (for3 it tg body)) :=
  (ps_for hp hc hi hg hb hs).imp fun D σ H ⟨en, M, D3, rs, rm, ev, t, c⟩ => by
    refine ⟨en, M, _, rs, rm, ev, t, fun items M1 H1 J t1 wk rm1 e1 => ?_⟩
    have rs1 := rs.ev e1
    refine ⟨fun i m σ H => m = items.length - i ∧ i ≤ items.length ∧ ∃ e M', RS K M' H e σ ∧ RM K M' H ∧ Ev M1 H1 M' H ∧ turns3 tg body D3 (items.drop i) e M', ⟨items.length, by simp, Nat.zero_le _, en, M1, rs1, rm1, Ev.refl _ _, by simpa using t1⟩, ?_⟩
    rintro i m σ2 H2 ⟨rfl, hi2, e2, M2, rs2, rm2, ev2, t2⟩
    by_cases hlt : i < items.length
    · have hd : items.drop i = items[i] :: items.drop (i + 1) := List.drop_eq_getElem_cons hlt
      obtain ⟨go, yl⟩ := wk.turn M2 H2 ev2 rm2 i items[i] (List.getElem?_eq_getElem hlt)
      refine .inr ⟨go, fun σ' H' => i + 1 ≤ items.length ∧ ∃ e M', RS K M' H' e σ' ∧ RM K M' H' ∧ Ev M1 H1 M' H' ∧ turns3 tg body D3 (items.drop (i + 1)) e M', fun σ' H' ⟨q1, q2⟩ => ⟨items.length - (i + 1), by omega, rfl, q1, q2⟩, fun x H3 y => ?_⟩
      obtain ⟨rx, rm3, ev3⟩ := yl x H3 y
      rw [hd] at t2
      dsimp only [turns3] at t2
      split at t2
      · rename_i e4 eb
        refine gOf_ok eb rx (rs2.ev ev3) fun vs rs4 => ?_
        refine ⟨e4, M2, _, rs4, rm3, ev.trans (e1.trans (ev2.trans ev3)), t2, ?_, ?_, ?_, ?_⟩
        · exact fun e' M' σ' H' q r m ev4 => ⟨hlt, e', M', r, m, ev2.trans (ev3.trans ev4), q⟩
        · exact c.rt.from (e1.trans (ev2.trans ev3))
        · exact c.nx.from (e1.trans (ev2.trans ev3))
        · exact fun e' M' σ' H' q r m ev4 => ⟨hlt, e', M', r, m, ev2.trans (ev3.trans ev4), q⟩
      · exact t2.elim
    · have e : i = items.length := by omega
      subst e
      refine .inl ⟨wk.stop M2 H2 ev2 rm2, ?_⟩
      rw [List.drop_length] at t2
      exact c.nx e2 M2 σ2 H2 t2 rs2 rm2 (e1.trans ev2)
/-! ### while -/
def whileN (c : TB3) (body : TS3) (D : Ends3) : Nat → En → MH → Prop
  | 0, _, _ => False
  | n + 1, e, M => c e M fun b M1 => match b with
    | true => body { nx := whileN c body D n, rt := D.rt, bk := D.nx, ct := whileN c body D n } e M1
    | false => D.nx e M1
def while3 (c : TB3) (body : TS3) : TS3 := fun D e M => ∃ n, whileN c body D n e M
theorem z_while {test : Expr} {bodyE : List Stmt} {c : TB3} {body : TS3} {pos : Pos} (hp : PassesOwn (model X.prog X.w) X.A X.env X.xe) (hc : PT X test (LT K M0 H0 c)) (hb : PSs X bodyE (LS K M0 H0 body)) : PS X (.While test bodyE [] pos) (LS K M0 H0 (while3 c body)) :=
  (ps_while hp hc hb).imp fun D σ H ⟨en, M, D3, rs, rm, ev, ⟨n, t⟩, cv⟩ => by
    refine ⟨fun m σ2 H2 => ∃ e2 M2, RS K M2 H2 e2 σ2 ∧ RM K M2 H2 ∧ Ev M H M2 H2 ∧ whileN c body D3 m e2 M2, ⟨n, en, M, rs, rm, Ev.refl _ _, t⟩, ?_⟩
    rintro m σ2 H2 ⟨e2, M2, rs2, rm2, ev2, t2⟩
    cases m with
    | zero => exact t2.elim
    | succ m =>
      refine LT.then rs2 rm2 (ev.trans ev2) t2 fun b M3 H3 t3 rs3 rm3 ev3 e3 => ?_
      cases b with
      | true =>
        rw [if_pos rfl]
        refine ⟨fun σ' H' => ∃ e' M', RS K M' H' e' σ' ∧ RM K M' H' ∧ Ev M H M' H' ∧ whileN c body D3 m e' M', fun σ' H' q => ⟨m, Nat.lt_succ_self m, q⟩, ?_⟩
        refine ⟨e2, M3, _, rs3, rm3, ev3, t3, ?_, ?_, ?_, ?_⟩
        · exact fun e' M' σ' H' q r m' ev4 => ⟨e', M', r, m', ev2.trans (e3.trans ev4), q⟩
        · exact cv.rt.from (ev2.trans e3)
        · exact cv.nx.from (ev2.trans e3)
        · exact fun e' M' σ' H' q r m' ev4 => ⟨e', M', r, m', ev2.trans (e3.trans ev4), q⟩
      | false =>
        rw [if_neg Bool.false_ne_true]
        exact cv.nx e2 M3 σ2 H3 t3 rs3 rm3 (ev2.trans e3)
/-! ### [elt for tg in it if tt] -/
def compW (tg : Tg) (tt : TB3) (te : T3) (e : En) (p : Addr) (Q : List D → MH → Prop) : List D → List D → MH → Prop
  | [], acc, M => M p = some (.lst acc) ∧ Q acc M
  | x :: r, acc, M => match bindT tg x e with
    | some e1 => tt e1 M fun b M2 => match b with
      | true => te e1 M2 fun y M3 => M3 p = some (.lst acc) ∧ compW tg tt te e p Q r (acc ++ [y]) (up M3 p (.lst (acc ++ [y])))
      | false => compW tg tt te e p Q r acc M2
    | none => False
def comp3 (m : Bool) (it : TL3) (tg : Tg) (tt : TB3) (te : T3) (own : List Nat) : T3 := fun e M Q => it e M fun items M1 => ∀ p, M1 p = none →
  compW tg tt te (wipeE e own) p (fun acc M2 => match m with | true => Q (.ref p) M2 | false => Q (.lst acc) (er M2 p)) items [] (up M1 p (.lst []))
def yes3 : TB3 := fun _ M Q => Q true M
theorem z_tnil : PTs X [] (LT K M0 H0 yes3) := ⟨fun pins s σ H Q I ⟨en, M, P, rs, rm, ev, t, c⟩ => pts_nil.run pins s σ H Q I (c true M H t rm (Ev.refl _ _))⟩
theorem z_tone {c : Expr} {t : TB3} (h : PT X c (LT K M0 H0 t)) : PTs X [c] (LT K M0 H0 t) := pts_one h
theorem Rp.lstEr {M : MH} {H : Hp} {p : Addr} {vs : List V} {ds : List D} (h : H p = some (.lst vs)) (r : RpL K M H ds vs) : Rp K (er M p) H (.lst ds) (.ref p) :=
  ⟨p, vs, rfl, er_none, h, RpL.ev (Ev.sub Sub.er) _ _ r⟩
theorem lcomp {m : Bool} {it : TL3} {tg : Tg} {tt : TB3} {te : T3} {own : List (Str × Nat)} {σ : L2.St} {H : Hp} {Q : VK} (hsub : ∀ i ∈ tg.slots, i ∈ own.map (·.2)) (h : LE K M0 H0 (comp3 m it tg tt te (own.map (·.2))) σ H Q) :
    tLc (LI K M0 H0 it) (gOf K tg) (LT K M0 H0 tt) (LE K M0 H0 te) (own.map (·.2)) σ H Q := by
  obtain ⟨en, M, P, rs, rm, ev, t, c⟩ := h
  refine ⟨en, M, _, rs, rm, ev, t, fun items M1 H1 J t1 wk rm1 e1 p hp => ?_⟩
  have mp : M1 p = none := rm1.free hp
  have rs1 := (rs.ev e1).wipe (own.map (·.2))
  have t2 := t1 p mp
  refine ⟨fun i n H => n = items.length - i ∧ i ≤ items.length ∧ ∃ M' acc, RM K M' H ∧ Ev M1 H1 M' H ∧ acc.length ≤ i ∧ compW tg tt te (wipeE en (own.map (·.2))) p (fun acc M2 => match m with | true => P (.ref p) M2 | false => P (.lst acc) (er M2 p)) (items.drop i) acc M',
    ⟨items.length, by simp, Nat.zero_le _, up M1 p (.lst []), [], rm1.newM hp ⟨[], upd_same, rfl⟩, Ev.newM hp, Nat.le_refl _, by simpa using t2⟩, ?_⟩
  rintro i n H2 ⟨rfl, hi2, M2, acc, rm2, ev2, hacc, t2⟩
  by_cases hlt : i < items.length
  · have hd : items.drop i = items[i] :: items.drop (i + 1) := List.drop_eq_getElem_cons hlt
    obtain ⟨go, yl⟩ := wk.turn M2 H2 ev2 rm2 i items[i] (List.getElem?_eq_getElem hlt)
    refine .inr ⟨go, fun H' => i + 1 ≤ items.length ∧ ∃ M' acc, RM K M' H' ∧ Ev M1 H1 M' H' ∧ acc.length ≤ i + 1 ∧ compW tg tt te (wipeE en (own.map (·.2))) p (fun acc M2 => match m with | true => P (.ref p) M2 | false => P (.lst acc) (er M2 p)) (items.drop (i + 1)) acc M',
      fun H' ⟨q1, q2⟩ => ⟨items.length - (i + 1), by omega, rfl, q1, q2⟩, fun x H3 y => ?_⟩
    obtain ⟨rx, rm3, ev3⟩ := yl x H3 y
    rw [hd] at t2
    dsimp only [compW] at t2
    split at t2
    · rename_i e4 eb
      refine gOf_ok eb rx ((rs1.ev ev2).ev ev3) fun vs rs4 => ?_
      refine ⟨?_, ?_⟩
      · rw [wipe_setV _ _ _ hsub, wipe_wipe]
      · refine LT.then rs4 rm3 (ev.trans (e1.trans (ev2.trans ev3))) t2 fun b M5 H5 t5 rs5 rm5 ev5 e5 => ?_
        cases b with
        | true =>
          rw [if_pos rfl]
          refine LE.then rs5 rm5 ev5 t5 fun y M6 v6 H6 ⟨q6, t6⟩ r6 rs6 rm6 ev6 e6 => ?_
          obtain ⟨ws, w1, w2⟩ := rm6 p _ q6
          have hl := w2.length
          have sz := wk.size
          refine ⟨ws, w1, by omega, hlt, _, acc ++ [y], rm6.wr (o := .lst (acc ++ [y])) q6 ⟨_, upd_same, RpL.ev (Ev.wr q6) _ _ (w2.append (RpL.one r6))⟩, ev2.trans (ev3.trans (e5.trans (e6.trans (Ev.wr q6)))), by rw [List.length_append]; simp; omega, t6⟩
        | false =>
          rw [if_neg Bool.false_ne_true]
          exact ⟨hlt, M5, acc, rm5, ev2.trans (ev3.trans e5), by omega, t5⟩
    · exact t2.elim
  · have e : i = items.length := by omega
    subst e
    refine .inl ⟨wk.stop M2 H2 ev2 rm2, ?_⟩
    rw [List.drop_length] at t2
    obtain ⟨q2, t2⟩ := t2
    obtain ⟨ws, w1, w2⟩ := rm2 p _ q2
    cases m with
    | true => exact c (.ref p) M2 _ H2 t2 rfl rm2 (e1.trans ev2)
    | false => exact c (.lst acc) _ _ H2 t2 (Rp.lstEr w1 w2) (rm2.sub Sub.er) (e1.trans (ev2.trans (Ev.sub Sub.er)))
end
end Z

namespace Z
open PySem PySem.Spec PyProof.Rows L2

/-! ### methods -/
inductive Mt where
  | append | extend | get | setdefault | index | indexT | join | split | startswith
  deriving DecidableEq
def Mt.name : Mt → String
  | .append => "append" | .extend => "extend" | .get => "get" | .setdefault => "setdefault" | .index => "index" | .indexT => "index" | .join => "join" | .split => "split" | .startswith => "startswith"
def strsOf : List D → Option (List Str)
  | [] => some []
  | .str x :: r => match strsOf r with | some l => some (x :: l) | none => none
  | _ => none
theorem strsOf_eq : ∀ {ds : List D} {ns : List Str}, strsOf ds = some ns → ds = ns.map D.str
  | [], ns, h => by
    have h : [] = ns := by simpa [strsOf] using h
    subst h; rfl
  | d :: ds, ns, h => by
    cases d with
    | str i =>
      dsimp only [strsOf] at h
      split at h
      · rename_i l e
        obtain rfl := Option.some.inj h
        rw [strsOf_eq e]; rfl
      · cases h
    | _ => simp [strsOf] at h
@[simp] theorem strsOf_map (ns : List Str) : strsOf (ns.map D.str) = some ns := by
  induction ns with
  | nil => rfl
  | cons a r ih => simp only [List.map_cons, strsOf, ih]
theorem strs_v {K : PySem.W.Frag} {M : MH} {H : Hp} : ∀ {ns : List Str} {vs : List V}, RpL K M H (ns.map D.str) vs → vs = ns.map V.str
  | [], vs, h => h
  | n :: ns, vs, h => by
    obtain ⟨v, r, h1, h2, h3⟩ := h
    subst h1
    rw [rp_str h2, strs_v h3]; rfl
theorem strs_rp {K : PySem.W.Frag} {M : MH} {H : Hp} : ∀ (ns : List Str), RpL K M H (ns.map D.str) (ns.map V.str)
  | [] => rfl
  | n :: ns => ⟨_, _, rfl, rfl, strs_rp ns⟩
/-- the place of the first text that is this one -/
def findS (x : Str) : List Str → Nat → Option Nat
  | [], _ => none
  | y :: r, n => if y = x then some n else findS x r (n + 1)
theorem findS_ok {x : Str} : ∀ {ys : List Str} {n j : Nat}, findS x ys n = some j → n ≤ j ∧ ys[j - n]? = some x ∧ ∀ m, m < j - n → ys[m]? ≠ some x
  | [], _, _, h => by simp [findS] at h
  | y :: r, n, j, h => by
    unfold findS at h
    by_cases e : y = x
    · rw [if_pos e] at h
      obtain rfl := Option.some.inj h
      exact ⟨Nat.le_refl _, by simp [e], fun m hm => by omega⟩
    · rw [if_neg e] at h
      obtain ⟨h1, h2, h3⟩ := findS_ok h
      obtain ⟨k, rfl⟩ : ∃ k, j = n + 1 + k := ⟨j - (n + 1), by omega⟩
      have e1 : n + 1 + k - n = k + 1 := by omega
      have e2 : n + 1 + k - (n + 1) = k := by omega
      rw [e2] at h2 h3
      rw [e1]
      refine ⟨by omega, by simpa using h2, fun m hm => ?_⟩
      cases m with
      | zero => simpa using e
      | succ m => simpa using h3 m (by omega)
/-- the place of the first item that is == -/
def findD (x : D) : List D → Nat → Option Nat
  | [], _ => none
  | y :: r, n => if eqv y x = true then some n else findD x r (n + 1)
theorem findD_ok {x : D} : ∀ {ys : List D} {n j : Nat}, findD x ys n = some j → n ≤ j ∧ (∃ y, ys[j - n]? = some y ∧ eqv y x = true) ∧ ∀ m y, m < j - n → ys[m]? = some y → eqv y x = false
  | [], _, _, h => by simp [findD] at h
  | y :: r, n, j, h => by
    unfold findD at h
    by_cases e : eqv y x = true
    · rw [if_pos e] at h
      obtain rfl := Option.some.inj h
      exact ⟨Nat.le_refl _, ⟨y, by simp, e⟩, fun m y hm => by omega⟩
    · rw [if_neg e] at h
      obtain ⟨h1, ⟨z, h2, h2'⟩, h3⟩ := findD_ok h
      obtain ⟨k, rfl⟩ : ∃ k, j = n + 1 + k := ⟨j - (n + 1), by omega⟩
      have e1 : n + 1 + k - n = k + 1 := by omega
      have e2 : n + 1 + k - (n + 1) = k := by omega
      rw [e2] at h2 h3
      rw [e1]
      refine ⟨by omega, ⟨z, by simpa using h2, h2'⟩, fun m y' hm hy => ?_⟩
      cases m with
      | zero =>
        have : y = y' := by simpa using hy
        subst this
        simpa using e
      | succ m => exact h3 m y' (by omega) (by simpa using hy)
/-- what a method gives, and the heap behind it -/
def mthA (m : Mt) (M : MH) (o : D) (as : List D) : Option (D × MH) := match m with
  | .append => match o, as with
    | .ref a, [x] => match M a with
      | some (.lst ds) => if ds.length < sizeLine then some (.non, up M a (.lst (ds ++ [x]))) else none
      | _ => none
    | _, _ => none
  | .extend => match o, as with
    | .ref a, [x] => match M a with
      | some (.lst ds) => match exL M x with
        | some es => if ds.length + es.length ≤ sizeLine then some (.non, up M a (.lst (ds ++ es))) else none
        | none => none
      | _ => none
    | _, _ => none
  | .get => match as with
    | [k, z] => match dfind M o k with
      | some r => some (r.getD z, M)
      | none => none
    | _ => none
  | .setdefault => match o, as with
    | .ref a, [k, z] => match M a, keyK k with
      | some (.dK kvs), some k => if kvs.length < sizeLine then (match valD kvs k with
        | some v => some (v, M)
        | none => some (z, up M a (.dK (putD kvs k z)))) else none
      | _, _ => none
    | _, _ => none
  | .index => match as with
    | [x] => match exL M o with
      | some ds => if lay 59 x && layL 59 ds then (match findD x ds 0 with | some j => some (.int j, M) | none => none) else none
      | none => none
    | _ => none
  | .indexT => match o, as with
    | .tp .k ds, [.str x] => match strsOf ds with
      | some ys => match findS x ys 0 with | some j => some (.int j, M) | none => none
      | none => none
    | _, _ => none
  | .join => match o, as with
    | .str z, [x] => match seqM M x with
      | some ds => match strsOf ds with
        | some ys => if (ys.map (·.length)).sum + ys.length * z.length ≤ 16777216 then some (.str (Txt.join z ys), M) else none
        | none => none
      | none => none
    | _, _ => none
  | .split => match o, as with
    | .str a, [.str b] => if (b.length == 0) = false ∧ a.length + 2 ≤ sizeLine then some (.lst ((Txt.split a b).map D.str), M) else none
    | _, _ => none
  | .startswith => match o, as with
    | .str a, [.str b] => some (.bl (Txt.startswith a b), M)
    | _, _ => none
def isStrD : D → Bool
  | .str _ => true
  | _ => false
def isTk : D → Bool
  | .tp .k _ => true
  | _ => false
/-- the receiver is of the method's type -/
def tyOk (m : Mt) (M : MH) (o : D) : Bool := match m with
  | .append | .extend | .index => (exL M o).isSome
  | .get | .setdefault => (asK M o).isSome || (asD M o).isSome
  | .indexT => isTk o
  | .join | .split | .startswith => isStrD o
def Mt.ty : Mt → String
  | .append | .extend | .index => "list"
  | .get | .setdefault => "dict"
  | .indexT => "tuple"
  | .join | .split | .startswith => "str"
def Mt.id : Mt → String
  | .append => "list.append" | .extend => "list.extend" | .index => "list.index" | .get => "dict.get" | .setdefault => "dict.setdefault" | .indexT => "tuple.index" | .join => "str.join" | .split => "str.split" | .startswith => "str.startswith"
def LMt (K : PySem.W.Frag) (m : Mt) : V → List V → Hp → VK → Prop := fun x xs H Q => ∃ o as M r M', Rp K M H o x ∧ RpL K M H as xs ∧ RM K M H ∧ mthA m M o as = some (r, M') ∧ ∀ v H', Rp K M' H' r v → RM K M' H' → Ev M H M' H' → Q v H'
section
variable {X : Cx}
theorem rpl1 {K : PySem.W.Frag} {M : MH} {H : Hp} {d : D} {xs : List V} (h : RpL K M H [d] xs) : ∃ x, xs = [x] ∧ Rp K M H d x := by
  obtain ⟨v, w, h1, h2, h3⟩ := h
  have h3 : w = [] := h3
  subst h3
  exact ⟨v, h1, h2⟩
theorem rpl2 {K : PySem.W.Frag} {M : MH} {H : Hp} {d e : D} {xs : List V} (h : RpL K M H [d, e] xs) : ∃ x y, xs = [x, y] ∧ Rp K M H d x ∧ Rp K M H e y := by
  obtain ⟨v, w, h1, h2, h3⟩ := h
  obtain ⟨y, hy, h4⟩ := rpl1 h3
  subst hy
  exact ⟨v, y, h1, h2, h4⟩
theorem zm_append : MtR X "list.append" (LMt X.K .append) := by
  intro pins s σ H x xs v us Q I rx rs ⟨o, as, M, r, M', r1, r2, rm, e, q⟩
  dsimp only [mthA] at e
  split at e
  · rename_i a y
    split at e
    · rename_i ds em
      split at e
      · rename_i hz
        obtain ⟨rfl, rfl⟩ := Prod.mk.inj (Option.some.inj e)
        obtain ⟨vs, g1, g2⟩ := rm a _ em
        obtain ⟨w, rfl, rw'⟩ := rpl1 r2
        exact mt_append pins s σ H x [w] v us Q I rx rs ⟨a, vs, w, r1, rfl, g1, by rw [g2.length]; exact hz,
          q _ _ rfl (rm.wr (o := .lst (ds ++ [y])) em ⟨_, upd_same, RpL.ev (Ev.wr em) _ _ (g2.append (RpL.one rw'))⟩) (Ev.wr em)⟩
      · cases e
    · cases e
  · cases e
theorem zm_extend : MtR X "list.extend" (LMt X.K .extend) := by
  intro pins s σ H x xs v us Q I rx rs ⟨o, as, M, r, M', r1, r2, rm, e, q⟩
  dsimp only [mthA] at e
  split at e
  · rename_i a y
    split at e
    · rename_i ds em
      split at e
      · rename_i es ee
        split at e
        · rename_i hz
          obtain ⟨rfl, rfl⟩ := Prod.mk.inj (Option.some.inj e)
          obtain ⟨vs, g1, g2⟩ := rm a _ em
          obtain ⟨w, rfl, rw'⟩ := rpl1 r2
          obtain ⟨b, ws, k1, k2, k3⟩ := exL_sq rm ee rw'
          exact mt_extend pins s σ H x [w] v us Q I rx rs ⟨a, b, vs, ws, r1, by rw [k1], g1, k2, by rw [g2.length, k3.length]; exact hz,
            q _ _ rfl (rm.wr (o := .lst (ds ++ es)) em ⟨_, upd_same, RpL.ev (Ev.wr em) _ _ (g2.append k3)⟩) (Ev.wr em)⟩
        · cases e
      · cases e
    · cases e
  · cases e
theorem zm_get (hu : X.A.units + 1 < cLine) : MtR X "dict.get" (LMt X.K .get) := by
  intro pins s σ H x xs v us Q I rx rs ⟨o, as, M, r, M', r1, r2, rm, e, q⟩
  dsimp only [mthA] at e
  split at e
  · rename_i k z
    split at e
    · rename_i ov ed
      obtain ⟨rfl, rfl⟩ := Prod.mk.inj (Option.some.inj e)
      obtain ⟨kv, zv, rfl, rk, rz⟩ := rpl2 r2
      obtain ⟨u1, u2, rfl, s1, s2⟩ := rs.two
      obtain ⟨a, rr, h1, h2, h3⟩ := dfind_h rm ed r1 rk
      subst h1
      cases rx
      refine d_get2 hu I h2 s1 s2 fun w' s' I' rw' => ⟨_, H, I', rw', q _ _ ?_ rm (Ev.refl _ _)⟩
      rcases h3 with ⟨g1, g2⟩ | ⟨d', v', g1, g2, g3⟩
      · rw [g1, g2]; exact rz
      · rw [g1, g2]; exact g3
    · cases e
  · cases e
theorem zm_setdefault : MtR X "dict.setdefault" (LMt X.K .setdefault) := by
  intro pins s σ H x xs v us Q I rx rs ⟨o, as, M, r, M', r1, r2, rm, e, q⟩
  dsimp only [mthA] at e
  split at e
  · rename_i a k z
    have r1 : x = .ref a := r1
    subst r1
    cases rx
    split at e
    · rename_i kvs k' em ek
      obtain ⟨kv, zv, rfl, rk, rz⟩ := rpl2 r2
      obtain ⟨u1, u2, rfl, s1, s2⟩ := rs.two
      have hk := keyK_v ek rk
      subst hk
      obtain ⟨vs, g1, g2⟩ := rm a _ em
      split at e
      · rename_i hz
        refine d_setd I g1 s1 s2 (by rw [List.length_zip, List.length_map]; omega) (fun v' hv w' s' I' rw' => ⟨_, H, I', rw', ?_⟩) (fun hn w' s' I' rw' => ⟨_, _, I', rw', ?_⟩)
        · rcases val_rp (k := k') g2 with ⟨n1, n2⟩ | ⟨d', v2, n1, n2, n3⟩
          · rw [n2] at hv; cases hv
          · rw [n2] at hv
            cases hv
            rw [n1] at e
            obtain ⟨rfl, rfl⟩ := Prod.mk.inj (Option.some.inj e)
            exact q _ _ n3 rm (Ev.refl _ _)
        · rcases val_rp (k := k') g2 with ⟨n1, n2⟩ | ⟨d', v2, n1, n2, n3⟩
          · rw [n1] at e
            obtain ⟨rfl, rfl⟩ := Prod.mk.inj (Option.some.inj e)
            obtain ⟨ws, w1, w2⟩ := put_rp (k := k') rz g2
            refine q _ _ (Rp.ev (Ev.wr em) _ _ rz) (rm.wr em ⟨ws, ?_, RpL.ev (Ev.wr em) _ _ w2⟩) (Ev.wr em)
            rw [upd_same, w1]
          · rw [n2] at hn; cases hn
      · cases e
    · cases e
  · cases e
theorem zm_join : MtR X "str.join" (LMt X.K .join) := by
  intro pins s σ H x xs v us Q I rx rs ⟨o, as, M, r, M', r1, r2, rm, e, q⟩
  dsimp only [mthA] at e
  split at e
  · rename_i z y
    split at e
    · rename_i ds e1
      split at e
      · rename_i ys e2
        split at e
        · rename_i hz
          obtain ⟨rfl, rfl⟩ := Prod.mk.inj (Option.some.inj e)
          obtain ⟨w, rfl, rw'⟩ := rpl1 r2
          obtain ⟨a, vs, h1, h2, h3⟩ := seqM_sq rm e1 rw'
          rw [strsOf_eq e2] at h3
          rw [strs_v h3] at h2
          exact mt_join pins s σ H x [w] v us Q I rx rs ⟨z, a, ys, r1, by rw [h1], h2, hz, q _ _ rfl rm (Ev.refl _ _)⟩
        · cases e
      · cases e
    · cases e
  · cases e
theorem zm_split : MtR X "str.split" (LMt X.K .split) := by
  intro pins s σ H x xs v us Q I rx rs ⟨o, as, M, r, M', r1, r2, rm, e, q⟩
  dsimp only [mthA] at e
  split at e
  · rename_i a b
    split at e
    · rename_i hz
      obtain ⟨rfl, rfl⟩ := Prod.mk.inj (Option.some.inj e)
      obtain ⟨w, rfl, rw'⟩ := rpl1 r2
      exact mt_split pins s σ H x [w] v us Q I rx rs ⟨a, b, r1, by rw [rp_str rw'], hz.1, hz.2, fun p hp => q _ _ (Rp.lstNew rm hp (strs_rp _)) (rm.new hp) (Ev.new hp)⟩
    · cases e
  · cases e
theorem zm_startswith : MtR X "str.startswith" (LMt X.K .startswith) := by
  intro pins s σ H x xs v us Q I rx rs ⟨o, as, M, r, M', r1, r2, rm, e, q⟩
  dsimp only [mthA] at e
  split at e
  · rename_i a b
    obtain ⟨rfl, rfl⟩ := Prod.mk.inj (Option.some.inj e)
    obtain ⟨w, rfl, rw'⟩ := rpl1 r2
    exact mt_startswith pins s σ H x [w] v us Q I rx rs ⟨a, b, r1, by rw [rp_str rw'], q _ _ rfl rm (Ev.refl _ _)⟩
  · cases e
theorem zm_indexT : MtR X "tuple.index" (LMt X.K .indexT) := by
  intro pins s σ H x xs v us Q I rx rs ⟨o, as, M, r, M', r1, r2, rm, e, q⟩
  dsimp only [mthA] at e
  split at e
  · rename_i ds z
    split at e
    · rename_i ys e1
      split at e
      · rename_i j e2
        obtain ⟨rfl, rfl⟩ := Prod.mk.inj (Option.some.inj e)
        obtain ⟨w, rfl, rw'⟩ := rpl1 r2
        obtain ⟨a, vs, h1, h2, h3⟩ := r1
        rw [strsOf_eq e1] at h3
        rw [strs_v h3] at h2
        obtain ⟨f1, f2, f3⟩ := findS_ok e2
        exact mt_tup_index pins s σ H x [w] v us Q I rx rs ⟨a, ys, z, j, h1, by rw [rp_str rw'], h2.sq, f2, f3, q _ _ rfl rm (Ev.refl _ _)⟩
      · cases e
    · cases e
  · cases e
theorem toPyL_at : ∀ {ds : List D} {j : Nat} {d : D}, ds[j]? = some d → (toPyL ds)[j]? = some (toPy d)
  | [], _, _, h => by simp at h
  | _ :: _, 0, _, h => by
    have h := Option.some.inj h
    subst h
    rfl
  | _ :: ds, j + 1, d, h => toPyL_at (ds := ds) (j := j) (by simpa using h)
theorem zm_index (hu : X.A.units + 65 < cLine) : MtR X "list.index" (LMt X.K .index) := by
  intro pins s σ H x xs v us Q I rx rs ⟨o, as, M, r, M', r1, r2, rm, e, q⟩
  dsimp only [mthA] at e
  split at e
  · rename_i z
    split at e
    · rename_i ds e1
      split at e
      · rename_i hl
        split at e
        · rename_i j e2
          obtain ⟨rfl, rfl⟩ := Prod.mk.inj (Option.some.inj e)
          rw [Bool.and_eq_true] at hl
          obtain ⟨w, rfl, rw'⟩ := rpl1 r2
          obtain ⟨a, vs, h1, h2, h3⟩ := exL_sq rm e1 r1
          obtain ⟨f1, ⟨y, f2, f2'⟩, f3⟩ := findD_ok e2
          have s1 : SeqAt.shaped (.list (toPyL ds)) = true := shaped_of_lay (d := .lst ds) (by simpa [lay] using hl.2)
          have s2 : SeqAt.shaped (toPy z) = true := by
            obtain ⟨p1, p2⟩ := lay_py 59 z hl.1
            unfold SeqAt.shaped
            rw [p1, decide_eq_true (by omega)]; rfl
          refine mt_indexD hu pins s σ H x [w] v us Q I rx rs ⟨a, w, toPy z, toPyL ds, j, toPy y, h1, rfl, .lst (.inl (.inl h2)) (RpL.dp 59 ds vs h3 (pdL_lay _ _ hl.2)), Rp.dp 59 z w rw' (pd_lay _ _ hl.1), s1, s2, toPyL_at f2, by rw [← eqv_py]; exact f2', fun m z' hm hz' => ?_, q _ _ rfl rm (Ev.refl _ _)⟩
          obtain ⟨d', k1, k2⟩ := toPyL_get hz'
          rw [← k2, ← eqv_py]
          exact f3 m d' hm k1
        · cases e
      · cases e
    · cases e
  · cases e
theorem zm_all (hu : X.A.units + 100 < cLine) (m : Mt) : MtR X m.id (LMt X.K m) := by
  cases m with
  | append => exact zm_append
  | extend => exact zm_extend
  | get => exact zm_get (by omega)
  | setdefault => exact zm_setdefault
  | index => exact zm_index (by omega)
  | indexT => exact zm_indexT
  | join => exact zm_join
  | split => exact zm_split
  | startswith => exact zm_startswith
/-- the receiver's type, as the call of a method asks for it -/
theorem tyOk_is {pins : List (Addr × Obj)} {σ : L2.St} {H : Hp} {s : Shared} {M : MH} {m : Mt} {o : D} {x : V} {v : Value} (I : Inv X pins σ H s) (rx : RelV x v) (rm : RM X.K M H) (r : Rp X.K M H o x) (h : tyOk m M o = true) :
    s.TypeIs v m.ty ∧ ∀ a, v = .ref a → ∃ ob, s.heap.get? a = some ob ∧ ob.dict = none := by
  have lst : (exL M o).isSome = true → s.TypeIs v "list" ∧ ∀ a, v = .ref a → ∃ ob, s.heap.get? a = some ob ∧ ob.dict = none := fun h => by
    cases e : exL M o with
    | none => rw [e] at h; cases h
    | some ds =>
      obtain ⟨a, vs, h1, h2, h3⟩ := exL_sq rm e r
      subst h1
      exact tyV_is I rx (T := "list") (.inl ⟨rfl, vs, .inl (.inl h2)⟩)
  have dct : ((asK M o).isSome || (asD M o).isSome) = true → s.TypeIs v "dict" ∧ ∀ a, v = .ref a → ∃ ob, s.heap.get? a = some ob ∧ ob.dict = none := fun h => by
    rw [Bool.or_eq_true] at h
    rcases h with h | h
    · cases e : asK M o with
      | none => rw [e] at h; cases h
      | some ds =>
        obtain ⟨a, vs, h1, h2, h3⟩ := asK_h rm e r
        subst h1
        cases rx
        exact let z := isD_at I (.inl ⟨_, h2⟩); ⟨z.1, z.2.1⟩
    · cases e : asD M o with
      | none => rw [e] at h; cases h
      | some ds =>
        obtain ⟨a, vs, h1, h2, h3⟩ := asD_h rm e r
        subst h1
        cases rx
        exact let z := isD_at I (.inr ⟨_, h2⟩); ⟨z.1, z.2.1⟩
  have str : isStrD o = true → s.TypeIs v "str" ∧ ∀ a, v = .ref a → ∃ ob, s.heap.get? a = some ob ∧ ob.dict = none := fun h => by
    cases o with
    | str z =>
      have r := rp_str r
      subst r
      exact tyV_is I rx (T := "str") rfl
    | _ => cases h
  cases m with
  | append => exact lst h
  | extend => exact lst h
  | index => exact lst h
  | get => exact dct h
  | setdefault => exact dct h
  | join => exact str h
  | split => exact str h
  | startswith => exact str h
  | indexT =>
    cases o with
    | tp k ds =>
      cases k with
      | k =>
        obtain ⟨a, vs, h1, ⟨ob, h2, h3, h4⟩, h5⟩ := r
        subst h1
        cases rx
        obtain ⟨e1, _, its, rv, ob', e2, e3, _⟩ := I.hok a _ h3
        rw [e1] at e2
        cases e2
        refine ⟨⟨ob, e1, e3⟩, fun b e => ?_⟩
        cases e
        exact ⟨ob, e1, h4⟩
      | _ => cases h
    | _ => cases h
def mth3 (m : Mt) (to : T3) (t : TL3) : T3 := fun e M Q => to e M fun o M1 => tyOk m M1 o = true ∧ t e M1 fun as M2 => match mthA m M2 o as with | some (r, M3) => Q r M3 | none => False
theorem z_mth {K : PySem.W.Frag} {M0 : MH} {H0 : Hp} {m : Mt} {o e : Expr} {es : List Expr} {to : T3} {t : TL3} {apos cpos : Pos} (hK : X.K = K) (pa : PlainAttrs m.ty) (slot : Slot m.ty (Str.ofString m.name) m.id) (hty : typeOf (.builtin m.id) = pure (.type "method_descriptor")) (hm : MtR X m.id (LMt X.K m))
    (ho : PE X o (LE K M0 H0 to)) (ha : PA X (e :: es) (LA K M0 H0 t))
    (hbase : attributeBase o (Str.ofString m.name) X.env (eval o X.env) = eval o X.env)
    (hfew : ((backTo cpos (starEach (e :: es) X.env)).all (fun x => !x.1) && (backToKw cpos (keywordEach [] X.env)).all (fun x => x.1.isSome)
      && decide ((e :: es).length + ([] : List Keyword).length + (if ([] : List Keyword).isEmpty then 0 else 1) < 30)) = true)
    (hline : (apos.endLine == cpos.line) = true) (hs : starEach (e :: es) X.env = (false, eval e X.env) :: starEach es X.env) (hplain : (backTo cpos (starEach es X.env)).any (·.1) = false) :
    PE X (.Call (.Attribute o (Str.ofString m.name) apos) (e :: es) [] cpos) (LE K M0 H0 (mth3 m to t)) := by
  subst hK
  refine ⟨fun pins s σ H Q I ⟨en, M, P, rs, rm, ev, tt, c⟩ => ?_⟩
  refine wpAny_Call_method_late hbase hfew hline rfl (thn (ho.run pins s σ H (fun x H1 => ∃ d M1, Rp X.K M1 H1 d x ∧ RS X.K M1 H1 en σ ∧ RM X.K M1 H1 ∧ Ev M0 H0 M1 H1 ∧ Ev M H M1 H1 ∧ tyOk m M1 d = true ∧ t en M1 fun as M2 => match mthA m M2 d as with | some (r, M3) => P r M3 | none => False) I
    (LE.then rs rm ev tt fun d M1 v1 H1 t1 r1 rs1 rm1 ev1 e1 => ⟨d, M1, r1, rs1, rm1, ev1, e1, t1.1, t1.2⟩)) fun v s1 ⟨x, H1, I1, rx, d, M1, rd, rs1, rm1, ev1, e1, ty, t1⟩ => ?_)
  obtain ⟨h1, h2⟩ := tyOk_is I1 rx rm1 rd ty
  refine ⟨m.ty, m.id, pa, slot, hty, h1, h2, ?_⟩
  have hA := ha.run cpos pins s1 σ H1 (fun vs H2 => ∃ as M2, RpL X.K M2 H2 as vs ∧ RM X.K M2 H2 ∧ Ev M1 H1 M2 H2 ∧ match mthA m M2 d as with | some (r, M3) => P r M3 | none => False) I1
    (LA.then rs1 rm1 ev1 t1 fun as M2 vs H2 t2 r2 rs2 rm2 ev2 e2 => ⟨as, M2, r2, rm2, e2, t2⟩)
  rw [hs] at hA ⊢
  refine Calls.callWith_builtin (by show (false || (backTo cpos (starEach es X.env)).any (·.1)) = false; rw [hplain]; rfl) (Calls.evalArgs_plain ?_)
  refine thn hA fun us s2 ⟨vs, H2, I2, rv, as, M2, r2, rm2, e2, t2⟩ => ?_
  split at t2
  · rename_i r M3 em
    exact hm pins s2 σ H2 x vs v us Q I2 rx rv ⟨d, as, M2, r, M3, Rp.ev e2 _ _ rd, r2, rm2, em, fun w H' rw' rm' ev' => c r M3 w H' t2 rw' rm' (e1.trans (e2.trans ev'))⟩
  · exact t2.elim
end
end Z

namespace Z
open PySem PySem.Spec PyProof.Rows L2

/-! ### slices -/
abbrev TO3 := En → MH → (Option Int → MH → Prop) → Prop
def noP3 : TO3 := fun _ M Q => Q none M
def part3 (t : T3) : TO3 := fun e M Q => t e M fun d M1 => match d with | .int i => Q (some i) M1 | _ => False
def cutD {α : Type} (xs : List α) (lo hi : Option Int) : List α := (xs.drop (HT.sIx xs.length 0 lo)).take (HT.sIx xs.length xs.length hi - HT.sIx xs.length 0 lo)
def slA (M : MH) (x : D) (lo hi : Option Int) : Option D := match x with
  | .str z => if z.length ≤ sizeLine then some (.str (cutS z lo hi)) else none
  | .tp .t ds => some (.tup (cutD ds lo hi))
  | x => match asL M x with
    | some ds => some (.lst (cutD ds lo hi))
    | none => none
def sl3 (te : T3) (tl th : TO3) : T3 := fun e M Q => te e M fun x M1 => tl e M1 fun lo M2 => th e M2 fun hi M3 => match slA M3 x lo hi with | some d => Q d M3 | none => False
section
variable {K : PySem.W.Frag} {M0 : MH} {H0 : Hp} {X : Cx}
def LO (K : PySem.W.Frag) (M0 : MH) (H0 : Hp) (t : TO3) : TO := fun σ H Q => ∃ e M Q3, RS K M H e σ ∧ RM K M H ∧ Ev M0 H0 M H ∧ t e M Q3 ∧ ∀ o M' H', Q3 o M' → RM K M' H' → Ev M H M' H' → Q o H'
theorem LO.then {t : TO3} {σ : L2.St} {e : En} {M : MH} {H : Hp} {P : Option Int → MH → Prop} {Q : Option Int → Hp → Prop} (rs : RS K M H e σ) (rm : RM K M H) (ev : Ev M0 H0 M H) (h : t e M P)
    (f : ∀ d M1 H1, P d M1 → RS K M1 H1 e σ → RM K M1 H1 → Ev M0 H0 M1 H1 → Ev M H M1 H1 → Q d H1) : LO K M0 H0 t σ H Q :=
  ⟨e, M, P, rs, rm, ev, h, fun d M1 H1 q m e1 => f d M1 H1 q (rs.ev e1) m (ev.trans e1) e1⟩
theorem _root_.L2.PO.imp {e : Option Expr} {t t' : TO} (h : PO X e t) (f : ∀ σ H Q, t' σ H Q → t σ H Q) : PO X e t' := ⟨fun pins s σ H Q I q => h.run pins s σ H Q I (f _ _ _ q)⟩
theorem z_pnone : PO X none (LO K M0 H0 noP3) := po_none.imp fun σ H Q ⟨en, M, P, rs, rm, ev, t, c⟩ => c none M H t rm (Ev.refl _ _)
theorem z_psome {e : Expr} {te : T3} (h : PE X e (LE K M0 H0 te)) : PO X (some e) (LO K M0 H0 (part3 te)) := (po_some h).imp fun σ H Q ⟨en, M, P, rs, rm, ev, t, c⟩ =>
  LE.then rs rm ev t fun d M1 v1 H1 t1 r1 rs1 rm1 ev1 e1 => by
    cases d with
    | int i => exact ⟨i, r1, c (some i) M1 H1 t1 rm1 e1⟩
    | _ => exact t1.elim
theorem RpL.cut {M : MH} {H : Hp} {ds : List D} {vs : List V} (h : RpL K M H ds vs) (lo hi : Option Int) : RpL K M H (cutD ds lo hi) (cutV vs lo hi) := by
  unfold cutD cutV
  rw [h.length]
  exact (h.drop _).take _
theorem sl_all : SlR X (fun x lo hi H Q => rSlS x lo hi H Q ∨ rSlA X.K x lo hi H Q ∨ rSlL X.K x lo hi H Q) := SlR.or sl_str (SlR.or sl_tupA sl_list)
theorem z_sl {e : Expr} {lo hi : Option Expr} {te : T3} {tl th : TO3} {p2 pos : Pos} (hK : X.K = K) (he : PE X e (LE K M0 H0 te)) (hl : PO X lo (LO K M0 H0 tl)) (hh : PO X hi (LO K M0 H0 th)) : PE X (.Subscript e (.Slice lo hi none p2) pos) (LE K M0 H0 (sl3 te tl th)) := by
  subst hK
  exact (pe_slice sl_all he hl hh).imp fun σ H Q ⟨en, M, P, rs, rm, ev, t, c⟩ => LE.then rs rm ev t fun x M1 v1 H1 t1 r1 rs1 rm1 ev1 e1 =>
    LO.then rs1 rm1 ev1 t1 fun l M2 H2 t2 rs2 rm2 ev2 e2 => LO.then rs2 rm2 ev2 t2 fun u M3 H3 t3 rs3 rm3 ev3 e3 => by
      have r3 := Rp.ev (e2.trans e3) _ _ r1
      have ce := c.from (e1.trans (e2.trans e3))
      split at t3
      · rename_i d ed
        unfold slA at ed
        split at ed
        · split at ed
          · rename_i z hz
            obtain rfl := Option.some.inj ed
            exact .inl ⟨z, r3, hz, ce.now rm3 t3 rfl⟩
          · cases ed
        · rename_i ds
          obtain rfl := Option.some.inj ed
          obtain ⟨a, vs, h1, ⟨h2, h3⟩, h4⟩ := r3
          refine .inr (.inl ⟨a, vs, h1, .inl (.inl h3), fun hw => ?_, fun _ p hp => ce _ M3 _ _ t3 (Rp.tupNew rm3 hp (h4.cut l u)) (rm3.new hp) (Ev.new hp)⟩)
          refine ce.now rm3 t3 ⟨a, vs, rfl, ⟨h2, h3⟩, ?_⟩
          have : cutV vs l u = vs := by
            unfold cutV
            rw [hw.1, hw.2, List.drop_zero, Nat.sub_zero, List.take_length]
          rw [← this]
          exact h4.cut l u
        · split at ed
          · rename_i ds e1
            obtain rfl := Option.some.inj ed
            obtain ⟨a, vs, h1, h2, h3⟩ := asL_sq rm3 e1 r3
            exact .inr (.inr ⟨a, vs, h1, h2, fun p hp => ce _ M3 _ _ t3 (Rp.lstNew rm3 hp (h3.cut l u)) (rm3.new hp) (Ev.new hp)⟩)
          · cases ed
      · exact t3.elim
/-- xs[::-1] -/
def rev3 : O1 := fun x M Q => match asL M x with | some ds => Q (.lst ds.reverse) M | none => False
theorem z_rev {e : Expr} {te : T3} {k : Nat} {p1 p2 p3 pos : Pos} (hK : X.K = K) (he : PE X e (LE K M0 H0 te)) : PE X (.Subscript e (.Slice none none (some (.UnaryOp .USub (.Constant (.int 1) k p1) p2)) p3) pos) (LE K M0 H0 (op1 rev3 te)) := by
  subst hK
  exact (pe_revL he).imp fun σ H Q ⟨en, M, P, rs, rm, ev, t, c⟩ => LE.then rs rm ev t fun x M1 v1 H1 t1 r1 rs1 rm1 ev1 e1 => by
    unfold rev3 at t1
    split at t1
    · rename_i ds e2
      obtain ⟨a, vs, h1, h2, h3⟩ := asL_sq rm1 e2 r1
      exact ⟨a, vs, h1, h2, fun p hp => (c.from e1) _ M1 _ _ t1 (Rp.lstNew rm1 hp h3.reverse) (rm1.new hp) (Ev.new hp)⟩
    · exact t1.elim
/-! ### truth -/
def truA (M : MH) (d : D) : Option Bool := match d with
  | .non => some false
  | .bl b => some b
  | .int i => some (i != 0)
  | .str y => if y.length ≤ sizeLine then some ((y.length : Int) != 0) else none
  | d => match seqM M d with
    | some ds => some (!ds.isEmpty)
    | none => match d with
      | .ref a => (match M a with | some (.dK kvs) => some (!kvs.isEmpty) | _ => none)
      | _ => none
def tru3 (te : T3) : TB3 := fun e M Q => te e M fun d M1 => match truA M1 d with | some b => Q b M1 | none => False
theorem z_truth {a : Expr} {ta : T3} (hK : X.K = K) (ha : PE X a (LE K M0 H0 ta)) (he : ∀ whole, isTrue a X.env whole = (do let v ← whole; standAt a.pos; holding [v] (truthy v))) : PT X a (LT K M0 H0 (tru3 ta)) := by
  subst hK
  exact (pt_truth ha he).imp fun σ H Q ⟨en, M, P, rs, rm, ev, t, c⟩ => LE.then rs rm ev t fun d M1 v1 H1 t1 r1 rs1 rm1 ev1 e1 => by
    split at t1
    · rename_i b eb
      refine ⟨b, ?_, c b M1 H1 t1 rm1 e1⟩
      unfold truA at eb
      split at eb
      · obtain rfl := Option.some.inj eb
        have r1 := show v1 = _ from r1
        subst r1; rfl
      · obtain rfl := Option.some.inj eb
        have r1 := show v1 = _ from r1
        subst r1; rfl
      · obtain rfl := Option.some.inj eb
        have r1 := show v1 = _ from r1
        subst r1; rfl
      · split at eb
        · rename_i hz
          obtain rfl := Option.some.inj eb
          have r1 := show v1 = _ from r1
          subst r1
          exact ⟨hz, rfl⟩
        · cases eb
      · split at eb
        · rename_i ds e2
          obtain rfl := Option.some.inj eb
          obtain ⟨a, vs, h1, h2, h3⟩ := seqM_sq rm1 e2 r1
          subst h1
          have hl := h3.length
          have hb : (!ds.isEmpty) = !vs.isEmpty := by
            cases ds <;> cases vs <;> first | rfl | (simp at hl)
          rcases h2 with h2 | h2
          · exact .inl ⟨vs, h2, hb⟩
          · exact .inr (.inl ⟨vs, h2, hb⟩)
        · split at eb
          · rename_i a _ _ _ _ _
            split at eb
            · rename_i kvs e2
              obtain rfl := Option.some.inj eb
              obtain ⟨vs, h2, h3⟩ := rm1 a _ e2
              have r1 : v1 = .ref a := r1
              subst r1
              have hl := h3.length
              refine .inr (.inr ⟨_, h2, ?_⟩)
              cases kvs with
              | nil => simp
              | cons p r =>
                cases vs with
                | nil => simp at hl
                | cons _ _ => rfl
            · cases eb
          · cases eb
    · exact t1.elim
/-! ### dict displays -/
def pairs3 : List (T3 × T3) → En → MH → (List (D × D) → MH → Prop) → Prop
  | [], _, M, Q => Q [] M
  | (tk, tv) :: r, e, M, Q => tk e M fun k M1 => tv e M1 fun v M2 => pairs3 r e M2 fun ps M3 => Q ((k, v) :: ps) M3
def keysD : List (D × D) → Option (List (Key × D))
  | [] => some []
  | (k, v) :: r => match keyK k, keysD r with
    | some k, some r => some ((k, v) :: r)
    | _, _ => none
def mergeD (kvs more : List (Key × D)) : List (Key × D) := more.foldl (fun acc kv => putD acc kv.1 kv.2) kvs
def resK (m : Bool) (p : Addr) (kvs : List (Key × D)) (M : MH) (Q : Q3) : Prop := match m with
  | true => Q (.ref p) (up M p (.dK kvs))
  | false => Q (.dK (kvs.map (·.1)) (kvs.map (·.2))) (er M p)
def disp3 (m : Bool) (ps : List (T3 × T3)) : T3 := fun e M Q => ∀ p, M p = none → pairs3 ps e (up M p (.dK [])) fun ds M2 => M2 p = some (.dK []) ∧ match keysD ds with
  | some kvs => kvs.length ≤ 15 ∧ resK m p (mergeD [] kvs) M2 Q
  | none => False
def newK3 (m : Bool) : T3 := fun _ M Q => match m with
  | true => ∀ p, M p = none → Q (.ref p) (up M p (.dK []))
  | false => Q (.dK [] []) M
def newT3 : T3 := fun _ M Q => ∀ p, M p = none → Q (.ref p) (up M p (.dT []))
def LPs (K : PySem.W.Frag) (M0 : MH) (H0 : Hp) (ps : List (T3 × T3)) : List (TE × TE) := ps.map fun p => (LE K M0 H0 p.1, LE K M0 H0 p.2)
/-- pairs of data and of values -/
def RpP (K : PySem.W.Frag) (M : MH) (H : Hp) : List (D × D) → List (V × V) → Prop
  | [], vs => vs = []
  | (k, d) :: r, vs => ∃ x y w, vs = (x, y) :: w ∧ Rp K M H k x ∧ Rp K M H d y ∧ RpP K M H r w
theorem RpP.ev {M M' : MH} {H H' : Hp} (e : Ev M H M' H') : ∀ {ds : List (D × D)} {vs : List (V × V)}, RpP K M H ds vs → RpP K M' H' ds vs
  | [], _, h => h
  | (k, d) :: r, vs, ⟨x, y, w, h1, h2, h3, h4⟩ => ⟨x, y, w, h1, Rp.ev e _ _ h2, Rp.ev e _ _ h3, h4.ev e⟩
theorem pairs_ok : ∀ {ps : List (T3 × T3)} {σ : L2.St} {e : En} {M : MH} {H : Hp} {P : List (D × D) → MH → Prop} {Q : List (V × V) → Hp → Prop}, RS K M H e σ → RM K M H → Ev M0 H0 M H → pairs3 ps e M P →
    (∀ ds M1 vs H1, P ds M1 → RpP K M1 H1 ds vs → RM K M1 H1 → Ev M H M1 H1 → Q vs H1) → tPairs (LPs K M0 H0 ps) σ H Q
  | [], σ, e, M, H, P, Q, rs, rm, ev, t, c => c [] M [] H t rfl rm (Ev.refl _ _)
  | (tk, tv) :: r, σ, e, M, H, P, Q, rs, rm, ev, t, c => LE.then rs rm ev t fun k M1 v1 H1 t1 r1 rs1 rm1 ev1 e1 => LE.then rs1 rm1 ev1 t1 fun v M2 v2 H2 t2 r2 rs2 rm2 ev2 e2 =>
    pairs_ok rs2 rm2 ev2 t2 fun ds M3 vs H3 q r3 rm3 e3 => c _ M3 _ H3 q ⟨v1, v2, vs, rfl, Rp.ev (e2.trans e3) _ _ r1, Rp.ev e3 _ _ r2, r3⟩ rm3 (e1.trans (e2.trans e3))
theorem keysD_ok {M : MH} {H : Hp} : ∀ {ds : List (D × D)} {vs : List (V × V)} {kvs : List (Key × D)}, keysD ds = some kvs → RpP K M H ds vs → ∃ ws, vs = ((kvs.map (·.1)).zip ws).map (fun kv => (kV kv.1, kv.2)) ∧ RpL K M H (kvs.map (·.2)) ws
  | [], vs, kvs, h, r => by
    have r : vs = [] := r
    obtain rfl := Option.some.inj h
    subst r
    exact ⟨[], rfl, rfl⟩
  | (k, d) :: ds, vs, kvs, h, ⟨x, y, w, h1, h2, h3, h4⟩ => by
    dsimp only [keysD] at h
    split at h
    · rename_i k' r' e1 e2
      obtain rfl := Option.some.inj h
      obtain ⟨ws, g1, g2⟩ := keysD_ok e2 h4
      refine ⟨y :: ws, ?_, ⟨y, ws, rfl, h3, g2⟩⟩
      rw [h1, g1, keyK_v e1 h2]; rfl
    · cases h
theorem merge_ok {M : MH} {H : Hp} : ∀ {more kvs : List (Key × D)} {ws vs : List V}, RpL K M H (more.map (·.2)) ws → RpL K M H (kvs.map (·.2)) vs →
    ∃ us, mergeK ((kvs.map (·.1)).zip vs) ((more.map (·.1)).zip ws) = ((mergeD kvs more).map (·.1)).zip us ∧ RpL K M H ((mergeD kvs more).map (·.2)) us
  | [], kvs, ws, vs, r, q => ⟨vs, rfl, q⟩
  | p :: more, kvs, ws, vs, r, q => by
    obtain ⟨w, w', h1, h2, h3⟩ := r
    subst h1
    obtain ⟨us, g1, g2⟩ := put_rp (k := p.1) h2 q
    obtain ⟨us2, k1, k2⟩ := merge_ok (more := more) (kvs := putD kvs p.1 p.2) h3 g2
    refine ⟨us2, ?_, k2⟩
    show mergeK (putK ((kvs.map (·.1)).zip vs) p.1 w) ((more.map (·.1)).zip w') = _
    rw [g1]
    exact k1
theorem z_disp {keys : List (Option Expr)} {values : List Expr} {ps : List (T3 × T3)} {m : Bool} {pos : Pos} (h : PPs X pos keys values (LPs K M0 H0 ps)) (hall : keys.all (·.isSome) = true) (hl : keys.length = values.length) (h0 : keys ≠ []) (h15 : keys.length ≤ 15) :
    PE X (.Dict keys values pos) (LE K M0 H0 (disp3 m ps)) :=
  (pe_disp h hall hl h0 h15).imp fun σ H Q ⟨en, M, P, rs, rm, ev, t, c⟩ p hp => by
    have rm1 : RM K (up M p (.dK [])) (upd H p (.dK [])) := rm.newM hp ⟨[], upd_same, rfl⟩
    have e1 : Ev M H (up M p (.dK [])) (upd H p (.dK [])) := Ev.newM hp
    refine pairs_ok (rs.ev e1) rm1 (ev.trans e1) (t p (rm.free hp)) fun ds M2 vs H2 ⟨q1, q2⟩ r2 rm2 e2 => ?_
    obtain ⟨zs, z1, z2⟩ := rm2 p _ q1
    have z2 : zs = [] := z2
    subst z2
    refine ⟨z1, ?_⟩
    split at q2
    · rename_i kvs ek
      obtain ⟨q2, q3⟩ := q2
      obtain ⟨ws, w1, w2⟩ := keysD_ok ek r2
      obtain ⟨us, u1, u2⟩ := merge_ok (K := K) (M := M2) (H := H2) (kvs := []) (vs := []) w2 rfl
      refine ⟨(kvs.map (·.1)).zip ws, w1, ?_, ?_⟩
      · rw [List.length_zip, List.length_map]; omega
      · have u1 : mergeK [] ((kvs.map (·.1)).zip ws) = _ := u1
        rw [u1]
        have rmw : RM K (up M2 p (.dK (mergeD [] kvs))) (upd H2 p (.dK (((mergeD [] kvs).map (·.1)).zip us))) := rm2.wr q1 ⟨us, upd_same, RpL.ev (Ev.wr q1) _ _ u2⟩
        cases m with
        | true => exact c _ _ _ _ q3 rfl rmw (e1.trans (e2.trans (Ev.wr q1)))
        | false =>
          -- forget it first, then it is written: as one step
          have sb : Sub (er M2 p) (up M2 p (.dK (mergeD [] kvs))) := fun a o q => by
            unfold er at q
            by_cases z : a = p
            · rw [if_pos z] at q; cases q
            · rw [if_neg z] at q
              rw [up_ne z]; exact q
          refine c _ _ _ _ q3 ⟨p, us, rfl, er_none, .inl upd_same, by simp, RpL.ev ((Ev.wr q1).trans (Ev.sub sb)) _ _ u2⟩ (rmw.sub sb) (e1.trans (e2.trans ((Ev.wr q1).trans (Ev.sub sb))))
    · exact q2.elim
theorem z_newK {m : Bool} {pos : Pos} : PE X (.Dict [] [] pos) (LE K M0 H0 (newK3 m)) := pe_dnewK.imp fun σ H Q ⟨en, M, P, rs, rm, ev, t, c⟩ p hp => by
  cases m with
  | true => exact c _ _ _ _ (t p (rm.free hp)) rfl (rm.newM hp ⟨[], upd_same, rfl⟩) (Ev.newM hp)
  | false => exact c _ M _ _ t ⟨p, [], rfl, rm.free hp, .inl upd_same, rfl, rfl⟩ (rm.new hp) (Ev.new hp)
theorem z_newT {pos : Pos} : PE X (.Dict [] [] pos) (LE K M0 H0 newT3) := pe_dnewT.imp fun σ H Q ⟨en, M, P, rs, rm, ev, t, c⟩ p hp =>
  c _ _ _ _ (t p (rm.free hp)) rfl (rm.newM hp ⟨[], upd_same, rfl⟩) (Ev.newM hp)
/-! ### comprehensions as expressions -/
theorem z_lc {m : Bool} {elt tgE iter : Expr} {ifs : List Expr} {scope : Scope} {own : List (Str × Nat)} {it : TL3} {tg : Tg} {tt : TB3} {te : T3} {pos : Pos} (hc : X.calm = true) (hN : X.N.Nodup) (hi : PI X tgE iter (LI K M0 H0 it)) (ok : BlkOk X.N X.env.scope scope own) (hsub : ∀ i ∈ tg.slots, i ∈ own.map (·.2))
    (hg : ∀ (s : Shared) (H : Hp) (C : Addr) (cl : List (Str × Addr)) (fp : List Addr), PG (X.blk s H scope (compEnvC scope cl C X.env) fp) tgE (gOf K tg)) (ht : ∀ (s : Shared) (H : Hp) (C : Addr) (cl : List (Str × Addr)) (fp : List Addr), PTs (X.blk s H scope (compEnvC scope cl C X.env) fp) ifs (LT K M0 H0 tt))
    (he : ∀ (s : Shared) (H : Hp) (C : Addr) (cl : List (Str × Addr)) (fp : List Addr), PE (X.blk s H scope (compEnvC scope cl C X.env) fp) elt (LE K M0 H0 te)) (hs : ∀ x, foldedSetIterable iter X.env x = pure x) :
    PE X (.ListComp elt [⟨tgE, iter, ifs, 0⟩] scope pos) (LE K M0 H0 (comp3 m it tg tt te (own.map (·.2)))) :=
  (pe_lc hc hN hi ok hg ht he hs).imp fun _ _ _ h => lcomp hsub h
theorem z_setlc {m : Bool} {i : Nat} {y : Str} {py : Pos} {elt tgE iter : Expr} {ifs : List Expr} {scope : Scope} {own : List (Str × Nat)} {it : TL3} {tg : Tg} {tt : TB3} {te : T3} {pos spos : Pos} (hc : X.calm = true) (hN : X.N.Nodup) (hy : X.N[i]? = some y) (hyl : X.env.scope.names.lookup y = some .local)
    (hsw : swapsWith (.ListComp elt [⟨tgE, iter, ifs, 0⟩] scope pos) (some (.Name y py)) spos.line X.env = pure true) (hi : PI X tgE iter (LI K M0 H0 it)) (ok : BlkOk X.N X.env.scope scope own) (hsub : ∀ i ∈ tg.slots, i ∈ own.map (·.2))
    (hg : ∀ (s : Shared) (H : Hp) (C : Addr) (cl : List (Str × Addr)) (fp : List Addr), PG (X.blk s H scope (compEnvC scope cl C X.env) fp) tgE (gOf K tg)) (ht : ∀ (s : Shared) (H : Hp) (C : Addr) (cl : List (Str × Addr)) (fp : List Addr), PTs (X.blk s H scope (compEnvC scope cl C X.env) fp) ifs (LT K M0 H0 tt))
    (he : ∀ (s : Shared) (H : Hp) (C : Addr) (cl : List (Str × Addr)) (fp : List Addr), PE (X.blk s H scope (compEnvC scope cl C X.env) fp) elt (LE K M0 H0 te)) (hs : ∀ x, foldedSetIterable iter X.env x = pure x) :
    PS X (.Assign [.Name y py] (.ListComp elt [⟨tgE, iter, ifs, 0⟩] scope pos) spos) (LS K M0 H0 (asg3 (comp3 m it tg tt te (own.map (·.2))) (.nm i))) :=
  (ps_setLc hc hN hy hyl hsw hi ok hg ht he hs).imp fun D σ H ⟨en, M, D3, rs, rm, ev, t, c⟩ =>
    lcomp (m := m) (K := K) (M0 := M0) (H0 := H0) hsub ⟨en, M, _, rs, rm, ev, t, fun d M1 v1 H1 t1 r1 rm1 e1 => c.nx _ M1 _ H1 t1 ((rs.ev e1).set i r1) rm1 e1⟩
/-! ### x op= e -/
def aug3 (i : Nat) (te : T3) (o : O2) : TS3 := fun D e M => match getE e i with
  | some d => te e M fun d2 M1 => o d d2 M1 fun r M2 => D.nx (setE e i r) M2
  | none => False
def iadd3 : O2 := fun x y M Q => match x, y with
  | .int i, .int j => Q (.int (i + j)) M
  | .str a, .str b => a.length + b.length ≤ sizeLine ∧ Q (.str (a ++ b)) M
  | _, _ => False
def isub3 : O2 := fun x y M Q => match x, y with
  | .int i, .int j => Q (.int (i - j)) M
  | _, _ => False
theorem zi_add : OpR X (inplaceOp .Add) (LO2 X.K iadd3) := oimp (or2 iop_add iop_add_str) fun x y H Q ⟨d1, d2, M, Q3, r1, r2, rm, o, c⟩ => by
  unfold iadd3 at o
  split at o
  · exact .inl ⟨_, _, r1, r2, c.now rm o rfl⟩
  · exact .inr ⟨_, _, r1, r2, o.1, c.now rm o.2 rfl⟩
  · exact o.elim
theorem zi_sub : OpR X (inplaceOp .Sub) (LO2 X.K isub3) := oimp iop_sub fun x y H Q ⟨d1, d2, M, Q3, r1, r2, rm, o, c⟩ => by
  unfold isub3 at o
  split at o
  · exact ⟨_, _, r1, r2, c.now rm o rfl⟩
  · exact o.elim
theorem z_aug {i : Nat} {x : Str} {e : Expr} {te : T3} {op : Operator} {o : O2} {pos pos' : Pos} (hN : X.N.Nodup) (hi : X.N[i]? = some x) (hx : Loc X.env.scope x) (he : PE X e (LE K M0 H0 te)) (ho : OpR X (inplaceOp op) (LO2 K o)) (hf : X.fn x = true ∨ X.env.scope.names.lookup x = some .local) :
    PS X (.AugAssign (.Name x pos') op e pos) (LS K M0 H0 (aug3 i te o)) :=
  (ps_aug hN hi hx he (show PIp X op (LO2 K o) from ho) hf).imp fun D σ H ⟨en, M, D3, rs, rm, ev, t, c⟩ => by
    unfold aug3 at t
    split at t
    · rename_i d ed
      obtain ⟨v, h1, h2⟩ := rs.get i d ed
      refine ⟨v, h1, LE.then rs rm ev t fun d2 M1 v1 H1 t1 r1 rs1 rm1 ev1 e1 => ⟨d, d2, M1, _, Rp.ev e1 _ _ h2, r1, rm1, t1, fun r M2 w H2 t2 r2 rm2 e2 => ?_⟩⟩
      exact c.nx _ M2 _ H2 t2 ((rs1.ev e2).set i r2) rm2 (e1.trans e2)
    · exact t.elim
end
end Z

namespace Z
open PySem PySem.Spec PyProof.Rows L2

/-- an exception of an own class: its name, the argument that it keeps -/
structure Exc where
  cls : Str
  arg : Option D
abbrev X3 := Exc → MH → Prop
abbrev Sp3 := List D → MH → Q3 → X3 → Prop
/-- how an exception lies -/
abbrev XRel := Exc → Value → Option Addr → MH → Hp → Prop
def noX : X3 := fun _ _ => False
def CvX (K : PySem.W.Frag) (XR : XRel) (M : MH) (H : Hp) (E3 : X3) (E : XK) : Prop := ∀ x M' H' cls d, E3 x M' → XR x cls d M' H' → RM K M' H' → Ev M H M' H' → E cls d H'
theorem CvX.from {K : PySem.W.Frag} {XR : XRel} {M M1 : MH} {H H1 : Hp} {E3 : X3} {E : XK} (c : CvX K XR M H E3 E) (e : Ev M H M1 H1) : CvX K XR M1 H1 E3 E := fun x M' H' cls d h r m e2 => c x M' H' cls d h r m (e.trans e2)
def liftSp (K : PySem.W.Frag) (XR : XRel) (n : Nat) (sp : Sp3) : Sp := fun vs H Q E => ∃ ds M Q3 E3, ds.length = n ∧ RpL K M H ds vs ∧ RM K M H ∧ sp ds M Q3 E3 ∧ Cv K M H Q3 Q ∧ CvX K XR M H E3 E
theorem liftSp.len {K : PySem.W.Frag} {XR : XRel} {n : Nat} {sp : Sp3} {vs : List V} {H : Hp} {Q : VK} {E : XK} (h : liftSp K XR n sp vs H Q E) : vs.length = n := by
  obtain ⟨ds, M, Q3, E3, h1, h2, _⟩ := h
  rw [h2.length, h1]
/-- a def of the module that may be called -/
structure Cal (P : Program) (w : World) (K : PySem.W.Frag) (mg : Str → Option Value) (base : Heap) (XR : XRel) (k : Nat) (x : Str) (n : Nat) (sp : Sp3) : Prop where
  ex : ∃ (f : Addr) (fd : FuncData) (ps : List Str), FnOk P w K mg base (L2.CX P w) k f fd ps (liftSp K XR n sp) ∧ mg x = some (.ref f) ∧ PySem.W.keepIn K (.ref f) = true ∧ Binds K fd ps [] ∧ ps.length = n
theorem Cal.mono {P : Program} {w : World} {K : PySem.W.Frag} {mg : Str → Option Value} {base : Heap} {XR : XRel} {j k : Nat} {x : Str} {n : Nat} {sp : Sp3} (c : Cal P w K mg base XR j x n sp) (h : j ≤ k) : Cal P w K mg base XR k x n sp := by
  obtain ⟨f, fd, ps, F, r⟩ := c.ex
  exact ⟨f, fd, ps, F.mono h, r⟩
/-- what is wanted of exceptions where X runs -/
structure Out (X : Cx) (XR : XRel) (M0 : MH) (H0 : Hp) (E3 : X3) : Prop where
  ex : ∃ E : XK, Takes X (fun cls d _ H => E cls d H) ∧ CvX X.K XR M0 H0 E3 E
theorem Out.no {X : Cx} {XR : XRel} {M0 : MH} {H0 : Hp} : Out X XR M0 H0 noX := ⟨fun _ _ _ => False, takes0, fun _ _ _ _ _ h => h.elim⟩
def call3 (n : Nat) (sp : Sp3) (E3 : X3) (t : TL3) : T3 := fun e M Q => t e M fun ds M1 => ds.length = n ∧ sp ds M1 Q E3
section
variable {X : Cx} {XR : XRel} {M0 : MH} {H0 : Hp}
theorem z_call {k n : Nat} {sp : Sp3} {E3 : X3} {x : Str} {p pos : Pos} {e : Expr} {es : List Expr} {t : TL3} (C : Cal X.prog X.w X.K X.mg X.base XR k x n sp) (hr : Room k X.A) (ou : Out X XR M0 H0 E3) (hg : Gl X x)
    (ha : PA X (e :: es) (LA X.K M0 H0 t)) (hdb : (x == ("__debug__" : Str)) = false) (he : starEach (e :: es) X.env = (false, eval e X.env) :: starEach es X.env) (hpl : (backTo pos (starEach es X.env)).any (·.1) = false) :
    PE X (.Call (.Name x p) (e :: es) [] pos) (LE X.K M0 H0 (call3 n sp E3 t)) := by
  obtain ⟨f, fd, ps, F, hm, hk, hb, hl⟩ := C.ex
  obtain ⟨E, tk, hX⟩ := ou.ex
  have hE : Passes (L2.CX X.prog X.w) X E := passes_call (W := fun cls d _ H => E cls d H) tk fun _ _ _ _ h => h
  refine (pe_call F hr hg hm hk hb .nil hE ha hdb he hpl).imp fun σ H Q ⟨en, M, P, rs, rm, ev, t', c⟩ => ?_
  refine LA.then rs rm ev t' fun ds M1 vs H1 ⟨l1, t1⟩ r1 rs1 rm1 ev1 e1 => ?_
  rw [List.append_nil]
  exact ⟨ds, M1, P, E3, l1, r1, rm1, t1, c.from e1, hX.from ev1⟩
end
/-! ### a def -/
def startE (n : Nat) (ds : List D) : En := ds.map some ++ List.replicate (n - ds.length) none
/-- what is given back: what was marked here may be forgotten -/
def RT (Q : Q3) : Q3 := fun d M => ∃ M', Sub M' M ∧ Q d M'
def bodyEnds (Q : Q3) : Ends3 := ⟨fun _ M => RT Q .non M, RT Q, fun _ _ => False, fun _ _ => False⟩
section
variable {P : Program} {w : World} {K : PySem.W.Frag} {mg : Str → Option Value} {base : Heap} {XR : XRel}
theorem startE_get : ∀ (ds : List D) (n i : Nat) (d : D), getE (startE n ds) i = some d → ds[i]? = some d := fun ds n i d h => by
  rw [getE_eq] at h
  unfold startE at h
  by_cases hi : i < ds.length
  · rw [List.getElem?_append_left (by rw [List.length_map]; exact hi), List.getElem?_map] at h
    rw [List.getElem?_eq_getElem hi] at h ⊢
    simpa using h
  · rw [List.getElem?_append_right (by rw [List.length_map]; omega)] at h
    rw [List.getElem?_replicate] at h
    split at h <;> cases h
theorem start_rs {M : MH} {H : Hp} {N : List Str} {ds : List D} {vs : List V} (r : RpL K M H ds vs) : RS K M H (startE N.length ds) (L2.start N vs) := by
  refine ⟨?_, fun i d h => ?_⟩
  · unfold startE L2.start
    simp only [List.length_append, List.length_map, List.length_replicate, r.length]
  · have e := startE_get ds _ i d h
    obtain ⟨v, g1, g2⟩ := r.get e
    refine ⟨v, ?_, g2⟩
    unfold L2.start
    have hi : i < vs.length := (List.getElem?_eq_some_iff.mp g1).1
    rw [List.getElem?_append_left (by rw [List.length_map]; exact hi), List.getElem?_map, g1]
    rfl
theorem RT.ok {M0 : MH} {H0 : Hp} {Q3 : Q3} {Q : VK} (c : Cv K M0 H0 Q3 Q) : Cv K M0 H0 (RT Q3) Q := fun d M' v H' ⟨M'', sb, q⟩ r m e =>
  c d M'' v H' q (Rp.ev (Ev.sub sb) _ _ r) (m.sub sb) (e.trans (Ev.sub sb))
/-- THE RULE for a def: its body's reading of data keeps the promise -/
theorem def_ok {x qual : Str} {st : Stmt} {f : Addr} {fd : FuncData} {N ps : List Str} {k n : Nat} {sp : Sp3} (F : Fun K x qual st f fd) (S : FnScope N ps (defScope st)) (hn : ps.length = n)
    (body : ∀ (cdv : Value) (A : Around) (outer : List Env) (s : Shared) (H : Hp) (E : XK) (M : MH) (E3 : X3), Room k (A.deeper (envOfC qual (defScope st) s.heap.objs.size f cdv)) →
      CvX K XR M H E3 E → ∃ t, PSs (cxOf (L2.CX P w) P w K mg base N qual (defScope st) f cdv A outer s H E) (defBody st) (LS K M H t) ∧ ∀ ds Q3, ds.length = n → sp ds M Q3 E3 → t (bodyEnds Q3) (startE N.length ds) M) :
    FnOk P w K mg base (L2.CX P w) (k + 1) f fd ps (liftSp K XR n sp) := by
  refine F.okX S (fun vs H Q E h => by rw [hn]; exact h.len) fun cdv A outer s H vs Q E hr ⟨ds, M, Q3, E3, hl, r, rm, hs, c, cx⟩ => ?_
  obtain ⟨t, ht, q⟩ := body cdv A outer s H E M E3 hr cx
  refine ⟨_, ht, startE N.length ds, M, bodyEnds Q3, start_rs r, rm, Ev.refl _ _, q ds Q3 hl hs, ?_⟩
  refine ⟨?_, RT.ok c, fun _ _ _ _ h => h.elim, fun _ _ _ _ h => h.elim⟩
  intro e' M' σ' H' q r m e
  exact RT.ok c .non M' .non H' q rfl m e
/-- what a body wants of exceptions -/
theorem out_body {N : List Str} {qual : Str} {scope : Scope} {f : Addr} {cd : Value} {A : Around} {outer : List Env} {s : Shared} {H : Hp} {E : XK} {M : MH} {E3 : X3} (c : CvX K XR M H E3 E) : Out (cxOf (L2.CX P w) P w K mg base N qual scope f cd A outer s H E) XR M H E3 :=
  ⟨E, takes_of (E := E) rfl rfl rfl rfl, c⟩
end
end Z

/-! X1: the error with a number: made, raised, read (turned from the worked proof of an own error). -/
namespace PySem
namespace ErrX
open PySem.W PySem.Calls PyProof.Rows PySem.HandSPX
/-! ### the text of __init__ -/
def iA (p1 p2 : Pos) : Arguments := { posonlyargs := [], args := [{ arg := "self", annotation := none, pos := p1 }, { arg := "number", annotation := none, pos := p2 }], vararg := none, kwonlyargs := [], kw_defaults := [], kwarg := none, defaults := [] }
def iB (q1 q2 q3 q4 : Pos) : List Stmt := [.Assign [.Attribute (.Name "self" q1) "number" q2] (.Name "number" q3) q4]
def iS : Scope := { kind := .function, names := [(PySem.Str.ofString "self", .local), (PySem.Str.ofString "number", .local)], isGenerator := false, isCoroutine := false, more := [] }
/-- what the written part says of the error class, at C, and of its __init__, at fI -/
structure ErrTxt (K : Frag) (mg : Str → Option Value) (C fI : Addr) : Prop where
  gC : mg "InvalidLine" = some (.ref C)
  cls : ∃ nm q N bs bm sn sub ab col dd k0 k1 k2 k3 k5, K.lookup C = some (excClassObj nm q C N bs bm true sn sub ab col dd k0 k1 k2 k3 k5 "ValueError.__new__") ∧ refsVE bm = true
  sa : findIn K (.ref C) "__setattr__" = some (some (.builtin "object.__setattr__"))
  ga : findIn K (.ref C) "__getattribute__" = some (some (.builtin "BaseException.__getattribute__"))
  gg : findIn K (.ref C) "__getattr__" = some none
  noN : findIn K (.ref C) "number" = some none
  iC : findIn K (.ref C) "__init__" = some (some (.ref fI))
  tC : typeIn K (.ref fI) = some (.type "function")
  kC : keepIn K (.ref C) = true
  exC : subIn K (.ref C) (.type "BaseException") = some true
  tyC : typeIn K (.ref C) = some (.type "type")
  hdC : hasDictIn K C = true
  te : exmOne K (.ref C) (.ref C) = some true
  fn : ∃ (oc : Value) (od : Option Addr) (doc pm : Value) (an : Option Addr) (cdv ct : Value) (osl : Array (Option Value)) (p1 p2 q1 q2 q3 q4 : Pos),
    K.lookup fI = some ⟨oc, od, .func (fnOf "__init__" "InvalidLine.__init__" (iA p1 p2) (iB q1 q2 q3 q4) iS .none .none doc pm an cdv ct), osl⟩ ∧ codeIn K cdv "InvalidLine.__init__" = true
theorem one_size (v : Value) : [v].length ≤ sizeLine := by
  rw [sizeLine_eq]
  exact (by decide : 1 ≤ 16777216)
theorem kept_but {K : Frag} {h h' : Heap} {x : Addr} (X : K.In h) (hx : K.lookup x = none) (k : ∀ b o, b ≠ x → h.get? b = some o → h'.get? b = some o) : K.In h' := fun a o e =>
  k a o (fun z => by rw [z, hx] at e; cases e) (X a o e)
theorem ldC {M : Model} {s : Shared} {name : Str} {scope : Scope} {L a : Addr} {cd : Value} {m : Str → Option Value} {x : Str} {pos : Pos} {v : Value} {Q : Value → Shared → Prop} {A : Around} {E : Value → Shared → Prop} (hn : s.heap.Ns L m) (hv : m x = some v) (h : Q v s)
    (hk : scope.kind = .function := by rfl) (hl : (envOfC name scope L a cd).kindOf x = some .local := by rfl) (hd : (x == ("__debug__" : Str)) = false := by decide) :
    wpAny M A (eval (.Name x pos) (envOfC name scope L a cd)) Q E s := wpAny_Name (wpAny_loadName_local hk hl hn hv h) hd
/-- what __init__ leaves of a fresh exception at x -/
structure InitEnd (h h' : Heap) (x C dx t1 : Addr) (v : Value) : Prop where
  keep : ∀ b o, b ≠ x → h.get? b = some o → h'.get? b = some o
  obj : h'.get? x = some { cls := .ref C, dict := some dx, data := .fields #[.ref t1, .none, .none, .none, .bool false, .none] }
  dbig : h.objs.size ≤ dx
  dne : dx ≠ x
  ns : h'.Ns1 dx (fun y => if y = "number" then some v else none)
/-- a made error -/
structure OwnMade (h h' : Heap) (e C d : Addr) (v : Value) : Prop where
  keep : ∀ b o, h.get? b = some o → h'.get? b = some o
  new : h.objs.size ≤ e
  obj : ∃ oe vs, h'.get? e = some oe ∧ oe.cls = .ref C ∧ oe.dict = some d ∧ oe.data = .fields vs ∧ vs[1]? = some .none
  dbig : h.objs.size ≤ d
  dne : d ≠ e
  ns : h'.Ns1 d (fun y => if y = "number" then some v else none)
section
variable {prog : Program} {w : World} {A : Around} {E : Value → Shared → Prop} {R : Result → Shared → Prop} {s : Shared} {K : Frag} {mg : Str → Option Value} {C fI : Addr}
theorem err_init (T : ErrTxt K mg C fI) {x t0 : Addr} {v : Value} (X : K.In s.heap) (hlim : s.heap.NoLimit) (hx : s.heap.get? x = some (excO C t0)) (hnx : K.lookup x = none) (hroom : A.depth < recursionLimit)
    (hq : ∀ h' tk dx, InitEnd s.heap h' x C dx t0 v → R (.ok (.ret .none)) { s with heap := h', toks := tk }) :
    codeAny (model prog w) A (.call (.ref fI) ⟨[.ref x, v], []⟩) R s := by
  obtain ⟨oc, od, doc, pm, an, cdv, ct, osl, p1, p2, q1, q2, q3, q4, ho, hcd⟩ := T.fn
  obtain ⟨nm, q, N, bs, bm, sn, sub, ab, col, dd, k0, k1, k2, k3, k5, hC, hbm⟩ := T.cls
  have hcl : clsIn K C = some { name := nm, bases := bs, mro := .ref C :: bm, ns := N, qualname := q, hasDict := true, slotNames := sn, subclasses := sub, abstract := ab, collection := col, hasDel := false } := by unfold clsIn; rw [hC] <;> rfl
  refine Att.call_fn (binds := [("self", .ref x), ("number", v)]) X hlim ho hcd hroom (BindsTo.of_eq (by first | rfl | with_unfolding_all rfl)) (by first | rfl | decide | with_unfolding_all rfl) (fun s₁ IC => ?_) rfl rfl rfl
  obtain ⟨h₁, tk₁, rfl⟩ := IC.toInCall.same
  have k : ∀ b o, s.heap.get? b = some o → h₁.get? b = some o := IC.toInCall.keep
  have hn := IC.toInCall.ns
  have hxL : s.heap.objs.size ≠ x := Nat.ne_of_gt (Heap.lt_size hx)
  have X₁ : K.In h₁ := X.keeps k
  have hx₁ := k _ _ hx
  -- self.by = by
  show wpAny _ _ (execs _ _) _ _ _
  refine wpAny_execs_cons (plainObj_wpAny_Assign_Attribute ?_)
  refine ldC (v := v) hn (by first | rfl | with_unfolding_all rfl | kernel_rfl) (ldC (v := .ref x) hn (by first | rfl | with_unfolding_all rfl | kernel_rfl) ?_)
  refine set_plain X₁ (ox := excO C t0) (od := none) ⟨hx₁, rfl, rfl, trivial⟩ T.sa ?_
  refine exc_osa X₁ hx₁ hcl (show refsVE (.ref C :: bm) = true from hbm) rfl T.noN (fun h₃ tk₃ dx k₃ dn dne hx₃ hn₃ => ?_)
  show wpAny _ _ (execs _ _) _ _ _
  have z : s.heap.objs.size < h₁.objs.size := hn.lt
  exact wpAny_execs_nil (hq h₃ tk₃ dx ⟨fun b o hb e => k₃ b o hb (k b o e), hx₃, Nat.le_of_lt (Nat.lt_of_lt_of_le z dn), dne, hn₃⟩)
theorem err_made (T : ErrTxt K mg C fI) {v : Value} (X : K.In s.heap) (hlim : s.heap.NoLimit) (hroom : A.depth + 1 < recursionLimit)
    (hq : ∀ h' tk e d, OwnMade s.heap h' e C d v → R (.ok (.ret (.ref e))) { s with heap := h', toks := tk }) :
    codeAny (model prog w) A (.call (.ref C) ⟨[v], []⟩) R s := by
  obtain ⟨nm, q, N, bs, bm, sn, sub, ab, col, dd, k0, k1, k2, k3, k5, hC, hbm⟩ := T.cls
  obtain ⟨hp, g, dr, tk, os⟩ := s
  have k : ∀ b o, hp.get? b = some o → ((hp.push (kdv_tup [v])).push (excO C hp.objs.size)).get? b = some o := fun b o e => Heap.get?_push_of_some _ (Heap.get?_push_of_some _ e)
  have hget : ((hp.push (kdv_tup [v])).push (excO C hp.objs.size)).get? (hp.objs.size + 1) = some (excO C hp.objs.size) := by heap_get
  have hnx : K.lookup (hp.objs.size + 1) = none := by
    cases e : K.lookup (hp.objs.size + 1) with
    | none => rfl
    | some o =>
      have z : hp.get? (hp.objs.size + 1) = some o := X _ _ e
      exact absurd (Nat.lt_of_succ_lt (Heap.lt_size z)) (Nat.lt_irrefl _)
  refine call_own F.excBase_ValueError (fun X => refsVE_contains X bm hbm) (X _ _ hC) (looks_findIn X T.iC) (fun self => bind_fn X self T.tC) (one_size v) ?_
  refine err_init (s := ⟨(hp.push (kdv_tup [v])).push (excO C hp.objs.size), g, dr, tk, os⟩) T (X.keeps k) (hlim.keeps k) hget hnx ?_ fun h' tk' dx ⟨k', hx, dn, dne, hns⟩ => ?_
  · show A.depth + 1 < recursionLimit
    exact hroom
  · have old : ∀ b o, hp.get? b = some o → h'.get? b = some o := fun b o e => k' b o (Nat.ne_of_lt (Nat.lt_succ_of_lt (Heap.lt_size e))) (k b o e)
    have z : hp.objs.size + 1 + 1 ≤ dx := by
      first
        | (simpa only [Heap.size_push] using dn)
        | exact dn
        | (have q := dn; rw [Heap.size_push, Heap.size_push] at q; exact q)
    exact ⟨rfl, hq h' tk' (hp.objs.size + 1) dx ⟨old, Nat.le_succ _, ⟨_, _, hx, rfl, rfl, rfl, rfl⟩, Nat.le_trans (Nat.le_trans (Nat.le_succ _) (Nat.le_succ _)) z, dne, hns⟩⟩
end
end ErrX
end PySem
namespace L2
open PySem PySem.Spec PyProof.Rows
theorem relO_err {v : V} {v' : Value} (r : RelV v v') (f : Str) : RelO (List.lookup f [(("number" : Str), v)]) (if f = "number" then some v' else none) := by
  by_cases hw : f = "number"
  · subst hw
    rw [if_pos rfl]
    have q : List.lookup ("number" : Str) [(("number" : Str), v)] = some v := by simp [List.lookup]
    rw [q]
    exact r
  · rw [if_neg hw]
    have qw : (f == ("number" : Str)) = false := by simpa using hw
    have q2 : List.lookup f [(("number" : Str), v)] = none := by simp [List.lookup, qw]
    rw [q2]
    trivial
section
variable {X : Cx} {C fI : Addr}
/-- InvalidLine(e) -/
def tMkErr (C : Addr) (ta : TA) : St → Hp → XK → Prop := fun σ H Q => ta σ H fun vs H1 => ∃ v, vs = [v] ∧ ∀ d, H1 d = none → Q (.ref C) (some d) (upd H1 d (.xd [(("number" : Str), v)]))
theorem pmk_err {a : Expr} {ta : TA} {p pos : Pos} {k : Nat} (T : PySem.ErrX.ErrTxt X.K X.mg C fI) (hr : Room k X.A) (ha : PA X [a] ta) (hg : Gl X "InvalidLine" := by rfl)
    (he : starEach (a :: []) X.env = (false, eval a X.env) :: starEach [] X.env := by rfl) (hpl : (backTo pos (starEach [] X.env)).any (·.1) = false := by rfl) :
    PMk X (.Call (.Name "InvalidLine" p) [a] [] pos) (tMkErr C ta) := by
  intro pins s σ H Q I h
  refine wpAny_Call_Name_kw (ld_glob I hg T.gC ?_)
  refine PySem.W.callWith_K (h₀ := X.base) I.ok.mod.kin T.kC (thn (ha.run pos pins s σ H _ I h) fun us s1 hh => ?_) he hpl
  obtain ⟨vs, H1, I1, r1, v, ev, q1⟩ := hh
  subst ev
  refine ⟨I1.kIn, ?_⟩
  cases r1 with
  | cons rv rn =>
    rename_i v' us'
    cases rn
    show wpAny _ _ (call (.ref C) [v']) _ _ _
    have hlim := I1.nolimit
    obtain ⟨hp, g, dr, tk, os⟩ := s1
    refine wpAny_call (PySem.ErrX.err_made T I1.kIn hlim (by have := hr.dp; omega) fun h' tk' e d M => ?_)
    show MkP X pins σ Q (.ref e) ⟨h', g, dr, tk', os⟩
    obtain ⟨oe, fv, hoe, hc, hd, hdat, h1⟩ := M.obj
    have hns := M.ns
    obtain ⟨G', g1, g2⟩ := restrict h' fun b => decide (b ≠ e)
    have gk : ∀ b, b ≠ e → G'.get? b = h'.get? b := fun b hb => g1 b (decide_eq_true hb)
    have ge : G'.get? e = none := g2 e (by simp)
    have old : ∀ b o, hp.get? b = some o → G'.get? b = some o := fun b o q => (gk b (Nat.ne_of_lt (Nat.lt_of_lt_of_le (Heap.lt_size q) M.new))).trans (M.keep b o q)
    have ob : ObjOk X.prog X.w (upd H1 d (.xd [(("number" : Str), v)])) G' d (.xd [(("number" : Str), v)]) :=
      ⟨_, hns.at (fun o q => (gk d M.dne).trans q), fun f => relO_err rv f⟩
    have J : Inv X pins σ (upd H1 d (.xd [(("number" : Str), v)])) ⟨G', g, dr, tk', os⟩ := I1.laid (t' := tk') old M.dbig ob
    refine ⟨e, oe, fv, ⟨G', g, dr, tk', os⟩, _, .ref C, some d, rfl, J, fun b o q => ?_, ge, hoe, ⟨hc, hd⟩, hdat, h1, ?_, rfl, I1.bare, raises_own T.exC T.tyC, q1 d (I1.hok.fresh M.dbig)⟩
    · by_cases hb : b = e
      · have q' : G'.get? b = some o := q
        rw [hb, ge] at q'; cases q'
      · exact (gk b hb).symm.trans q
    · rw [upd_ne (Ne.symm M.dne)]
      exact I1.hok.fresh M.new
/-- raise InvalidLine(e) -/
def tRaiseErr (C : Addr) (W : WX) (ta : TA) : TS := fun _ σ H => tMkErr C ta σ H fun cls d H' => W cls d σ H'
theorem ps_raiseErr {a : Expr} {ta : TA} {W : WX} {p pos pos2 : Pos} {k : Nat} (hc : X.calm = true) (T : PySem.ErrX.ErrTxt X.K X.mg C fI) (hr : Room k X.A) (tk : Takes X W) (ha : PA X [a] ta) (hg : Gl X "InvalidLine" := by rfl)
    (he : starEach (a :: []) X.env = (false, eval a X.env) :: starEach [] X.env := by rfl) (hpl : (backTo pos (starEach [] X.env)).any (·.1) = false := by rfl) :
    PS X (.Raise (some (.Call (.Name "InvalidLine" p) [a] [] pos)) none pos2) (tRaiseErr C W ta) := ps_raise hc tk (pmk_err T hr ha hg he hpl)
/-- e.number, e the exception that the suite holds (at a; its class cls, its dict d) -/
def tNum (C : Addr) (a : Addr) (cls : Value) (d : Option Addr) (te : TE) : TE := fun σ H Q => te σ H fun x H1 => x = .ref a ∧ cls = .ref C ∧ ∃ (dd : Addr) (v : V), d = some dd ∧ H1 dd = some (.xd [(("number" : Str), v)]) ∧ Q v H1
theorem pe_num {a : Addr} {oe : Obj} {cls : Value} {d : Option Addr} {pn : List (Addr × Obj)} {e : Expr} {te : TE} {pos : Pos} (T : PySem.ErrX.ErrTxt X.K X.mg C fI) (hz : Zc cls d oe) (hf : ∃ vs, oe.data = .fields vs) (he : PE (X.suite a ((a, oe) :: pn)) e te)
    (hb : attributeBase e "number" X.env (eval e X.env) = eval e X.env := by rfl) :
    PE (X.suite a ((a, oe) :: pn)) (.Attribute e "number" pos) (tNum C a cls d te) := by
  refine ⟨fun pins s σ H Q I h => ?_⟩
  refine attr_of hb (thn (he.run pins s σ H _ I h) fun u s1 hh => ?_)
  obtain ⟨x, H1, I1, rx, ex, ec, dd, v, ed, ea, q⟩ := hh
  subst ex
  obtain rfl : u = Value.ref a := rx
  subst ec
  subst ed
  obtain ⟨ha, _⟩ := I1.pin (a, oe) (List.mem_append_left _ List.mem_cons_self)
  obtain ⟨vs, hd⟩ := hf
  have hx : ObjOk X.prog X.w H1 s1.heap dd (.xd [(("number" : Str), v)]) := I1.hok dd _ ea
  obtain ⟨mA, hns, hr⟩ := hx
  obtain ⟨od, ho, hl⟩ := lookIn_ns hns
  have l : List.lookup ("number" : Str) [(("number" : Str), v)] = some v := by simp [List.lookup]
  obtain ⟨u, hu, ru⟩ := RelO.some_of (v := v) (o := mA "number") (by rw [← l]; exact hr "number")
  have J : PySem.W.InstAt s1.heap a oe C (some od) := ⟨ha, hz.1, by unfold PySem.W.notCls; rw [hd] <;> rfl, by rw [hz.2]; exact ho⟩
  exact HandSPX.exc_get I1.kIn J T.ga T.gg T.exC (PySem.W.findObj_own T.hdC T.noN rfl (by rw [hl, hu])) (handed_of ru) ⟨v, H1, I1.tok _, ru, q⟩
end
end L2


namespace Z
open PySem PySem.Spec PyProof.Rows L2
/-- an error in flight: its class is the module's, its dict tells the number -/
def XRof (K : PySem.W.Frag) : XRel := fun x cls d M H => ∃ (C dd : Addr) (v : V) (a : D), PySem.W.nsIn K mainGlobals "InvalidLine" = some (some (.ref C)) ∧ cls = .ref C ∧ d = some dd ∧ x.cls = "InvalidLine" ∧ x.arg = some a ∧ M dd = none ∧ H dd = some (.xd [(("number" : Str), v)]) ∧ Rp K M H a v
/-- the written part has the error's class -/
def HasErr (X : Cx) : Prop := ∃ C fI, PySem.ErrX.ErrTxt X.K X.mg C fI ∧ PySem.W.nsIn X.K mainGlobals "InvalidLine" = some (some (.ref C))
def raise3 (te : T3) (E : X3) : TS3 := fun _ e M => te e M fun d M1 => E ⟨"InvalidLine", some d⟩ M1
section
variable {X : Cx} {K : PySem.W.Frag} {XR : XRel} {M0 : MH} {H0 : Hp} {E3 : X3}
theorem z_rse {a : Expr} {te : T3} {p pos pos2 : Pos} {k : Nat} (hc : X.calm = true) (T : HasErr X) (hx : XR = XRof X.K) (hr : Room k X.A) (ou : Out X XR M0 H0 E3) (hg : Gl X "InvalidLine") (ha : PE X a (LE X.K M0 H0 te))
    (he : starEach (a :: []) X.env = (false, eval a X.env) :: starEach [] X.env) : PS X (.Raise (some (.Call (.Name "InvalidLine" p) [a] [] pos)) none pos2) (LS X.K M0 H0 (raise3 te E3)) := by
  obtain ⟨C, fI, T, hn⟩ := T
  obtain ⟨E, tk, cx⟩ := ou.ex
  refine (ps_raiseErr hc T hr tk (pa_cons ha pa_nil he) hg he rfl).imp fun D σ H ⟨en, M, D3, rs, rm, ev, t, c⟩ => ?_
  refine LE.then rs rm ev t fun d M1 v1 H1 t1 r1 rs1 rm1 ev1 e1 => ?_
  refine ⟨v1, rfl, fun dd hd => ?_⟩
  refine cx _ M1 (upd H1 dd (.xd [(("number" : Str), v1)])) (.ref C) (some dd) t1 ?_ (rm1.new hd) (ev1.trans (Ev.new hd))
  rw [hx]
  exact ⟨C, dd, v1, d, hn, rfl, rfl, rfl, rfl, rm1.free hd, upd_same, Rp.ev (Ev.new hd) _ _ r1⟩
/-- what the clause asks: the pair of a word and the number goes back -/
def excR (D : Ends3) (k : Str) : X3 := fun x M' => x.cls = "InvalidLine" ∧ ∃ a, x.arg = some a ∧ D.rt (.tup [.str k, a]) M'
def tRetNum (C : Addr) (k : Str) (i : Nat) : Addr → Value → Option Addr → TS := fun a cls d => tSeq (tRet (tTup (tCons (tC (.str k)) (tCons (tNum C a cls d (tVar i)) tNil)))) tNext
theorem z_tryR {n : Str} {k : Str} {i : Nat} {body : List Stmt} {np p1 p2 p3 p4 p5 pos pos' : Pos} {j1 : Nat} {kt : Nat} {t : X3 → TS3} (hs : X.stack = X.env :: X.outer) (hf : X.env.frame = some X.env.locals) (hN : X.N.Nodup) (hi : X.N[i]? = some n) (hln : X.env.kindOf n = some .local)
    (T : HasErr X) (hx : XR = XRof X.K) (hg : Gl X "InvalidLine") (hdn : (n == ("__debug__" : Str)) = false ∧ (n == ("__classdict__" : Str)) = false)
    (hb : ∀ (pn : List (Addr × Obj)) (xe : Value → Shared → Prop) (M0 : MH) (H0 : Hp) (E3 : X3), PassesOwn (model X.prog X.w) X.A X.env xe → Out (X.tr pn xe) XR M0 H0 E3 → PSs (X.tr pn xe) body (LS X.K M0 H0 (t E3))) :
    PS X (.Try body [.ExceptHandler (some (.Name "InvalidLine" np)) (some n) [.Return (some (.Tuple [.Constant (.str k) j1 p1, .Attribute (.Name n p2) "number" p3] kt p4)) p5] pos'] [] [] pos) (LS X.K M0 H0 (fun D e M => t (excR D k) D e M)) := by
  obtain ⟨C, fI, T, hn⟩ := T
  refine ⟨fun pins s σ H D I ⟨en, M, D3, rs, rm, ev, tt, c⟩ => ?_⟩
  have hi' : i < X.N.length := (List.getElem?_eq_some_iff.mp hi).1
  have P := ps_try_as (X := X) (x := "InvalidLine") (n := n) (c := .ref C) (i := i) (body := body) (b₀ := .Return (some (.Tuple [.Constant (.str k) j1 p1, .Attribute (.Name n p2) "number" p3] kt p4)) p5) (suite := []) (np := np) (pos := pos) (pos' := pos')
    (tb := fun W D' σ' H' => ∃ M0' H0' E3', CvX X.K XR M0' H0' E3' (fun cls d H => ∀ σ, σ.length = X.N.length → W cls d σ H) ∧ LS X.K M0' H0' (t E3') D' σ' H') (ts := tRetNum C k i) (Wout := fun _ _ _ _ => False)
    hs hf hN hi hln ⟨hg, rfl, .inl T.gC⟩ takes0
    (fun W pn xe tk po => ⟨fun pins s σ H D I ⟨M0', H0', E3', cx, h⟩ => (hb pn xe M0' H0' E3' po ⟨_, fun u s' ⟨a, B, sI, pins, σ, H, cls, d, e, I, nb, up, sky, na, os, ag, w⟩ => tk u s' ⟨a, B, sI, pins, σ, H, cls, d, e, I, nb, up, sky, na, os, ag, w σ I.len⟩, cx⟩).run pins s σ H D I h⟩)
    (fun a oe cls d pn hz hf => pss_cons (ps_ret (pe_tup (pa_cons pe_str (pa_cons (pe_num T hz hf (pe_var hi (.inl hln) hdn.1 hdn.2)) pa_nil rfl) rfl))) pss_nil)
  refine P.run pins s σ H D I ⟨M, H, excR D3 k, ?_, en, M, D3, rs, rm, Ev.refl _ _, tt, c⟩
  intro x M' H' cls d hx' hXR rm' ev' σ' hl
  rw [hx] at hXR
  obtain ⟨C', dd, v, a, hn', rfl, rfl, e1, e2, m0, h0, r⟩ := hXR
  have eC : C' = C := by
    rw [hn] at hn'
    simpa using hn'.symm
  subst eC
  obtain ⟨_, a', ea, q⟩ := hx'
  rw [e2] at ea
  cases ea
  refine ⟨true, T.te, fun _ a0 ha0 => ?_, fun z => by cases z⟩
  refine ⟨.ref a0, ?_, rfl, rfl, dd, v, rfl, h0, ?_⟩
  · rw [List.getElem?_set_self (by rw [hl]; exact hi')]
  · refine ⟨by show 2 ≤ sizeLine; decide, fun p hp => ?_⟩
    exact c.rt (.tup [.str k, a]) M' (.ref p) _ q (Rp.tupNew rm' hp ⟨.str k, [v], rfl, rfl, v, [], rfl, r, rfl⟩) (rm'.new hp) (ev'.trans (Ev.new hp))
end
end Z

/-! Y0: orders of sorted lists. -/
namespace Z
open PySem PySem.Spec PyProof.Rows L2
/-! ### sorted -/
theorem leS_trans (a b c : D) (h1 : leS a b = true) (h2 : leS b c = true) : leS a c = true := by
  unfold leS at *
  rw [Bool.not_eq_true'] at *
  cases q : PySem.W.dataLt (toPy c) (toPy a) with
  | false => rfl
  | true =>
    rcases PyProof.Rows.lex_negTrans (O := PyProof.Rows.itemOrd) _ (PySem.W.keyToks (toPy b)) _ q with z | z
    · exact absurd (h2.symm.trans z) Bool.false_ne_true
    · exact absurd (h1.symm.trans z) Bool.false_ne_true
theorem leS_total (a b : D) : (leS a b || leS b a) = true := by
  unfold leS
  cases q : PySem.W.dataLt (toPy b) (toPy a) with
  | false => rfl
  | true =>
    cases q2 : PySem.W.dataLt (toPy a) (toPy b) with
    | false => rfl
    | true =>
      have := PyProof.Rows.lex_trans _ _ _ q q2
      rw [PyProof.Rows.lex_irrefl] at this
      cases this
theorem sortD_mem {ds : List D} {d : D} : d ∈ sortD ds ↔ d ∈ ds := (List.mergeSort_perm ds leS).mem_iff
theorem sortD_len {ds : List D} : (sortD ds).length = ds.length := (List.mergeSort_perm ds leS).length_eq
theorem sort_asc {ds : List D} (hl : ∀ d ∈ ds, ∀ e ∈ ds, likeD d e = true) (tri : ∀ d ∈ ds, ∀ e ∈ ds, ltD e d = false → ltD d e = false → d = e) (nd : ds.Nodup) : (sortD ds).Pairwise fun x y => ltD x y = true := by
  have h1 : (sortD ds).Pairwise fun x y => leS x y = true := List.pairwise_mergeSort leS_trans leS_total ds
  have h2 : (sortD ds).Nodup := (List.mergeSort_perm ds leS).nodup_iff.mpr nd
  have h3 : (sortD ds).Pairwise fun x y => leS x y = true ∧ x ≠ y := h1.and h2
  refine List.Pairwise.imp_of_mem ?_ h3
  intro x y hx hy ⟨h4, h5⟩
  have mx := sortD_mem.mp hx
  have my := sortD_mem.mp hy
  unfold leS at h4
  rw [lt_py _ _ (hl _ my _ mx), Bool.not_eq_true'] at h4
  cases q : ltD x y with
  | true => rfl
  | false => exact absurd (tri x mx y my h4 q) h5
theorem tri_str {x y : Str} (h1 : ltD (.str y) (.str x) = false) (h2 : ltD (.str x) (.str y) = false) : x = y := by
  have h1 : decide (y.cps.toList < x.cps.toList) = false := h1
  have h2 : decide (x.cps.toList < y.cps.toList) = false := h2
  have h1 := of_decide_eq_false h1
  have h2 := of_decide_eq_false h2
  have := List.le_antisymm (List.not_lt.mp h1) (List.not_lt.mp h2)
  cases x; cases y
  simp only [Str.mk.injEq]
  exact Array.ext' this
end Z

/-! Y1: sets whose members are tuples of ints and texts: what the model asks of a member. -/
namespace KS
open PySem PySem.Spec PyProof.Rows L2
section
variable {P : Program} {w : World} {A : Around} {E : Value → Shared → Prop} {s : Shared}
/-- at a lies the tuple with the members k -/
abbrev Tp (P : Program) (w : World) (h : Heap) (k : List Key) (a : Addr) : Prop := IsTupleKey (mixKind P w) h k a
abbrev hs (P : Program) (w : World) (k : List Key) : Int := tupleKeyHash (mixKind P w) k
def Flat (v : Value) : Prop := (∃ i t, v = .int i t) ∨ ∃ x t, v = .str x t
theorem flat_of {k : List Key} {vs : List Value} (h : ItemsAre (mixKind P w) k vs) : ∀ v ∈ vs, Flat v := by
  induction h with
  | nil => exact fun v hv => absurd hv (by simp)
  | cons h1 _ ih =>
    intro v hv
    rcases List.mem_cons.mp hv with e | hv
    · subst e
      rcases keyIs_shape h1 with ⟨i, t, _, e⟩ | ⟨x, t, _, e⟩
      · exact .inl ⟨i, t, e⟩
      · exact .inr ⟨x, t, e⟩
    · exact ih v hv
theorem cls_flat (n : Nat) {v : Value} (h : Flat v) : ofAClassStatement n v = pure false := by
  rcases h with ⟨i, t, rfl⟩ | ⟨x, t, rfl⟩ <;> cases n <;> rfl
theorem val_flat (n : Nat) {v : Value} (h : Flat v) : hashByValue n v = pure true ∨ hashByValue n v = pure false := by
  rcases h with ⟨i, t, rfl⟩ | ⟨x, t, rfl⟩
  · left; cases n <;> rfl
  · right; cases n <;> rfl
theorem no_class {k : List Key} {b : Addr} {Q : Bool → Shared → Prop} (hk : Tp P w s.heap k b) (q : Q false s) : wpAny (model P w) A (ofAClassStatement 8 (.ref b)) Q E s := by
  have hT := hk.typeIs
  obtain ⟨o, its, n, ho, _, hd, hi⟩ := hk
  have fl := flat_of hi
  have tt : (("tuple" : String) == "tuple") = true := by decide
  unfold ofAClassStatement
  refine wpAny_bind (wpAny_typeOf hT ?_)
  simp only [tt, if_true, Bool.not_true, Bool.false_eq_true, if_false]
  show wpAny _ _ (seqItems? (.ref b) >>= _) _ _ s
  refine wpAny_bind (wpAny_seqItems ho hd ?_)
  dsimp only
  refine wpAny_bind (m := forIn its _ _) ?_
  rw [← Array.forIn_toList]
  refine wpAny_forIn_list _ (fun left r s1 => (r.1 = none ∧ s1 = s) ∧ ∀ v ∈ left, Flat v) _ (fun v left r s1 hr => ?_) (fun r s1 hr => ?_) _ _ ⟨⟨rfl, rfl⟩, fl⟩
  · obtain ⟨⟨e, rfl⟩, all⟩ := hr
    rw [cls_flat _ (all v (by simp))]
    refine wpAny_bind (wpAny_pure ?_)
    simp only [Bool.false_eq_true, if_false]
    exact wpAny_pure ⟨⟨rfl, rfl⟩, fun u hu => all u (List.mem_cons_of_mem _ hu)⟩
  · obtain ⟨r1, r2⟩ := r
    obtain ⟨⟨e, rfl⟩, _⟩ := hr
    dsimp only at e
    subst e
    exact wpAny_pure q
theorem by_value {k : List Key} {b : Addr} {Q : Bool → Shared → Prop} (hk : Tp P w s.heap k b) (q : ∀ v, Q v s) : wpAny (model P w) A (hashByValue 8 (.ref b)) Q E s := by
  have hT := hk.typeIs
  obtain ⟨o, its, n, ho, _, hd, hi⟩ := hk
  have fl := flat_of hi
  unfold hashByValue
  refine wpAny_bind (wpAny_specialOf hT F.slot_tuple_hash.lookup ?_)
  show wpAny _ _ (seqItems? (.ref b) >>= _) _ _ s
  refine wpAny_bind (wpAny_seqItems ho hd ?_)
  refine wpAny_bind (m := forIn its _ _) ?_
  rw [← Array.forIn_toList]
  refine wpAny_forIn_list _ (fun left r s1 => ((r.1 = none ∨ ∃ z, r.1 = some z) ∧ s1 = s) ∧ ∀ v ∈ left, Flat v) _ (fun v left r s1 hr => ?_) (fun r s1 hr => ?_) _ _ ⟨⟨.inl rfl, rfl⟩, fl⟩
  · obtain ⟨⟨e, rfl⟩, all⟩ := hr
    rcases val_flat 7 (all v (by simp)) with z | z
    · rw [z]
      refine wpAny_bind (wpAny_pure ?_)
      simp only [Bool.not_true, Bool.false_eq_true, if_false]
      exact wpAny_pure ⟨⟨.inl rfl, rfl⟩, fun u hu => all u (List.mem_cons_of_mem _ hu)⟩
    · rw [z]
      refine wpAny_bind (wpAny_pure ?_)
      simp only [Bool.not_false, if_true]
      exact wpAny_pure (wpAny_pure (q _))
  · obtain ⟨r1, r2⟩ := r
    obtain ⟨⟨e, rfl⟩, _⟩ := hr
    dsimp only at e
    rcases e with e | ⟨z, e⟩ <;> subst e
    · exact wpAny_pure (q _)
    · exact wpAny_pure (q _)
def AllTp (P : Program) (w : World) (h : Heap) (ys : List Value) : Prop := ∀ y ∈ ys, ∃ k c, y = .ref c ∧ Tp P w h k c
/-- the search for a tuple among tuples is not seen -/
theorem unseen {k : List Key} {b : Addr} {ys : List Value} {Q : Bool → Shared → Prop} (hk : Tp P w s.heap k b) (hy : AllTp P w s.heap ys) (q : Q false s) : wpAny (model P w) A (searchCouldBeSeen (.ref b) ys) Q E s := by
  unfold searchCouldBeSeen
  refine wpAny_bind ?_
  refine wpAny_forIn_list _ (fun left r s1 => (r.1 = none ∧ s1 = s) ∧ AllTp P w s.heap left) _ (fun v left r s1 hr => ?_) (fun r s1 hr => ?_) _ _ ⟨⟨rfl, rfl⟩, hy⟩
  · obtain ⟨⟨e, rfl⟩, all⟩ := hr
    obtain ⟨k2, c, rfl, hc⟩ := all v (by simp)
    have later : AllTp P w s1.heap left := fun u hu => all u (List.mem_cons_of_mem _ hu)
    dsimp only
    by_cases z : (b == c || (carriedByValue (.ref b) && carriedByValue (.ref c))) = true
    · exact wp_if_pos z (wpAny_pure ⟨⟨rfl, rfl⟩, later⟩)
    · refine wp_if_neg z (wpAny_bind (wpAny_eqIsQuiet_tuple hk ?_))
      simp only [Bool.not_true, Bool.false_eq_true, if_false]
      refine wpAny_bind (wpAny_eqIsQuiet_tuple hc ?_)
      simp only [Bool.not_true, Bool.false_eq_true, if_false]
      refine wpAny_bind (no_class hk ?_)
      simp only [Bool.false_eq_true, if_false]
      refine wpAny_bind (no_class hc ?_)
      simp only [Bool.false_eq_true, if_false]
      exact wpAny_pure ⟨⟨rfl, rfl⟩, later⟩
  · obtain ⟨r1, r2⟩ := r
    obtain ⟨⟨e, rfl⟩, _⟩ := hr
    dsimp only at e
    subst e
    exact wpAny_pure q
end
end KS

/-! Y2: such a set's state, the search in it. -/
namespace KS
open PySem PySem.Spec PyProof.Rows L2
abbrev Rw := Addr × List Key
section
variable {P : Program} {w : World} {A : Around} {E : Value → Shared → Prop} {s : Shared}
def entR (P : Program) (w : World) (p : Rw) : Int × Value := (hs P w p.2, .ref p.1)
structure KSet (P : Program) (w : World) (h : Heap) (a : Addr) (L : List Rw) (es : Array (Int × Value)) (ep : Nat) (t : SetTable) : Prop where
  at_ : ∃ o, h.get? a = some o ∧ o.ExactSet ∧ o.data = .set es ep t
  ents : es.toList = L.map (entR P w)
  tab : TabOk t (L.map fun p => hs P w p.2)
  uniq : (L.map (·.2)).Nodup
  mem : ∀ p ∈ L, Tp P w h p.2 p.1
  led : w.params.followText "set-order" = true ∨ t.led = true
  room : L.length * 5 < t.mask * 3
  few : L.length < 64
variable {a : Addr} {L : List Rw} {es : Array (Int × Value)} {ep : Nat} {t : SetTable}
theorem KSet.size (k : KSet P w s.heap a L es ep t) : es.size = L.length := by
  rw [← Array.length_toList, k.ents, List.length_map]
theorem KSet.places (k : KSet P w s.heap a L es ep t) : t.place.size = L.length := by
  rw [k.tab.sz, List.length_map]
theorem KSet.fits (k : KSet P w s.heap a L es ep t) : t.fits es.size = true := by
  have h1 := k.size
  have h2 := k.places
  have h3 := k.room
  unfold SetTable.fits SetTable.fill
  rw [k.tab.dm, Bool.and_eq_true, beq_iff_eq, decide_eq_true_eq]
  exact ⟨by omega, by show t.place.size + 0 ≤ t.mask; omega⟩
theorem KSet.ent (k : KSet P w s.heap a L es ep t) {i : Nat} {p : Rw} (h : L[i]? = some p) : es[i]? = some (entR P w p) := by
  rw [← Array.getElem?_toList, k.ents, List.getElem?_map, h]; rfl
theorem KSet.whole (k : KSet P w s.heap a L es ep t) : ¬ t.gaveWay = true := by
  unfold SetTable.gaveWay
  rw [mask_odd k.tab.mok]; decide
/-- the c-th probe of the way of a hash -/
def prb (t : SetTable) (h : Int) (c : Nat) : SetTable.Probe := nth t.mask (runAt t.mask (SetTable.bits h % (t.mask + 1)) (SetTable.bits h)) c
theorem prb_j (t : SetTable) (h : Int) (c : Nat) : (prb t h c).j = way t.mask h c := rfl
theorem prb_add (t : SetTable) (h : Int) (c q : Nat) : nth t.mask (prb t h c) q = prb t h (c + q) := (nth_add t.mask c _ q).symm
theorem nth_dummy (m : Nat) : ∀ (n : Nat) (p : SetTable.Probe), p.dummy = none → (nth m p n).dummy = none
  | 0, _, h => h
  | n + 1, p, h => nth_dummy m n (adv m p) (by unfold adv; split <;> exact h)
theorem prb_dummy (t : SetTable) (h : Int) (c : Nat) : (prb t h c).dummy = none := nth_dummy _ _ _ rfl
/-- where the way of a hash ends -/
structure Ends (t : SetTable) (h : Int) (K : Nat) : Prop where
  lt : K < 10 * SetTable.turns t.mask
  out : way t.mask h K ∉ t.place.toList
  ins : ∀ c, c < K → way t.mask h c ∈ t.place.toList
/-- what is met from the c-th probe on -/
theorem met (k : KSet P w s.heap a L es ep t) {h : Int} {K c : Nat} (e : Ends t h K) (hc : c ≤ K) :
    (∃ (q : Nat) (p : Rw) (i : Nat), c + q < K ∧ L[i]? = some p ∧ hs P w p.2 = h ∧ t.place.toList[i]? = some (way t.mask h (c + q)) ∧
      (∀ (c' i' : Nat) (p' : Rw), c ≤ c' → c' < c + q → L[i']? = some p' → t.place.toList[i']? = some (way t.mask h c') → hs P w p'.2 ≠ h) ∧
      t.probe (fun i => (es[i]?.map (·.1)).getD 0) h (prb t h c) = some (.candidate (way t.mask h (c + q)) i (prb t h (c + q + 1)))) ∨
    ((∀ (c' i' : Nat) (p' : Rw), c ≤ c' → c' < K → L[i']? = some p' → t.place.toList[i']? = some (way t.mask h c') → hs P w p'.2 ≠ h) ∧
      t.probe (fun i => (es[i]?.map (·.1)).getD 0) h (prb t h c) = some (.empty (way t.mask h K) none)) := by
  have ha : ∀ {i : Nat} {p : Rw}, L[i]? = some p → ((fun i => (es[i]?.map (·.1)).getD 0) i : Int) = hs P w p.2 := fun {i p} hp => by
    show (es[i]?.map (·.1)).getD 0 = _
    rw [k.ent hp]; rfl
  have j : ∀ q, (nth t.mask (prb t h c) q).j = way t.mask h (c + q) := fun q => by rw [prb_add]; rfl
  rcases go_spec t k.tab.ris k.tab.dm (fun i => (es[i]?.map (·.1)).getD 0) h (10 * SetTable.turns t.mask) (K - c) (prb t h c) (prb_dummy t h c) (by have := e.lt; omega)
    (fun q hq => by rw [j]; exact e.ins _ (by omega)) (by rw [j, show c + (K - c) = K by omega]; exact e.out) with ⟨q, i, h1, h2, h3, h4, h5⟩ | ⟨h4, h5⟩
  · left
    rw [j] at h2 h5
    have hi : i < L.length := by
      have := (List.getElem?_eq_some_iff.mp h2).1
      rw [Array.length_toList, k.places] at this
      exact this
    have hp : L[i]? = some L[i] := List.getElem?_eq_getElem hi
    refine ⟨q, L[i], i, by omega, hp, (ha hp).symm.trans h3, h2, fun c' i' p' g1 g2 g3 g4 g5 => ?_, ?_⟩
    · exact h4 (c' - c) i' (by omega) (by rw [j, show c + (c' - c) = c' by omega]; exact g4) ((ha g3).trans g5)
    · rw [prb_add] at h5
      exact h5
  · right
    rw [j, show c + (K - c) = K by omega] at h5
    exact ⟨fun c' i' p' g1 g2 g3 g4 g5 => h4 (c' - c) i' (by omega) (by rw [j, show c + (c' - c) = c' by omega]; exact g4) ((ha g3).trans g5), h5⟩
/-- who has the key stands from the c-th probe on -/
def Ahead (t : SetTable) (L : List Rw) (h : Int) (key : List Key) (K c : Nat) : Prop := ∀ (i : Nat) (p : Rw), L[i]? = some p → p.2 = key → ∃ c', c ≤ c' ∧ c' < K ∧ t.place.toList[i]? = some (way t.mask h c')
theorem find (k : KSet P w s.heap a L es ep t) {x : Addr} {key : List Key} (hx : Tp P w s.heap key x) (hu : A.units < cLine) {K : Nat} (e : Ends t (hs P w key) K) {Q : SetFound → Shared → Prop}
    (yes : key ∈ L.map (·.2) → Q (.there none) s) (no : key ∉ L.map (·.2) → Q (.free (way t.mask (hs P w key) K) false) s) :
    ∀ (f c : Nat) (st : Option SetTable.Probe), st.getD (t.probeStart (hs P w key)) = prb t (hs P w key) c → c ≤ K → K - c < f → Ahead t L (hs P w key) key K c →
      wpAny (model P w) A (setSearchFrom a (.ref x) (hs P w key) true f st) Q E s
  | 0, _, _, _, _, h, _ => absurd h (Nat.not_lt_zero _)
  | f + 1, c, st, hst, hc, hf, ah => by
    obtain ⟨o, ho, hex, hd⟩ := k.at_
    rw [setSearchFrom_succ]
    refine wpAny_bind (wpAny_setState_of ho hd k.fits ?_)
    dsimp only
    refine wp_if_neg k.whole ?_
    try refine wpAny_bind (wpAny_pure ?_)
    rw [hst]
    rcases met k e hc with ⟨q, p, i, m1, m2, m3, m4, m5, m6⟩ | ⟨m5, m6⟩
    · rw [m6]
      dsimp only
      have pm : p ∈ L := List.mem_of_getElem? m2
      have pt := k.mem p pm
      have go : wpAny (model P w) A (searchRest a (.ref x) (hs P w key) true f es t (way t.mask (hs P w key) (c + q)) i (prb t (hs P w key) (c + q + 1))) Q E s := by
        unfold searchRest
        rw [k.ent m2]
        dsimp only [entR]
        refine wpAny_bind (wpAny_holding (wpAny_eqBool_tuple hu pt hx ?_))
        refine wpAny_bind (wpAny_setState_of ho hd k.fits ?_)
        dsimp only
        by_cases hk : p.2 = key
        · exact wp_if_pos (by simp [hk]) (wpAny_pure (yes (List.mem_map.mpr ⟨p, pm, hk⟩)))
        · refine wp_if_neg (by simp [hk]) ?_
          try refine wpAny_bind (wpAny_pure ?_)
          have sl : t.slot (way t.mask (hs P w key) (c + q)) = .live i := slot_live k.tab.ris m4
          rw [sameMem]
          simp only [if_true, sl, k.ent m2, entR]
          refine wpAny_bind (wpAny_isSame_ref_self (wpAny_bind (wpAny_pure ?_)))
          simp only [if_true]
          refine wp_if_neg (by simp [hk]) (find k hx hu e yes no f (c + q + 1) _ rfl (by omega) (by omega) fun i0 p0 g1 g2 => ?_)
          obtain ⟨c', z1, z2, z3⟩ := ah i0 p0 g1 g2
          refine ⟨c', ?_, z2, z3⟩
          rcases Nat.lt_trichotomy c' (c + q) with y | y | y
          · exact absurd (by rw [g2]) (m5 c' i0 p0 z1 y g1 z3)
          · exfalso
            rw [y] at z3
            have s2 := slot_live k.tab.ris z3
            rw [sl] at s2
            cases s2
            rw [m2] at g1
            cases g1
            exact hk g2
          · omega
      by_cases hl : t.led = true
      · refine wp_if_neg (by simp [hl]) ?_
        try refine wpAny_bind (wpAny_pure ?_)
        exact go
      · refine wp_if_pos (by simp [hl]) (wpAny_bind (unseen hx (fun y hy => ?_) ?_))
        · obtain ⟨z, hz, rfl⟩ := List.mem_map.mp hy
          have hz : z ∈ es.toList := by
            have : z ∈ es ∧ z.1 = hs P w key := by simpa using hz
            simpa using this.1
          rw [k.ents] at hz
          obtain ⟨p2, hp2, rfl⟩ := List.mem_map.mp hz
          exact ⟨p2.2, p2.1, rfl, k.mem p2 hp2⟩
        · refine wp_if_neg (by decide) ?_
          try refine wpAny_bind (wpAny_pure ?_)
          exact go
    · rw [m6]
      dsimp only
      refine wpAny_pure (no fun hm => ?_)
      obtain ⟨p0, h0, rfl⟩ := List.mem_map.mp hm
      obtain ⟨i0, hi0, e0⟩ := List.getElem_of_mem h0
      have g1 : L[i0]? = some p0 := by rw [List.getElem?_eq_getElem hi0, e0]
      obtain ⟨c', z1, z2, z3⟩ := ah i0 p0 g1 rfl
      exact m5 c' i0 p0 z1 z2 g1 z3 rfl
theorem search (k : KSet P w s.heap a L es ep t) {x : Addr} {key : List Key} (hx : Tp P w s.heap key x) (hu : A.units < cLine) {Q : SetFound → Shared → Prop}
    (yes : key ∈ L.map (·.2) → Q (.there none) s) (no : ∀ K, Ends t (hs P w key) K → key ∉ L.map (·.2) → Q (.free (way t.mask (hs P w key) K) false) s) :
    wpAny (model P w) A (setSearch a (.ref x) (hs P w key) true) Q E s := by
  obtain ⟨K, e1, e2, e3⟩ := k.tab.first (by have := k.room; rw [List.length_map]; omega) (hs P w key)
  have e : Ends t (hs P w key) K := ⟨e1, e2, e3⟩
  have big : K < 100000 := by
    unfold SetTable.turns at e1
    rcases k.tab.mok with z | z | z <;> omega
  unfold setSearch
  refine find k hx hu e yes (no K e) 100000 0 none rfl (Nat.zero_le _) (by omega) fun i p g1 g2 => ?_
  have gh : (L.map fun p => hs P w p.2)[i]? = some (hs P w key) := by rw [List.getElem?_map, g1, ← g2]; rfl
  have il : i < t.place.toList.length := by
    rw [Array.length_toList, k.places]
    exact (List.getElem?_eq_some_iff.mp g1).1
  have gj := List.getElem?_eq_getElem il
  obtain ⟨c, hc, ec⟩ := k.tab.before e2 gh gj
  exact ⟨c, Nat.zero_le _, hc, by rw [gj, ec]⟩
end
end KS

/-! Y3: adding to such a set. -/
namespace KS
open PySem PySem.Spec PyProof.Rows L2
section
variable {P : Program} {w : World} {A : Around} {E : Value → Shared → Prop} {s : Shared}
theorem Tp.other {h h' : Heap} {k : List Key} {a b : Addr} {o : Obj} {es : Array (Int × Value)} {ep : Nat} {t : SetTable} (hb : Tp P w h k b) (ho : h.get? a = some o) (hd : o.data = .set es ep t) (hs : Heap.SameBut a h h') : Tp P w h' k b := by
  obtain ⟨o2, its, n, ho2, hc, hd2, hi⟩ := hb
  have ne : b ≠ a := fun z => by
    rw [z, ho] at ho2
    cases ho2
    rw [hd] at hd2; cases hd2
  exact ⟨o2, its, n, (hs.2 b ne).trans ho2, hc, hd2, hi⟩
theorem Tp.kept {h h' : Heap} {k : List Key} {b : Addr} (x : Tp P w h k b) (hk : ∀ c o, h.get? c = some o → h'.get? c = some o) : Tp P w h' k b := by
  obtain ⟨o, its, n, ho, r⟩ := x
  exact ⟨o, its, n, hk b o ho, r⟩
theorem range_pick {α : Type} : ∀ (B Z : List α), (List.range' Z.length B.length).filterMap (fun i => (Z ++ B)[i]?) = B
  | [], Z => by simp
  | b :: B, Z => by
    have ih := range_pick B (Z ++ [b])
    rw [List.length_append, List.length_singleton, List.append_assoc] at ih
    have e : (Z ++ b :: B)[Z.length]? = some b := by rw [List.getElem?_append_right (Nat.le_refl _), Nat.sub_self]; rfl
    rw [List.length_cons, List.range'_succ, List.filterMap_cons_some e]
    congr 1
theorem all_pick {α : Type} (L : List α) : (List.range L.length).filterMap (fun i => L[i]?) = L := by
  have := range_pick L []
  rw [List.range_eq_range']
  exact this
theorem reorder (L : List Rw) (es : Array (Int × Value)) (order : Array Nat) (hr : es.toList = L.map (entR P w)) (hp : order.toList.Perm (List.range L.length)) :
    ∃ L2 : List Rw, (order.filterMap (es[·]?)).toList = L2.map (entR P w) ∧ L2.Perm L ∧ (L2.map fun p => hs P w p.2) = order.toList.map fun i => (es.map (·.1)).getD i 0 := by
  have ent : ∀ i, es[i]? = (L[i]?).map (entR P w) := fun i => by rw [← Array.getElem?_toList, hr, List.getElem?_map]
  refine ⟨order.toList.filterMap fun i => L[i]?, ?_, ?_, ?_⟩
  · rw [Array.toList_filterMap, List.map_filterMap]
    congr 1
    funext i
    exact ent i
  · have := hp.filterMap fun i => L[i]?
    rw [all_pick] at this
    exact this
  · have small : ∀ i ∈ order.toList, i < L.length := fun i hi => List.mem_range.mp (hp.mem_iff.mp hi)
    generalize order.toList = l at small
    clear hp
    induction l with
    | nil => rfl
    | cons i l ih =>
      have hi := small i (by simp)
      have e : L[i]? = some L[i] := List.getElem?_eq_getElem hi
      rw [List.filterMap_cons_some e, List.map_cons, List.map_cons, ih fun j hj => small j (List.mem_cons_of_mem _ hj)]
      congr 1
      have : (es.map (·.1))[i]? = some (hs P w L[i].2) := by rw [Array.getElem?_map, ent, e]; rfl
      simp [Array.getD_eq_getD_getElem?, this]
variable {a : Addr} {L : List Rw} {es : Array (Int × Value)} {ep : Nat} {t : SetTable}
theorem relay {o : Obj} (ho : s.heap.get? a = some o) (hex : o.ExactSet) (hd : o.data = .set es ep t) (he : es.toList = L.map (entR P w)) (T : TabOk t (L.map fun p => hs P w p.2)) (hfl : L.length ≤ t.mask)
    (nd : (L.map (·.2)).Nodup) (tp : ∀ p ∈ L, Tp P w s.heap p.2 p.1) (ld : w.params.followText "set-order" = true ∨ t.led = true) (few : L.length < 64) {wanted M : Nat}
    (hw : SetTable.sizeAbove wanted - 1 = M) (hM : MaskOk M) (hw2 : SetTable.sizeAbove wanted ≤ 128) (hn : L.length * 5 < M * 3) {Q : Unit → Shared → Prop}
    (hQ : ∀ h' (L' : List Rw) es' ep' t', Heap.SameBut a s.heap h' → KSet P w h' a L' es' ep' t' → L'.Perm L → Q () { s with heap := h' }) : wpAny (model P w) A (setRelay a wanted) Q E s := by
  have sz : es.size = L.length := by rw [← Array.length_toList, he, List.length_map]
  have pz : t.place.size = L.length := by rw [T.sz, List.length_map]
  have ft : t.fits es.size = true := by
    unfold SetTable.fits SetTable.fill
    rw [T.dm, Bool.and_eq_true, beq_iff_eq, decide_eq_true_eq]
    exact ⟨by omega, by show t.place.size + 0 ≤ t.mask; omega⟩
  obtain ⟨t', order, r1, r2, r3, r4, r5, r6, r7⟩ := relaid_ok t (hs := es.map (·.1)) (wanted := wanted) hw hM (by rw [Array.size_map, sz]; omega)
  rw [Array.size_map, sz] at r2
  obtain ⟨L2, q1, q2, q3⟩ := reorder L es order he r2
  rw [← q3] at r3
  have z2 : (order.filterMap (es[·]?)).size = es.size := by rw [← Array.length_toList, q1, List.length_map, q2.length_eq, sz]
  have z64 : es.size ≤ sizeLine := by rw [sz]; exact Nat.le_trans (Nat.le_of_lt few) (by decide)
  rw [setRelay_eq]
  refine wpAny_bind (wpAny_setState_of ho hd ft ?_)
  dsimp only
  refine wp_if_neg (fun z => absurd (Nat.le_trans hw2 (show 128 ≤ sizeLine by decide)) (Nat.not_le.mpr z)) ?_
  try refine wpAny_bind (wpAny_pure ?_)
  rw [r1]
  dsimp only
  refine wpAny_bind (wp_if_neg (by rw [z2]; simp) ?_)
  try refine wpAny_bind (wpAny_pure ?_)
  refine wpAny_pure ?_
  dsimp only
  refine wpAny_storeSet_of ho hd ?_ (by rw [z2]; exact z64)
  have sb : Heap.SameBut a s.heap (s.heap.update a (Obj.putSet (order.filterMap (es[·]?)) t')) := Heap.SameBut.update ..
  exact hQ _ L2 _ (ep + 1) t' sb ⟨⟨_, store_at ho hd, ⟨hex.1, hex.2.1, hex.2.2⟩, rfl⟩, q1, r3, (q2.map (·.2)).nodup_iff.mpr nd, fun p hp => (tp p (q2.mem_iff.mp hp)).other ho hd sb, by rw [r5]; exact ld, by rw [q2.length_eq, r4]; exact hn, by rw [q2.length_eq]; exact few⟩ q2
theorem TabOk.pl {t : SetTable} {hs : List Int} (T : TabOk t hs) (b : Bool) : TabOk { t with plain := b } hs := ⟨T.ris, T.dm, T.sz, T.mok, T.bd, T.reach⟩
/-- a table whose mark may have gone -/
def mark (b : Bool) (t : SetTable) : SetTable := if b then t else { t with plain := false }
theorem mark_tab {b : Bool} {t : SetTable} {hs : List Int} (T : TabOk t hs) : TabOk (mark b t) hs := by
  unfold mark
  cases b
  · exact TabOk.pl T false
  · exact T
theorem mark_mask {b : Bool} {t : SetTable} : (mark b t).mask = t.mask := by cases b <;> rfl
theorem mark_led {b : Bool} {t : SetTable} : (mark b t).led = t.led := by cases b <;> rfl
theorem mark_fill {b : Bool} {t : SetTable} : (mark b t).fill = t.fill := by cases b <;> rfl
theorem add (k : KSet P w s.heap a L es ep t) {x : Addr} {key : List Key} (hx : Tp P w s.heap key x) (hu : A.units < cLine) (hfew : L.length + 1 < 64) {Q : Bool → Shared → Prop}
    (hQ : ∀ b h' (L' : List Rw) es' ep' t', Heap.SameBut a s.heap h' → KSet P w h' a L' es' ep' t' → (key ∈ L.map (·.2) → L' = L) → (key ∉ L.map (·.2) → L'.Perm ((x, key) :: L)) → Q b { s with heap := h' }) :
    wpAny (model P w) A (setAddHashed a (.ref x) (hs P w key)) Q E s := by
  obtain ⟨o, ho, hex, hd⟩ := k.at_
  have sz := k.size
  have rm := k.room
  unfold setAddHashed
  refine wpAny_holding ?_
  rw [show (100000 : Nat) = 99999 + 1 from rfl, setAddHashedIn_succ]
  refine wpAny_bind (wpAny_setState_of ho hd k.fits ?_)
  dsimp only
  refine wp_if_neg (by simp [byScan, Value.scannable]) ?_
  try refine wpAny_bind (wpAny_pure ?_)
  refine wpAny_bind (search k hx hu (fun hm => ?_) fun K e hm => ?_)
  · exact wpAny_pure (hQ false s.heap L es ep t (Heap.SameBut.refl a s.heap) k (fun _ => rfl) fun z => absurd hm z)
  · dsimp only
    refine wpAny_bind (wpAny_setState_of ho hd k.fits ?_)
    dsimp only
    obtain ⟨q1, q2, q3, q4, q5, q6, q7, q8, q9⟩ := k.tab.put e.out e.ins
    generalize hj : way t.mask (hs P w key) K = j at q1 q2 q3 q4 q5 q6 q7 q8 q9 ⊢
    generalize hput : t.put j = pt at q1 q3 q4 q5 q6 q7 q8 q9 ⊢
    obtain ⟨t1, pos⟩ := pt
    dsimp only at q1 q3 q4 q5 q6 q7 q8 q9 ⊢
    subst q1
    have e1 : (SetTable.insertAt es (SetTable.below t.place j) (hs P w key, Value.ref x)).toList = (L.take (SetTable.below t.place j) ++ (x, key) :: L.drop (SetTable.below t.place j)).map (entR P w) := by
      rw [SetTable.toList_insertAt, k.ents, List.map_append, List.map_cons, List.map_take, List.map_drop]; rfl
    generalize SetTable.below t.place j = pos at q2 q3 e1 ⊢
    have pm := put_perm L pos (x, key)
    have hh : (L.take pos ++ (x, key) :: L.drop pos).map (fun p => hs P w p.2) = (L.map fun p => hs P w p.2).take pos ++ hs P w key :: (L.map fun p => hs P w p.2).drop pos := by
      rw [List.map_append, List.map_cons, List.map_take, List.map_drop]
    rw [← hh] at q3
    generalize L.take pos ++ (x, key) :: L.drop pos = L1 at pm q3 e1
    have len1 : L1.length = L.length + 1 := pm.length_eq
    have nd1 : (L1.map (·.2)).Nodup := (pm.map (·.2)).nodup_iff.mpr (by rw [List.map_cons]; exact List.nodup_cons.mpr ⟨hm, k.uniq⟩)
    generalize SetTable.insertAt es pos (hs P w key, Value.ref x) = es1 at e1 ⊢
    have s1 : es1.size = L.length + 1 := by rw [← Array.length_toList, e1, List.length_map, len1]
    -- what is left, for either mark
    have rest : ∀ b : Bool, wpAny (model P w) A (do
        storeSet a es1 (mark b t1)
        if (!false && (mark b t1).tooFull) = true then setRelay a (SetTable.grown (es.size + 1))
        return true) Q E s := by
      intro b
      have T2 := mark_tab (b := b) q3
      have hm2 : (mark b t1).mask = t.mask := mark_mask.trans q4
      have hl2 : (mark b t1).led = t.led := mark_led.trans q5
      have hf2 : (mark b t1).fill = L.length + 1 := by rw [mark_fill, q9, List.length_map]
      generalize mark b t1 = t2 at T2 hm2 hl2 hf2 ⊢
      refine wpAny_bind (wpAny_storeSet_of ho hd ?_ (by rw [s1]; exact Nat.le_trans (Nat.le_of_lt hfew) (by decide)))
      have sb : Heap.SameBut a s.heap (s.heap.update a (Obj.putSet es1 t2)) := Heap.SameBut.update ..
      have ho1 := store_at (es' := es1) (t' := t2) ho hd
      generalize s.heap.update a (Obj.putSet es1 t2) = h1 at sb ho1 ⊢
      have tp1 : ∀ p ∈ L1, Tp P w h1 p.2 p.1 := fun p hp => by
        rcases List.mem_cons.mp (pm.mem_iff.mp hp) with z | hp
        · rw [z]; exact hx.other ho hd sb
        · exact (k.mem p hp).other ho hd sb
      have ld1 : w.params.followText "set-order" = true ∨ t2.led = true := by rw [hl2]; exact k.led
      by_cases hf : t2.tooFull = true
      · have full : (L.length + 1) * 5 ≥ t2.mask * 3 := by
          have := hf
          unfold SetTable.tooFull at this
          rw [decide_eq_true_eq, hf2] at this
          exact this
        have go : ∀ M, SetTable.sizeAbove (SetTable.grown (L.length + 1)) - 1 = M → MaskOk M → SetTable.sizeAbove (SetTable.grown (L.length + 1)) ≤ 128 → (L.length + 1) * 5 < M * 3 → L.length + 1 ≤ t2.mask →
            wpAny (model P w) A (setRelay a (SetTable.grown (L.length + 1))) (fun _ s' => wpAny (model P w) A (pure true) Q E s') E { s with heap := h1 } := fun M g1 g2 g3 g4 g5 => by
          refine relay (s := { s with heap := h1 }) (L := L1) ho1 ⟨hex.1, hex.2.1, hex.2.2⟩ rfl e1 T2 (by rw [len1]; exact g5) nd1 tp1 ld1 (by rw [len1]; exact hfew) g1 g2 g3 (by rw [len1]; exact g4) ?_
          intro h2 L2 es2 ep2 t3 sb2 R2 pm2
          exact wpAny_pure (hQ true h2 L2 es2 ep2 t3 (sb.trans sb2) R2 (fun z => absurd z hm) fun _ => pm2.trans pm)
        rw [sz]
        have fin : wpAny (model P w) A (setRelay a (SetTable.grown (L.length + 1))) (fun _ s' => wpAny (model P w) A (pure true) Q E s') E { s with heap := h1 } := by
          rw [hm2] at full
          rcases k.tab.mok with z | z | z
          · have : L.length = 4 := by rw [z] at full rm; omega
            exact go 31 (by rw [this, size_20]) (.inr (.inl rfl)) (by rw [this, size_20]; decide) (by omega) (by omega)
          · have : L.length = 18 := by rw [z] at full rm; omega
            exact go 127 (by rw [this, size_76]) (.inr (.inr rfl)) (by rw [this, size_76]; decide) (by omega) (by omega)
          · exfalso; rw [z] at full; omega
        first
          | (refine wpAny_bind ?_; exact wp_if_pos (by simp [hf]) fin)
          | (refine wp_if_pos (by simp [hf]) ?_; exact wpAny_bind fin)
      · have nf : (L.length + 1) * 5 < t2.mask * 3 := by
          have := hf
          unfold SetTable.tooFull at this
          rw [decide_eq_true_eq, hf2] at this
          omega
        have fin : wpAny (model P w) A (pure true) Q E { s with heap := h1 } := wpAny_pure (hQ true h1 L1 es1 (ep + 1) t2 sb ⟨⟨_, ho1, ⟨hex.1, hex.2.1, hex.2.2⟩, rfl⟩, e1, T2, nd1, tp1, ld1, by rw [len1]; exact nf, by rw [len1]; exact hfew⟩ (fun z => absurd z hm) fun _ => pm)
        first
          | exact wp_if_neg (by simp [hf]) fin
          | (refine wpAny_bind ?_; exact wp_if_neg (by simp [hf]) (wpAny_pure fin))
    by_cases hp : t1.plain = true
    · first
        | (refine wpAny_bind ?_; refine wp_if_pos hp ?_; exact by_value hx fun b => rest b)
        | exact wp_if_pos hp (wpAny_bind (by_value hx fun b => rest b))
    · first
        | (refine wpAny_bind ?_; refine wp_if_neg hp ?_; exact wpAny_pure (rest true))
        | exact wp_if_neg hp (wpAny_bind (wpAny_pure (rest true)))
end
end KS

/-! Y4: set(a list of such tuples). -/
namespace KS
open PySem PySem.Spec PyProof.Rows L2
/-- L holds just the keys of ks, each with a row of ks -/
structure Has (ks L : List Rw) : Prop where
  sub : ∀ p ∈ L, p ∈ ks
  all : ∀ p ∈ ks, p.2 ∈ L.map (·.2)
  len : L.length ≤ ks.length
theorem Has.old {ks L : List Rw} {x : Rw} (g : Has ks L) (h : x.2 ∈ L.map (·.2)) : Has (ks ++ [x]) L :=
  ⟨fun p hp => List.mem_append_left _ (g.sub p hp), fun p hp => by
    rcases List.mem_append.mp hp with z | z
    · exact g.all p z
    · rw [List.mem_singleton.mp z]; exact h, by rw [List.length_append]; exact Nat.le_add_right_of_le g.len⟩
theorem Has.new {ks L L' : List Rw} {x : Rw} (g : Has ks L) (pm : L'.Perm (x :: L)) : Has (ks ++ [x]) L' :=
  ⟨fun p hp => by
    rcases List.mem_cons.mp (pm.mem_iff.mp hp) with z | z
    · rw [z]; simp
    · exact List.mem_append_left _ (g.sub p z), fun p hp => by
    rw [(pm.map (·.2)).mem_iff, List.map_cons]
    rcases List.mem_append.mp hp with z | z
    · exact List.mem_cons_of_mem _ (g.all p z)
    · rw [List.mem_singleton.mp z]; simp, by rw [pm.length_eq, List.length_append, List.length_cons]; exact Nat.succ_le_succ g.len⟩
section
variable {P : Program} {w : World} {A : Around} {E : Value → Shared → Prop} {s : Shared}
theorem KSet.kept {h h' : Heap} {a : Addr} {L : List Rw} {es : Array (Int × Value)} {ep : Nat} {t : SetTable} (k : KSet P w h a L es ep t) (ha : ∀ o, h.get? a = some o → h'.get? a = some o) (ht : ∀ p ∈ L, Tp P w h' p.2 p.1) : KSet P w h' a L es ep t := by
  obtain ⟨o, ho, r⟩ := k.at_
  exact ⟨⟨o, ha o ho, r⟩, k.ents, k.tab, k.uniq, ht, k.led, k.room, k.few⟩
def fresh (w : World) : Obj := { cls := .type "set", dict := none, data := .set #[] 0 (.fresh 0 0 (!w.params.followText "set-order")) }
theorem KSet.fresh {h : Heap} {a : Addr} (ho : h.get? a = some (KS.fresh w)) : KSet P w h a [] #[] 0 (.fresh 0 0 (!w.params.followText "set-order")) where
  at_ := ⟨_, ho, ⟨rfl, rfl, rfl⟩, rfl⟩
  ents := rfl
  tab := ⟨List.Pairwise.nil, rfl, rfl, .inl rfl, fun x hx => (by cases hx), fun i h j hi => (by simp at hi)⟩
  uniq := List.nodup_nil
  mem := fun p hp => (by cases hp)
  led := by
    show _ ∨ (!w.params.followText "set-order") = true
    cases w.params.followText "set-order" <;> simp
  room := by show 0 * 5 < 7 * 3; decide
  few := by show 0 < 64; decide
/-- the items put in, one after the other -/
theorem fill {I : Addr} {fp wr : List Addr} {G : Array GenState → Array GenState → Prop} {n : Nat} {Pv : Nat → Value → Prop} {St : Nat → Shared → Prop} {R : Result → Shared → Prop}
    (W : WalksS P w A.in1 I fp wr G n Pv St) (S : Addr) (hSf : S ∉ fp) (ks : List Rw) (hn : n = ks.length) (hfew : ks.length < 64) (hv : ∀ i v, Pv i v → ∃ p, ks[i]? = some p ∧ v = .ref p.1)
    (h0 : Heap) (hk : ∀ p ∈ ks, Tp P w h0 p.2 p.1) (hS0 : h0.get? S = none) (hw0 : ∀ b ∈ wr, h0.get? b = none) (hu : A.in1.units < cLine) :
    ∀ (m i : Nat) (s : Shared), n - i = m → i ≤ n → St i s → (∀ b o, h0.get? b = some o → s.heap.get? b = some o) → (∃ L es ep t, KSet P w s.heap S L es ep t ∧ Has (ks.take i) L) →
      (∀ s' L es ep t, Moved (S :: wr) G s s' → KSet P w s'.heap S L es ep t → Has ks L → (∀ b o, h0.get? b = some o → s'.heap.get? b = some o) → R (.ok (.ret .none)) s') →
      codeAny (model P w) A (.builtin "set.update.loop" ⟨[.ref S, .ref I], []⟩) R s := by
  have wS : S ∉ wr := fun h => hSf (W.sub _ h)
  have up : ∀ b ∈ wr, b ∈ S :: wr := fun b hb => List.mem_cons_of_mem _ hb
  have keep : ∀ {s s' : Shared}, Moved wr G s s' → (∀ b o, h0.get? b = some o → s.heap.get? b = some o) → ∀ b o, h0.get? b = some o → s'.heap.get? b = some o := fun hm hkp b o e =>
    hm.heap b o (fun hb => by rw [hw0 b hb] at e; cases e) (hkp b o e)
  intro m
  induction m with
  | zero =>
    intro i s hm hi hst hkp ⟨L, es, ep, t, hS, g⟩ hR
    have e : i = n := by omega
    subst e
    refine codeAny_builtin F.entry_set_update_loop ?_
    rw [Around.under_plainId F.plain_set_update_loop _]
    show wpAny _ A.in1 (pyNext (.ref I) >>= _) _ _ s
    refine wpAny_bind (W.done s _ _ hst fun s' mv => ?_)
    show wpAny _ A.in1 (ret Value.none) _ _ s'
    have g' : Has ks L := by rw [hn, List.take_length] at g; exact g
    have kp := keep mv hkp
    exact wpAny_pure (hR s' L es ep t (mv.mono up) (hS.kept (fun o e => mv.heap S o wS e) fun p hp => (hk p (g'.sub p hp)).kept kp) g' kp)
  | succ m ih =>
    intro i s hm hi hst hkp ⟨L, es, ep, t, hS, g⟩ hR
    have hlt : i < n := by omega
    refine codeAny_builtin F.entry_set_update_loop ?_
    rw [Around.under_plainId F.plain_set_update_loop _]
    show wpAny _ A.in1 (pyNext (.ref I) >>= _) _ _ s
    refine wpAny_bind (W.item i s _ _ hlt hst fun v s' hP hst' mv => ?_)
    obtain ⟨p, hp, rfl⟩ := hv i v hP
    have kp := keep mv hkp
    have nxt : ks.take (i + 1) = ks.take i ++ [p] := by rw [List.take_succ, hp]; rfl
    have hS' : KSet P w s'.heap S L es ep t := hS.kept (fun o e => mv.heap S o wS e) fun q hq => (hk q (List.mem_of_mem_take (g.sub q hq))).kept kp
    have hx : Tp P w s'.heap p.2 p.1 := (hk p (List.mem_of_getElem? hp)).kept kp
    have small : L.length + 1 < 64 := by
      have h1 := g.len
      rw [List.length_take] at h1
      omega
    show wpAny _ A.in1 (holding [Value.ref p.1] (setAdd S (.ref p.1)) >>= _) _ _ s'
    refine wpAny_bind (wpAny_holding ?_)
    unfold setAdd
    refine wpAny_holding (wpAny_bind (wpAny_pyHash_tuple hu hx ?_))
    refine add (s := { s' with toks := s'.toks + (p.2.length + 1) }) hS' hx hu small fun b h' L' es' ep' t' sb hS2 c1 c2 => ?_
    have g' : Has (ks.take (i + 1)) L' := by
      rw [nxt]
      by_cases c : p.2 ∈ L.map (·.2)
      · rw [c1 c]; exact g.old c
      · exact g.new (c2 c)
    have kp2 : ∀ b o, h0.get? b = some o → h'.get? b = some o := fun b o e => (sb.2 b (fun z => by rw [z, hS0] at e; cases e)).trans (kp b o e)
    refine wpAny_pure ⟨plainId_quiet F.plain_set_update_loop _, ih (i + 1) _ (by omega) hlt (W.frame _ s' _ _ hst' (Nat.le_add_right _ _) fun b hb o e => ?_) kp2 ⟨L', es', ep', t', hS2, g'⟩ fun s2 L2 es2 ep2 t2 mv2 hS3 g3 kp3 => ?_⟩
    · rw [sb.2 b (fun z : b = S => hSf (by rw [← z]; exact hb))]; exact e
    · refine hR s2 L2 es2 ep2 t2 (Moved.trans W.gtrans ((mv.mono up).then_heap (Nat.le_add_right _ _) fun b o hb e => ?_) mv2) hS3 g3 kp3
      rw [sb.2 b (fun z : b = S => hb (by rw [z]; exact List.mem_cons_self))]; exact e
theorem call_set {l : Addr} {items : Array Value} (ks : List Rw) {Q : Value → Shared → Prop} (hh : A.handled = none) (hl : s.heap.IsList l items) (hit : items.toList = ks.map fun p => Value.ref p.1)
    (hk : ∀ p ∈ ks, Tp P w s.heap p.2 p.1) (hfew : ks.length < 64) (hu : A.units + 3 < cLine)
    (h : ∀ (h' : Heap) (tk : Nat) L es ep t, KSet P w h' s.heap.objs.size L es ep t → Has ks L → (∀ b o, s.heap.get? b = some o → h'.get? b = some o) → Q (.ref s.heap.objs.size) { s with heap := h', toks := tk }) :
    wpAny (model P w) A (call (.type "set") [.ref l]) Q E s := by
  have sz : items.size = ks.length := by rw [← Array.length_toList, hit, List.length_map]
  have past : ∀ b, s.heap.objs.size ≤ b → s.heap.get? b = none := fun b hb => by
    cases q : s.heap.get? b with
    | none => rfl
    | some o => exact absurd (Heap.lt_size q) (Nat.not_lt.mpr hb)
  obtain ⟨c, tl, hmro⟩ := F.called_set.mro
  have hmade := F.called_set.made
  have hsub := F.called_set.sub
  refine wpAny_call (codeAny_of_tree ?_)
  show wpAny _ _ (callAny (.type "set") _) _ _ _
  refine wpAny_pure ⟨Code.quiet_builtin _ (by decide +kernel), codeAny_builtin F.entry_type_call ?_⟩
  rw [Around.under_plain (weight_type_call_type "set" [.ref l] []) rfl]
  have h1 := F.called_set.notType
  have h2 := F.called_set.canCreate
  have hct := F.typeCall_set_1 (.ref l)
  repeat (any_goals (first | assumption | wp_step))
  refine codeAny_mono (code_set_led1 (.ref l) (E := E) (Q₁ := fun obj s₁ => obj = .ref s.heap.objs.size ∧ s₁ = { s with heap := s.heap.push (fresh w) }) ⟨rfl, rfl⟩) fun r s₁ hr => ?_
  cases r with
  | error e => exact hr
  | ok fl =>
    cases fl with
    | ret obj =>
      obtain ⟨rfl, rfl⟩ := hr
      have hS : (s.heap.push (fresh w)).get? s.heap.objs.size = some (fresh w) := Heap.get?_push_size _ rfl
      have hT : Shared.TypeIs { s with heap := s.heap.push (fresh w) } (.ref s.heap.objs.size) "set" := ⟨_, hS, rfl⟩
      have hli := F.called_set.init.lookup
      have hbi := F.called_set.init.bind (.ref s.heap.objs.size)
      repeat (any_goals (first | assumption | wp_step))
      refine codeAny_mono (codeAny_call_builtin (R := wants (fun r s₂ => r = .none ∧ ∃ h' tk L es ep t, s₂ = { s with heap := h', toks := tk } ∧ KSet P w h' s.heap.objs.size L es ep t ∧ Has ks L ∧
          (∀ b o, s.heap.get? b = some o → h'.get? b = some o)) E) F.called_set.init.plain F.entry_set_init (check_set_init_1 hT ?_)) fun r₂ s₂ hr₂ => ?_
      · obtain ⟨ol, hol, hcl, nl, hdl⟩ := hl
        obtain ⟨ocls, odict, odata, oslots⟩ := ol
        simp only at hcl hdl
        subst hcl; subst hdl
        have hol' : (s.heap.push (fresh w)).get? l = some { cls := .type "list", dict := odict, data := .seq items nl, slots := oslots } := Heap.get?_push_of_some _ hol
        have hsls := F.sub_list_set
        have hslf := F.sub_list_frozenset
        have hne : (Value.type "list" == Value.type "dict") = false := by decide
        have hl1 : (s.heap.push (fresh w)).IsList l items := ⟨_, hol', rfl, nl, rfl⟩
        unfold Builtin.«set.__init__» noKeywords Builtin.Frozenset.updateFrom
        generalize hPI : pyIter = PI
        wp_walk
        subst hPI
        refine wpAny_pyIter_list hl1 (wpAny_bind (wpAny_runValue ?_))
        have lS : l < s.heap.objs.size := Heap.lt_size hol
        have hh3 : A.in1.in1.in1.handled = none := by simp [hh]
        have neI : l ≠ (s.heap.push (fresh w)).objs.size := by
          rw [Heap.size_push]; exact Nat.ne_of_lt (Nat.lt_succ_of_lt lS)
        have nf : s.heap.objs.size ∉ [(s.heap.push (fresh w)).objs.size, l] := by
          rw [Heap.size_push]; simp only [List.mem_cons, List.not_mem_nil, or_false, not_or]
          exact ⟨Nat.ne_of_lt (Nat.lt_succ_self _), Nat.ne_of_gt lS⟩
        have val : ∀ (i : Nat) (v : Value), items[i]? = some v → ∃ p, ks[i]? = some p ∧ v = .ref p.1 := fun i v hv => by
          rw [← Array.getElem?_toList, hit, List.getElem?_map] at hv
          obtain ⟨p, hp, e⟩ := Option.map_eq_some_iff.mp hv
          exact ⟨p, hp, e.symm⟩
        refine fill ((Walks.list hh3 _ l neI items).toS) s.heap.objs.size nf ks sz hfew val s.heap hk (past _ (Nat.le_refl _)) (fun b hb => past b (by
            rw [List.mem_singleton.mp hb, Heap.size_push]
            exact Nat.le_succ _)) hu (items.size - 0) 0 _ (by omega) (Nat.zero_le _)
          ⟨⟨_, Heap.get?_push_size _ rfl, rfl, rfl⟩, (hl1.push _)⟩ (fun b o e => Heap.get?_push_of_some _ (Heap.get?_push_of_some _ e)) ⟨[], #[], 0, _, KSet.fresh (Heap.get?_push_of_some _ hS), ⟨fun p hp => (by cases hp), fun p hp => (by simp at hp), Nat.zero_le _⟩⟩ ?_
        intro s' L es ep t mv hS' g' kp
        obtain ⟨h', g2, d', tk', os'⟩ := s'
        have eg : g2 = s.gens := mv.gens
        have ed : d' = s.drawn := mv.drawn
        have eo : os' = s.os := mv.os
        subst eg; subst ed; subst eo
        show wpAny _ _ _ _ _ _
        refine wpAny_pure ?_
        show wpAny _ _ (ret Value.none) _ _ _
        exact wpAny_pure ⟨rfl, h', tk', L, es, ep, t, rfl, hS', g', kp⟩
      · cases r₂ with
        | error e => exact hr₂
        | ok fl₂ =>
          cases fl₂ with
          | ret r =>
            obtain ⟨rfl, h', tk, L, es, ep, t, rfl, hS', g', hk'⟩ := hr₂
            repeat (any_goals (first | assumption | wp_step))
            exact h _ _ _ _ _ _ hS' g' hk'
          | _ => exact hr₂.elim
    | _ => exact hr.elim
end
end KS

/-! Y5: sorted(such a set). -/
namespace KS
open PySem PySem.Spec PyProof.Rows L2
section
variable {P : Program} {w : World} {A : Around} {E : Value → Shared → Prop} {s : Shared}
variable {a : Addr} {L : List Rw} {es : Array (Int × Value)} {ep : Nat} {t : SetTable}
theorem sorted_set (k : KSet P w s.heap a L es ep t) (hh : A.handled = none) {Q : Value → Shared → Prop}
    (h : ∀ (s1 : Shared) (vs : List Value), (∀ b o, s.heap.get? b = some o → s1.heap.get? b = some o) → s.heap.objs.size ≤ s1.heap.objs.size → s1.gens = s.gens → s1.os = s.os → vs.Perm (L.map fun q => Value.ref q.1) →
      ∃ κ, PySem.W.SortsAt P w A.in1.in1 { s1 with heap := PySem.W.sortingHeap (s1.heap.push (seqObj "list" vs.toArray 0)) s1.heap.objs.size vs } κ vs ∧
        Q (.ref s1.heap.objs.size) { s1 with heap := sortedHeap (s1.heap.push (seqObj "list" vs.toArray 0)) s1.heap.objs.size vs (PySem.W.sortVals κ false vs vs).toArray }) :
    wpAny (model P w) A (call (.builtin "sorted") [.ref a]) Q E s := by
  obtain ⟨o, ho, hex, hd⟩ := k.at_
  have sz := k.size
  have few := k.few
  have vals : es.toList.map (·.2) = L.map fun q => Value.ref q.1 := by
    rw [k.ents, List.map_map]; rfl
  refine Calls.call_function_entry kind_sorted plain_sorted entry_sorted (args_sorted1 _) ?_
  unfold Builtin.«sorted»
  refine wpAny_bind (m := checkCount "sorted" 1 1 _) (wpAny_pure ?_)
  refine wpAny_bind (collect_set (A := A.in1) hh ⟨o, ho, hex.1, hd⟩ k.fits (by unfold scanBound; omega) k.tab.ris k.led fun s1 vs k1 hz g1 o1 pm => ?_)
  rw [vals] at pm
  have vl : vs.length ≤ sizeLine := by rw [pm.length_eq, List.length_map]; exact Nat.le_trans (Nat.le_of_lt few) (by decide)
  obtain ⟨κ, S, q⟩ := h s1 vs k1 hz g1 o1 pm
  refine wpAny_bind (wpAny_newList ?_ vl)
  have hoL : (s1.heap.push (seqObj "list" vs.toArray 0)).get? s1.heap.objs.size = some (seqObj "list" vs.toArray 0) := Heap.get?_push_size _ rfl
  refine wpAny_bind (wpAny_holding (PyProof.Rows.wpAny_call_entry_kw PyProof.Rows.slot_list_sort ⟨_, hoL, rfl⟩ PyProof.Rows.entry_list_sort ?body (PyProof.Rows.args_list_sort _)))
  case body =>
    show wpAny (model P w) A.in1.in1 (Builtin.«list.sort» ⟨[.ref s1.heap.objs.size], []⟩) _ _ _
    refine PySem.W.list_sort_vals (s := { s1 with heap := s1.heap.push (seqObj "list" vs.toArray 0) }) hoL S vl ?_
    exact ⟨_, rfl, wpAny_pure ⟨_, rfl, q⟩⟩
end
end KS

/-! Y6: sorted(set(xs)), xs a list of pairs of texts, on data. -/
namespace Z
open PySem PySem.Spec PyProof.Rows L2 KS
/-- a pair of texts -/
def pairT (d : D) : Prop := ∃ x y, d = .tup [.str x, .str y]
/-- each once -/
def uq : List D → List D
  | [] => []
  | d :: r => if ((uq r).any fun e => eqv e d) = true then uq r else d :: uq r
theorem eqv_pair {x y x' y' : Str} : eqv (.tup [.str x, .str y]) (.tup [.str x', .str y']) = true ↔ x = x' ∧ y = y' := by
  show ((x == x') && ((y == y') && true)) = true ↔ _
  rw [Bool.and_true, Bool.and_eq_true, beq_iff_eq, beq_iff_eq]
theorem eqv_pr {d e : D} (hd : pairT d) (he : pairT e) : eqv d e = true ↔ d = e := by
  obtain ⟨x, y, rfl⟩ := hd
  obtain ⟨x', y', rfl⟩ := he
  rw [eqv_pair]
  constructor
  · rintro ⟨rfl, rfl⟩; rfl
  · intro h; cases h; exact ⟨rfl, rfl⟩
theorem uq_mem : ∀ {ds : List D}, (∀ d ∈ ds, pairT d) → ∀ d, d ∈ uq ds ↔ d ∈ ds
  | [], _, d => Iff.rfl
  | x :: r, h, d => by
    have ih := uq_mem (ds := r) fun z hz => h z (List.mem_cons_of_mem _ hz)
    unfold uq
    split
    · rename_i q
      obtain ⟨e, he, q⟩ := List.any_eq_true.mp q
      have mr := (ih e).mp he
      have : e = x := (eqv_pr (h e (List.mem_cons_of_mem _ mr)) (h x (by simp))).mp q
      rw [ih d, List.mem_cons]
      constructor
      · exact .inr
      · rintro (z | z)
        · rw [z, ← this]; exact mr
        · exact z
    · rw [List.mem_cons, List.mem_cons, ih d]
theorem uq_nodup : ∀ {ds : List D}, (∀ d ∈ ds, pairT d) → (uq ds).Nodup
  | [], _ => List.nodup_nil
  | x :: r, h => by
    have ih := uq_nodup (ds := r) fun z hz => h z (List.mem_cons_of_mem _ hz)
    unfold uq
    split
    · exact ih
    · rename_i q
      refine List.nodup_cons.mpr ⟨fun hm => q ?_, ih⟩
      exact List.any_eq_true.mpr ⟨x, hm, (eqv_pr (h x (by simp)) (h x (by simp))).mpr rfl⟩
theorem uq_len : ∀ ds : List D, (uq ds).length ≤ ds.length
  | [] => Nat.le_refl _
  | x :: r => by
    have := uq_len r
    unfold uq
    split
    · rw [List.length_cons]; omega
    · rw [List.length_cons, List.length_cons]; omega
theorem pull_perm {α β : Type} {g : α → β} : ∀ (vs : List β) (L : List α), vs.Perm (L.map g) → ∃ L' : List α, L'.Perm L ∧ L'.map g = vs
  | [], L, h => by
    have : L = [] := List.map_eq_nil_iff.mp h.symm.eq_nil
    exact ⟨[], by rw [this], rfl⟩
  | v :: vs, L, h => by
    have hm : v ∈ L.map g := h.mem_iff.mp (by simp)
    obtain ⟨q, hq, e⟩ := List.mem_map.mp hm
    obtain ⟨U, W, rfl⟩ := List.append_of_mem hq
    have h2 : (v :: vs).Perm (v :: (U ++ W).map g) := by
      refine h.trans ?_
      rw [List.map_append, List.map_cons, e, List.map_append]
      exact List.perm_middle
    obtain ⟨L', p, m⟩ := pull_perm vs (U ++ W) h2.cons_inv
    exact ⟨q :: L', (p.cons q).trans List.perm_middle.symm, by rw [List.map_cons, e, m]⟩
theorem lt_pair {x y x' y' : Str} : ltD (.tup [.str x, .str y]) (.tup [.str x', .str y']) = if x = x' then (if y = y' then false else ltD (.str y) (.str y')) else ltD (.str x) (.str x') := by
  show (if (x == x') = true then (if (y == y') = true then false else ltD (.str y) (.str y')) else ltD (.str x) (.str x')) = _
  simp only [beq_iff_eq]
theorem lt_pair_tri {d e : D} (hd : pairT d) (he : pairT e) (h1 : ltD e d = false) (h2 : ltD d e = false) : d = e := by
  obtain ⟨x, y, rfl⟩ := hd
  obtain ⟨x', y', rfl⟩ := he
  rw [lt_pair] at h1 h2
  by_cases hx : x = x'
  · subst hx
    rw [if_pos rfl] at h1 h2
    by_cases hy : y = y'
    · rw [hy]
    · rw [if_neg hy] at h2
      rw [if_neg fun z => hy z.symm] at h1
      exact absurd (tri_str h1 h2) hy
  · rw [if_neg hx] at h2
    rw [if_neg fun z => hx z.symm] at h1
    exact absurd (tri_str h1 h2) hx
theorem like_pair {d e : D} (hd : pairT d) (he : pairT e) : likeD d e = true := by
  obtain ⟨x, y, rfl⟩ := hd
  obtain ⟨x', y', rfl⟩ := he
  rfl
theorem pd_pair {d : D} (hd : pairT d) : pd 60 d = true := by
  obtain ⟨x, y, rfl⟩ := hd
  rfl
/-- what is sorted stands fixed by its members -/
theorem sort_perm {ds es : List D} (hp : ds.Perm es) (h : ∀ d ∈ ds, pairT d) : sortD ds = sortD es := by
  have h' : ∀ d ∈ es, pairT d := fun d hd => h d (hp.mem_iff.mpr hd)
  have s1 : (sortD ds).Pairwise fun x y => leS x y = true := List.pairwise_mergeSort leS_trans leS_total ds
  have s2 : (sortD es).Pairwise fun x y => leS x y = true := List.pairwise_mergeSort leS_trans leS_total es
  have p : (sortD ds).Perm (sortD es) := ((List.mergeSort_perm ds leS).trans hp).trans (List.mergeSort_perm es leS).symm
  refine List.Perm.eq_of_pairwise (le := fun x y => leS x y = true) (fun a b ha hb h1 h2 => ?_) s1 s2 p
  have pa := h a (sortD_mem.mp ha)
  have pb := h' b (sortD_mem.mp hb)
  unfold leS at h1 h2
  rw [lt_py _ _ (like_pair pb pa), Bool.not_eq_true'] at h1
  rw [lt_py _ _ (like_pair pa pb), Bool.not_eq_true'] at h2
  exact lt_pair_tri pa pb h1 h2
/-- sorted(set(xs)) -/
def srt2 : O1 := fun d M Q => match asL M d with
  | some ds => (∀ d ∈ ds, pairT d) ∧ ds.length < 64 ∧ Q (.lst (sortD (uq ds))) M
  | none => False
def rwD (p : Rw) : D := .tup (p.2.map kD)
theorem rows_of {K : PySem.W.Frag} {M : MH} {H : Hp} : ∀ {ds : List D} {vs : List V}, RpL K M H ds vs → (∀ d ∈ ds, pairT d) → ∃ ks : List Rw, vs = ks.map (fun p => V.ref p.1) ∧ ds = ks.map rwD ∧ ∀ p ∈ ks, Rp K M H (rwD p) (.ref p.1)
  | [], vs, h, _ => by
    have h : vs = [] := h
    exact ⟨[], h, rfl, by simp⟩
  | d :: r, vs, h, hp => by
    obtain ⟨v, us, rfl, h1, h2⟩ := h
    obtain ⟨ks, e1, e2, e3⟩ := rows_of h2 fun z hz => hp z (List.mem_cons_of_mem _ hz)
    obtain ⟨x, y, rfl⟩ := hp d (by simp)
    obtain ⟨a, ws, rfl, h4, h5⟩ := id h1
    refine ⟨(a, [.inr x, .inr y]) :: ks, by rw [e1]; rfl, by rw [e2]; rfl, ?_⟩
    intro p hp
    rcases List.mem_cons.mp hp with e | hp
    · subst e; exact h1
    · exact e3 p hp
theorem key_rel {n : Key} {u : Value} (r : RelV (kV n) u) : keyIs n u = true := by
  cases n with
  | inl i => obtain ⟨t, rfl⟩ := r; exact keyIs_int i t
  | inr x => obtain ⟨t, rfl⟩ := r; exact keyIs_str x t
theorem items_key {P : Program} {w : World} : ∀ {k : List Key} {us : List Value}, Vals (k.map kV) us → ItemsAre (mixKind P w) k us
  | [], _, .nil => .nil
  | n :: k, _, .cons r t => .cons (key_rel r) (items_key t)
theorem rp_keys {K : PySem.W.Frag} {M : MH} {H : Hp} : ∀ {k : List Key} {vs : List V}, RpL K M H (k.map kD) vs → vs = k.map kV
  | [], _, h => h
  | n :: k, _, h => by
    obtain ⟨v, r, rfl, h1, h2⟩ := h
    rw [rp_keys h2, List.map_cons]
    congr 1
    cases n <;> exact h1
end Z

/-! Y7: sorted(set(xs)) as an expression. -/
namespace Z
open PySem PySem.Spec PyProof.Rows L2 KS
section
variable {X : Cx}
theorem tp_of {pins : List (Addr × Obj)} {σ : L2.St} {H : Hp} {s : Shared} {M : MH} (I : Inv X pins σ H s) {p : Rw} (r : Rp X.K M H (rwD p) (.ref p.1)) : Tp X.prog X.w s.heap p.2 p.1 := by
  obtain ⟨a, vs, e, h1, h2⟩ := r
  cases e
  have ev := rp_keys h2
  subst ev
  obtain ⟨its, rv, ⟨o, ho, hc, n, hd⟩, _⟩ := I.tuple h1.sq
  exact ⟨o, its.toArray, n, ho, hc, hd, by simpa using items_key rv⟩
theorem refs_vals : ∀ {ks : List Rw} {us : List Value}, Vals (ks.map fun p => V.ref p.1) us → us = ks.map fun p => Value.ref p.1
  | [], _, .nil => rfl
  | p :: ks, _, .cons r t => by
    cases r
    rw [refs_vals t]; rfl
theorem each_rows {K : PySem.W.Frag} {M : MH} {H : Hp} : ∀ {ks : List Rw}, (∀ p ∈ ks, Rp K M H (rwD p) (.ref p.1)) → PySem.W.EachIs (fun (u : Value) (d : D) => ∃ v, RelV v u ∧ Rp K M H d v) (ks.map fun p => Value.ref p.1) (ks.map rwD)
  | [], _ => .nil
  | p :: ks, h => .cons ⟨.ref p.1, rfl, h p (by simp)⟩ (each_rows fun q hq => h q (List.mem_cons_of_mem _ hq))
theorem z_srt2 {K : PySem.W.Frag} {M0 : MH} {H0 : Hp} {a : Expr} {ta : T3} {p p2 q pos : Pos} (hK : X.K = K) (hc : X.calm = true) (hu : X.A.units + 100 < cLine) (hg : Gl X "sorted") (hm : X.mg "sorted" = none) (hg2 : Gl X "set") (hm2 : X.mg "set" = none) (ha : PE X a (LE K M0 H0 ta))
    (na : starEach [a] X.env = (false, eval a X.env) :: starEach [] X.env) : PE X (.Call (.Name "sorted" p) [.Call (.Name "set" p2) [a] [] q] [] pos) (LE K M0 H0 (op1 srt2 ta)) := by
  subst hK
  refine ⟨fun pins s σ H Q I h => ?_⟩
  obtain ⟨en, M, Q3, rs, rm, ev, t, c⟩ := h
  refine Call_ (ld_blt I hg hm PyProof.Rows.boot_sorted ?_)
  refine PyProof.Rows.callWith_builtin1 (PyProof.Rows.args_cons ?_ rfl) rfl rfl
  refine Call_ (ld_blt I hg2 hm2 PyProof.Rows.boot_set ?_)
  refine PyProof.Rows.callWith_type1 (PyProof.Rows.args_cons (thn (ha.run pins s σ H (fun v H1 => ∃ d M1, srt2 d M1 Q3 ∧ Rp X.K M1 H1 d v ∧ RM X.K M1 H1 ∧ Ev M H M1 H1) I (LE.then rs rm ev t fun d M1 v1 H1 t1 r1 rs1 rm1 ev1 e1 => ⟨d, M1, t1, r1, rm1, e1⟩)) fun u s1 ⟨v, H1, I1, rv1, d, M1, t1, r1, rm1, e1⟩ => PyProof.Rows.args_nil ?_) na) na rfl
  unfold srt2 at t1
  split at t1
  · rename_i ds hds
    obtain ⟨t2, t3, t4⟩ := t1
    obtain ⟨l, vs, h1, h2, h3⟩ := asL_sq rm1 hds r1
    subst h1
    cases rv1
    obtain ⟨ks, k1, k2, k3⟩ := rows_of h3 t2
    obtain ⟨its, rvs, pl, hz⟩ := I1.list h2
    rw [k1] at rvs
    have kl : ks.length < 64 := by rw [k2, List.length_map] at t3; exact t3
    refine call_set ks (I1.ok.hd hc) pl.isList (by simpa using refs_vals rvs) (fun p hp => tp_of I1 (k3 p hp)) kl (by omega) fun h' tk L es ep t kS has keep => ?_
    refine PyProof.Rows.args_nil ?_
    have I2 : Inv X pins σ H1 { s1 with heap := h', toks := tk } := I1.kept fun b o e => keep b o e
    refine sorted_set (s := { s1 with heap := h', toks := tk }) kS (I2.ok.hd hc) fun s2 us kp hz2 g2 o2 pm => ?_
    obtain ⟨L', pL, eL⟩ := pull_perm us L pm
    subst eL
    have inK : ∀ p ∈ L', p ∈ ks := fun p hp => has.sub p (pL.mem_iff.mp hp)
    have rp' : ∀ p ∈ L', Rp X.K M1 H1 (rwD p) (.ref p.1) := fun p hp => k3 p (inK p hp)
    have prs : ∀ d ∈ L'.map rwD, pairT d := fun d hd => by
      obtain ⟨p, hp, rfl⟩ := List.mem_map.mp hd
      exact t2 _ (by rw [k2]; exact List.mem_map.mpr ⟨p, inK p hp, rfl⟩)
    have inj : ∀ p q : Rw, pairT (rwD p) → rwD p = rwD q → p.2 = q.2 := by
      intro p q _ e
      unfold rwD at e
      injection e with _ e
      have : ∀ (x y : List Key), x.map kD = y.map kD → x = y := by
        intro x
        induction x with
        | nil => intro y h; cases y with | nil => rfl | cons _ _ => cases h
        | cons n x ih =>
          intro y h
          cases y with
          | nil => cases h
          | cons m y =>
            rw [List.map_cons, List.map_cons] at h
            injection h with h1 h2
            rw [ih y h2]
            congr 1
            cases n <;> cases m <;> first | (cases h1; rfl) | cases h1
      exact this _ _ e
    have nd : (L'.map rwD).Nodup := by
      have n2 : (L'.map (·.2)).Nodup := (pL.map (·.2)).nodup_iff.mpr kS.uniq
      rw [List.nodup_iff_pairwise_ne, List.pairwise_map] at n2 ⊢
      refine List.Pairwise.imp_of_mem (fun {x y} hx hy hne e => hne (inj x y (prs _ (List.mem_map.mpr ⟨x, hx, rfl⟩)) e)) n2
    have same : (L'.map rwD).Perm (uq ds) := by
      refine (List.perm_ext_iff_of_nodup nd (uq_nodup t2)).mpr fun d => ?_
      rw [uq_mem t2 d, k2]
      constructor
      · intro hd
        obtain ⟨p, hp, rfl⟩ := List.mem_map.mp hd
        exact List.mem_map.mpr ⟨p, inK p hp, rfl⟩
      · intro hd
        obtain ⟨p, hp, rfl⟩ := List.mem_map.mp hd
        obtain ⟨q, hq, e⟩ := List.mem_map.mp (has.all p hp)
        exact List.mem_map.mpr ⟨q, pL.mem_iff.mpr hq, by unfold rwD; rw [show q.2 = p.2 from e]⟩
    -- sorting
    have each := each_rows rp'
    have rdI : ∀ (u : Value) (d : D), ((∃ v, RelV v u ∧ Rp X.K M1 H1 d v) ∧ d ∈ L'.map rwD) → ∃ as, Reads h' u (toPy d) as := fun u d hh => reads_of I2 ⟨hh.1, pd_pair (prs d hh.2)⟩
    have kp2 : ∀ b o, h'.get? b = some o → (PySem.W.sortingHeap (s2.heap.push (seqObj "list" (L'.map fun q => Value.ref q.1).toArray 0)) s2.heap.objs.size (L'.map fun q => Value.ref q.1)).get? b = some o := fun b o e => by
      have e2 := kp b o e
      refine PySem.W.sortingHeap_old ?_ (Heap.get?_push_of_some _ e2)
      exact Nat.ne_of_lt (Heap.lt_size e2)
    have hal : PySem.W.AllAlike ((L'.map rwD).map toPy) := fun z hz z' hz' => by
      obtain ⟨d1, g1, rfl⟩ := toPy_mem hz
      obtain ⟨d2, g2, rfl⟩ := toPy_mem hz'
      exact like_py _ _ (like_pair (prs d1 g1) (prs d2 g2))
    have each2 := each_and each (P := fun d => d ∈ L'.map rwD) fun b hb => hb
    have er := each_map (R := fun (u : Value) (p : PyData) => ∃ as, Reads (PySem.W.sortingHeap (s2.heap.push (seqObj "list" (L'.map fun q => Value.ref q.1).toArray 0)) s2.heap.objs.size (L'.map fun q => Value.ref q.1)) u p as) toPy (each2.mono fun u d hh => by
      obtain ⟨as, rd⟩ := rdI u d hh
      exact ⟨as, PyProof.Rows.Reads.keeps kp2 rd⟩)
    have S := PySem.W.SortsAt.data (prog := X.prog) (w := X.w) (A := X.A.in1.in1) (s := { s2 with heap := PySem.W.sortingHeap (s2.heap.push (seqObj "list" (L'.map fun q => Value.ref q.1).toArray 0)) s2.heap.objs.size (L'.map fun q => Value.ref q.1) }) er hal (.inl fun z hz => by
        obtain ⟨d1, g1, rfl⟩ := toPy_mem hz
        obtain ⟨x, y, rfl⟩ := prs d1 g1
        exact ⟨toPy (.str x), toPyL [.str y], by simp [toPy, toPyL]⟩) (fun z hz => by
        obtain ⟨d1, g1, rfl⟩ := toPy_mem hz
        have := pd_depth 60 d1 (pd_pair (prs d1 g1))
        show X.A.units + 1 + 1 + _ < cLine
        omega)
    refine ⟨_, S, ?_⟩
    have out := PySem.W.sortVals_each (κ := PySem.W.dataKind (PySem.W.sortingHeap (s2.heap.push (seqObj "list" (L'.map fun q => Value.ref q.1).toArray 0)) s2.heap.objs.size (L'.map fun q => Value.ref q.1)) ((L'.map rwD).map toPy)) (rev := false) (fun d => PySem.W.keyToks (toPy d)) each
      (each2.mono fun u d hh => by
        obtain ⟨as, rd⟩ := rdI u d hh
        exact PySem.W.dataKind_some hal (List.mem_map.mpr ⟨d, hh.2, rfl⟩) (PyProof.Rows.Reads.keeps kp2 rd))
    obtain ⟨ws, w1, w2⟩ := of_each out
    have hoL : (s2.heap.push (seqObj "list" (L'.map fun q => Value.ref q.1).toArray 0)).get? s2.heap.objs.size = some (seqObj "list" (L'.map fun q => Value.ref q.1).toArray 0) := Heap.get?_push_size _ rfl
    obtain ⟨cc, hcc⟩ := sortedHeap_at (vs := L'.map fun q => Value.ref q.1) (out := (PySem.W.sortVals (PySem.W.dataKind (PySem.W.sortingHeap (s2.heap.push (seqObj "list" (L'.map fun q => Value.ref q.1).toArray 0)) s2.heap.objs.size (L'.map fun q => Value.ref q.1)) ((L'.map rwD).map toPy)) false (L'.map fun q => Value.ref q.1) (L'.map fun q => Value.ref q.1)).toArray) hoL
    have kp3 : ∀ b o, s1.heap.get? b = some o → (sortedHeap (s2.heap.push (seqObj "list" (L'.map fun q => Value.ref q.1).toArray 0)) s2.heap.objs.size (L'.map fun q => Value.ref q.1) (PySem.W.sortVals (PySem.W.dataKind (PySem.W.sortingHeap (s2.heap.push (seqObj "list" (L'.map fun q => Value.ref q.1).toArray 0)) s2.heap.objs.size (L'.map fun q => Value.ref q.1)) ((L'.map rwD).map toPy)) false (L'.map fun q => Value.ref q.1) (L'.map fun q => Value.ref q.1)).toArray).get? b = some o := fun b o e => by
      have e2 := kp b o (keep b o e)
      have lt := Heap.lt_size e2
      rw [sortedHeap_old (Nat.ne_of_lt lt) (by rw [size_push']; exact Nat.lt_succ_of_lt lt)]
      exact Heap.get?_push_of_some _ e2
    have szle : s1.heap.objs.size ≤ s2.heap.objs.size := by
      obtain ⟨o, ho, _⟩ := kS.at_
      exact Nat.le_trans (Nat.le_of_lt (Heap.lt_size ho)) hz2
    have hf : H1 s2.heap.objs.size = none := I1.hok.fresh szle
    have wl : ws.length ≤ sizeLine := by
      rw [w1.length, (List.mergeSort_perm _ _).length_eq, List.length_map, pL.length_eq]
      exact Nat.le_trans (Nat.le_of_lt kS.few) (by decide)
    have J := I1.call (ch := []) (Un.laid kp3 szle hf) (I1.hok.laid kp3 szle (o := .lst ws) ⟨wl, _, cc, w2, hcc⟩) (g' := s2.gens) (t' := s2.toks) (d' := s2.drawn) (by rw [g2]; exact I1.bare) (fun _ z => nomatch z)
    refine ⟨.ref _, upd H1 s2.heap.objs.size (.lst ws), ?_, rfl, ?_⟩
    · have e : ∀ hp : Heap, ({ s2 with heap := hp } : Shared) = { s1 with heap := hp, gens := s2.gens, drawn := s2.drawn, toks := s2.toks } := fun hp => by
        cases s1; cases s2; cases o2; rfl
      rw [e]; exact J
    · have fin : sortD (L'.map rwD) = sortD (uq ds) := sort_perm same prs
      have w1' : RpL X.K M1 H1 (sortD (L'.map rwD)) ws := w1
      rw [fin] at w1'
      exact c _ M1 _ _ t4 (Rp.lstNew rm1 hf w1') (rm1.new hf) (e1.trans (Ev.new hf))
  · exact t1.elim
end
end Z

namespace Z
open PySem PySem.Spec PyProof.Rows L2

inductive BOp where
  | add | sub | mul | fdv | mod | pow
inductive COp where
  | eq | ne | lt | le | gt | ge | isin | notin | is | isnot
inductive Bt where
  | len | int | abs | min2 | max2 | minL | maxL | sum | all | any | tupT | tupK | lstF | lstM | srt | strI
inductive IK where
  | seq | rng1 | rng2 | enm
inductive Ex where
  | loc (i : Nat)
  | non
  | bl (b : Bool)
  | int (i : Int)
  | str (x : Str)
  | glo (j : Nat)
  | bin (o : BOp) (a b : Ex)
  | neg (a : Ex)
  | cmp (o : COp) (a b : Ex)
  | chn (o o' : COp) (a b c : Ex)
  | bol (isAnd : Bool) (es : List Ex)
  | nt (a : Ex)
  | ite (c a b : Ex)
  | tup (es : List Ex)
  | lst (m : Bool) (es : List Ex)
  | idx (a b : Ex)
  | sli (a : Ex) (lo hi : List Ex)
  | rev (a : Ex)
  | call (j : Nat) (e : Ex) (es : List Ex)
  | blt (b : Bt) (e : Ex) (es : List Ex)
  | isi (T : Ty) (e : Ex)
  | mth (m : Mt) (o e : Ex) (es : List Ex)
  | comp (m : Bool) (elt : Ex) (tg : Tg) (ik : IK) (its : List Ex) (ifs : List Ex) (own : List (Str × Nat))
  | newK (m : Bool)
  | newT
  | addM (a b : Ex)
  | srt2 (a : Ex)
  | dis (m : Bool) (kvs : List Ex)
  | fmt (e : Ex)
  | js (e e2 : Ex) (es : List Ex)
inductive Sx where
  | asg (tg : Tg) (e : Ex)
  | par (i j : Nat) (a b : Ex)
  | sput (o i e : Ex)
  | aug (i : Nat) (isAdd : Bool) (e : Ex)
  | expr (e : Ex)
  | ret (e : Ex)
  | retN
  | ifs (c : Ex) (a b : List Sx)
  | fors (tg : Tg) (ik : IK) (its : List Ex) (body : List Sx)
  | whl (c : Ex) (body : List Sx)
  | brk
  | cnt
  | pss
  | fz (i : Nat)
  | rse (e : Ex)
  | rseN
  | tryR (body : List Sx) (k : Str) (i : Nat)

/-- what the module's names stand for -/
structure GT where
  fns : List (Str × Nat × Sp3)
  cst : List (Str × D)
  bn : List Str
  er : Bool
def nth {α : Type u} : List α → Nat → Option α
  | [], _ => none
  | x :: _, 0 => some x
  | _ :: r, n + 1 => nth r n
theorem nth_mem {α : Type u} : ∀ {l : List α} {n : Nat} {x : α}, nth l n = some x → x ∈ l
  | [], _, _, h => by cases h
  | y :: _, 0, x, h => by
    cases h; simp
  | _ :: r, n + 1, x, h => List.mem_cons_of_mem _ (nth_mem (show nth r n = some x from h))
/-- a def's promise, called -/
def callG (G : GT) (j : Nat) (E : X3) (t : TL3) : T3 := match nth G.fns j with
  | some (_, n, sp) => call3 n sp E t
  | none => fun _ _ _ => False
def cstG (G : GT) (j : Nat) : T3 := match nth G.cst j with
  | some (_, d) => con3 d
  | none => fun _ _ _ => False

def BOp.o2 : BOp → O2
  | .add => add3 | .sub => sub3 | .mul => mul3 | .fdv => fdv3 | .mod => mod3 | .pow => pow3
def BOp.op : BOp → Operator
  | .add => .Add | .sub => .Sub | .mul => .Mult | .fdv => .FloorDiv | .mod => .Mod | .pow => .Pow
def COp.o2 : COp → O2
  | .eq => eq3 | .ne => ne3 | .lt => lt3 | .le => le3 | .gt => gt3 | .ge => ge3 | .isin => in3 | .notin => nin3 | .is => isN3 | .isnot => notN3
def COp.op : COp → CmpOp
  | .eq => .Eq | .ne => .NotEq | .lt => .Lt | .le => .LtE | .gt => .Gt | .ge => .GtE | .isin => .In | .notin => .NotIn | .is => .Is | .isnot => .IsNot
def Bt.name : Bt → String
  | .len => "len" | .int => "int" | .abs => "abs" | .min2 => "min" | .max2 => "max" | .minL => "min" | .maxL => "max" | .sum => "sum" | .all => "all" | .any => "any" | .tupT => "tuple" | .tupK => "tuple" | .lstF => "list" | .lstM => "list" | .srt => "sorted" | .strI => "str"
def Bt.ol : Bt → OL
  | .len => c1 (ofO lenA) | .int => c1 (ofO intA) | .abs => c1 (ofO absA) | .min2 => c2 (ofO2 minA) | .max2 => c2 (ofO2 maxA) | .minL => c1 (ofO Z.minL) | .maxL => c1 (ofO Z.maxL) | .sum => c1 (ofO sumA) | .all => c1 (ofO allA) | .any => c1 (ofO anyA)
  | .tupT => c1 (tupA .t) | .tupK => c1 (tupA .k) | .lstF => c1 (lstA false) | .lstM => c1 (lstA true) | .srt => c1 srtA | .strI => c1 (ofO strA)
def Bt.isTy : Bt → Bool
  | .int | .tupT | .tupK | .lstF | .lstM | .strI => true
  | _ => false
/-- what is walked -/
def iterL (t : TL3) : TL3 := fun e M Q => t e M fun ds M1 => match ds with
  | [d] => match itemsA d with | some ds => Q ds M1 | none => False
  | _ => False
def wi : IK → TL3 → TL3
  | .seq, t => iterL t
  | .rng1, t => rng1A t
  | .rng2, t => rng2A t
  | .enm, t => enumA t
/-- {x} in an f-string -/
def fmt3 : O1 := fun d M Q => match d with
  | .str y => y.length ≤ sizeLine ∧ Q (.str y) M
  | .int i => i.natAbs.log2 < 1920 ∧ Q (.str (toString i)) M
  | _ => False
/-- texts one behind the other -/
def jsW : List T3 → Str → En → MH → (Str → MH → Prop) → Prop
  | [], acc, _, M, Q => Q acc M
  | t :: ts, acc, e, M, Q => t e M fun d M1 => match d with
    | .str y => (acc ++ y).length ≤ sizeLine ∧ jsW ts (acc ++ y) e M1 Q
    | _ => False
def js3 (ts : List T3) : T3 := fun e M Q => jsW ts Str.empty e M fun out M1 => Q (.str out) M1
mutual
/-- an expression's reading of data -/
def wpe (G : GT) : Ex → X3 → T3
  | .loc i, _ => loc3 i
  | .non, _ => con3 .non
  | .bl b, _ => con3 (.bl b)
  | .int i, _ => con3 (.int i)
  | .str x, _ => con3 (.str x)
  | .glo j, _ => cstG G j
  | .bin o a b, E => op2 o.o2 (wpe G a E) (wpe G b E)
  | .addM a b, E => op2 addM3 (wpe G a E) (wpe G b E)
  | .srt2 a, E => op1 srt2 (wpe G a E)
  | .neg a, E => op1 neg3 (wpe G a E)
  | .cmp o a b, E => op2 o.o2 (wpe G a E) (wpe G b E)
  | .chn o o' a b c, E => chain3 o.o2 o'.o2 (wpe G a E) (wpe G b E) (wpe G c E)
  | .bol k es, E => wpv G k es E
  | .nt a, E => notV3 (wpe G a E)
  | .ite c a b, E => ite3 (wpt G c E) (wpe G a E) (wpe G b E)
  | .tup es, E => tup3 (wpl G es E)
  | .lst m es, E => match m with | true => lstM3 (wpl G es E) | false => lst3 (wpl G es E)
  | .idx a b, E => op2 ix3 (wpe G a E) (wpe G b E)
  | .sli a lo hi, E => sl3 (wpe G a E) (wpo G lo E) (wpo G hi E)
  | .rev a, E => op1 rev3 (wpe G a E)
  | .call j e es, E => callG G j E (cons3 (wpe G e E) (wpl G es E))
  | .blt b e es, E => opL b.ol (cons3 (wpe G e E) (wpl G es E))
  | .isi T e, E => op1 (isi3 T) (wpe G e E)
  | .mth m o e es, E => mth3 m (wpe G o E) (cons3 (wpe G e E) (wpl G es E))
  | .comp m elt tg ik its ifs own, E => comp3 m (wi ik (wpl G its E)) tg (wpc G ifs noX) (wpe G elt noX) (own.map (·.2))
  | .newK m, _ => newK3 m
  | .newT, _ => newT3
  | .dis m kvs, E => disp3 m (wpp G kvs E)
  | .fmt e, E => op1 fmt3 (wpe G e E)
  | .js e e2 es, E => js3 (wpe G e E :: wpe G e2 E :: wpj G es E)
/-- a test's -/
def wpt (G : GT) : Ex → X3 → TB3
  | .cmp o a b, E => tst (op2 o.o2 (wpe G a E) (wpe G b E))
  | .chn o o' a b c, E => tst (chain3 o.o2 o'.o2 (wpe G a E) (wpe G b E) (wpe G c E))
  | .bol k es, E => wpb G k es E
  | .nt a, E => not3 (wpt G a E)
  | .loc i, E => tru3 (loc3 i)
  | .non, _ => tru3 (con3 .non)
  | .bl b, _ => tru3 (con3 (.bl b))
  | .int i, _ => tru3 (con3 (.int i))
  | .str x, _ => tru3 (con3 (.str x))
  | .idx a b, E => tru3 (op2 ix3 (wpe G a E) (wpe G b E))
  | .call j e es, E => tru3 (callG G j E (cons3 (wpe G e E) (wpl G es E)))
  | .blt b e es, E => tru3 (opL b.ol (cons3 (wpe G e E) (wpl G es E)))
  | .isi T e, E => tru3 (op1 (isi3 T) (wpe G e E))
  | .mth m o e es, E => tru3 (mth3 m (wpe G o E) (cons3 (wpe G e E) (wpl G es E)))
  | _, _ => fun _ _ _ => False
/-- a list's -/
def wpl (G : GT) : List Ex → X3 → TL3
  | [], _ => nil3
  | e :: es, E => cons3 (wpe G e E) (wpl G es E)
/-- a chain of and, or: as a value, as a test -/
def wpv (G : GT) : Bool → List Ex → X3 → T3
  | _, [], _ => fun _ _ _ => False
  | _, [e], E => wpe G e E
  | true, e :: es, E => andV3 (wpe G e E) (wpv G true es E)
  | false, e :: es, E => orV3 (wpe G e E) (wpv G false es E)
def wpb (G : GT) : Bool → List Ex → X3 → TB3
  | _, [], _ => fun _ _ _ => False
  | _, [e], E => wpt G e E
  | true, e :: es, E => and3 (wpt G e E) (wpb G true es E)
  | false, e :: es, E => or3 (wpt G e E) (wpb G false es E)
/-- a slice's bound -/
def wpo (G : GT) : List Ex → X3 → TO3
  | [], _ => noP3
  | e :: _, E => part3 (wpe G e E)
/-- a comprehension's test -/
def wpc (G : GT) : List Ex → X3 → TB3
  | [], _ => yes3
  | e :: _, E => wpt G e E
/-- an f-string's parts -/
def wpj (G : GT) : List Ex → X3 → List T3
  | [], _ => []
  | e :: es, E => wpe G e E :: wpj G es E
/-- a display's pairs, key and value in turn -/
def wpp (G : GT) : List Ex → X3 → List (T3 × T3)
  | k :: v :: r, E => (wpe G k E, wpe G v E) :: wpp G r E
  | _, _ => []
end
/-- freezing a list that a name holds -/
def fz3 (i : Nat) (t : TS3) : TS3 := fun D e M => match getE e i with
  | some (.ref a) => match M a with
    | some (.lst ds) => t D (setE e i (.lst ds)) (er M a)
    | some (.dK kvs) => t D (setE e i (.dK (kvs.map (·.1)) (kvs.map (·.2)))) (er M a)
    | some (.dT kvs) => t D (setE e i (.dT (kvs.map (·.1)) (kvs.map (·.2)))) (er M a)
    | _ => False
  | _ => False
mutual
/-- a statement's reading of data -/
def wps (G : GT) (E : X3) : Sx → TS3
  | .asg tg e => asg3 (wpe G e E) tg
  | .par i j a b => par3 i j (cons3 (wpe G a E) (cons3 (wpe G b E) nil3))
  | .sput o i e => sput3 (wpe G o E) (wpe G i E) (wpe G e E)
  | .aug i k e => aug3 i (wpe G e E) (match k with | true => iadd3 | false => isub3)
  | .expr e => drop3 (wpe G e E)
  | .ret e => ret3 (wpe G e E)
  | .retN => retN3
  | .ifs c a b => if3 (wpt G c E) (wpss G E a) (wpss G E b)
  | .fors tg ik its body => for3 (wi ik (wpl G its E)) tg (wpss G E body)
  | .whl c body => while3 (wpt G c E) (wpss G E body)
  | .brk => brk3
  | .cnt => cnt3
  | .pss => next3
  | .fz _ => fun _ _ _ => False
  | .rse e => raise3 (wpe G e E) E
  | .rseN => fun _ _ _ => False
  | .tryR body k _ => fun D e M => wpss G (excR D k) body D e M
def wpss (G : GT) (E : X3) : List Sx → TS3
  | [] => next3
  | s :: r => match s with
    | .fz i => fz3 i (wpss G E r)
    | s => seq3 (wps G E s) (wpss G E r)
end
end Z

namespace Z
open PySem PySem.Spec PyProof.Rows L2

def isVis (sc : Scope) (x : Str) : Bool := match sc.names.lookup x with
  | some .local => true | some .cell => true | some .free => true | _ => false
def isLoc (sc : Scope) (x : Str) : Bool := match sc.names.lookup x with
  | some .local => true | some .cell => true | _ => false
def isGl (sc : Scope) (x : Str) : Bool := match sc.names.lookup x with
  | some .globalImplicit => true | _ => false
def beqOp : BOp → Operator → Bool
  | .add, .Add => true | .sub, .Sub => true | .mul, .Mult => true | .fdv, .FloorDiv => true | .mod, .Mod => true | .pow, .Pow => true | _, _ => false
def beqCm : COp → CmpOp → Bool
  | .eq, .Eq => true | .ne, .NotEq => true | .lt, .Lt => true | .le, .LtE => true | .gt, .Gt => true | .ge, .GtE => true | .isin, .In => true | .notin, .NotIn => true | .is, .Is => true | .isnot, .IsNot => true | _, _ => false
theorem beqOp_ok {o : BOp} {p : Operator} (h : beqOp o p = true) : p = o.op := by
  cases o <;> cases p <;> first | rfl | (exact absurd h Bool.false_ne_true)
theorem beqCm_ok {o : COp} {p : CmpOp} (h : beqCm o p = true) : p = o.op := by
  cases o <;> cases p <;> first | rfl | (exact absurd h Bool.false_ne_true)
def Bt.args : Bt → Nat
  | .min2 | .max2 => 2
  | _ => 1
/-- a target of names -/
def chkNs (N : List Str) (sc : Scope) : List Nat → List Expr → Bool
  | [], [] => true
  | i :: is, e :: es => (match e with | .Name x _ => decide (N[i]? = some x) && isLoc sc x | _ => false) && chkNs N sc is es
  | _, _ => false
def chkTg (N : List Str) (sc : Scope) (tg : Tg) (e : Expr) : Bool := match tg with
  | .nm i => match e with | .Name x _ => decide (N[i]? = some x) && isLoc sc x | _ => false
  | .tp is => match e with | .Tuple es _ _ => chkNs N sc is es | _ => false
/-- not one of the few heads that are looked at apart -/
def plain : Expr → Bool
  | .Starred .. => false
  | .Set .. => false
  | .Slice .. => false
  | .ListComp .. => true
  | .SetComp .. => false
  | .DictComp .. => false
  | _ => true
def strD (x y : Str) : Bool := decide (x = y)
/-- what is walked, and the target (enumerate wants a written pair) -/
def chkI (G : GT) (ik : IK) (sc : Scope) (e t : Expr) (cl : List Expr → Bool) : Bool := match ik with
  | .seq => cl [e]
  | .rng1 => match e with | .Call (.Name y _) [a] [] _ => decide (y = ("range" : Str)) && isGl sc y && decide (y ∈ G.bn) && cl [a] | _ => false
  | .rng2 => match e with | .Call (.Name y _) [a, b] [] _ => decide (y = ("range" : Str)) && isGl sc y && decide (y ∈ G.bn) && cl [a, b] | _ => false
  | .enm => match e, t with | .Call (.Name y _) [a] [] _, .Tuple .. => decide (y = ("enumerate" : Str)) && isGl sc y && decide (y ∈ G.bn) && cl [a] | _, _ => false
def nmF (G : GT) (j : Nat) (y : Str) : Bool := match nth G.fns j with | some (x, _) => decide (x = y) | none => false
def nmC (G : GT) (j : Nat) (y : Str) : Bool := match nth G.cst j with | some (x, _) => decide (x = y) | none => false
mutual
def chkE (G : GT) (N : List Str) : Ex → Scope → Expr → Bool
  | .loc i, sc, e => match e with | .Name x _ => decide (N[i]? = some x) && isVis sc x | _ => false
  | .non, _, e => match e with | .Constant .none _ _ => true | _ => false
  | .bl b, _, e => match e with | .Constant (.bool c) _ _ => b == c | _ => false
  | .int i, _, e => match e with | .Constant (.int j) _ _ => decide (i = j) | _ => false
  | .str x, _, e => match e with | .Constant (.str y) _ _ => decide (x = y) | _ => false
  | .glo j, sc, e => match e with | .Name y _ => nmC G j y && isGl sc y && !(y == ("__debug__" : Str)) | _ => false
  | .bin o a b, sc, e => match e with | .BinOp l p r _ => beqOp o p && chkE G N a sc l && chkE G N b sc r | _ => false
  | .addM a b, sc, e => match e with | .BinOp l p r _ => beqOp .add p && chkE G N a sc l && chkE G N b sc r | _ => false
  | .srt2 a, sc, e => match e with | .Call (.Name y _) [.Call (.Name z _) [x] [] _] [] _ => decide (y = ("sorted" : Str)) && isGl sc y && decide (y ∈ G.bn) && decide (z = ("set" : Str)) && isGl sc z && decide (z ∈ G.bn) && chkE G N a sc x | _ => false
  | .neg a, sc, e => match e with | .UnaryOp .USub x _ => chkE G N a sc x | _ => false
  | .cmp o a b, sc, e => match e with | .Compare l [p] [r] _ => beqCm o p && chkE G N a sc l && chkE G N b sc r | _ => false
  | .chn o o' a b c, sc, e => match e with | .Compare l [p, p'] [r, r'] _ => beqCm o p && beqCm o' p' && chkE G N a sc l && chkE G N b sc r && chkE G N c sc r' | _ => false
  | .bol k es, sc, e => match e with | .BoolOp op vs _ => (match op with | .And => k | .Or => !k) && chkL G N es sc vs | _ => false
  | .nt a, sc, e => match e with | .UnaryOp .Not x _ => chkE G N a sc x | _ => false
  | .ite c a b, sc, e => match e with | .IfExp t x y _ => chkT G N c sc t && chkE G N a sc x && chkE G N b sc y | _ => false
  | .tup es, sc, e => match e with | .Tuple xs _ _ => chkL G N es sc xs | _ => false
  | .lst _ es, sc, e => match e with | .List xs _ => chkL G N es sc xs | _ => false
  | .idx a b, sc, e => match e with | .Subscript x y _ => chkE G N a sc x && chkE G N b sc y | _ => false
  | .sli a lo hi, sc, e => match e with | .Subscript x (.Slice l h none _) _ => chkE G N a sc x && chkO G N lo sc l && chkO G N hi sc h | _ => false
  | .rev a, sc, e => match e with | .Subscript x (.Slice none none (some (.UnaryOp .USub (.Constant (.int 1) _ _) _)) _) _ => chkE G N a sc x | _ => false
  | .call j x xs, sc, e => match e with | .Call (.Name y _) (z :: zs) [] _ => nmF G j y && isGl sc y && !(y == ("__debug__" : Str)) && chkE G N x sc z && chkL G N xs sc zs | _ => false
  | .blt b x xs, sc, e => match e with | .Call (.Name y _) (z :: zs) [] _ => decide (y = Str.ofString b.name) && isGl sc y && decide (y ∈ G.bn) && chkE G N x sc z && chkL G N xs sc zs | _ => false
  | .isi T x, sc, e => match e with | .Call (.Name y _) [z, .Name t _] [] _ => decide (y = ("isinstance" : Str)) && isGl sc y && decide (y ∈ G.bn) && decide (t = Str.ofString T.name) && isGl sc t && decide (t ∈ G.bn) && chkE G N x sc z | _ => false
  | .mth m o x xs, sc, e => match e with | .Call (.Attribute v nm ap) (z :: zs) [] cp => decide (nm = Str.ofString m.name) && (ap.endLine == cp.line) && decide (zs.length < 9) && chkE G N o sc v && chkE G N x sc z && chkL G N xs sc zs | _ => false
  | .comp _ elt tg ik its ifs own, sc, e => match e with
    | .ListComp el [⟨t, it, fs, ia⟩] scope _ => decide (ia = 0) && blkC N sc scope own && (tg.slots.all fun i => decide (i ∈ own.map (·.2))) && chkI G ik sc it t (chkL G N its sc) && chkTg N scope tg t && chkC G N ifs (relS scope sc) fs && chkE G N elt (relS scope sc) el
    | _ => false
  | .newK _, _, e => match e with | .Dict [] [] _ => true | _ => false
  | .newT, _, e => match e with | .Dict [] [] _ => true | _ => false
  | .dis _ kvs, sc, e => match e with | .Dict ks vs _ => chkP G N kvs sc ks vs && decide (ks ≠ []) && decide (ks.length ≤ 15) | _ => false
  | .fmt x, sc, e => match e with | .FormattedValue z c none _ => decide (c = -1) && chkE G N x sc z | _ => false
  | .js x y xs, sc, e => match e with | .JoinedStr (z :: z2 :: zs) _ => chkE G N x sc z && chkE G N y sc z2 && chkL G N xs sc zs | _ => false
def chkT (G : GT) (N : List Str) : Ex → Scope → Expr → Bool
  | .cmp o a b, sc, e => match e with | .Compare l [p] [r] _ => beqCm o p && chkE G N a sc l && chkE G N b sc r | _ => false
  | .chn o o' a b c, sc, e => match e with | .Compare l [p, p'] [r, r'] _ => beqCm o p && beqCm o' p' && chkE G N a sc l && chkE G N b sc r && chkE G N c sc r' | _ => false
  | .bol k es, sc, e => match e with | .BoolOp op vs _ => (match op with | .And => k | .Or => !k) && chkTL G N es sc vs | _ => false
  | .nt a, sc, e => match e with | .UnaryOp .Not x _ => chkT G N a sc x | _ => false
  | .loc i, sc, e => match e with | .Name x _ => decide (N[i]? = some x) && isVis sc x | _ => false
  | .idx a b, sc, e => match e with | .Subscript x y _ => chkE G N a sc x && chkE G N b sc y | _ => false
  | .call j x xs, sc, e => match e with | .Call (.Name y _) (z :: zs) [] _ => nmF G j y && isGl sc y && !(y == ("__debug__" : Str)) && chkE G N x sc z && chkL G N xs sc zs | _ => false
  | .blt b x xs, sc, e => match e with | .Call (.Name y _) (z :: zs) [] _ => decide (y = Str.ofString b.name) && isGl sc y && decide (y ∈ G.bn) && chkE G N x sc z && chkL G N xs sc zs | _ => false
  | .isi T x, sc, e => match e with | .Call (.Name y _) [z, .Name t _] [] _ => decide (y = ("isinstance" : Str)) && isGl sc y && decide (y ∈ G.bn) && decide (t = Str.ofString T.name) && isGl sc t && decide (t ∈ G.bn) && chkE G N x sc z | _ => false
  | .mth m o x xs, sc, e => match e with | .Call (.Attribute v nm ap) (z :: zs) [] cp => decide (nm = Str.ofString m.name) && (ap.endLine == cp.line) && decide (zs.length < 9) && chkE G N o sc v && chkE G N x sc z && chkL G N xs sc zs | _ => false
  | _, _, _ => false
def chkL (G : GT) (N : List Str) : List Ex → Scope → List Expr → Bool
  | [], _, es => match es with | [] => true | _ => false
  | x :: xs, sc, es => match es with | e :: es => chkE G N x sc e && chkL G N xs sc es | [] => false
def chkTL (G : GT) (N : List Str) : List Ex → Scope → List Expr → Bool
  | [], _, es => match es with | [] => true | _ => false
  | x :: xs, sc, es => match es with | e :: es => chkT G N x sc e && chkTL G N xs sc es | [] => false
def chkO (G : GT) (N : List Str) : List Ex → Scope → Option Expr → Bool
  | [], _, e => match e with | none => true | some _ => false
  | x :: xs, sc, e => match e with | some e => chkE G N x sc e && xs.isEmpty | none => false
def chkC (G : GT) (N : List Str) : List Ex → Scope → List Expr → Bool
  | [], _, es => match es with | [] => true | _ => false
  | x :: xs, sc, es => match es with | [e] => chkT G N x sc e && xs.isEmpty | _ => false
def chkP (G : GT) (N : List Str) : List Ex → Scope → List (Option Expr) → List Expr → Bool
  | [], _, ks, vs => match ks, vs with | [], [] => true | _, _ => false
  | [_], _, _, _ => false
  | k :: v :: r, sc, ks, vs => match ks, vs with | some a :: ks, b :: vs => chkE G N k sc a && chkE G N v sc b && chkP G N r sc ks vs | _, _ => false
end
end Z

namespace Z
open PySem PySem.Spec PyProof.Rows L2

structure Good (G : GT) (N : List Str) (so sc : Scope) (X : Cx) (XR : XRel) (M0 : MH) (H0 : Hp) (E3 : X3) (k : Nat) : Prop where
  hN : X.N = N
  hsc : X.env.scope = sc
  calm : X.calm = true
  nd : N.Nodup
  nm : ∀ x ∈ N, (x == ("__debug__" : Str)) = false ∧ (x == ("__classdict__" : Str)) = false
  room : Room k X.A
  cel : ∀ x, so.names.lookup x = some .cell → X.fn x = true
  own : ∀ x kk, kk ≠ NameKind.free → so.names.lookup x = some kk → sc.names.lookup x = some kk
  fns : ∀ x n sp, (x, n, sp) ∈ G.fns → Cal X.prog X.w X.K X.mg X.base XR k x n sp
  cst : ∀ x d, (x, d) ∈ G.cst → ∃ v u, X.mg x = some u ∧ RelV v u ∧ ∀ M H, Rp X.K M H d v
  blt : ∀ x ∈ G.bn, X.mg x = none
  out : Out X XR M0 H0 E3
  err : G.er = true → HasErr X
  xr : G.er = true → XR = XRof X.K
section
variable {G : GT} {N : List Str} {so sc : Scope} {X : Cx} {XR : XRel} {M0 : MH} {H0 : Hp} {E3 : X3} {k : Nat}
theorem Good.hu (g : Good G N so sc X XR M0 H0 E3 k) : X.A.units + 100 < cLine := by have := g.room.un; omega
theorem Good.blk (g : Good G N so sc X XR M0 H0 E3 k) {s : Shared} {H : Hp} {scope : Scope} {C : Addr} {cl : List (Str × Addr)} {fp : List Addr} : Good G N scope (relS scope sc) (X.blk s H scope (compEnvC scope cl C X.env) fp) XR M0 H0 noX k :=
  ⟨g.hN, by rw [← g.hsc]; rfl, g.calm, g.nd, g.nm, g.room, fun x h => by show (scope.names.lookup x == some .cell) = true; rw [h]; rfl, fun x kk hk h => lookup_relS_keep hk h, g.fns, g.cst, g.blt, Out.no, g.err, g.xr⟩
theorem vis_of {x : Str} (g : Good G N so sc X XR M0 H0 E3 k) (h : isVis sc x = true) : Vis X.env.scope x := by
  rw [g.hsc]
  unfold isVis at h
  split at h
  · rename_i e; exact .inl e
  · rename_i e; exact .inr (.inl e)
  · rename_i e; exact .inr (.inr e)
  · cases h
theorem loc_of {x : Str} (g : Good G N so sc X XR M0 H0 E3 k) (h : isLoc so x = true) : Loc X.env.scope x ∧ (X.fn x = true ∨ X.env.scope.names.lookup x = some .local) := by
  rw [g.hsc]
  unfold isLoc at h
  split at h
  · rename_i e
    have e' := g.own x .local (by decide) e
    exact ⟨.inl e', .inr e'⟩
  · rename_i e
    exact ⟨.inr (g.own x .cell (by decide) e), .inl (g.cel x e)⟩
  · cases h
theorem gl_of {x : Str} (g : Good G N so sc X XR M0 H0 E3 k) (h : isGl sc x = true) : Gl X x := by
  show X.env.scope.names.lookup x = some .globalImplicit
  rw [g.hsc]
  unfold isGl at h
  split at h
  · rename_i e; exact e
  · cases h
/-! ### heads -/
theorem star_of {e : Expr} (h : plain e = true) (es : List Expr) (env : Env) : starEach (e :: es) env = (false, eval e env) :: starEach es env := by
  cases e <;> first | rfl | (exact absurd h Bool.false_ne_true)
theorem plainIx_of {e : Expr} (h : plain e = true) : PlainIx e := by
  intro o i
  cases e <;> first | rfl | (exact absurd h Bool.false_ne_true)
theorem mark_of {op : CmpOp} {e : Expr} (h : plain e = true) : behindInMarks op e = false := by
  cases e <;> first | rfl | (exact absurd h Bool.false_ne_true)
theorem fold_of {e : Expr} (h : plain e = true) (env : Env) (x : Value) : foldedSetIterable e env x = pure x := by
  cases e <;> first | rfl | (exact absurd h Bool.false_ne_true)
theorem any_of : ∀ {es : List Expr} {pos : Pos} {env : Env}, (∀ e ∈ es, plain e = true) → (backTo pos (starEach es env)).any (·.1) = false
  | [], _, _, _ => rfl
  | e :: es, pos, env, h => by
    rw [star_of (h e (by simp))]
    show (false || (backTo pos (starEach es env)).any (·.1)) = false
    rw [Bool.false_or]
    exact any_of fun e' he => h e' (by simp [he])
theorem all_of : ∀ {es : List Expr} {pos : Pos} {env : Env}, (∀ e ∈ es, plain e = true) → (backTo pos (starEach es env)).all (fun x => !x.1) = true
  | [], _, _, _ => rfl
  | e :: es, pos, env, h => by
    rw [star_of (h e (by simp))]
    show (true && (backTo pos (starEach es env)).all (fun x => !x.1)) = true
    rw [Bool.true_and]
    exact all_of fun e' he => h e' (by simp [he])
/-- an expression that is looked at is plain -/
theorem plain_of : ∀ {ex : Ex} {sc : Scope} {e : Expr}, chkE G N ex sc e = true → plain e = true := fun {ex sc e} h => by
  cases ex <;> cases e <;> first | rfl | (exact absurd h Bool.false_ne_true)
theorem plainL_of : ∀ {xs : List Ex} {sc : Scope} {es : List Expr}, chkL G N xs sc es = true → ∀ e ∈ es, plain e = true
  | [], sc, [], _ => fun e he => by simp at he
  | [], sc, _ :: _, h => absurd h Bool.false_ne_true
  | x :: xs, sc, [], h => absurd h Bool.false_ne_true
  | x :: xs, sc, e :: es, h => by
    have h : (chkE G N x sc e && chkL G N xs sc es) = true := h
    rw [Bool.and_eq_true] at h
    intro e' he
    rcases List.mem_cons.mp he with rfl | he
    · exact plain_of h.1
    · exact plainL_of h.2 e' he
theorem base_of {ex : Ex} {o : Expr} {nm : Str} {env : Env} (h : chkE G N ex sc o = true) : attributeBase o nm env (eval o env) = eval o env := by
  cases o with
  | Call f as ks pos =>
    cases as with
    | nil =>
      cases ex <;> first | (exact absurd h Bool.false_ne_true) | skip
      all_goals (cases f <;> first | rfl | (exact absurd h Bool.false_ne_true))
    | cons a as =>
      cases f <;> rfl
  | _ => rfl
/-! ### built-ins -/
theorem bt_b (hc : X.calm = true) (hu : X.A.units + 100 < cLine) : ∀ b : Bt, b.isTy = false → CallR X (.builtin b.name) (LOL X.K b.ol)
  | .len, _ => zc_len
  | .abs, _ => zc_abs
  | .min2, _ => zc_min2 hc
  | .max2, _ => zc_max2 hc
  | .minL, _ => zc_minL hc
  | .maxL, _ => zc_maxL hc
  | .sum, _ => zc_sum hc
  | .all, _ => zc_all hc
  | .any, _ => zc_any hc
  | .srt, _ => zc_srt hu
theorem bt_t (hc : X.calm = true) : ∀ b : Bt, b.isTy = true → CallR X (.type b.name) (LOL X.K b.ol)
  | .int, _ => zc_int
  | .tupT, _ => zc_tup .t
  | .tupK, _ => zc_tup .k
  | .lstF, _ => zc_lst hc false
  | .lstM, _ => zc_lst hc true
  | .strI, _ => zc_strI
theorem boot_b : ∀ b : Bt, b.isTy = false → bootBuiltins (Str.ofString b.name) = some (.builtin b.name) := by
  intro b h
  cases b <;> first | (exact absurd h (by decide)) | decide +kernel
theorem boot_t : ∀ b : Bt, b.isTy = true → bootBuiltins (Str.ofString b.name) = some (.type b.name) := by
  intro b h
  cases b <;> first | (exact absurd h (by decide)) | decide +kernel
theorem nm_b : ∀ b : Bt, Str.ofString b.name ≠ "__name__" ∧ (Str.ofString b.name == ("__debug__" : Str)) = false := by
  intro b
  cases b <;> decide +kernel
theorem boot_ty : ∀ T : Ty, bootBuiltins (Str.ofString T.name) = some (.type T.name) ∧ Str.ofString T.name ≠ "__name__" ∧ (Str.ofString T.name == ("__debug__" : Str)) = false := by
  intro T
  cases T <;> decide +kernel
/-! ### methods -/
theorem mt_pa : ∀ m : Mt, PlainAttrs m.ty
  | .append | .extend | .index => PySem.F.plainAttrs_list
  | .get | .setdefault => PySem.F.plainAttrs_dict
  | .indexT => PySem.F.plainAttrs_tuple
  | .join | .split | .startswith => PySem.F.plainAttrs_str
theorem mt_slot : ∀ m : Mt, Slot m.ty (Str.ofString m.name) m.id
  | .append => PySem.F.slot_list_append
  | .extend => PySem.F.slot_list_extend
  | .index => PySem.F.slot_list_index
  | .get => PySem.F.slot_dict_get
  | .setdefault => PySem.F.slot_dict_setdefault
  | .indexT => PySem.F.slot_tuple_index
  | .join => PySem.F.slot_str_join
  | .split => PySem.F.slot_str_split
  | .startswith => PySem.F.slot_str_startswith
theorem mt_ty : ∀ m : Mt, typeOf (.builtin m.id) = pure (.type "method_descriptor")
  | .append => PySem.F.type_list_append
  | .extend => PySem.F.type_list_extend
  | .index => PySem.F.type_list_index
  | .get => PySem.F.type_dict_get
  | .setdefault => PySem.F.type_dict_setdefault
  | .indexT => PySem.F.type_tuple_index
  | .join => PySem.F.type_str_join
  | .split => PySem.F.type_str_split
  | .startswith => PySem.F.type_str_startswith
theorem co_ok (hu : X.A.units + 100 < cLine) : ∀ o : COp, OpR X (compareOp o.op) (LO2 X.K o.o2)
  | .eq => zo_eq (by omega)
  | .ne => zo_ne (by omega)
  | .lt => zo_lt (by omega)
  | .le => zo_le (by omega)
  | .gt => zo_gt (by omega)
  | .ge => zo_ge (by omega)
  | .isin => zo_in (by omega)
  | .notin => zo_nin (by omega)
  | .is => zo_isN
  | .isnot => zo_notN
theorem bo_ok : ∀ o : BOp, OpR X (binaryOp o.op) (LO2 X.K o.o2)
  | .add => zo_add
  | .sub => zo_sub
  | .mul => zo_mul
  | .fdv => zo_fdv
  | .mod => zo_mod
  | .pow => zo_pow
/-! ### targets -/
theorem names_ok (g : Good G N so sc X XR M0 H0 E3 k) : ∀ {is : List Nat} {es : List Expr}, chkNs N so is es = true → PGs X es (gNames is) ∧ (assignEach es X.env).length = is.length ∧ (assignEach es X.env).findIdx? (·.1) = none
  | [], [], _ => ⟨pgs_nil, rfl, rfl⟩
  | [], _ :: _, h => absurd h Bool.false_ne_true
  | _ :: _, [], h => absurd h Bool.false_ne_true
  | i :: is, e :: es, h => by
    simp only [chkNs, Bool.and_eq_true] at h
    obtain ⟨h1, h2⟩ := h
    obtain ⟨g1, g2, g3⟩ := names_ok g h2
    cases e with
    | Name x pos =>
      simp only [Bool.and_eq_true, decide_eq_true_eq] at h1
      obtain ⟨l1, l2⟩ := loc_of g h1.2
      refine ⟨pgs_cons (pg_name (by rw [g.hN]; exact g.nd) (by rw [g.hN]; exact h1.1) l1 l2) g1 rfl, ?_, ?_⟩
      · show (assignEach es X.env).length + 1 = is.length + 1
        rw [g2]
      · show List.findIdx? (·.1) ((false, assign (.Name x pos) X.env) :: assignEach es X.env) = none
        rw [List.findIdx?_cons, g3]; rfl
    | _ => exact absurd h1 Bool.false_ne_true
theorem tg_ok (g : Good G N so sc X XR M0 H0 E3 k) {tg : Tg} {e : Expr} (h : chkTg N so tg e = true) : PG X e (gOf X.K tg) := by
  cases tg with
  | nm i =>
    cases e with
    | Name x pos =>
      have h : (decide (N[i]? = some x) && isLoc so x) = true := h
      rw [Bool.and_eq_true, decide_eq_true_eq] at h
      obtain ⟨l1, l2⟩ := loc_of g h.2
      exact pg_name (by rw [g.hN]; exact g.nd) (by rw [g.hN]; exact h.1) l1 l2
    | _ => exact absurd h Bool.false_ne_true
  | tp is =>
    cases e with
    | Tuple es kk pos =>
      obtain ⟨g1, g2, g3⟩ := names_ok g (show chkNs N so is es = true from h)
      exact pg_tup g.calm g1 g2 g3
    | _ => exact absurd h Bool.false_ne_true
theorem z_lc' (g : Good G N so sc X XR M0 H0 E3 k) {m : Bool} {elt tgE iter : Expr} {ifs : List Expr} {scope : Scope} {own : List (Str × Nat)} {it : TL3} {tg : Tg} {tt : TB3} {te : T3} {pos : Pos} (hi : PI X tgE iter (LI X.K M0 H0 it)) (hb : blkC N sc scope own = true) (hsub : (tg.slots.all fun i => decide (i ∈ own.map (·.2))) = true) (htg : chkTg N scope tg tgE = true)
    (ht : ∀ {X' : Cx}, X'.K = X.K → Good G N scope (relS scope sc) X' XR M0 H0 noX k → PTs X' ifs (LT X.K M0 H0 tt)) (he : ∀ {X' : Cx}, X'.K = X.K → Good G N scope (relS scope sc) X' XR M0 H0 noX k → PE X' elt (LE X.K M0 H0 te)) (hp : plain iter = true) :
    PE X (.ListComp elt [⟨tgE, iter, ifs, 0⟩] scope pos) (LE X.K M0 H0 (comp3 m it tg tt te (own.map (·.2)))) :=
  z_lc g.calm (by rw [g.hN]; exact g.nd) hi (blkOk_by (by rw [g.hN, g.hsc]; exact hb)) (fun i hi => by
    rw [List.all_eq_true] at hsub
    exact of_decide_eq_true (hsub i hi)) (fun s H C cl fp => tg_ok g.blk htg) (fun s H C cl fp => ht rfl g.blk) (fun s H C cl fp => he rfl g.blk) (fold_of hp _)
end
end Z

namespace Z
open PySem PySem.Spec PyProof.Rows L2

theorem b2 {a b : Bool} (h : (a && b) = true) : a = true ∧ b = true := by rwa [Bool.and_eq_true] at h
theorem b3 {a b c : Bool} (h : (a && b && c) = true) : a = true ∧ b = true ∧ c = true := by
  obtain ⟨h, h3⟩ := b2 h
  obtain ⟨h1, h2⟩ := b2 h
  exact ⟨h1, h2, h3⟩
theorem b5 {a b c d e : Bool} (h : (a && b && c && d && e) = true) : a = true ∧ b = true ∧ c = true ∧ d = true ∧ e = true := by
  obtain ⟨h, h5⟩ := b2 h
  obtain ⟨h, h4⟩ := b2 h
  obtain ⟨h1, h2, h3⟩ := b3 h
  exact ⟨h1, h2, h3, h4, h5⟩
theorem b6 {a b c d e f : Bool} (h : (a && b && c && d && e && f) = true) : a = true ∧ b = true ∧ c = true ∧ d = true ∧ e = true ∧ f = true := by
  obtain ⟨h, h6⟩ := b2 h
  obtain ⟨h1, h2, h3, h4, h5⟩ := b5 h
  exact ⟨h1, h2, h3, h4, h5, h6⟩
theorem b7 {a b c d e f g : Bool} (h : (a && b && c && d && e && f && g) = true) : a = true ∧ b = true ∧ c = true ∧ d = true ∧ e = true ∧ f = true ∧ g = true := by
  obtain ⟨h, h7⟩ := b2 h
  obtain ⟨h1, h2, h3, h4, h5, h6⟩ := b6 h
  exact ⟨h1, h2, h3, h4, h5, h6, h7⟩
section
variable {G : GT} {N : List Str} {XR : XRel} {M0 : MH} {H0 : Hp} {k : Nat}
theorem z_loc' {so sc : Scope} {X : Cx} {E3 : X3} (g : Good G N so sc X XR M0 H0 E3 k) {i : Nat} {x : Str} {pos : Pos} (h : (decide (N[i]? = some x) && isVis sc x) = true) : PE X (.Name x pos) (LE X.K M0 H0 (loc3 i)) := by
  obtain ⟨h1, h2⟩ := b2 h
  have h1 := of_decide_eq_true h1
  obtain ⟨n1, n2⟩ := g.nm x (List.mem_of_getElem? h1)
  exact z_loc (pe_var (by rw [g.hN]; exact h1) (vis_of g h2) n1 n2)
theorem z_call' {so sc : Scope} {X : Cx} {E3 : X3} (g : Good G N so sc X XR M0 H0 E3 k) {j : Nat} {f : Str} {e : Expr} {es : List Expr} {te : T3} {tl : TL3} {p pos : Pos} (hj : nmF G j f = true) (hg : isGl sc f = true) (hd : (!(f == ("__debug__" : Str))) = true) (he : PE X e (LE X.K M0 H0 te)) (hes : PA X es (LA X.K M0 H0 tl)) (pe : plain e = true) (ps : ∀ e ∈ es, plain e = true) :
    PE X (.Call (.Name f p) (e :: es) [] pos) (LE X.K M0 H0 (callG G j E3 (cons3 te tl))) := by
  unfold nmF at hj
  unfold callG
  split at hj
  · rename_i x r q
    obtain ⟨n, sp⟩ := r
    have hj := of_decide_eq_true hj
    subst hj
    rw [q]
    exact z_call (g.fns x n sp (nth_mem q)) g.room g.out (gl_of g hg) (z_cons he hes (star_of pe _ _)) (by simpa using hd) (star_of pe _ _) (any_of ps)
  · cases hj
theorem z_blt' {so sc : Scope} {X : Cx} {E3 : X3} (g : Good G N so sc X XR M0 H0 E3 k) {b : Bt} {e : Expr} {es : List Expr} {te : T3} {tl : TL3} {p pos : Pos} (hg : isGl sc (Str.ofString b.name) = true) (hm : decide (Str.ofString b.name ∈ G.bn) = true) (he : PE X e (LE X.K M0 H0 te)) (hes : PA X es (LA X.K M0 H0 tl)) (pe : plain e = true) (ps : ∀ e ∈ es, plain e = true) :
    PE X (.Call (.Name (Str.ofString b.name) p) (e :: es) [] pos) (LE X.K M0 H0 (opL b.ol (cons3 te tl))) := by
  have hm := g.blt _ (of_decide_eq_true hm)
  obtain ⟨n1, n2⟩ := nm_b b
  cases t : b.isTy with
  | true => exact z_callTy (bt_t g.calm b t) (gl_of g hg) hm (boot_t b t) (z_cons he hes (star_of pe _ _)) n1 n2 (star_of pe _ _) (any_of ps)
  | false => exact z_callB (bt_b g.calm g.hu b t) (gl_of g hg) hm (boot_b b t) (z_cons he hes (star_of pe _ _)) n1 n2 (star_of pe _ _) (any_of ps)
theorem z_isi' {so sc : Scope} {X : Cx} {E3 : X3} (g : Good G N so sc X XR M0 H0 E3 k) {T : Ty} {e : Expr} {te : T3} {p p2 pos : Pos} (h1 : isGl sc ("isinstance" : Str) = true) (h2 : decide (("isinstance" : Str) ∈ G.bn) = true) (h3 : isGl sc (Str.ofString T.name) = true) (h4 : decide (Str.ofString T.name ∈ G.bn) = true) (he : PE X e (LE X.K M0 H0 te)) (pe : plain e = true) :
    PE X (.Call (.Name "isinstance" p) [e, .Name (Str.ofString T.name) p2] [] pos) (LE X.K M0 H0 (op1 (isi3 T) te)) := by
  obtain ⟨b1, b2, b3⟩ := boot_ty T
  exact z_isi rfl (gl_of g h1) (g.blt _ (of_decide_eq_true h2)) (gl_of g h3) (g.blt _ (of_decide_eq_true h4)) b1 b2 b3 he (by rw [star_of pe]; rfl) rfl
theorem z_mth' {so sc : Scope} {X : Cx} {E3 : X3} (g : Good G N so sc X XR M0 H0 E3 k) {m : Mt} {o e : Expr} {es : List Expr} {to te : T3} {tl : TL3} {apos cpos : Pos} (hb : ∀ nm env, attributeBase o nm env (eval o env) = eval o env) (hl : (apos.endLine == cpos.line) = true) (h9 : decide (es.length < 9) = true)
    (ho : PE X o (LE X.K M0 H0 to)) (he : PE X e (LE X.K M0 H0 te)) (hes : PA X es (LA X.K M0 H0 tl)) (pe : plain e = true) (ps : ∀ e ∈ es, plain e = true) : PE X (.Call (.Attribute o (Str.ofString m.name) apos) (e :: es) [] cpos) (LE X.K M0 H0 (mth3 m to (cons3 te tl))) := by
  refine z_mth rfl (mt_pa m) (mt_slot m) (mt_ty m) (zm_all g.hu m) ho (z_cons he hes (star_of pe _ _)) (hb _ _) ?_ hl (star_of pe _ _) (any_of ps)
  have h9 := of_decide_eq_true h9
  have a := all_of (pos := cpos) (env := X.env) (es := e :: es) (fun e' h => by rcases List.mem_cons.mp h with rfl | h; exact pe; exact ps _ h)
  rw [a]
  show (true && true && decide ((e :: es).length + 0 + 0 < 30)) = true
  rw [decide_eq_true (by rw [List.length_cons]; omega)]; rfl
/-- a walked thing -/
theorem z_it {so sc : Scope} {X : Cx} {E3 : X3} (g : Good G N so sc X XR M0 H0 E3 k) {ik : IK} {e t : Expr} {tl : TL3} {cl : List Expr → Bool} (h : chkI G ik sc e t cl = true) (hl : ∀ es, cl es = true → PA X es (LA X.K M0 H0 tl) ∧ ∀ e ∈ es, plain e = true) (h1 : ∀ e, cl [e] = true → ∃ te, tl = cons3 te nil3 ∧ PE X e (LE X.K M0 H0 te)) :
    PI X t e (LI X.K M0 H0 (wi ik tl)) ∧ plain e = true := by
  cases ik with
  | seq =>
    obtain ⟨te, rfl, he⟩ := h1 e h
    refine ⟨?_, (hl [e] h).2 e (by simp)⟩
    exact z_iter (tg := t) rfl he
  | rng1 =>
    dsimp only [chkI] at h
    split at h
    · rename_i y py a pos
      obtain ⟨h, h4⟩ := b2 h
      obtain ⟨h1, h2, h3⟩ := b3 h
      obtain ⟨hp, hq⟩ := hl _ h4
      have h1 := of_decide_eq_true h1
      subst h1
      exact ⟨z_irng1 (gl_of g h2) (g.blt _ (of_decide_eq_true h3)) hp (by rw [star_of (hq a (by simp))]; rfl), rfl⟩
    · cases h
  | rng2 =>
    dsimp only [chkI] at h
    split at h
    · rename_i y py a b pos
      obtain ⟨h, h4⟩ := b2 h
      obtain ⟨h1, h2, h3⟩ := b3 h
      obtain ⟨hp, hq⟩ := hl _ h4
      have h1 := of_decide_eq_true h1
      subst h1
      exact ⟨z_irng2 (gl_of g h2) (g.blt _ (of_decide_eq_true h3)) hp (by rw [star_of (hq a (by simp)), star_of (hq b (by simp))]; rfl) (by rw [star_of (hq b (by simp))]; rfl), rfl⟩
    · cases h
  | enm =>
    dsimp only [chkI] at h
    split at h
    · rename_i y py a pos el kk tp
      obtain ⟨h, h4⟩ := b2 h
      obtain ⟨h1, h2, h3⟩ := b3 h
      obtain ⟨hp, hq⟩ := hl _ h4
      have h1 := of_decide_eq_true h1
      subst h1
      exact ⟨z_ienum rfl (gl_of g h2) (g.blt _ (of_decide_eq_true h3)) hp (by rw [star_of (hq a (by simp))]; rfl), rfl⟩
    · cases h
theorem wpl_one {x : Ex} {E3 : X3} : wpl G [x] E3 = cons3 (wpe G x E3) nil3 := rfl
theorem chkL_one {xs : List Ex} {sc : Scope} {e : Expr} (h : chkL G N xs sc [e] = true) : ∃ x, xs = [x] ∧ chkE G N x sc e = true := by
  cases xs with
  | nil => exact absurd h Bool.false_ne_true
  | cons x r =>
    obtain ⟨h1, h2⟩ := b2 (show (chkE G N x sc e && chkL G N r sc []) = true from h)
    cases r with
    | nil => exact ⟨x, rfl, h1⟩
    | cons y r => exact absurd h2 Bool.false_ne_true
theorem z_fmt {K : PySem.W.Frag} {X : Cx} {M0 : MH} {H0 : Hp} {e : Expr} {te : T3} {pos : Pos} (he : PE X e (LE K M0 H0 te)) : PE X (.FormattedValue e (-1) none pos) (LE K M0 H0 (op1 fmt3 te)) := (pe_fmt he).imp fun σ H Q ⟨en, M, P, rs, rm, ev, t, c⟩ =>
  LE.then rs rm ev t fun d M1 v1 H1 t1 r1 rs1 rm1 ev1 e1 => by
    cases d with
    | str y =>
      have r1 := rp_str r1
      subst r1
      exact .inl ⟨y, rfl, t1.1, c (.str y) M1 _ H1 t1.2 rfl rm1 e1⟩
    | int i =>
      have r1 := rp_int r1
      subst r1
      exact .inr ⟨i, rfl, t1.1, c (.str (toString i)) M1 _ H1 t1.2 rfl rm1 e1⟩
    | _ => exact t1.elim
theorem ljs {K : PySem.W.Frag} {M0 : MH} {H0 : Hp} : ∀ (ts : List T3) (acc : Str) (σ : L2.St) (H : Hp) (Q : Str → Hp → Prop), (∃ e M P, RS K M H e σ ∧ RM K M H ∧ Ev M0 H0 M H ∧ jsW ts acc e M P ∧ ∀ out M' H', P out M' → RM K M' H' → Ev M H M' H' → Q out H') → tJs (ts.map (LE K M0 H0)) acc σ H Q
  | [], acc, σ, H, Q, ⟨e, M, P, rs, rm, ev, t, c⟩ => c acc M H t rm (Ev.refl _ _)
  | t :: ts, acc, σ, H, Q, ⟨e, M, P, rs, rm, ev, tt, c⟩ => LE.then rs rm ev tt fun d M1 v1 H1 t1 r1 rs1 rm1 ev1 e1 => by
    cases d with
    | str y =>
      have r1 := rp_str r1
      subst r1
      exact ⟨y, rfl, t1.1, ljs ts (acc ++ y) σ H1 Q ⟨e, M1, P, rs1, rm1, ev1, t1.2, fun out M' H' p m ev' => c out M' H' p m (e1.trans ev')⟩⟩
    | _ => exact t1.elim
theorem z_js {K : PySem.W.Frag} {X : Cx} {M0 : MH} {H0 : Hp} {e1 e2 : Expr} {es : List Expr} {ts : List T3} {pos : Pos} (h : PJ X (e1 :: e2 :: es) (ts.map (LE K M0 H0))) : PE X (.JoinedStr (e1 :: e2 :: es) pos) (LE K M0 H0 (js3 ts)) := (pe_joined h).imp fun σ H Q ⟨en, M, P, rs, rm, ev, t, c⟩ =>
  ljs ts Str.empty σ H _ ⟨en, M, _, rs, rm, ev, t, fun out M' H' p m ev' => c (.str out) M' (.str out) H' p rfl m ev'⟩
mutual
theorem sE : ∀ (ex : Ex) {so sc : Scope} {X : Cx} {E3 : X3} {e : Expr}, Good G N so sc X XR M0 H0 E3 k → chkE G N ex sc e = true → PE X e (LE X.K M0 H0 (wpe G ex E3))
  | .loc i, so, sc, X, E3, e, g, h => by
    dsimp only [chkE] at h
    split at h
    · exact z_loc' g h
    · cases h
  | .non, so, sc, X, E3, e, g, h => by
    dsimp only [chkE] at h
    split at h
    · exact z_con pe_non fun _ _ => rfl
    · cases h
  | .bl b, so, sc, X, E3, e, g, h => by
    dsimp only [chkE] at h
    split at h
    · have h := eq_of_beq h
      subst h
      exact z_con pe_bl fun _ _ => rfl
    · cases h
  | .int i, so, sc, X, E3, e, g, h => by
    dsimp only [chkE] at h
    split at h
    · have h := of_decide_eq_true h
      subst h
      exact z_con pe_int fun _ _ => rfl
    · cases h
  | .str x, so, sc, X, E3, e, g, h => by
    dsimp only [chkE] at h
    split at h
    · have h := of_decide_eq_true h
      subst h
      exact z_con pe_str fun _ _ => rfl
    · cases h
  | .glo j, so, sc, X, E3, e, g, h => by
    dsimp only [chkE] at h
    split at h
    · rename_i y pos
      obtain ⟨h1, h2, h3⟩ := b3 h
      unfold nmC at h1
      split at h1
      · rename_i x d q
        have h1 := of_decide_eq_true h1
        subst h1
        obtain ⟨v, u, g1, g2, g3⟩ := g.cst x d (nth_mem q)
        have : wpe G (.glo j) E3 = con3 d := by
          show cstG G j = _
          unfold cstG
          rw [q]
        rw [this]
        exact z_con (pe_glob (gl_of g h2) g1 g2 (by simpa using h3)) g3
      · cases h1
    · cases h
  | .bin o a b, so, sc, X, E3, e, g, h => by
    dsimp only [chkE] at h
    split at h
    · obtain ⟨h1, h2, h3⟩ := b3 h
      rw [beqOp_ok h1]
      exact z_op (bo_ok o) (sE a g h2) (sE b g h3)
    · cases h
  | .addM a b, so, sc, X, E3, e, g, h => by
    dsimp only [chkE] at h
    split at h
    · obtain ⟨h1, h2, h3⟩ := b3 h
      rw [beqOp_ok h1]
      exact z_op zo_addM (sE a g h2) (sE b g h3)
    · cases h
  | .srt2 a, so, sc, X, E3, e, g, h => by
    dsimp only [chkE] at h
    split at h
    · obtain ⟨h1, h2, h3, h4, h5, h6, h7⟩ := b7 h
      have h1 := of_decide_eq_true h1
      have h4 := of_decide_eq_true h4
      subst h1 h4
      exact z_srt2 rfl g.calm g.hu (gl_of g h2) (g.blt _ (of_decide_eq_true h3)) (gl_of g h5) (g.blt _ (of_decide_eq_true h6)) (sE a g h7) (by rw [star_of (plain_of h7)])
    · cases h
  | .neg a, so, sc, X, E3, e, g, h => by
    dsimp only [chkE] at h
    split at h
    · exact z_un zo_neg (sE a g h)
    · cases h
  | .cmp o a b, so, sc, X, E3, e, g, h => by
    dsimp only [chkE] at h
    split at h
    · obtain ⟨h1, h2, h3⟩ := b3 h
      rw [beqCm_ok h1]
      exact z_cmp (co_ok g.hu o) (sE a g h2) (sE b g h3) (mark_of (plain_of h3))
    · cases h
  | .chn o o' a b c, so, sc, X, E3, e, g, h => by
    dsimp only [chkE] at h
    split at h
    · obtain ⟨h1, h2, h3, h4, h5⟩ := b5 h
      rw [beqCm_ok h1, beqCm_ok h2]
      exact z_chain (co_ok g.hu o) (co_ok g.hu o') (sE a g h3) (sE b g h4) (sE c g h5) (by
        show behindInMarks o'.op _ = false
        exact mark_of (plain_of h5))
    · cases h
  | .bol kk es, so, sc, X, E3, e, g, h => by
    dsimp only [chkE] at h
    split at h
    · rename_i op vs pos
      obtain ⟨h1, h2⟩ := b2 h
      cases op with
      | And =>
        have h1 : kk = true := h1
        subst h1
        exact sVa es g h2
      | Or =>
        have h1 : kk = false := by simpa using h1
        subst h1
        exact sVo es g h2
    · cases h
  | .nt a, so, sc, X, E3, e, g, h => by
    dsimp only [chkE] at h
    split at h
    · exact z_vnot (sE a g h)
    · cases h
  | .ite c a b, so, sc, X, E3, e, g, h => by
    dsimp only [chkE] at h
    split at h
    · obtain ⟨h1, h2, h3⟩ := b3 h
      exact z_ite (sT c g h1) (sE a g h2) (sE b g h3)
    · cases h
  | .tup es, so, sc, X, E3, e, g, h => by
    dsimp only [chkE] at h
    split at h
    · exact z_tup (sL es g h)
    · cases h
  | .lst m es, so, sc, X, E3, e, g, h => by
    dsimp only [chkE] at h
    split at h
    · cases m with
      | true => exact z_lstM (sL es g h)
      | false => exact z_lst (sL es g h)
    · cases h
  | .idx a b, so, sc, X, E3, e, g, h => by
    dsimp only [chkE] at h
    split at h
    · obtain ⟨h1, h2⟩ := b2 h
      exact z_ix (zi_ix (by have := g.hu; omega)) (sE a g h1) (sE b g h2) (plainIx_of (plain_of h2))
    · cases h
  | .sli a lo hi, so, sc, X, E3, e, g, h => by
    dsimp only [chkE] at h
    split at h
    · obtain ⟨h1, h2, h3⟩ := b3 h
      exact z_sl rfl (sE a g h1) (sO lo g h2) (sO hi g h3)
    · cases h
  | .rev a, so, sc, X, E3, e, g, h => by
    dsimp only [chkE] at h
    split at h
    · exact z_rev rfl (sE a g h)
    · cases h
  | .call j x xs, so, sc, X, E3, e, g, h => by
    dsimp only [chkE] at h
    split at h
    · obtain ⟨h1, h2, h3, h4, h5⟩ := b5 h
      exact z_call' g h1 h2 h3 (sE x g h4) (sL xs g h5) (plain_of h4) (plainL_of h5)
    · cases h
  | .blt b x xs, so, sc, X, E3, e, g, h => by
    dsimp only [chkE] at h
    split at h
    · obtain ⟨h1, h2, h3, h4, h5⟩ := b5 h
      have h1 := of_decide_eq_true h1
      subst h1
      exact z_blt' g h2 h3 (sE x g h4) (sL xs g h5) (plain_of h4) (plainL_of h5)
    · cases h
  | .isi T x, so, sc, X, E3, e, g, h => by
    dsimp only [chkE] at h
    split at h
    · obtain ⟨h1, h2, h3, h4, h5, h6, h7⟩ := b7 h
      have h1 := of_decide_eq_true h1
      have h4 := of_decide_eq_true h4
      subst h1 h4
      exact z_isi' g h2 h3 h5 h6 (sE x g h7) (plain_of h7)
    · cases h
  | .mth m o x xs, so, sc, X, E3, e, g, h => by
    dsimp only [chkE] at h
    split at h
    · obtain ⟨h1, h2, h3, h4, h5, h6⟩ := b6 h
      have h1 := of_decide_eq_true h1
      subst h1
      exact z_mth' g (fun _ _ => base_of h4) h2 h3 (sE o g h4) (sE x g h5) (sL xs g h6) (plain_of h5) (plainL_of h6)
    · cases h
  | .comp m elt tg ik its ifs own, so, sc, X, E3, e, g, h => by
    dsimp only [chkE] at h
    split at h
    · obtain ⟨h1, h2, h3, h4, h5, h6, h7⟩ := b7 h
      have h1 := of_decide_eq_true h1
      subst h1
      obtain ⟨p1, p2⟩ := z_it (tl := wpl G its E3) g h4 (fun es he => ⟨sL its g he, plainL_of he⟩) (fun e he => sL1 its g he)
      exact z_lc' g p1 h2 h3 h5 (fun hk g' => by rw [← hk]; exact sC ifs g' h6) (fun hk g' => by rw [← hk]; exact sE elt g' h7) p2
    · cases h
  | .newK m, so, sc, X, E3, e, g, h => by
    dsimp only [chkE] at h
    split at h
    · exact z_newK
    · cases h
  | .newT, so, sc, X, E3, e, g, h => by
    dsimp only [chkE] at h
    split at h
    · exact z_newT
    · cases h
  | .dis m kvs, so, sc, X, E3, e, g, h => by
    dsimp only [chkE] at h
    split at h
    · obtain ⟨h1, h2, h3⟩ := b3 h
      obtain ⟨p1, p2, p3⟩ := sP kvs g h1
      exact z_disp (p1 _) p2 p3 (of_decide_eq_true h2) (of_decide_eq_true h3)
    · cases h
  | .fmt x, so, sc, X, E3, e, g, h => by
    dsimp only [chkE] at h
    split at h
    · obtain ⟨h1, h2⟩ := b2 h
      have h1 := of_decide_eq_true h1
      subst h1
      exact z_fmt (sE x g h2)
    · cases h
  | .js x y xs, so, sc, X, E3, e, g, h => by
    dsimp only [chkE] at h
    split at h
    · obtain ⟨h1, h2, h3⟩ := b3 h
      exact z_js (ts := wpe G x E3 :: wpe G y E3 :: wpj G xs E3) (PJ.cons (sE x g h1) (PJ.cons (sE y g h2) (sJ xs g h3)))
    · cases h
theorem sT : ∀ (ex : Ex) {so sc : Scope} {X : Cx} {E3 : X3} {e : Expr}, Good G N so sc X XR M0 H0 E3 k → chkT G N ex sc e = true → PT X e (LT X.K M0 H0 (wpt G ex E3))
  | .cmp o a b, so, sc, X, E3, e, g, h => by
    dsimp only [chkT] at h
    split at h
    · obtain ⟨h1, h2, h3⟩ := b3 h
      rw [beqCm_ok h1]
      exact z_tcmp (co_ok g.hu o) (sE a g h2) (sE b g h3) (mark_of (plain_of h3))
    · cases h
  | .chn o o' a b c, so, sc, X, E3, e, g, h => by
    dsimp only [chkT] at h
    split at h
    · obtain ⟨h1, h2, h3, h4, h5⟩ := b5 h
      rw [beqCm_ok h1, beqCm_ok h2]
      exact z_tchain (co_ok g.hu o) (co_ok g.hu o') (sE a g h3) (sE b g h4) (sE c g h5) (by
        show behindInMarks o'.op _ = false
        exact mark_of (plain_of h5))
    · cases h
  | .bol kk es, so, sc, X, E3, e, g, h => by
    dsimp only [chkT] at h
    split at h
    · rename_i op vs pos
      obtain ⟨h1, h2⟩ := b2 h
      cases op with
      | And =>
        have h1 : kk = true := h1
        subst h1
        exact (sBa es g h2).pt
      | Or =>
        have h1 : kk = false := by simpa using h1
        subst h1
        exact (sBo es g h2).pt
    · cases h
  | .nt a, so, sc, X, E3, e, g, h => by
    dsimp only [chkT] at h
    split at h
    · exact z_not (sT a g h)
    · cases h
  | .loc i, so, sc, X, E3, e, g, h => by
    dsimp only [chkT] at h
    split at h
    · exact z_truth rfl (z_loc' g h) fun _ => rfl
    · cases h
  | .idx a b, so, sc, X, E3, e, g, h => by
    dsimp only [chkT] at h
    split at h
    · obtain ⟨h1, h2⟩ := b2 h
      exact z_truth rfl (z_ix (zi_ix (by have := g.hu; omega)) (sE a g h1) (sE b g h2) (plainIx_of (plain_of h2))) fun _ => rfl
    · cases h
  | .call j x xs, so, sc, X, E3, e, g, h => by
    dsimp only [chkT] at h
    split at h
    · obtain ⟨h1, h2, h3, h4, h5⟩ := b5 h
      exact z_truth rfl (z_call' g h1 h2 h3 (sE x g h4) (sL xs g h5) (plain_of h4) (plainL_of h5)) fun _ => rfl
    · cases h
  | .blt b x xs, so, sc, X, E3, e, g, h => by
    dsimp only [chkT] at h
    split at h
    · obtain ⟨h1, h2, h3, h4, h5⟩ := b5 h
      have h1 := of_decide_eq_true h1
      subst h1
      exact z_truth rfl (z_blt' g h2 h3 (sE x g h4) (sL xs g h5) (plain_of h4) (plainL_of h5)) fun _ => rfl
    · cases h
  | .isi T x, so, sc, X, E3, e, g, h => by
    dsimp only [chkT] at h
    split at h
    · obtain ⟨h1, h2, h3, h4, h5, h6, h7⟩ := b7 h
      have h1 := of_decide_eq_true h1
      have h4 := of_decide_eq_true h4
      subst h1 h4
      exact z_truth rfl (z_isi' g h2 h3 h5 h6 (sE x g h7) (plain_of h7)) fun _ => rfl
    · cases h
  | .mth m o x xs, so, sc, X, E3, e, g, h => by
    dsimp only [chkT] at h
    split at h
    · obtain ⟨h1, h2, h3, h4, h5, h6⟩ := b6 h
      have h1 := of_decide_eq_true h1
      subst h1
      exact z_truth rfl (z_mth' g (fun _ _ => base_of h4) h2 h3 (sE o g h4) (sE x g h5) (sL xs g h6) (plain_of h5) (plainL_of h6)) fun _ => rfl
    · cases h
  | .non, _, _, _, _, _, _, h => absurd h Bool.false_ne_true
  | .bl _, _, _, _, _, _, _, h => absurd h Bool.false_ne_true
  | .int _, _, _, _, _, _, _, h => absurd h Bool.false_ne_true
  | .str _, _, _, _, _, _, _, h => absurd h Bool.false_ne_true
  | .glo _, _, _, _, _, _, _, h => absurd h Bool.false_ne_true
  | .bin _ _ _, _, _, _, _, _, _, h => absurd h Bool.false_ne_true
  | .addM _ _, _, _, _, _, _, _, h => absurd h Bool.false_ne_true
  | .srt2 _, _, _, _, _, _, _, h => absurd h Bool.false_ne_true
  | .neg _, _, _, _, _, _, _, h => absurd h Bool.false_ne_true
  | .ite _ _ _, _, _, _, _, _, _, h => absurd h Bool.false_ne_true
  | .tup _, _, _, _, _, _, _, h => absurd h Bool.false_ne_true
  | .lst _ _, _, _, _, _, _, _, h => absurd h Bool.false_ne_true
  | .sli _ _ _, _, _, _, _, _, _, h => absurd h Bool.false_ne_true
  | .rev _, _, _, _, _, _, _, h => absurd h Bool.false_ne_true
  | .comp _ _ _ _ _ _ _, _, _, _, _, _, _, h => absurd h Bool.false_ne_true
  | .newK _, _, _, _, _, _, _, h => absurd h Bool.false_ne_true
  | .newT, _, _, _, _, _, _, h => absurd h Bool.false_ne_true
  | .dis _ _, _, _, _, _, _, _, h => absurd h Bool.false_ne_true
  | .fmt _, _, _, _, _, _, _, h => absurd h Bool.false_ne_true
  | .js _ _ _, _, _, _, _, _, _, h => absurd h Bool.false_ne_true
theorem sL : ∀ (xs : List Ex) {so sc : Scope} {X : Cx} {E3 : X3} {es : List Expr}, Good G N so sc X XR M0 H0 E3 k → chkL G N xs sc es = true → PA X es (LA X.K M0 H0 (wpl G xs E3))
  | [], so, sc, X, E3, [], g, h => z_nil
  | [], so, sc, X, E3, _ :: _, g, h => absurd h Bool.false_ne_true
  | x :: xs, so, sc, X, E3, [], g, h => absurd h Bool.false_ne_true
  | x :: xs, so, sc, X, E3, e :: es, g, h => by
    obtain ⟨h1, h2⟩ := b2 (show (chkE G N x sc e && chkL G N xs sc es) = true from h)
    exact z_cons (sE x g h1) (sL xs g h2) (star_of (plain_of h1) _ _)
theorem sJ : ∀ (xs : List Ex) {so sc : Scope} {X : Cx} {E3 : X3} {es : List Expr}, Good G N so sc X XR M0 H0 E3 k → chkL G N xs sc es = true → PJ X es ((wpj G xs E3).map (LE X.K M0 H0))
  | [], so, sc, X, E3, es, g, h => by
    cases es with
    | nil => exact .nil
    | cons _ _ => exact absurd h Bool.false_ne_true
  | x :: xs, so, sc, X, E3, es, g, h => by
    cases es with
    | nil => exact absurd h Bool.false_ne_true
    | cons e es =>
      obtain ⟨h1, h2⟩ := b2 (show (chkE G N x sc e && chkL G N xs sc es) = true from h)
      exact .cons (sE x g h1) (sJ xs g h2)
theorem sL1 : ∀ (xs : List Ex) {so sc : Scope} {X : Cx} {E3 : X3} {e : Expr}, Good G N so sc X XR M0 H0 E3 k → chkL G N xs sc [e] = true → ∃ te, wpl G xs E3 = cons3 te nil3 ∧ PE X e (LE X.K M0 H0 te)
  | [], so, sc, X, E3, e, g, h => absurd h Bool.false_ne_true
  | x :: xs, so, sc, X, E3, e, g, h => by
    obtain ⟨h1, h2⟩ := b2 (show (chkE G N x sc e && chkL G N xs sc []) = true from h)
    cases xs with
    | nil => exact ⟨_, rfl, sE x g h1⟩
    | cons y r => exact absurd h2 Bool.false_ne_true
theorem sVa : ∀ (xs : List Ex) {so sc : Scope} {X : Cx} {E3 : X3} {es : List Expr} {pos : Pos}, Good G N so sc X XR M0 H0 E3 k → chkL G N xs sc es = true → PE X (.BoolOp .And es pos) (LE X.K M0 H0 (wpv G true xs E3))
  | [], so, sc, X, E3, es, pos, g, h => ⟨fun _ _ _ _ _ _ ⟨_, _, _, _, _, _, t, _⟩ => t.elim⟩
  | [x], so, sc, X, E3, es, pos, g, h => by
    cases es with
    | nil => exact absurd h Bool.false_ne_true
    | cons e es =>
      obtain ⟨h1, h2⟩ := b2 (show (chkE G N x sc e && chkL G N [] sc es) = true from h)
      cases es with
      | nil => exact pe_one (sE x g h1)
      | cons _ _ => exact absurd h2 Bool.false_ne_true
  | x :: y :: r, so, sc, X, E3, es, pos, g, h => by
    cases es with
    | nil => exact absurd h Bool.false_ne_true
    | cons e es =>
      obtain ⟨h1, h2⟩ := b2 (show (chkE G N x sc e && chkL G N (y :: r) sc es) = true from h)
      cases es with
      | nil => exact absurd h2 Bool.false_ne_true
      | cons e' es => exact z_vand (sE x g h1) (sVa (y :: r) g h2)
theorem sVo : ∀ (xs : List Ex) {so sc : Scope} {X : Cx} {E3 : X3} {es : List Expr} {pos : Pos}, Good G N so sc X XR M0 H0 E3 k → chkL G N xs sc es = true → PE X (.BoolOp .Or es pos) (LE X.K M0 H0 (wpv G false xs E3))
  | [], so, sc, X, E3, es, pos, g, h => ⟨fun _ _ _ _ _ _ ⟨_, _, _, _, _, _, t, _⟩ => t.elim⟩
  | [x], so, sc, X, E3, es, pos, g, h => by
    cases es with
    | nil => exact absurd h Bool.false_ne_true
    | cons e es =>
      obtain ⟨h1, h2⟩ := b2 (show (chkE G N x sc e && chkL G N [] sc es) = true from h)
      cases es with
      | nil => exact pe_one (sE x g h1)
      | cons _ _ => exact absurd h2 Bool.false_ne_true
  | x :: y :: r, so, sc, X, E3, es, pos, g, h => by
    cases es with
    | nil => exact absurd h Bool.false_ne_true
    | cons e es =>
      obtain ⟨h1, h2⟩ := b2 (show (chkE G N x sc e && chkL G N (y :: r) sc es) = true from h)
      cases es with
      | nil => exact absurd h2 Bool.false_ne_true
      | cons e' es => exact z_vor (sE x g h1) (sVo (y :: r) g h2)
theorem sBa : ∀ (xs : List Ex) {so sc : Scope} {X : Cx} {E3 : X3} {es : List Expr} {pos : Pos}, Good G N so sc X XR M0 H0 E3 k → chkTL G N xs sc es = true → PW X (.BoolOp .And es pos) (LT X.K M0 H0 (wpb G true xs E3))
  | [], so, sc, X, E3, es, pos, g, h => ⟨fun _ _ _ _ _ _ _ ⟨_, _, _, _, _, _, t, _⟩ => t.elim⟩
  | [x], so, sc, X, E3, es, pos, g, h => by
    cases es with
    | nil => exact absurd h Bool.false_ne_true
    | cons e es =>
      obtain ⟨h1, h2⟩ := b2 (show (chkT G N x sc e && chkTL G N [] sc es) = true from h)
      cases es with
      | nil => exact z_wand1 (sT x g h1)
      | cons _ _ => exact absurd h2 Bool.false_ne_true
  | x :: y :: r, so, sc, X, E3, es, pos, g, h => by
    cases es with
    | nil => exact absurd h Bool.false_ne_true
    | cons e es =>
      obtain ⟨h1, h2⟩ := b2 (show (chkT G N x sc e && chkTL G N (y :: r) sc es) = true from h)
      cases es with
      | nil => exact absurd h2 Bool.false_ne_true
      | cons e' es => exact z_wand (sT x g h1) (sBa (y :: r) g h2)
theorem sBo : ∀ (xs : List Ex) {so sc : Scope} {X : Cx} {E3 : X3} {es : List Expr} {pos : Pos}, Good G N so sc X XR M0 H0 E3 k → chkTL G N xs sc es = true → PW X (.BoolOp .Or es pos) (LT X.K M0 H0 (wpb G false xs E3))
  | [], so, sc, X, E3, es, pos, g, h => ⟨fun _ _ _ _ _ _ _ ⟨_, _, _, _, _, _, t, _⟩ => t.elim⟩
  | [x], so, sc, X, E3, es, pos, g, h => by
    cases es with
    | nil => exact absurd h Bool.false_ne_true
    | cons e es =>
      obtain ⟨h1, h2⟩ := b2 (show (chkT G N x sc e && chkTL G N [] sc es) = true from h)
      cases es with
      | nil => exact z_wor1 (sT x g h1)
      | cons _ _ => exact absurd h2 Bool.false_ne_true
  | x :: y :: r, so, sc, X, E3, es, pos, g, h => by
    cases es with
    | nil => exact absurd h Bool.false_ne_true
    | cons e es =>
      obtain ⟨h1, h2⟩ := b2 (show (chkT G N x sc e && chkTL G N (y :: r) sc es) = true from h)
      cases es with
      | nil => exact absurd h2 Bool.false_ne_true
      | cons e' es => exact z_wor (sT x g h1) (sBo (y :: r) g h2)
theorem sO : ∀ (xs : List Ex) {so sc : Scope} {X : Cx} {E3 : X3} {e : Option Expr}, Good G N so sc X XR M0 H0 E3 k → chkO G N xs sc e = true → PO X e (LO X.K M0 H0 (wpo G xs E3))
  | [], so, sc, X, E3, none, g, h => z_pnone
  | [], so, sc, X, E3, some _, g, h => absurd h Bool.false_ne_true
  | x :: xs, so, sc, X, E3, none, g, h => absurd h Bool.false_ne_true
  | x :: xs, so, sc, X, E3, some e, g, h => by
    obtain ⟨h1, h2⟩ := b2 (show (chkE G N x sc e && xs.isEmpty) = true from h)
    exact z_psome (sE x g h1)
theorem sC : ∀ (xs : List Ex) {so sc : Scope} {X : Cx} {E3 : X3} {es : List Expr}, Good G N so sc X XR M0 H0 E3 k → chkC G N xs sc es = true → PTs X es (LT X.K M0 H0 (wpc G xs E3))
  | [], so, sc, X, E3, [], g, h => z_tnil
  | [], so, sc, X, E3, _ :: _, g, h => absurd h Bool.false_ne_true
  | x :: xs, so, sc, X, E3, es, g, h => by
    dsimp only [chkC] at h
    split at h
    · obtain ⟨h1, h2⟩ := b2 h
      exact z_tone (sT x g h1)
    · cases h
theorem sP : ∀ (xs : List Ex) {so sc : Scope} {X : Cx} {E3 : X3} {ks : List (Option Expr)} {vs : List Expr}, Good G N so sc X XR M0 H0 E3 k → chkP G N xs sc ks vs = true → (∀ pos, PPs X pos ks vs (LPs X.K M0 H0 (wpp G xs E3))) ∧ ks.all (·.isSome) = true ∧ ks.length = vs.length
  | [], so, sc, X, E3, ks, vs, g, h => by
    dsimp only [chkP] at h
    split at h
    · exact ⟨fun _ => pps_nil, rfl, rfl⟩
    · cases h
  | [_], so, sc, X, E3, ks, vs, g, h => absurd h Bool.false_ne_true
  | a :: b :: r, so, sc, X, E3, ks, vs, g, h => by
    dsimp only [chkP] at h
    split at h
    · rename_i ka kks vb vvs
      obtain ⟨h1, h2, h3⟩ := b3 h
      obtain ⟨p1, p2, p3⟩ := sP r g h3
      refine ⟨fun pos => pps_cons (sE a g h1) (sE b g h2) (p1 pos), ?_, ?_⟩
      · show (true && kks.all (·.isSome)) = true
        rw [p2]; rfl
      · rw [List.length_cons, List.length_cons, p3]
    · cases h
end
end
end Z

namespace Z
open PySem PySem.Spec PyProof.Rows L2

def isLC : Expr → Bool | .ListComp .. => true | _ => false
def isTu : Expr → Bool | .Tuple .. => true | _ => false
def lcScope : Expr → Scope → Scope | .ListComp _ _ s _, _ => s | _, s => s
/-- an assignment of a comprehension to a name is done in its block -/
def lcSwap (sc : Scope) (x : Str) (px : Pos) (p : Pos) (scope : Scope) : Bool :=
  (sc.names.lookup x == some .local) && (px.line == p.line) && !(scope.names.any fun z => z.1 == x && (z.2 == .local || z.2 == .cell))
/-- a pair is not stored by swapping: one of its names is no plain local one -/
def noSwap (sc : Scope) (t v : Expr) : Bool := !isTu v || (match t with
  | .Tuple ts _ _ => ts.any fun | .Name x _ => !(sc.names.lookup x == some .local) | _ => true
  | _ => false)
mutual
def chkS (G : GT) (N : List Str) (sc : Scope) : Sx → Stmt → Bool
  | .asg tg e, st => match st with
    | .Assign [t] v _ => chkE G N e sc v && (match tg with | .nm i => (match t with | .Name x _ => decide (N[i]? = some x) && isLoc sc x | _ => false) | .tp is => isTu t && chkTg N sc (.tp is) t && noSwap sc t v)
    | _ => false
  | .par i j a b, st => match st with
    | .Assign [.Tuple [.Name x px, .Name y py] _ _] (.Tuple [v, w] _ _) _ => decide (N[i]? = some x) && decide (N[j]? = some y) && decide (i ≠ j) && (sc.names.lookup x == some .local) && (sc.names.lookup y == some .local) && (py.line == px.line) && (!foldedForSure 8 v || !foldedForSure 8 w) && (!constantsAlone 8 v || !constantsAlone 8 w) && chkE G N a sc v && chkE G N b sc w
    | _ => false
  | .sput o i e, st => match st with
    | .Assign [.Subscript x y _] v _ => chkE G N o sc x && chkE G N i sc y && chkE G N e sc v
    | _ => false
  | .aug i k e, st => match st with
    | .AugAssign (.Name x _) op v _ => decide (N[i]? = some x) && isLoc sc x && (match op with | .Add => k | .Sub => !k | _ => false) && chkE G N e sc v
    | _ => false
  | .expr e, st => match st with
    | .Expr v _ => chkE G N e sc v && !isLC v
    | _ => false
  | .ret e, st => match st with
    | .Return (some v) _ => chkE G N e sc v
    | _ => false
  | .retN, st => match st with
    | .Return none _ => true
    | _ => false
  | .ifs c a b, st => match st with
    | .If t x y _ => chkT G N c sc t && chkSs G N sc a x && chkSs G N sc b y
    | _ => false
  | .fors tg ik its body, st => match st with
    | .For t it x [] _ => chkI G ik sc it t (chkL G N its sc) && chkTg N sc tg t && chkSs G N sc body x
    | _ => false
  | .whl c body, st => match st with
    | .While t x [] _ => chkT G N c sc t && chkSs G N sc body x
    | _ => false
  | .brk, st => match st with | .Break _ => true | _ => false
  | .cnt, st => match st with | .Continue _ => true | _ => false
  | .pss, st => match st with | .Pass _ => true | _ => false
  | .fz _, _ => false
  | .rse e, st => match st with
    | .Raise (some (.Call (.Name y _) [a] [] _)) none _ => decide (y = ("InvalidLine" : Str)) && isGl sc y && G.er && chkE G N e sc a
    | _ => false
  | .rseN, st => match st with
    | .Raise _ _ _ => true
    | _ => false
  | .tryR body k i, st => match st with
    | .Try bd [.ExceptHandler (some (.Name y _)) (some n) [.Return (some (.Tuple [.Constant (.str c) _ _, .Attribute (.Name n' _) f _] _ _)) _] _] [] [] _ =>
      decide (y = ("InvalidLine" : Str)) && isGl sc y && G.er && decide (N[i]? = some n) && (sc.names.lookup n == some .local) && decide (n' = n) && decide (f = ("number" : Str)) && decide (c = k) && chkSs G N sc body bd
    | _ => false
def chkSs (G : GT) (N : List Str) (sc : Scope) : List Sx → List Stmt → Bool
  | [], sts => match sts with | [] => true | _ => false
  | s :: r, sts => match s with
    | .fz _ => chkSs G N sc r sts
    | s => match sts with | st :: sts => chkS G N sc s st && chkSs G N sc r sts | [] => false
end
theorem swaps_plain {e : Expr} {t : Option Expr} {n : Nat} {env : Env} (hp : plain e = true) (h : isLC e = false) : swapsWith e t n env = pure false := by
  cases e <;> first | rfl | (exact absurd hp Bool.false_ne_true) | (exact absurd h.symm Bool.false_ne_true)
theorem swaps_tu {e t : Expr} {n : Nat} {env : Env} (hp : plain e = true) (h : isTu t = true) : swapsWith e (some t) n env = pure false := by
  cases t <;> first | (exact absurd h Bool.false_ne_true) | skip
  cases e <;> first | rfl | (exact absurd hp Bool.false_ne_true)
theorem swaps_sub {e o i : Expr} {p : Pos} {n : Nat} {env : Env} (hp : plain e = true) : swapsWith e (some (.Subscript o i p)) n env = pure false := by
  cases e <;> first | rfl | (exact absurd hp Bool.false_ne_true)
theorem stores_tu {e t : Expr} {env : Env} (h : isTu e = false) : swappedStores [t] e env = pure none := by
  cases e <;> first | (exact absurd h.symm Bool.false_ne_true) | skip
  all_goals (cases t <;> rfl)
theorem stores_sub {e o i : Expr} {p : Pos} {env : Env} : swappedStores [.Subscript o i p] e env = pure none := by
  cases e <;> rfl
theorem stores_no {sc : Scope} {e t : Expr} {env : Env} (hs : env.scope = sc) (h : noSwap sc t e = true) : swappedStores [t] e env = pure none := by
  unfold noSwap at h
  by_cases hu : isTu e = true
  · cases e with
    | Tuple vs k2 p2 =>
      cases t with
      | Tuple ts k p =>
        have h : (ts.any fun | .Name x _ => !(sc.names.lookup x == some .local) | _ => true) = true := h
        obtain ⟨z, hz, hz2⟩ := List.any_eq_true.mp h
        unfold swappedStores
        dsimp only
        by_cases h1 : (!(ts.length == 2 || ts.length == 3) || vs.length != ts.length || env.blockKind != .function) = true
        · exact if_pos h1
        refine (if_neg h1).trans ?_
        by_cases h2 : (vs.any fun | .Starred .. => true | _ => false) = true
        · exact if_pos h2
        refine (if_neg h2).trans ?_
        refine if_pos ?_
        rw [Bool.or_eq_true]
        left
        simp only [bne_iff_ne, ne_eq]
        intro q
        rw [List.filterMap_length_eq_length] at q
        have := q z hz
        cases z with
        | Name x pos =>
          dsimp only at this hz2
          have kx : env.kindOf x = sc.names.lookup x := by rw [← hs]; rfl
          rw [kx] at this
          have e0 : (sc.names.lookup x == some NameKind.local) = false := by simpa using hz2
          rw [e0] at this
          exact Bool.false_ne_true this
        | _ => exact Bool.false_ne_true this
      | _ => exact absurd h Bool.false_ne_true
    | _ => exact absurd hu Bool.false_ne_true
  · exact stores_tu (by simpa using hu)
theorem RS.swap {K : PySem.W.Frag} {M M' : MH} {H : Hp} {e : En} {σ : L2.St} (r : RS K M H e σ) (ev : Ev M H M' H) {i : Nat} {d d' : D} (hd : getE e i = some d) (f : ∀ v, Rp K M H d v → Rp K M' H d' v) : RS K M' H (setE e i d') σ := by
  obtain ⟨v, h1, h2⟩ := r.get i d hd
  have := (r.ev ev).set i (f v h2)
  rwa [List.set_getElem?_self' h1] at this
where
  List.set_getElem?_self' {α : Type} {l : List α} {i : Nat} {a : α} (h : l[i]? = some a) : l.set i a = l := by
    obtain ⟨h1, h2⟩ := List.getElem?_eq_some_iff.mp h
    rw [← h2]; exact List.set_getElem_self h1

section
variable {G : GT} {N : List Str} {XR : XRel} {M0 : MH} {H0 : Hp} {k : Nat}
theorem swaps_lc {sc : Scope} {X : Cx} {el : Expr} {gs : List Comprehension} {scope : Scope} {p px : Pos} {x : Str} {n : Nat} (hs : X.env.scope = sc) (bk : X.env.blockKind = .function) : swapsWith (.ListComp el gs scope p) (some (.Name x px)) n X.env = pure (lcSwap sc x px p scope) := by
  have h1 : swapsWith (.ListComp el gs scope p) (some (.Name x px)) n X.env = pure (X.env.blockKind == .function && X.env.kindOf x == some .local && px.line == p.line && !(scope.names.any fun z => z.1 == x && (z.2 == .local || z.2 == .cell))) := rfl
  rw [h1, bk]
  have h2 : X.env.kindOf x = sc.names.lookup x := by rw [← hs]; rfl
  rw [h2]
  rfl
theorem stores_two {sc : Scope} {X : Cx} {x y : Str} {px py pt pt2 : Pos} {kt k2 : Nat} {v w : Expr} (hs : X.env.scope = sc) (bk : X.env.blockKind = .function) (hx : (sc.names.lookup x == some .local) = true) (hy : (sc.names.lookup y == some .local) = true) (hxy : x ≠ y) (hl : (py.line == px.line) = true)
    (hf : (!foldedForSure 8 v || !foldedForSure 8 w) = true) (hc : (!constantsAlone 8 v || !constantsAlone 8 w) = true) (pv : plain v = true) (pw : plain w = true) :
    swappedStores [.Tuple [.Name x px, .Name y py] kt pt] (.Tuple [v, w] k2 pt2) X.env = pure (some [x, y]) := by
  have kx : X.env.kindOf x = sc.names.lookup x := by rw [← hs]; rfl
  have ky : X.env.kindOf y = sc.names.lookup y := by rw [← hs]; rfl
  have sv : ([v, w].any fun | .Starred .. => true | _ => false) = false := by
    cases v <;> first | (exact absurd pv Bool.false_ne_true) | skip
    all_goals (cases w <;> first | (exact absurd pw Bool.false_ne_true) | rfl)
  have ff : [v, w].all (foldedForSure 8) = false := by
    show (foldedForSure 8 v && (foldedForSure 8 w && true)) = false
    cases q : foldedForSure 8 v <;> cases q2 : foldedForSure 8 w <;> simp_all
  have cc : [v, w].all (constantsAlone 8) = false := by
    show (constantsAlone 8 v && (constantsAlone 8 w && true)) = false
    cases q : constantsAlone 8 v <;> cases q2 : constantsAlone 8 w <;> simp_all
  have hn : ([Expr.Name x px, Expr.Name y py].filterMap fun
    | .Name id pos => if X.env.kindOf id == some .local && pos.line == px.line then some id else none
    | _ => none) = [x, y] := by
    simp only [List.filterMap_cons, List.filterMap_nil, kx, ky, hx, hy, hl, beq_self_eq_true, Bool.and_self, if_true]
  have he : ([x, y].eraseDups.length != 2) = false := by
    have : (y == x) = false := by simpa using fun h : y = x => hxy h.symm
    simp [List.eraseDups, List.eraseDupsBy, List.eraseDupsBy.loop, this]
  unfold swappedStores
  dsimp only
  have e1 : (X.env.blockKind != ScopeKind.function) = false := by rw [bk]; rfl
  have hh : ([Expr.Name x px, Expr.Name y py].head?.map (·.pos.line)).getD 0 = px.line := rfl
  simp only [e1]
  refine (if_neg (by show ¬ false = true; exact Bool.false_ne_true)).trans ?_
  refine (if_neg (by
    intro z
    exact Bool.false_ne_true (sv.symm.trans z))).trans ?_
  have hn2 := hn
  refine (if_neg (fun z => ?_)).trans ?_
  · have z2 : (([x, y] : List Str).length != 2 || ([x, y] : List Str).eraseDups.length != ([x, y] : List Str).length) = true := by
      rw [← hn]; exact z
    rw [show (([x, y] : List Str).length != 2) = false from rfl, Bool.false_or] at z2
    exact Bool.false_ne_true (he.symm.trans z2)
  · refine (if_neg (by rw [ff]; exact Bool.false_ne_true)).trans ?_
    refine (if_neg (by rw [cc]; exact Bool.false_ne_true)).trans ?_
    exact congrArg (fun l => (pure (some l) : Sem (Option (List Str)))) hn
end
end Z

namespace Z
open PySem PySem.Spec PyProof.Rows L2
section
variable {G : GT} {N : List Str} {XR : XRel} {M0 : MH} {H0 : Hp} {k : Nat} {sc : Scope} {X : Cx} {E3 : X3}
theorem sole {t v : Expr} {n : Nat} {env : Env} : swapsWithSole [t] v n env = swapsWith v (some t) n env := rfl
theorem name_of (g : Good G N sc sc X XR M0 H0 E3 k) {i : Nat} {x : Str} (h1 : decide (N[i]? = some x) = true) (h2 : isLoc sc x = true) : X.N.Nodup ∧ X.N[i]? = some x ∧ Loc X.env.scope x ∧ (X.fn x = true ∨ X.env.scope.names.lookup x = some .local) := by
  obtain ⟨l1, l2⟩ := loc_of g h2
  exact ⟨by rw [g.hN]; exact g.nd, by rw [g.hN]; exact of_decide_eq_true h1, l1, l2⟩
theorem z_setlc' (g : Good G N sc sc X XR M0 H0 E3 k) {m : Bool} {i : Nat} {x : Str} {px p spos : Pos} {elt : Ex} {tg : Tg} {ik : IK} {its ifs : List Ex} {own : List (Str × Nat)} {el : Expr} {gs : List Comprehension} {scope : Scope} (bk : X.env.blockKind = .function)
    (hi : decide (N[i]? = some x) = true) (hsw : lcSwap sc x px p scope = true) (h : chkE G N (.comp m elt tg ik its ifs own) sc (.ListComp el gs scope p) = true) :
    PS X (.Assign [.Name x px] (.ListComp el gs scope p) spos) (LS X.K M0 H0 (asg3 (wpe G (.comp m elt tg ik its ifs own) E3) (.nm i))) := by
  have hx : X.env.scope.names.lookup x = some .local := by
    rw [g.hsc]
    unfold lcSwap at hsw
    exact eq_of_beq (b3 hsw).1
  have hw := swaps_lc (el := el) (gs := gs) (n := spos.line) g.hsc bk (scope := scope) (p := p) (px := px) (x := x)
  rw [hsw] at hw
  dsimp only [chkE] at h
  split at h
  · rename_i el' t it fs ia scope' pos' heq
    cases heq
    obtain ⟨h1, h2, h3, h4, h5, h6, h7⟩ := b7 h
    have h1 := of_decide_eq_true h1
    subst h1
    obtain ⟨p1, p2⟩ := z_it (tl := wpl G its E3) g h4 (fun es he => ⟨sL its g he, plainL_of he⟩) (fun e he => sL1 its g he)
    exact z_setlc g.calm (by rw [g.hN]; exact g.nd) (by rw [g.hN]; exact of_decide_eq_true hi) hx hw p1 (blkOk_by (by rw [g.hN, g.hsc]; exact h2)) (fun i hi => by
      rw [List.all_eq_true] at h3
      exact of_decide_eq_true (h3 i hi)) (fun s H C cl fp => tg_ok g.blk h5) (fun s H C cl fp => sC ifs g.blk h6) (fun s H C cl fp => sE elt g.blk h7) (fold_of p2 _)
  · cases h
theorem b10 {a b c d e f g h i j : Bool} (z : (a && b && c && d && e && f && g && h && i && j) = true) : a = true ∧ b = true ∧ c = true ∧ d = true ∧ e = true ∧ f = true ∧ g = true ∧ h = true ∧ i = true ∧ j = true := by
  obtain ⟨z, z10⟩ := b2 z
  obtain ⟨z, z9⟩ := b2 z
  obtain ⟨z, z8⟩ := b2 z
  obtain ⟨z1, z2, z3, z4, z5, z6, z7⟩ := b7 z
  exact ⟨z1, z2, z3, z4, z5, z6, z7, z8, z9, z10⟩
theorem asg_ok (g : Good G N sc sc X XR M0 H0 E3 k) (bk : X.env.blockKind = .function) {tg : Tg} {e : Ex} {t v : Expr} {pos : Pos} (h1 : chkE G N e sc v = true)
    (h2 : (match tg with | .nm i => (match t with | .Name x _ => decide (N[i]? = some x) && isLoc sc x | _ => false) | .tp is => isTu t && chkTg N sc (.tp is) t && noSwap sc t v) = true) :
    PS X (.Assign [t] v pos) (LS X.K M0 H0 (asg3 (wpe G e E3) tg)) := by
  have pl := plain_of h1
  cases tg with
  | nm i =>
    dsimp only at h2
    split at h2
    · rename_i x px
      obtain ⟨h2, h3⟩ := b2 h2
      obtain ⟨n1, n2, n3, n4⟩ := name_of g h2 h3
      by_cases hl : isLC v = true
      · cases v with
        | ListComp el gs scope p =>
          cases hsw : lcSwap sc x px p scope with
          | true =>
            cases e <;> first | (exact absurd h1 Bool.false_ne_true) | exact z_setlc' g bk h2 hsw h1
          | false =>
            refine z_set n1 n2 n3 (sE e g h1) ?_ n4
            rw [swaps_lc g.hsc bk, hsw]
        | _ => exact absurd hl Bool.false_ne_true
      · exact z_set n1 n2 n3 (sE e g h1) (swaps_plain pl (by simpa using hl)) n4
    · cases h2
  | tp is =>
    obtain ⟨h2, h3, h4⟩ := b3 h2
    cases t <;> first | (exact absurd h2 Bool.false_ne_true) | skip
    exact z_asg (sE e g h1) (tg_ok g h3) (sole.trans (swaps_tu pl h2)) (stores_no g.hsc h4) rfl
/-- the frame stands on top -/
def Fr (X : Cx) : Prop := X.stack = X.env :: X.outer ∧ X.env.frame = some X.env.locals
theorem b9 {a b c d e f g h i : Bool} (z : (a && b && c && d && e && f && g && h && i) = true) : a = true ∧ b = true ∧ c = true ∧ d = true ∧ e = true ∧ f = true ∧ g = true ∧ h = true ∧ i = true := by
  obtain ⟨z, z9⟩ := b2 z
  obtain ⟨z, z8⟩ := b2 z
  obtain ⟨z1, z2, z3, z4, z5, z6, z7⟩ := b7 z
  exact ⟨z1, z2, z3, z4, z5, z6, z7, z8, z9⟩
theorem ps_false {X : Cx} {st : Stmt} {K : PySem.W.Frag} {M0 : MH} {H0 : Hp} : PS X st (LS K M0 H0 fun _ _ _ => False) := ⟨fun pins s σ H D I h => by
  obtain ⟨_, _, _, _, _, _, z, _⟩ := h
  exact z.elim⟩
theorem Good.tr (g : Good G N sc sc X XR M0 H0 E3 k) {pn : List (Addr × Obj)} {xe : Value → Shared → Prop} {M1 : MH} {H1 : Hp} {E1 : X3} (o : Out (X.tr pn xe) XR M1 H1 E1) : Good G N sc sc (X.tr pn xe) XR M1 H1 E1 k :=
  ⟨g.hN, g.hsc, g.calm, g.nd, g.nm, g.room, g.cel, g.own, g.fns, g.cst, g.blt, o, g.err, g.xr⟩
mutual
theorem sSt : ∀ (s : Sx) {X : Cx} {M0 : MH} {H0 : Hp} {E3 : X3} {st : Stmt}, Good G N sc sc X XR M0 H0 E3 k → X.env.blockKind = .function → PassesOwn (model X.prog X.w) X.A X.env X.xe ∧ Fr X → chkS G N sc s st = true → PS X st (LS X.K M0 H0 (wps G E3 s))
  | .asg tg e, X, M0, H0, E3, st, g, bk, hp, h => by
    dsimp only [chkS] at h
    split at h
    · obtain ⟨h1, h2⟩ := b2 h
      exact asg_ok g bk h1 h2
    · cases h
  | .par i j a b, X, M0, H0, E3, st, g, bk, hp, h => by
    dsimp only [chkS] at h
    split at h
    · rename_i x px y py kt pt v w k2 pt2 pos
      obtain ⟨h1, h2, h3, h4, h5, h6, h7, h8, h9, h10⟩ := b10 h
      have hi := of_decide_eq_true h1
      have hj := of_decide_eq_true h2
      have hij := of_decide_eq_true h3
      have nd := g.nd
      have hxy : x ≠ y := by
        intro z
        subst z
        obtain ⟨l1, e1⟩ := List.getElem?_eq_some_iff.mp hi
        obtain ⟨l2, e2⟩ := List.getElem?_eq_some_iff.mp hj
        exact hij ((List.getElem_inj nd).mp (e1.trans e2.symm))
      exact z_par g.calm (by rw [g.hN]; exact nd) (by rw [g.hN]; exact hi) (by rw [g.hN]; exact hj) hij (by rw [g.hsc]; exact eq_of_beq h4) (by rw [g.hsc]; exact eq_of_beq h5) (z_cons (sE a g h9) (z_cons (sE b g h10) z_nil (star_of (plain_of h10) _ _)) (star_of (plain_of h9) _ _)) (stores_two g.hsc bk h4 h5 hxy h6 h7 h8 (plain_of h9) (plain_of h10))
    · cases h
  | .sput o i e, X, M0, H0, E3, st, g, bk, hp, h => by
    dsimp only [chkS] at h
    split at h
    · obtain ⟨h1, h2, h3⟩ := b3 h
      have pi := plain_of h2
      exact z_sput (seti (by have := g.hu; omega)) (sE o g h1) (sE i g h2) (sE e g h3) (fun v => by
        rename_i y _ _ _
        cases y <;> first | rfl | (exact absurd pi Bool.false_ne_true)) (sole.trans (swaps_sub (plain_of h3))) stores_sub rfl
    · cases h
  | .aug i kk e, X, M0, H0, E3, st, g, bk, hp, h => by
    dsimp only [chkS] at h
    split at h
    · rename_i x px op v pos
      obtain ⟨h, h4⟩ := b2 h
      obtain ⟨h1, h2, h3⟩ := b3 h
      obtain ⟨n1, n2, n3, n4⟩ := name_of g h1 h2
      cases op with
      | Add =>
        have h3 : kk = true := h3
        subst h3
        exact z_aug n1 n2 n3 (sE e g h4) zi_add n4
      | Sub =>
        have h3 : kk = false := by simpa using h3
        subst h3
        exact z_aug n1 n2 n3 (sE e g h4) zi_sub n4
      | _ => exact absurd h3 Bool.false_ne_true
    · cases h
  | .expr e, X, M0, H0, E3, st, g, bk, hp, h => by
    dsimp only [chkS] at h
    split at h
    · obtain ⟨h1, h2⟩ := b2 h
      exact z_expr (sE e g h1) (swaps_plain (plain_of h1) (by simpa using h2))
    · cases h
  | .ret e, X, M0, H0, E3, st, g, bk, hp, h => by
    dsimp only [chkS] at h
    split at h
    · exact z_ret (sE e g h)
    · cases h
  | .retN, X, M0, H0, E3, st, g, bk, hp, h => by
    dsimp only [chkS] at h
    split at h
    · exact z_retN
    · cases h
  | .ifs c a b, X, M0, H0, E3, st, g, bk, hp, h => by
    dsimp only [chkS] at h
    split at h
    · obtain ⟨h1, h2, h3⟩ := b3 h
      exact z_if (sT c g h1) (sSs a g bk hp h2) (sSs b g bk hp h3)
    · cases h
  | .fors tg ik its body, X, M0, H0, E3, st, g, bk, hp, h => by
    dsimp only [chkS] at h
    split at h
    · obtain ⟨h1, h2, h3⟩ := b3 h
      obtain ⟨p1, p2⟩ := z_it (tl := wpl G its E3) g h1 (fun es he => ⟨sL its g he, plainL_of he⟩) (fun e he => sL1 its g he)
      exact z_for hp.1 g.calm p1 (tg_ok g h2) (sSs body g bk hp h3) (fold_of p2 _)
    · cases h
  | .whl c body, X, M0, H0, E3, st, g, bk, hp, h => by
    dsimp only [chkS] at h
    split at h
    · obtain ⟨h1, h2⟩ := b2 h
      exact z_while hp.1 (sT c g h1) (sSs body g bk hp h2)
    · cases h
  | .brk, X, M0, H0, E3, st, g, bk, hp, h => by
    dsimp only [chkS] at h
    split at h
    · exact z_break
    · cases h
  | .cnt, X, M0, H0, E3, st, g, bk, hp, h => by
    dsimp only [chkS] at h
    split at h
    · exact z_cont
    · cases h
  | .pss, X, M0, H0, E3, st, g, bk, hp, h => by
    dsimp only [chkS] at h
    split at h
    · exact z_pass
    · cases h
  | .fz _, X, M0, H0, E3, st, g, bk, hp, h => absurd h Bool.false_ne_true
  | .rse e, X, M0, H0, E3, st, g, bk, hp, h => by
    dsimp only [chkS] at h
    split at h
    · obtain ⟨h, h4⟩ := b2 h
      obtain ⟨h1, h2, h3⟩ := b3 h
      have h1 := of_decide_eq_true h1
      subst h1
      exact z_rse g.calm (g.err h3) (g.xr h3) g.room g.out (gl_of g h2) (sE e g h4) (star_of (plain_of h4) _ _)
    · cases h
  | .rseN, X, M0, H0, E3, st, g, bk, hp, h => ps_false
  | .tryR body kk i, X, M0, H0, E3, st, g, bk, hp, h => by
    dsimp only [chkS] at h
    split at h
    · obtain ⟨h1, h2, h3, h4, h5, h6, h7, h8, h9⟩ := b9 h
      have h1 := of_decide_eq_true h1
      have h4 := of_decide_eq_true h4
      have h6 := of_decide_eq_true h6
      have h7 := of_decide_eq_true h7
      have h8 := of_decide_eq_true h8
      subst h1 h6 h7 h8
      have hn := List.mem_of_getElem? h4
      exact z_tryR (t := fun E => wpss G E body) hp.2.1 hp.2.2 (by rw [g.hN]; exact g.nd) (by rw [g.hN]; exact h4) (by show X.env.scope.names.lookup _ = _; rw [g.hsc]; exact eq_of_beq h5) (g.err h3) (g.xr h3) (gl_of g h2) (g.nm _ hn)
        (fun pn xe M1 H1 E1 po o => sSs body (g.tr o) bk ⟨po, hp.2⟩ h9)
    · cases h
theorem sSs : ∀ (ss : List Sx) {X : Cx} {M0 : MH} {H0 : Hp} {E3 : X3} {sts : List Stmt}, Good G N sc sc X XR M0 H0 E3 k → X.env.blockKind = .function → PassesOwn (model X.prog X.w) X.A X.env X.xe ∧ Fr X → chkSs G N sc ss sts = true → PSs X sts (LS X.K M0 H0 (wpss G E3 ss))
  | [], X, M0, H0, E3, sts, g, bk, hp, h => by
    cases sts with
    | nil => exact z_snil
    | cons _ _ => exact absurd h Bool.false_ne_true
  | s :: r, X, M0, H0, E3, sts, g, bk, hp, h => by
    have main : ∀ {st : Stmt} {sts' : List Stmt}, sts = st :: sts' → (chkS G N sc s st && chkSs G N sc r sts') = true → PSs X sts (LS X.K M0 H0 (seq3 (wps G E3 s) (wpss G E3 r))) := by
      intro st sts' e h'
      obtain ⟨h1, h2⟩ := b2 h'
      rw [e]
      exact z_scons (sSt s g bk hp h1) (sSs r g bk hp h2)
    cases s with
    | fz i =>
      refine z_ghost (sSs r g bk hp (show chkSs G N sc r sts = true from h)) fun D e M σ H rs rm q => ?_
      have q : fz3 i (wpss G E3 r) D e M := q
      unfold fz3 at q
      split at q
      · rename_i a ea
        have sb : Sub (er M a) M := Sub.er
        split at q
        · rename_i ds em
          obtain ⟨vs, g1, g2⟩ := rm a _ em
          refine ⟨_, _, rs.swap (Ev.sub sb) ea fun v hv => ?_, rm.sub sb, Ev.sub sb, q⟩
          exact ⟨a, vs, hv, er_none, g1, RpL.ev (Ev.sub sb) _ _ g2⟩
        · rename_i kvs em
          obtain ⟨vs, g1, g2⟩ := rm a _ em
          refine ⟨_, _, rs.swap (Ev.sub sb) ea fun v hv => ?_, rm.sub sb, Ev.sub sb, q⟩
          exact ⟨a, vs, hv, er_none, .inl g1, by simp, RpL.ev (Ev.sub sb) _ _ g2⟩
        · rename_i kvs em
          obtain ⟨vs, g1, g2⟩ := rm a _ em
          refine ⟨_, _, rs.swap (Ev.sub sb) ea fun v hv => ?_, rm.sub sb, Ev.sub sb, q⟩
          exact ⟨a, vs, hv, er_none, .inl g1, by simp, RpL.ev (Ev.sub sb) _ _ g2⟩
        · exact q.elim
      · exact q.elim
    | _ =>
      cases sts with
      | nil => exact absurd h Bool.false_ne_true
      | cons st sts' => exact main rfl h
end
end
end Z

namespace Z
open PySem PySem.Spec PyProof.Rows L2

/-- the written part has the def -/
def DF (K : PySem.W.Frag) (x : Str) (st : Stmt) : Prop := ∃ f fd, PySem.W.nsIn K mainGlobals x = some (some (.ref f)) ∧ Fun K x x st f fd
/-- .. the constant -/
def DC (K : PySem.W.Frag) (x : Str) (d : D) : Prop := ∃ v u, PySem.W.nsIn K mainGlobals x = some (some u) ∧ RelV v u ∧ ∀ M H, Rp K M H d v
/-- .. no such name -/
def DB (K : PySem.W.Frag) (x : Str) : Prop := PySem.W.nsIn K mainGlobals x = some none
theorem DF.mk {K : PySem.W.Frag} {x : Str} {st : Stmt} {f : Addr} {oc : Value} {od an : Option Addr} {osl : Array (Option Value)} {kV doc pm cdv ct : Value} (a : PySem.W.nsIn K mainGlobals x = some (some (.ref f))) (l : K.lookup f = some ⟨oc, od, .func (PySem.W.fnOf x x (defArgs st) (defBody st) (defScope st) .none kV doc pm an cdv ct), osl⟩)
    (c : PySem.W.codeIn K cdv x = true) (k : PySem.W.keepIn K (.ref f) = true) : DF K x st := ⟨f, _, a, fun_mk l c k⟩
theorem DC.int {K : PySem.W.Frag} {x : Str} {u : Value} {i : Int} (h : PySem.W.nsIn K mainGlobals x = some (some u)) (r : RelV (.int i) u) : DC K x (.int i) := ⟨.int i, u, h, r, fun _ _ => rfl⟩
theorem DC.str {K : PySem.W.Frag} {x : Str} {u : Value} {i : Str} (h : PySem.W.nsIn K mainGlobals x = some (some u)) (r : RelV (.str i) u) : DC K x (.str i) := ⟨.str i, u, h, r, fun _ _ => rfl⟩
/-- .. the error's class -/
def DE (K : PySem.W.Frag) : Prop := ∃ C fI, PySem.W.nsIn K mainGlobals "InvalidLine" = some (some (.ref C)) ∧ ∀ mg : Str → Option Value, mg "InvalidLine" = some (.ref C) → PySem.ErrX.ErrTxt K mg C fI
theorem DE.get {K : PySem.W.Frag} {h : Heap} {mg : Str → Option Value} (d : DE K) (X : K.In h) (g : h.Ns mainGlobals mg) : ∃ C fI, PySem.ErrX.ErrTxt K mg C fI ∧ PySem.W.nsIn K mainGlobals "InvalidLine" = some (some (.ref C)) := by
  obtain ⟨C, fI, a, f⟩ := d
  exact ⟨C, fI, f mg (PySem.W.mg_of X g a), a⟩
theorem exm_self {K : PySem.W.Frag} {C : Addr} (h1 : PySem.W.subIn K (.ref C) (.type "BaseException") = some true) (h2 : PySem.W.isClsIn K C = true) (h3 : PySem.W.typeIn K (.ref C) = some (.type "type")) (h4 : PySem.W.subIn K (.ref C) (.ref C) = some true) : PySem.W.exmOne K (.ref C) (.ref C) = some true := by
  have e1 : (PySem.W.subIn K (.ref C) (.type "BaseException") == some true) = true := by rw [h1] <;> rfl
  have e2 : ((PySem.W.clsIn K C).isSome && PySem.W.typeIn K (.ref C) == some (.type "type")) = true := by
    have h2' : (PySem.W.clsIn K C).isSome = true := h2
    rw [h2', h3] <;> rfl
  show (if (PySem.W.subIn K (.ref C) (.type "BaseException") == some true) = true then (if ((PySem.W.clsIn K C).isSome && PySem.W.typeIn K (.ref C) == some (.type "type")) = true then PySem.W.subIn K (.ref C) (.ref C) else none) else none) = some true
  rw [if_pos e1, if_pos e2]
  exact h4
theorem DE.mk {K : PySem.W.Frag} {C f1 B : Addr} {nm q : Str} {N : Addr} {bs : List Value} {sn : List Str} {sub : List Value} {ab : Bool} {col : Option Bool} {dd : Option Addr} {m0 m1 m2 m3 m5 : Option Value}
    {od1 an1 : Option Addr} {sl1 : Array (Option Value)} {oc1 dc1 pm1 cd1 ct1 : Value} {p1 p2 q1 q2 q3 q4 : Pos}
    (aC : PySem.W.nsIn K mainGlobals "InvalidLine" = some (some (.ref C)))
    (xL : K.lookup C = some (excClassObj nm q C N bs [.ref B, .type "ValueError", .type "Exception", .type "BaseException", .type "object"] true sn sub ab col dd m0 m1 m2 m3 m5 "ValueError.__new__"))
    (sa : PySem.W.findIn K (.ref C) "__setattr__" = some (some (.builtin "object.__setattr__"))) (ga : PySem.W.findIn K (.ref C) "__getattribute__" = some (some (.builtin "BaseException.__getattribute__"))) (gg : PySem.W.findIn K (.ref C) "__getattr__" = some none) (nb : PySem.W.findIn K (.ref C) "number" = some none)
    (a1 : PySem.W.findIn K (.ref C) "__init__" = some (some (.ref f1))) (t1 : PySem.W.typeIn K (.ref f1) = some (.type "function"))
    (l1 : K.lookup f1 = some ⟨oc1, od1, .func (PySem.W.fnOf "__init__" "InvalidLine.__init__" (PySem.ErrX.iA p1 p2) (PySem.ErrX.iB q1 q2 q3 q4) PySem.ErrX.iS .none .none dc1 pm1 an1 cd1 ct1), sl1⟩) (c1 : PySem.W.codeIn K cd1 "InvalidLine.__init__" = true)
    (kC : PySem.W.keepIn K (.ref C) = true) (eC : PySem.W.subIn K (.ref C) (.type "BaseException") = some true) (tC : PySem.W.typeIn K (.ref C) = some (.type "type")) (hC : PySem.W.hasDictIn K C = true) (iC : PySem.W.isClsIn K C = true) (sC : PySem.W.subIn K (.ref C) (.ref C) = some true) : DE K :=
  ⟨C, f1, aC, fun mg gC => { gC := gC, cls := ⟨nm, q, N, bs, _, sn, sub, ab, col, dd, m0, m1, m2, m3, m5, xL, rfl⟩, sa := sa, ga := ga, gg := gg, noN := nb, iC := a1, tC := t1, kC := kC, exC := eC, tyC := tC, hdC := hC, te := exm_self eC iC tC sC, fn := ⟨_, _, _, _, _, _, _, _, _, _, _, _, _, _, l1, c1⟩ }⟩
/-- one of a list, each -/
def Each {α : Type u} (p : α → Prop) : List α → Prop
  | [] => True
  | x :: r => p x ∧ Each p r
theorem Each.get {α : Type u} {p : α → Prop} : ∀ {l : List α}, Each p l → ∀ x ∈ l, p x
  | [], _, x, h => by simp at h
  | y :: r, h, x, hx => by
    rcases List.mem_cons.mp hx with rfl | hx
    · exact h.1
    · exact Each.get h.2 x hx
/-- the names of a def's slots -/
def namesOk (N : List Str) : Bool := decide N.Nodup && N.all fun x => !(x == ("__debug__" : Str)) && !(x == ("__classdict__" : Str))
/-- its scope -/
def scopeOk (N ps : List Str) (sc : Scope) : Bool := decide (sc.kind = .function) && !sc.isCoroutine && !sc.isGenerator && namesOk N && decide (N.take ps.length = ps) &&
  (ps.all fun x => decide (sc.names.lookup x = some .local) || decide (sc.names.lookup x = some .cell)) && sc.names.all fun y => decide (y.2 ≠ .free)
theorem scope_of {N ps : List Str} {sc : Scope} (h : scopeOk N ps sc = true) : FnScope N ps sc ∧ N.Nodup ∧ (∀ x ∈ N, (x == ("__debug__" : Str)) = false ∧ (x == ("__classdict__" : Str)) = false) := by
  unfold scopeOk at h
  obtain ⟨h, h7⟩ := b2 h
  obtain ⟨h, h6⟩ := b2 h
  obtain ⟨h1, h2, h3, h4, h5⟩ := b5 h
  obtain ⟨h4, h8⟩ := b2 (show (decide N.Nodup && N.all fun x => !(x == ("__debug__" : Str)) && !(x == ("__classdict__" : Str))) = true from h4)
  have h4 := of_decide_eq_true h4
  refine ⟨⟨of_decide_eq_true h1, by simpa using h2, by simpa using h3, h4, of_decide_eq_true h5, fun x hx => ?_, fun y hy => ?_⟩, h4, fun x hx => ?_⟩
  · have := List.all_eq_true.mp h6 x hx
    simpa using this
  · have := List.all_eq_true.mp h7 y hy
    exact of_decide_eq_true this
  · have := List.all_eq_true.mp h8 x hx
    simpa using this
section
variable {P : Program} {w : World} {K : PySem.W.Frag} {mg : Str → Option Value} {base : Heap} {XR : XRel}
theorem fn_ok {x : Str} {st : Stmt} {f : Addr} {fd : FuncData} {N ps : List Str} {k n : Nat} {sp : Sp3} {G : GT} {body : List Sx} (F : Fun K x x st f fd) (hs : scopeOk N ps (defScope st) = true) (hn : ps.length = n)
    (fns : Each (fun e => Cal P w K mg base XR k e.1 e.2.1 e.2.2) G.fns) (cst : Each (fun e => ∃ v u, mg e.1 = some u ∧ RelV v u ∧ ∀ M H, Rp K M H e.2 v) G.cst) (bn : Each (fun x => mg x = none) G.bn)
    (er : G.er = true → ∃ C fI, PySem.ErrX.ErrTxt K mg C fI ∧ PySem.W.nsIn K mainGlobals "InvalidLine" = some (some (.ref C))) (xr : G.er = true → XR = XRof K)
    (chk : chkSs G N (defScope st) body (defBody st) = true) (pure : ∀ ds M Q E, ds.length = n → sp ds M Q E → wpss G E body (bodyEnds Q) (startE N.length ds) M) :
    FnOk P w K mg base (L2.CX P w) (k + 1) f fd ps (liftSp K XR n sp) := by
  obtain ⟨S, nd, nm⟩ := scope_of hs
  refine def_ok F S hn fun cdv A outer s H E M E3 hr cx => ⟨wpss G E3 body, ?_, fun ds Q3 hl h => pure ds M Q3 E3 hl h⟩
  refine sSs (sc := defScope st) (k := k) (XR := XR) body ?_ ?_ ⟨passes_of rfl, rfl, rfl⟩ chk
  · exact ⟨rfl, rfl, rfl, nd, nm, hr, fun _ _ => rfl, fun _ _ _ h => h, fun x n sp h => fns.get _ h, fun x d h => cst.get _ h, bn.get, out_body cx, er, xr⟩
  · show (if (defScope st).kind.isAnnotationScope then ScopeKind.function else (defScope st).kind) = .function
    rw [S.kind]; rfl
/-- a def of the module, by its text and its reading -/
theorem cal_mk {h : Heap} (X : K.In h) (g : h.Ns mainGlobals mg) {x : Str} {st : Stmt} {N ps : List Str} {k n : Nat} {sp : Sp3} {G : GT} {body : List Sx} (d : DF K x st) (hs : scopeOk N ps (defScope st) = true) (hn : ps.length = n)
    (hb : ∀ (kV doc pm : Value) (an : Option Addr) (cdv ct : Value) (us : List Value), us.length = ps.length → bindArgs (PySem.W.fnOf x x (defArgs st) (defBody st) (defScope st) .none kV doc pm an cdv ct) ⟨us, []⟩ = pure (ps.zip us))
    (fns : Each (fun e => Cal P w K mg base XR k e.1 e.2.1 e.2.2) G.fns) (cst : Each (fun e => DC K e.1 e.2) G.cst) (bn : Each (fun x => DB K x) G.bn) (er : G.er = true → DE K ∧ XR = XRof K)
    (chk : chkSs G N (defScope st) body (defBody st) = true) (pure : ∀ ds M Q E, ds.length = n → sp ds M Q E → wpss G E body (bodyEnds Q) (startE N.length ds) M) : Cal P w K mg base XR (k + 1) x n sp := by
  obtain ⟨f, fd, a, F⟩ := d
  refine ⟨f, fd, ps, fn_ok F hs hn fns ?_ ?_ (fun z => (er z).1.get X g) (fun z => (er z).2) chk pure, PySem.W.mg_of X g a, F.kp, F.binds hb, hn⟩
  · exact each_imp cst fun e ⟨v, u, h1, h2, h3⟩ => ⟨v, u, PySem.W.mg_of X g h1, h2, h3⟩
  · exact each_imp bn fun e h => PySem.W.mg_none_of X g h
where
  each_imp {α : Type} {p q : α → Prop} : ∀ {l : List α}, Each p l → (∀ x, p x → q x) → Each q l
    | [], _, _ => trivial
    | x :: r, h, f => ⟨f x h.1, each_imp h.2 f⟩
/-- the same, of the law's def -/
theorem law_mk {h : Heap} (X : K.In h) (g : h.Ns mainGlobals mg) {x : Str} {st : Stmt} {f : Addr} {fd : FuncData} {N ps : List Str} {k n : Nat} {sp : Sp3} {G : GT} {body : List Sx} (F : Fun K x x st f fd) (hs : scopeOk N ps (defScope st) = true) (hn : ps.length = n)
    (fns : Each (fun e => Cal P w K mg base XR k e.1 e.2.1 e.2.2) G.fns) (cst : Each (fun e => DC K e.1 e.2) G.cst) (bn : Each (fun x => DB K x) G.bn) (er : G.er = true → DE K ∧ XR = XRof K)
    (chk : chkSs G N (defScope st) body (defBody st) = true) (pure : ∀ ds M Q E, ds.length = n → sp ds M Q E → wpss G E body (bodyEnds Q) (startE N.length ds) M) : FnOk P w K mg base (L2.CX P w) (k + 1) f fd ps (liftSp K XR n sp) := by
  refine fn_ok F hs hn fns ?_ ?_ (fun z => (er z).1.get X g) (fun z => (er z).2) chk pure
  · exact cal_mk.each_imp cst fun e ⟨v, u, h1, h2, h3⟩ => ⟨v, u, PySem.W.mg_of X g h1, h2, h3⟩
  · exact cal_mk.each_imp bn fun e h => PySem.W.mg_none_of X g h
theorem Each.cal {k j : Nat} : ∀ {l : List (Str × Nat × Sp3)}, Each (fun e => Cal P w K mg base XR j e.1 e.2.1 e.2.2) l → j ≤ k → Each (fun e => Cal P w K mg base XR k e.1 e.2.1 e.2.2) l
  | [], _, _ => trivial
  | x :: r, h, f => ⟨h.1.mono f, Each.cal h.2 f⟩
end
/-- nothing is marked -/
def M00 : MH := fun _ => none
/-- THE END: the law's def, at a script -/
theorem law_end {l : PySem.W.OpenLaw} {n k : Nat} {q : Program} {loose : List Str} {XP : (Str → Option Value) → Heap → Prop} {YP : World → Heap → Prop} {d : DefRec} {K : Params → PySem.W.Frag} {XR : World → XRel} {sp : Sp3} {st : Stmt}
    (hd : d.name = "law") (hn : l.most = some n) (hn2 : n ≤ sizeLine) (hdf : d.params.defaults = []) (hr : Room k callerA) (hY : ∀ (w : World) (h : Heap), YP w h → (K w.params).In h)
    (hb : ∀ (s : Shared) (u kV doc pm : Value) (an : Option Addr) (cdv ct : Value), BindsTo s (PySem.W.fnOf "law" "law" (defArgs st) (defBody st) (defScope st) .none kV doc pm an cdv ct) ⟨[u], []⟩ [("script", u)])
    (dd : ∀ w : World, DF (K w.params) "law" st)
    (C : ∀ (w : World) (mg : Str → Option Value) (base h : Heap), (K w.params).In h → h.Ns mainGlobals mg → ∀ f fd, Fun (K w.params) "law" "law" st f fd → FnOk l.prog w (K w.params) mg base (L2.CX l.prog w) k f fd ["script"] (liftSp (K w.params) (XR w) 1 sp))
    (hsp : ∀ ns : List Int, ns.length ≤ n → sp [.flst (ns.map D.int)] M00 (fun v _ => v = .bl true) noX) : PySem.W.WalkO q loose XP YP l.row.toRowW d [] (fun f vs => PySem.call f vs) := by
  refine L2.walk_of (l := l) (n := n) (k := k) (x := "script") (K := K) (CX := fun w => L2.CX l.prog w) (sp := fun w => liftSp (K w.params) (XR w) 1 sp) hn hn2 hdf hr hY ?_ ?_ ?_
  · intro w mg fa h KX G hmg
    rw [hd] at hmg
    obtain ⟨f1, fd, a, F⟩ := dd w
    have e := hmg.symm.trans (PySem.W.mg_of KX G a)
    cases e
    refine ⟨fd, ?_, fun base _ _ => C w mg base h KX G _ fd F⟩
    obtain ⟨oc, od, kV, doc, pm, an, cdv, ct, osl, rfl, lk, hcd⟩ := F.ex
    exact fun s u => hb s u kV doc pm an cdv ct
  · intro w H a ns hl hO hS
    refine ⟨[.flst (ns.map D.int)], M00, fun v _ => v = .bl true, noX, rfl, ?_, ?_, hsp ns hl, ?_, ?_⟩
    · refine RpL.one ⟨a, ns.map V.int, rfl, ?_, ?_⟩
      · rcases hS with (hS | ⟨o, hS⟩) | hS
        · rcases hO a with h0 | ⟨o, xs, h0⟩
          · rw [h0] at hS; cases hS
          · rw [h0] at hS; cases hS
        · exact .inl ⟨o, rfl, hS⟩
        · exact .inr hS
      · clear hl hS
        induction ns with
        | nil => rfl
        | cons x r ih => exact ⟨.int x, r.map V.int, rfl, rfl, ih⟩
    · intro a o h; cases h
    · intro d M' v H' e r _ _
      have e : d = .bl true := e
      subst e
      exact r
    · intro x M' H' cls d h; exact h.elim
  · intro w H s e s' h
    obtain ⟨_, _, _, _, _, _, _, _, _, _, _, _, z⟩ := h
    exact z.elim
end Z

namespace Z
open PySem PySem.Spec PyProof.Rows L2

theorem rt_same {Q : Q3} {d : D} {M : MH} (h : Q d M) : RT Q d M := ⟨M, Sub.refl M, h⟩
theorem rt_sub {Q : Q3} {d : D} {M M' : MH} (s : Sub M' M) (h : Q d M') : RT Q d M := ⟨M', s, h⟩
def noXR : XRel := fun _ _ _ _ _ => False
/-! ### loops -/
theorem turns_inv {tg : Tg} {body : TS3} {Z : Ends3} (I : List D → En → MH → Prop)
    (step : ∀ x r e M (nx : En → MH → Prop), I (x :: r) e M → (∀ e' M', I r e' M' → nx e' M') → ∃ e1, bindT tg x e = some e1 ∧ body { nx := nx, rt := Z.rt, bk := Z.nx, ct := nx } e1 M)
    (done : ∀ e M, I [] e M → Z.nx e M) : ∀ (items : List D) (e : En) (M : MH), I items e M → turns3 tg body Z items e M
  | [], e, M, h => done e M h
  | x :: r, e, M, h => by
    obtain ⟨e1, h1, h2⟩ := step x r e M (turns3 tg body Z r) h fun e' M' h' => turns_inv I step done r e' M' h'
    show match bindT tg x e with
      | some e1 => body { nx := turns3 tg body Z r, rt := Z.rt, bk := Z.nx, ct := turns3 tg body Z r } e1 M
      | none => False
    rw [h1]
    exact h2
theorem while_inv {c : TB3} {body : TS3} {D0 : Ends3} (I : Nat → En → MH → Prop)
    (step : ∀ n e M (nx : En → MH → Prop), I n e M → (∀ m e' M', m < n → I m e' M' → nx e' M') → c e M fun b M1 => match b with | true => body { nx := nx, rt := D0.rt, bk := D0.nx, ct := nx } e M1 | false => D0.nx e M1) {n : Nat} {e : En} {M : MH} (h : I n e M) : while3 c body D0 e M := by
  refine ⟨n + 1, ?_⟩
  have key : ∀ k n e M, n < k → I n e M → whileN c body D0 k e M := by
    intro k
    induction k with
    | zero => intro n e M h; omega
    | succ k ih => exact fun n e M hn h => step n e M (whileN c body D0 k) h fun m e' M' hm h' => ih m e' M' (by omega) h'
  exact key (n + 1) n e M (by omega) h
theorem compW_inv {tg : Tg} {tt : TB3} {te : T3} {e : En} {p : Addr} {K : List D → MH → Prop} (I : List D → List D → MH → Prop)
    (step : ∀ x r acc M (k : List D → MH → Prop), I (x :: r) acc M → (∀ acc' M', I r acc' M' → k acc' M') → ∃ e1, bindT tg x e = some e1 ∧ tt e1 M fun b M2 => match b with
      | true => te e1 M2 fun y M3 => M3 p = some (.lst acc) ∧ k (acc ++ [y]) (up M3 p (.lst (acc ++ [y])))
      | false => k acc M2)
    (done : ∀ acc M, I [] acc M → M p = some (.lst acc) ∧ K acc M) : ∀ (items acc : List D) (M : MH), I items acc M → compW tg tt te e p K items acc M
  | [], acc, M, h => done acc M h
  | x :: r, acc, M, h => by
    obtain ⟨e1, h1, h2⟩ := step x r acc M (compW tg tt te e p K r) h fun acc' M' h' => compW_inv I step done r acc' M' h'
    show match bindT tg x e with
      | some e1 => tt e1 M fun b M2 => match b with
        | true => te e1 M2 fun y M3 => M3 p = some (.lst acc) ∧ compW tg tt te e p K r (acc ++ [y]) (up M3 p (.lst (acc ++ [y])))
        | false => compW tg tt te e p K r acc M2
      | none => False
    rw [h1]
    exact h2
/-- a loop that gathers -/
theorem turns_acc {tg : Tg} {body : TS3} {Z : Ends3} {R : List D → En → MH → Prop} (f : D → List D) (c B : Nat) : ∀ (items : List D) (acc : List D) (e : En) (M : MH)
    (_ : ∀ x ∈ items, (f x).length ≤ c) (_ : acc.length + items.length * c ≤ B)
    (_ : ∀ x ∈ items, ∀ acc e M (nx : En → MH → Prop), acc.length + c ≤ B → R acc e M → (∀ e' M', R (acc ++ f x) e' M' → nx e' M') → ∃ e1, bindT tg x e = some e1 ∧ body { nx := nx, rt := Z.rt, bk := Z.nx, ct := nx } e1 M)
    (_ : R acc e M) (_ : ∀ e' M', R (acc ++ items.flatMap f) e' M' → Z.nx e' M'), turns3 tg body Z items e M
  | [], acc, e, M, _, _, _, h, done => done e M (by simpa using h)
  | x :: r, acc, e, M, hc, hB, step, h, done => by
    rw [List.length_cons, Nat.add_mul, Nat.one_mul] at hB
    have hx := hc x (by simp)
    obtain ⟨e1, h1, h2⟩ := step x (by simp) acc e M (turns3 tg body Z r) (by omega) h fun e' M' h' => turns_acc f c B r (acc ++ f x) e' M' (fun y hy => hc y (List.mem_cons_of_mem _ hy)) (by rw [List.length_append]; omega)
      (fun y hy => step y (List.mem_cons_of_mem _ hy)) h' fun e2 M2 h2 => done e2 M2 (by simpa [List.append_assoc] using h2)
    show match bindT tg x e with
      | some e1 => body { nx := turns3 tg body Z r, rt := Z.rt, bk := Z.nx, ct := turns3 tg body Z r } e1 M
      | none => False
    rw [h1]
    exact h2
/-- each item by a test and a value, nothing else touched -/
theorem compW_fm {tg : Tg} {tt : TB3} {te : T3} {e : En} {p : Addr} {K : List D → MH → Prop} {M : MH} (b : D → Bool) (f : D → D) : ∀ (items acc : List D)
    (_ : ∀ x ∈ items, ∃ e1, bindT tg x e = some e1 ∧ (∀ l (k : Bool → MH → Prop), k (b x) (up M p (.lst l)) → tt e1 (up M p (.lst l)) k) ∧ (b x = true → ∀ l (k : Q3), k (f x) (up M p (.lst l)) → te e1 (up M p (.lst l)) k))
    (_ : K (acc ++ (items.filter b).map f) (up M p (.lst (acc ++ (items.filter b).map f)))), compW tg tt te e p K items acc (up M p (.lst acc))
  | [], acc, h, q => ⟨up_same, by simpa using q⟩
  | x :: r, acc, h, q => by
    obtain ⟨e1, h1, h2, h3⟩ := h x (by simp)
    show match bindT tg x e with
      | some e1 => tt e1 (up M p (.lst acc)) fun b M2 => match b with
        | true => te e1 M2 fun y M3 => M3 p = some (.lst acc) ∧ compW tg tt te e p K r (acc ++ [y]) (up M3 p (.lst (acc ++ [y])))
        | false => compW tg tt te e p K r acc M2
      | none => False
    rw [h1]
    refine h2 _ _ ?_
    have ih := fun acc' => compW_fm (K := K) b f r acc' fun y hy => h y (List.mem_cons_of_mem _ hy)
    cases hb : b x with
    | true =>
      refine h3 hb _ _ ⟨up_same, ?_⟩
      rw [up_up]
      refine ih _ ?_
      simpa [List.filter_cons, hb] using q
    | false =>
      refine ih _ ?_
      simpa [List.filter_cons, hb] using q
theorem comp3_fm {it : TL3} {tg : Tg} {tt : TB3} {te : T3} {own : List Nat} {e : En} {M : MH} {Q : Q3} {items : List D} (b : D → Bool) (f : D → D) (hit : ∀ k : List D → MH → Prop, k items M → it e M k)
    (h : ∀ x ∈ items, ∃ e1, bindT tg x (wipeE e own) = some e1 ∧ ∀ p l, M p = none → (∀ (k : Bool → MH → Prop), k (b x) (up M p (.lst l)) → tt e1 (up M p (.lst l)) k) ∧ (b x = true → ∀ (k : Q3), k (f x) (up M p (.lst l)) → te e1 (up M p (.lst l)) k))
    (q : Q (.lst ((items.filter b).map f)) M) : comp3 false it tg tt te own e M Q := by
  refine hit _ fun p hp => ?_
  refine compW_fm b f items [] (fun x hx => ?_) ?_
  · obtain ⟨e1, h1, h2⟩ := h x hx
    exact ⟨e1, h1, fun l => (h2 p l hp).1, fun hb l => (h2 p l hp).2 hb⟩
  · rw [List.nil_append]
    show Q _ (er (up M p _) p)
    rw [er_up hp]
    exact q
theorem comp3_map {it : TL3} {tg : Tg} {te : T3} {own : List Nat} {e : En} {M : MH} {Q : Q3} {items : List D} (f : D → D) (hit : ∀ k : List D → MH → Prop, k items M → it e M k)
    (h : ∀ x ∈ items, ∃ e1, bindT tg x (wipeE e own) = some e1 ∧ ∀ p l, M p = none → ∀ (k : Q3), k (f x) (up M p (.lst l)) → te e1 (up M p (.lst l)) k)
    (q : Q (.lst (items.map f)) M) : comp3 false it tg yes3 te own e M Q := by
  refine comp3_fm (fun _ => true) f hit (fun x hx => ?_) (by rw [List.filter_eq_self.mpr fun _ _ => rfl]; exact q)
  obtain ⟨e1, h1, h2⟩ := h x hx
  exact ⟨e1, h1, fun p l hp => ⟨fun k hk => hk, fun _ => h2 p l hp⟩⟩
/-! ### types -/
def isInt : D → Bool | .int _ => true | _ => false
/-- plain at sight -/
def pln : D → Bool | .non | .bl _ | .int _ | .str _ | .tp _ _ | .lst _ => true | _ => false
/-- plain through and through -/
def dpl : D → Bool
  | .non => true
  | .bl _ => true
  | .int _ => true
  | .str x => PyData.strOk x && decide (x.length ≤ sizeLine)
  | .tp .t ds => dplL ds
  | .lst ds => dplL ds
  | _ => false
where dplL : List D → Bool
  | [] => true
  | d :: r => dpl d && dplL r
theorem dplL_all : ∀ ds : List D, dpl.dplL ds = ds.all dpl
  | [] => by simp [dpl.dplL]
  | d :: r => by simp [dpl.dplL, dplL_all r]
theorem dpl_pln {d : D} (h : dpl d = true) : pln d = true := by
  cases d <;> first | rfl | (simp [dpl] at h)
theorem pln_rd {d : D} {M : MH} (h : pln d = true) : rdL M d = d := by
  cases d <;> first | rfl | (simp [pln] at h)
theorem isTy_int {d : D} {M : MH} (h : pln d = true) : isTy M d .tint = some (match d with | .int _ => true | .bl _ => true | _ => false) := by
  cases d <;> first | rfl | (simp [pln] at h)
theorem isTy_bool {d : D} {M : MH} (h : pln d = true) : isTy M d .tbool = some (match d with | .bl _ => true | _ => false) := by
  cases d <;> first | rfl | (simp [pln] at h)
theorem isTy_str {d : D} {M : MH} (h : pln d = true) : isTy M d .tstr = some (match d with | .str _ => true | _ => false) := by
  cases d <;> first | rfl | (simp [pln] at h)
theorem isTy_tup {d : D} {M : MH} (h : pln d = true) : isTy M d .ttup = some (match d with | .tp _ _ => true | _ => false) := by
  cases d <;> first | rfl | (simp [pln] at h)
theorem blsOf_mapF {α : Type} (b : α → Bool) : ∀ xs : List α, blsOf (xs.map fun x => D.bl (b x)) = some (xs.map b)
  | [] => rfl
  | x :: r => by
    show (match blsOf (r.map fun x => D.bl (b x)) with | some bs => some (b x :: bs) | none => none) = _
    rw [blsOf_mapF b r]; rfl
theorem allA_map {α : Type} {M : MH} (b : α → Bool) (xs : List α) : allA M (.lst (xs.map fun x => D.bl (b x))) = some (.bl (xs.all b)) := by
  unfold allA
  show (match blsOf (xs.map fun x => D.bl (b x)) with | some bs => some (D.bl (bs.all id)) | none => none) = _
  rw [blsOf_mapF]
  simp [List.all_map, Function.comp_def]
theorem anyA_map {α : Type} {M : MH} (b : α → Bool) (xs : List α) : anyA M (.lst (xs.map fun x => D.bl (b x))) = some (.bl (xs.any b)) := by
  unfold anyA
  show (match blsOf (xs.map fun x => D.bl (b x)) with | some bs => some (D.bl (bs.any id)) | none => none) = _
  rw [blsOf_mapF]
  simp [List.any_map, Function.comp_def]
/-! ### orders -/
/-- may stand in an order, by itself -/
def ordD (d : D) : Bool := notNon d && pd 60 d
theorem pd_pln {d : D} {n : Nat} (h : pd n d = true) : pln d = true := by
  cases d <;> first | rfl | (cases n <;> simp [pd] at h)
theorem lt3_ok {x y : D} {M : MH} {Q : Q3} (hx : ordD x = true) (hy : ordD y = true) (hl : likeD x y = true) (q : Q (.bl (ltD x y)) M) : lt3 x y M Q := by
  obtain ⟨x1, x2⟩ := b2 hx
  obtain ⟨y1, y2⟩ := b2 hy
  unfold lt3
  split
  · simpa [ltD] using q
  · rw [pln_rd (pd_pln x2), pln_rd (pd_pln y2)]
    refine ⟨?_, q⟩
    unfold ltOk
    rw [pln_rd (pd_pln x2), pln_rd (pd_pln y2), hl, x1, x2, y2]; rfl
theorem le3_ok {x y : D} {M : MH} {Q : Q3} (hx : ordD x = true) (hy : ordD y = true) (hl : likeD x y = true) (q : Q (.bl (!ltD y x)) M) : le3 x y M Q := by
  obtain ⟨x1, x2⟩ := b2 hx
  obtain ⟨y1, y2⟩ := b2 hy
  unfold le3
  split
  · rename_i i j
    have : decide (i ≤ j) = !decide (j < i) := by
      by_cases h : i ≤ j
      · rw [decide_eq_true h, decide_eq_false (by omega)]; rfl
      · rw [decide_eq_false h, decide_eq_true (by omega)]; rfl
    rw [this]
    simpa [ltD] using q
  · rw [pln_rd (pd_pln x2), pln_rd (pd_pln y2)]
    refine ⟨?_, q⟩
    unfold ltOk
    rw [pln_rd (pd_pln x2), pln_rd (pd_pln y2), hl, x1, x2, y2]; rfl
def ascB : List D → Bool
  | x :: y :: r => ltD x y && ascB (y :: r)
  | _ => true
theorem rngD_mem {lo : Int} {x : D} : ∀ {n : Nat}, x ∈ rngD lo n → ∃ i : Nat, i < n ∧ x = .int (lo + i) := by
  intro n h
  obtain ⟨i, hi, e⟩ := List.mem_iff_getElem.mp h
  rw [rngD_len] at hi
  have := rngD_get lo n i hi
  rw [List.getElem?_eq_getElem (by rw [rngD_len]; exact hi)] at this
  exact ⟨i, hi, by rw [← e]; exact Option.some.inj this⟩
theorem rngD_eq : ∀ (n lo : Nat), rngD (lo : Int) n = (List.range' lo n).map fun i => D.int (i : Nat)
  | 0, lo => rfl
  | n + 1, lo => by
    show D.int (lo : Nat) :: rngD ((lo : Int) + 1) n = _
    rw [List.range'_succ, List.map_cons]
    have : ((lo : Int) + 1) = ((lo + 1 : Nat) : Int) := by omega
    rw [this, rngD_eq n (lo + 1)]
theorem rngD0 (n : Nat) : rngD 0 n = (List.range n).map fun i => D.int (i : Nat) := by
  rw [show (0 : Int) = ((0 : Nat) : Int) from rfl, rngD_eq, List.range_eq_range']
theorem ascB_range : ∀ ds : List D, ((List.range (ds.length - 1)).all fun i => match ds[i]?, ds[i + 1]? with | some x, some y => ltD x y | _, _ => false) = ascB ds
  | [] => rfl
  | [_] => rfl
  | x :: y :: r => by
    have ih := ascB_range (y :: r)
    show ((List.range (r.length + 1)).all _) = _
    rw [List.range_succ_eq_map, List.all_cons, List.all_map]
    show (ltD x y && _) = (ltD x y && ascB (y :: r))
    rw [← ih]
    rfl
theorem atI_get {α : Type} {xs : List α} {i : Nat} (h : i < xs.length) : atI xs (i : Nat) = xs[i]? := by
  rw [List.getElem?_eq_getElem h]
  exact atI_nat (List.getElem?_eq_getElem h)
theorem truA_bl {M : MH} {b : Bool} : truA M (.bl b) = some b := rfl
theorem lenA_tp {M : MH} {k : TK} {ds : List D} : lenA M (.tp k ds) = some (.int ds.length) := rfl
theorem lenA_lst {M : MH} {ds : List D} : lenA M (.lst ds) = some (.int ds.length) := rfl
theorem lenA_ref {M : MH} {a : Addr} {ds : List D} (h : M a = some (.lst ds)) : lenA M (.ref a) = some (.int ds.length) := by
  show (match seqM M (.ref a) with | some ds => some (D.int ds.length) | none => none) = _
  have : seqM M (.ref a) = some ds := by
    show (match M a with | some (.lst ds) => some ds | _ => none) = some ds
    rw [h]
  rw [this]
theorem app_ok {te : TL3} {e : En} {M : MH} {Q : Q3} {i : Nat} {a : Addr} {ds : List D} {x : D} (he : getE e i = some (.ref a)) (ht : ∀ k : List D → MH → Prop, k [x] M → te e M k) (hm : M a = some (.lst ds)) (hl : ds.length < sizeLine) (q : Q .non (up M a (.lst (ds ++ [x])))) : mth3 .append (loc3 i) te e M Q := by
  unfold mth3 loc3
  rw [he]
  dsimp only
  refine ⟨?_, ht _ ?_⟩
  · show (match M a with | some (.lst ds) => some ds | _ => none).isSome = true
    rw [hm]; rfl
  · have : mthA .append M (.ref a) [x] = some (.non, up M a (.lst (ds ++ [x]))) := by
      show (match M a with
        | some (.lst ds) => if ds.length < sizeLine then some (D.non, up M a (.lst (ds ++ [x]))) else none
        | _ => none) = _
      rw [hm]
      exact if_pos hl
    rw [this]
    exact q
/-! ### draws: one marked thing moves on -/
def All2 {α β : Type} (ok : α → β → Prop) : List α → List β → Prop
  | [], [] => True
  | x :: xs, y :: ys => ok x y ∧ All2 ok xs ys
  | _, _ => False
theorem All2.len {α β : Type} {ok : α → β → Prop} : ∀ {xs : List α} {ys : List β}, All2 ok xs ys → ys.length = xs.length
  | [], [], _ => rfl
  | x :: xs, y :: ys, h => by rw [List.length_cons, List.length_cons, All2.len h.2]
  | [], _ :: _, h => h.elim
  | _ :: _, [], h => h.elim
theorem All2.snoc {α β : Type} {ok : α → β → Prop} {x : α} {y : β} (hxy : ok x y) : ∀ {xs : List α} {ys : List β}, All2 ok xs ys → All2 ok (xs ++ [x]) (ys ++ [y])
  | [], [], _ => ⟨hxy, trivial⟩
  | x :: xs, y :: ys, h => ⟨h.1, All2.snoc hxy h.2⟩
  | [], _ :: _, h => h.elim
  | _ :: _, [], h => h.elim
theorem All2.mem {α β : Type} {ok : α → β → Prop} : ∀ {xs : List α} {ys : List β}, All2 ok xs ys → ∀ y ∈ ys, ∃ x ∈ xs, ok x y
  | [], [], _, y, h => by simp at h
  | x :: xs, z :: ys, h, y, hy => by
    rcases List.mem_cons.mp hy with rfl | hy
    · exact ⟨x, by simp, h.1⟩
    · obtain ⟨w, h1, h2⟩ := All2.mem h.2 y hy
      exact ⟨w, List.mem_cons_of_mem _ h1, h2⟩
  | [], _ :: _, h, _, _ => h.elim
  | _ :: _, [], h, _, _ => h.elim
theorem up_self {M : MH} {a : Addr} {o : MO} (h : M a = some o) : up M a o = M := by
  funext b
  unfold up
  by_cases e : b = a
  · rw [if_pos e, e, h]
  · rw [if_neg e]
theorem up_swap {M : MH} {a b : Addr} {o u : MO} (h : a ≠ b) : up (up M a o) b u = up (up M b u) a o := by
  funext c
  unfold up
  by_cases e1 : c = b
  · by_cases e2 : c = a
    · exact absurd (e2.symm.trans e1) h
    · rw [if_pos e1, if_neg e2, if_pos e1]
  · by_cases e2 : c = a
    · rw [if_neg e1, if_pos e2, if_pos e2]
    · rw [if_neg e1, if_neg e2, if_neg e2, if_neg e1]
/-- a thing at a, of a kind -/
def At (M : MH) (a : Addr) (S : MO → Prop) : Prop := ∃ o, M a = some o ∧ S o
theorem At.up {M : MH} {a : Addr} {S : MO → Prop} {o : MO} (h : S o) : At (Z.up M a o) a S := ⟨o, up_same, h⟩
/-- what else is marked stays -/
def Rest (M M' : MH) (a : Addr) : Prop := ∀ b, b ≠ a → M b ≠ none → M' b = M b
theorem compW_draw {tg : Tg} {te : T3} {e : En} {p a : Addr} {K : List D → MH → Prop} {M : MH} {S : MO → Prop} (ok : D → D → Prop) {items : List D} (hp : M p = none) (ha : At M a S)
    (h : ∀ x ∈ items, ∃ e1, bindT tg x e = some e1 ∧ ∀ M', At M' a S → Rest M M' a → ∀ k : Q3, (∀ y o, ok x y → S o → k y (up M' a o)) → te e1 M' k)
    (q : ∀ ys o, All2 ok items ys → S o → K ys (up (up M a o) p (.lst ys))) : compW tg yes3 te e p K items [] (up M p (.lst [])) := by
  obtain ⟨o0, h0, s0⟩ := ha
  have hpa : p ≠ a := fun z => by rw [z, h0] at hp; cases hp
  refine compW_inv (fun r acc M' => ∃ done o, items = done ++ r ∧ All2 ok done acc ∧ S o ∧ M' = up (up M a o) p (.lst acc)) ?_ ?_ items [] _ ⟨[], o0, rfl, trivial, s0, by rw [up_self h0]⟩
  · rintro x r acc _ k ⟨done, o, hi, ha2, so, rfl⟩ hk
    obtain ⟨e1, h1, h2⟩ := h x (by rw [hi]; simp)
    refine ⟨e1, h1, h2 _ ⟨o, by rw [up_ne hpa.symm, up_same], so⟩ (fun b hb hn => ?_) _ fun y o' hy so' => ⟨?_, ?_⟩⟩
    · have hbp : b ≠ p := fun z => by rw [z] at hn; exact hn hp
      rw [up_ne hbp, up_ne hb]
    · rw [up_ne hpa, up_same]
    · refine hk _ _ ⟨done ++ [x], o', by rw [hi]; simp, ha2.snoc hy, so', ?_⟩
      rw [up_swap hpa, up_up, up_up]
  · rintro acc _ ⟨done, o, hi, ha2, so, rfl⟩
    rw [List.append_nil] at hi
    subst hi
    exact ⟨up_same, q acc o ha2 so⟩
theorem comp3_draw {it : TL3} {tg : Tg} {te : T3} {own : List Nat} {e : En} {M : MH} {Q : Q3} {items : List D} {a : Addr} {S : MO → Prop} (ok : D → D → Prop) (ha : At M a S) (hit : ∀ k : List D → MH → Prop, k items M → it e M k)
    (h : ∀ x ∈ items, ∃ e1, bindT tg x (wipeE e own) = some e1 ∧ ∀ M', At M' a S → Rest M M' a → ∀ k : Q3, (∀ y o, ok x y → S o → k y (up M' a o)) → te e1 M' k)
    (q : ∀ ys o, All2 ok items ys → S o → Q (.lst ys) (up M a o)) : comp3 false it tg yes3 te own e M Q := by
  refine hit _ fun p hp => compW_draw ok hp ha h fun ys o h1 h2 => ?_
  show Q (.lst ys) (er (up (up M a o) p _) p)
  obtain ⟨o0, h0, s0⟩ := ha
  have hpa : p ≠ a := fun z => by rw [z, h0] at hp; cases hp
  rw [er_up (by rw [up_ne hpa]; exact hp)]
  exact q ys o h1 h2
theorem asc_of {ds : List D} (h : ds.Pairwise fun x y => ltD x y = true) : ascB ds = true := by
  induction ds with
  | nil => rfl
  | cons x r ih =>
    cases r with
    | nil => rfl
    | cons y r =>
      rw [List.pairwise_cons] at h
      show (ltD x y && ascB (y :: r)) = true
      rw [h.1 y (by simp), ih h.2]; rfl
theorem Each.nil {α : Type u} {p : α → Prop} : Each p [] := trivial
theorem Each.cons {α : Type u} {p : α → Prop} {x : α} {r : List α} (h : p x) (t : Each p r) : Each p (x :: r) := ⟨h, t⟩
end Z

/-! V1: a reading by functions: values, the store, results; operators. -/
namespace Z
open PySem PySem.Spec PyProof.Rows L2

/-- plain data, or a mutable thing by its number -/
inductive W where
  | v (d : D)
  | r (i : Nat)
  deriving Inhabited
abbrev WEn := List (Option W)
inductive VO where
  | lst (ds : List D)
  | dK (kvs : List (Key × W))
  | dT (kvs : List (List Key × W))
  | ins (C : Addr) (fs : List (Str × W))
  deriving Inhabited
abbrev Sto := List (Option VO)
def getS (S : Sto) (i : Nat) : Option VO := (S[i]?).join
inductive Rs (α : Type) where
  | ok (a : α) (S : Sto)
  | ex (x : Exc) (S : Sto)
  | no
def Rs.bind {α β : Type} (r : Rs α) (f : α → Sto → Rs β) : Rs β := match r with
  | .ok a S => f a S
  | .ex x S => .ex x S
  | .no => .no
@[simp] theorem Rs.bind_ok {α β : Type} {a : α} {S : Sto} {f : α → Sto → Rs β} : (Rs.ok a S).bind f = f a S := rfl
@[simp] theorem Rs.bind_ex {α β : Type} {x : Exc} {S : Sto} {f : α → Sto → Rs β} : (Rs.ex x S : Rs α).bind f = .ex x S := rfl
@[simp] theorem Rs.bind_no {α β : Type} {f : α → Sto → Rs β} : (Rs.no : Rs α).bind f = .no := rfl
/-- an answer, the store unchanged -/
def lft {α : Type} (S : Sto) : Option α → Rs α
  | some a => .ok a S
  | none => .no
@[simp] theorem lft_some {α : Type} {S : Sto} {a : α} : lft S (some a) = .ok a S := rfl
@[simp] theorem lft_none {α : Type} {S : Sto} : lft S (none : Option α) = .no := rfl
def lfv (S : Sto) : Option D → Rs W
  | some a => .ok (.v a) S
  | none => .no
@[simp] theorem lfv_some {S : Sto} {a : D} : lfv S (some a) = .ok (.v a) S := rfl
@[simp] theorem lfv_none {S : Sto} : lfv S none = .no := rfl
/-- no exception gets out -/
def calm {α : Type} : Rs α → Rs α
  | .ex _ _ => .no
  | r => r
@[simp] theorem calm_ok {α : Type} {a : α} {S : Sto} : calm (.ok a S) = .ok a S := rfl
@[simp] theorem calm_no {α : Type} : calm (.no : Rs α) = .no := rfl

/-- plain, or a list by its content -/
def rdW (S : Sto) : W → Option D
  | .v d => match d with | .ref _ => none | d => some d
  | .r i => match getS S i with | some (.lst ds) => some (.lst ds) | _ => none
/-- plain -/
def plW : W → Option D
  | .v d => match d with | .ref _ => none | d => some d
  | .r _ => none
def rd1 (S : Sto) (w : W) (f : D → Option D) : Option D := match rdW S w with | some d => f d | none => none
def rd2 (S : Sto) (x y : W) (f : D → D → Option D) : Option D := match rdW S x, rdW S y with | some d, some e => f d e | _, _ => none

def vadd : D → D → Option D
  | .int i, .int j => some (.int (i + j))
  | .str a, .str b => if a.length + b.length ≤ sizeLine then some (.str (a ++ b)) else none
  | .tp .t a, .tp .t b => if a.length + b.length ≤ sizeLine then some (.tup (a ++ b)) else none
  | .lst a, .lst b => if a.length + b.length ≤ sizeLine then some (.lst (a ++ b)) else none
  | _, _ => none
def vsub : D → D → Option D
  | .int i, .int j => some (.int (i - j))
  | _, _ => none
def mulOk (i j : Int) : Bool := !(decide (Builtin.Int.intBits i > shortFactorBits) && decide (Builtin.Int.intBits j > shortFactorBits) && Builtin.Int.intTooBig (Builtin.Int.intBits i + Builtin.Int.intBits j))
def vmul : D → D → Option D
  | .int i, .int j => if mulOk i j = true then some (.int (i * j)) else none
  | .tp .t a, .int k => if a ≠ [] ∧ 2 ≤ k ∧ a.length * k.toNat ≤ 1000000 then some (.tup (List.replicate k.toNat a).flatten) else none
  | .str a, .int k => if 0 ≤ k ∧ k ≤ 1000 ∧ a.length ≤ 1000 then some (.str (Txt.mul a k)) else none
  | .lst a, .int k => if -(2 ^ 63) ≤ k ∧ k < 2 ^ 63 ∧ a.length * k.toNat ≤ sizeLine then some (.lst (List.replicate k.toNat a).flatten) else none
  | _, _ => none
def vfdv : D → D → Option D
  | .int i, .int j => if j ≠ 0 ∧ j.natAbs < 1073741824 then some (.int (i.fdiv j)) else none
  | _, _ => none
def vmod : D → D → Option D
  | .int i, .int j => if j ≠ 0 then some (.int (i.fmod j)) else none
  | _, _ => none
def vpow : D → D → Option D
  | .int i, .int j => if 0 ≤ j ∧ j ≤ 1000000 ∧ i.natAbs < 2 ^ 64 then some (.int (i ^ j.toNat)) else none
  | _, _ => none
def BOp.vo : BOp → D → D → Option D
  | .add => vadd | .sub => vsub | .mul => vmul | .fdv => vfdv | .mod => vmod | .pow => vpow
def veqOk (x y : D) : Bool := sc2 x y || (lay 60 x && lay 60 y)
def veq (x y : D) : Option D := if veqOk x y = true then some (.bl (eqv x y)) else none
def vne (x y : D) : Option D := if veqOk x y = true then some (.bl (!eqv x y)) else none
def vltOk (x y : D) : Bool := likeD x y && notNon x && pd 60 x && pd 60 y
def vlt (x y : D) : Option D := match x, y with
  | .int i, .int j => some (.bl (decide (i < j)))
  | x, y => if vltOk x y = true then some (.bl (ltD x y)) else none
def vle (x y : D) : Option D := match x, y with
  | .int i, .int j => some (.bl (decide (i ≤ j)))
  | x, y => if vltOk x y = true then some (.bl (!ltD y x)) else none
def vgt (x y : D) : Option D := match x, y with
  | .int i, .int j => some (.bl (decide (j < i)))
  | x, y => if vltOk x y = true then some (.bl (ltD y x)) else none
def vge (x y : D) : Option D := match x, y with
  | .int i, .int j => some (.bl (decide (j ≤ i)))
  | x, y => if vltOk x y = true then some (.bl (!ltD x y)) else none
section
variable {κ : Type} {α : Type} [DecidableEq κ]
def valG (kvs : List (κ × α)) (k : κ) : Option α := (kvs.find? fun kv => decide (kv.1 = k)).map (·.2)
def putG (kvs : List (κ × α)) (k : κ) (v : α) : List (κ × α) :=
  if (kvs.any fun kv => decide (kv.1 = k)) = true then kvs.map (fun kv => if kv.1 = k then (kv.1, v) else kv) else kvs ++ [(k, v)]
end
/-- a look-up: the dict, the key -/
def dfW (S : Sto) (x : W) (y : D) : Option (Option W) := match x with
  | .v (.dK ks ds) => match keyK y with | some k => some ((valG (ks.zip ds) k).map W.v) | none => none
  | .v (.dT ks ds) => match keyT y with | some k => some ((valG (ks.zip ds) k).map W.v) | none => none
  | .v _ => none
  | .r i => match getS S i with
    | some (.dK kvs) => match keyK y with | some k => some (valG kvs k) | none => none
    | some (.dT kvs) => match keyT y with | some k => some (valG kvs k) | none => none
    | _ => none
/-- a tuple or a list by its content -/
def sqW (S : Sto) (w : W) : Option (List D) := match rdW S w with
  | some (.tp _ ds) => some ds
  | some (.lst ds) => some ds
  | some (.flst ds) => some ds
  | _ => none
def inW (S : Sto) (x y : W) : Option Bool := match plW x with
  | none => none
  | some x => match y with
    | .v (.str z) => match x with | .str i => some (!(Builtin.Str.occurrences z i 0 z.length 1).isEmpty) | _ => none
    | y => match sqW S y with
      | some ds => if inOk x ds = true then some (ds.any fun z => eqv z x) else none
      | none => match dfW S y x with
        | some o => some o.isSome
        | none => none
def ixW (S : Sto) (x y : W) : Option W := match plW y with
  | none => none
  | some (.int i) => match x with
    | .v (.str z) => if z.length ≤ sizeLine then (match atI z.cps.toList i with | some c => some (.v (.str ⟨#[c]⟩)) | none => none) else none
    | x => match sqW S x with
      | some ds => (atI ds i).map W.v
      | none => (dfW S x (.int i)).join
  | some y => (dfW S x y).join
def nonW : W → Bool
  | .v .non => true
  | _ => false
def blO (o : Option Bool) : Option D := match o with | some b => some (.bl b) | none => none
def COp.vo (S : Sto) : COp → W → W → Option D
  | .eq, x, y => rd2 S x y veq
  | .ne, x, y => rd2 S x y vne
  | .lt, x, y => rd2 S x y vlt
  | .le, x, y => rd2 S x y vle
  | .gt, x, y => rd2 S x y vgt
  | .ge, x, y => rd2 S x y vge
  | .isin, x, y => blO (inW S x y)
  | .notin, x, y => blO ((inW S x y).map not)
  | .is, x, y => if nonW y = true then some (.bl (nonW x)) else none
  | .isnot, x, y => if nonW y = true then some (.bl (!nonW x)) else none
def vneg : D → Option D
  | .int i => some (.int (-i))
  | _ => none
def truW (S : Sto) (w : W) : Option Bool := match w with
  | .v .non => some false
  | .v (.bl b) => some b
  | .v (.int i) => some (i != 0)
  | .v (.str y) => if y.length ≤ sizeLine then some ((y.length : Int) != 0) else none
  | w => match sqW S w with
    | some ds => some (!ds.isEmpty)
    | none => match w with
      | .r i => match getS S i with | some (.dK kvs) => some (!kvs.isEmpty) | _ => none
      | _ => none
def blW : W → Option Bool
  | .v (.bl b) => some b
  | _ => none
/-- plain lists of arguments -/
def likeB (ds : List D) : Bool := ds.all fun d => ds.all fun e => likeD d e
def tup1 : D → Bool | .tp _ (_ :: _) => true | _ => false
def notTp : D → Bool | .non => false | .tp _ _ => false | _ => true
def sortB (ds : List D) : Bool := likeB ds && ds.all (pd 60) && (ds.all tup1 || ds.all notTp)
def vsrt : D → Option D
  | .lst ds => if sortB ds = true then some (.lst (sortD ds)) else none
  | .flst ds => if sortB ds = true then some (.lst (sortD ds)) else none
  | _ => none
def lstW (S : Sto) (w : W) : Option (List D) := match sqW S w with
  | some ds => some ds
  | none => match w with
    | .v (.dK ks ds) => some ((ks.zip ds).map fun kv => kD kv.1)
    | .v (.dT ks ds) => some ((ks.zip ds).map fun kv => D.tup (kv.1.map kD))
    | .r i => match getS S i with
      | some (.dK kvs) => some (kvs.map fun kv => kD kv.1)
      | some (.dT kvs) => some (kvs.map fun kv => D.tup (kv.1.map kD))
      | _ => none
    | _ => none
/-- a new thing -/
def newW (S : Sto) (o : VO) : Rs W := .ok (.r S.length) (S ++ [some o])
def vtupT : D → Option D
  | .tp k ds => some (.tp k ds)
  | .lst ds => some (.tup ds)
  | .flst ds => some (.tup ds)
  | _ => none
def vtupK : D → Option D
  | .lst ds => some (.tp .k ds)
  | .flst ds => some (.tp .k ds)
  | _ => none
def Bt.wo (b : Bt) (S : Sto) (ws : List W) : Rs W := match b, ws with
  | .len, [w] => lfv S (rd1 S w (lenA M00))
  | .int, [w] => lfv S (rd1 S w (intA M00))
  | .abs, [w] => lfv S (rd1 S w (absA M00))
  | .strI, [w] => lfv S (rd1 S w (strA M00))
  | .min2, [x, y] => lfv S (rd2 S x y (minA M00))
  | .max2, [x, y] => lfv S (rd2 S x y (maxA M00))
  | .minL, [w] => lfv S (rd1 S w (Z.minL M00))
  | .maxL, [w] => lfv S (rd1 S w (Z.maxL M00))
  | .sum, [w] => lfv S (rd1 S w (sumA M00))
  | .all, [w] => lfv S (rd1 S w (allA M00))
  | .any, [w] => lfv S (rd1 S w (anyA M00))
  | .srt, [w] => lfv S (rd1 S w vsrt)
  | .tupT, [w] => lfv S (rd1 S w vtupT)
  | .tupK, [w] => lfv S (rd1 S w vtupK)
  | .lstF, [w] => match lstW S w with | some ds => .ok (.v (.lst ds)) S | none => .no
  | .lstM, [w] => match lstW S w with | some ds => newW S (.lst ds) | none => .no
  | _, _ => .no
def setS (S : Sto) (i : Nat) (o : Option VO) : Sto := S.set i o
def Mt.wo (m : Mt) (S : Sto) (o : W) (ws : List W) : Rs W := match m, o, ws with
  | .append, .r a, [.v x] => match getS S a with
    | some (.lst ds) => if ds.length < sizeLine then .ok (.v .non) (setS S a (some (.lst (ds ++ [x])))) else .no
    | _ => .no
  | .extend, .r a, [x] => match getS S a, rdW S x with
    | some (.lst ds), some (.lst es) => if ds.length + es.length ≤ sizeLine then .ok (.v .non) (setS S a (some (.lst (ds ++ es)))) else .no
    | _, _ => .no
  | .get, o, [.v k, z] => match dfW S o k with
    | some r => .ok (r.getD z) S
    | none => .no
  | .setdefault, .r a, [.v k, z] => match getS S a, keyK k with
    | some (.dK kvs), some k => if kvs.length < sizeLine then (match valG kvs k with
      | some v => .ok v S
      | none => .ok z (setS S a (some (.dK (putG kvs k z))))) else .no
    | _, _ => .no
  | .index, o, [.v x] => match rdW S o with
    | some (.lst ds) => if lay 59 x && layL 59 ds then (match findD x ds 0 with | some j => .ok (.v (.int j)) S | none => .no) else .no
    | _ => .no
  | .indexT, .v (.tp .k ds), [.v (.str x)] => match strsOf ds with
    | some ys => match findS x ys 0 with | some j => .ok (.v (.int j)) S | none => .no
    | none => .no
  | .join, .v (.str z), [x] => match sqW S x with
    | some ds => match strsOf ds with
      | some ys => if (ys.map (·.length)).sum + ys.length * z.length ≤ 16777216 then .ok (.v (.str (Txt.join z ys))) S else .no
      | none => .no
    | none => .no
  | .split, .v (.str a), [.v (.str b)] => if (b.length == 0) = false ∧ a.length + 2 ≤ sizeLine then .ok (.v (.lst ((Txt.split a b).map D.str))) S else .no
  | .startswith, .v (.str a), [.v (.str b)] => .ok (.v (.bl (Txt.startswith a b))) S
  | _, _, _ => .no
def tyW (m : Mt) (S : Sto) (o : W) : Bool := match m with
  | .append | .extend | .index => (match rdW S o with | some (.lst _) => true | _ => false)
  | .get | .setdefault => (match o with
    | .v (.dK _ _) => true
    | .v (.dT _ _) => true
    | .r i => (match getS S i with | some (.dK _) => true | some (.dT _) => true | _ => false)
    | _ => false)
  | .indexT => (match o with | .v (.tp .k _) => true | _ => false)
  | .join | .split | .startswith => (match o with | .v (.str _) => true | _ => false)
def vsl (x : D) (lo hi : Option Int) : Option D := match x with
  | .str z => if z.length ≤ sizeLine then some (.str (cutS z lo hi)) else none
  | .tp .t ds => some (.tup (cutD ds lo hi))
  | .lst ds => some (.lst (cutD ds lo hi))
  | .flst ds => some (.lst (cutD ds lo hi))
  | _ => none
def vrev : D → Option D
  | .lst ds => some (.lst ds.reverse)
  | .flst ds => some (.lst ds.reverse)
  | _ => none
/-! ### slots, targets -/
def getV : WEn → Nat → Option W
  | [], _ => none
  | x :: _, 0 => x
  | _ :: r, n + 1 => getV r n
def setV2 : WEn → Nat → W → WEn
  | [], _, _ => []
  | _ :: r, 0, d => some d :: r
  | x :: r, n + 1, d => x :: setV2 r n d
def wipeV1 : WEn → Nat → WEn
  | [], _ => []
  | _ :: r, 0 => none :: r
  | x :: r, n + 1 => x :: wipeV1 r n
def wipeV : WEn → List Nat → WEn
  | e, [] => e
  | e, v :: vs => wipeV1 (wipeV e vs) v
def setAllV : WEn → List Nat → List D → Option WEn
  | e, [], [] => some e
  | e, i :: is, d :: ds => setAllV (setV2 e i (.v d)) is ds
  | _, _, _ => none
def bindV : Tg → W → WEn → Option WEn
  | .nm i, w, e => some (setV2 e i w)
  | .tp is, w, e => match w with
    | .v (.tp _ ds) => setAllV e is ds
    | _ => none
inductive Oc where
  | nx (e : WEn)
  | rt (w : W)
  | bk (e : WEn)
  | ct (e : WEn)
  deriving Inhabited
/-! ### walks -/
def itmW (w : W) : Option (List D) := match w with
  | .v d => itemsA d
  | .r _ => none
def itW (ik : IK) (ws : List W) : Option (List D) := match ik, ws with
  | .seq, [w] => itmW w
  | .rng1, [.v (.int j)] => if -16777216 ≤ j ∧ j ≤ 16777216 then some (rngD 0 j.toNat) else none
  | .rng2, [.v (.int i), .v (.int j)] => if -16777216 ≤ i ∧ i ≤ 16777216 ∧ -16777216 ≤ j ∧ j ≤ 16777216 ∧ j - i ≤ 16777216 then some (rngD i (j - i).toNat) else none
  | .enm, [.v (.lst ds)] => if ds.length ≤ sizeLine then some (enumD 0 ds) else none
  | _, _ => none
abbrev WF (α : Type) := WEn → Sto → Rs α
def compV (tg : Tg) (tt : WF Bool) (te : WF W) (en : WEn) : List D → Sto → Rs (List D)
  | [], S => .ok [] S
  | x :: r, S => match bindV tg (.v x) en with
    | none => .no
    | some e1 => (tt e1 S).bind fun b S1 => match b with
      | true => (te e1 S1).bind fun w S2 => match w with
        | .v y => (compV tg tt te en r S2).bind fun ys S3 => .ok (y :: ys) S3
        | .r _ => .no
      | false => compV tg tt te en r S1
def compR (m : Bool) (r : Rs (List D)) : Rs W := r.bind fun ys S => match m with
  | true => newW S (.lst ys)
  | false => .ok (.v (.lst ys)) S
def turnsV (tg : Tg) (body : WF Oc) : List D → WF Oc
  | [], en, S => .ok (.nx en) S
  | x :: r, en, S => match bindV tg (.v x) en with
    | none => .no
    | some e1 => (body e1 S).bind fun o S1 => match o with
      | .nx e => turnsV tg body r e S1
      | .ct e => turnsV tg body r e S1
      | .bk e => .ok (.nx e) S1
      | .rt w => .ok (.rt w) S1
def whN (c : WF Bool) (body : WF Oc) : Nat → WF Oc
  | 0, _, _ => .no
  | n + 1, en, S => (c en S).bind fun b S1 => match b with
    | true => (body en S1).bind fun o S2 => match o with
      | .nx e => whN c body n e S2
      | .ct e => whN c body n e S2
      | .bk e => .ok (.nx e) S2
      | .rt w => .ok (.rt w) S2
    | false => .ok (.nx en) S1
open Classical in
noncomputable def whV (c : WF Bool) (body : WF Oc) : WF Oc := fun en S => if h : ∃ n, whN c body n en S ≠ .no then whN c body h.choose en S else .no
/-! ### dict displays -/
def keysW : List (W × W) → Option (List (Key × W))
  | [] => some []
  | (k, v) :: r => match k with
    | .v k => match keyK k, keysW r with
      | some k, some r => some ((k, v) :: r)
      | _, _ => none
    | _ => none
def mergeG {α : Type} (kvs more : List (Key × α)) : List (Key × α) := more.foldl (fun acc kv => putG acc kv.1 kv.2) kvs
def plnW : List W → Option (List D)
  | [] => some []
  | .v d :: r => match plnW r with | some ds => some (d :: ds) | none => none
  | .r _ :: _ => none
def disW (m : Bool) (S : Sto) (ps : List (W × W)) : Rs W := match keysW ps with
  | some kvs => if kvs.length ≤ 15 then (match m with
    | true => newW S (.dK (mergeG [] kvs))
    | false => match plnW ((mergeG [] kvs).map (·.2)) with
      | some ds => .ok (.v (.dK ((mergeG [] kvs).map (·.1)) ds)) S
      | none => .no) else .no
  | none => .no
/-- o[i] = v -/
def putW (S : Sto) (o i v : W) : Option Sto := match o, i with
  | .r a, .v i => match getS S a with
    | some (.lst ds) => match i, v with
      | .int k, .v d => match ixN ds.length k with
        | some j => some (setS S a (some (.lst (ds.set j d))))
        | none => none
      | _, _ => none
    | some (.dK kvs) => match keyK i with
      | some k => if kvs.length < sizeLine then some (setS S a (some (.dK (putG kvs k v)))) else none
      | none => none
    | some (.dT kvs) => match keyT i with
      | some k => if kvs.length < sizeLine then some (setS S a (some (.dT (putG kvs k v)))) else none
      | none => none
    | _ => none
  | _, _ => none
def fzV (i : Nat) (en : WEn) (S : Sto) : Option (WEn × Sto) := match getV en i with
  | some (.r a) => match getS S a with
    | some (.lst ds) => some (setV2 en i (.v (.lst ds)), setS S a none)
    | some (.dK kvs) => match plnW (kvs.map (·.2)) with | some ds => some (setV2 en i (.v (.dK (kvs.map (·.1)) ds)), setS S a none) | none => none
    | some (.dT kvs) => match plnW (kvs.map (·.2)) with | some ds => some (setV2 en i (.v (.dT (kvs.map (·.1)) ds)), setS S a none) | none => none
    | _ => none
  | _ => none
def viadd : D → D → Option D
  | .int i, .int j => some (.int (i + j))
  | .str a, .str b => if a.length + b.length ≤ sizeLine then some (.str (a ++ b)) else none
  | _, _ => none
def visub : D → D → Option D
  | .int i, .int j => some (.int (i - j))
  | _, _ => none
def vfmt : D → Option D
  | .str y => if y.length ≤ sizeLine then some (.str y) else none
  | .int i => if i.natAbs.log2 < 1920 then some (.str (toString i)) else none
  | _ => none
/-- a text more -/
def jsV (acc : Str) (x : W) (k : Str → Rs W) : Rs W := match x with
  | .v (.str y) => if (acc ++ y).length ≤ sizeLine then k (acc ++ y) else .no
  | _ => .no
/-- an error caught: the word and the number -/
def catchV (k : Str) (r : Rs Oc) : Rs Oc := match r with
  | .ex x S => match x.arg with
    | some a => if x.cls = ("InvalidLine" : Str) then .ok (.rt (.v (.tup [.str k, a]))) S else .no
    | none => .no
  | r => r
@[simp] theorem catchV_ok {k : Str} {o : Oc} {S : Sto} : catchV k (.ok o S) = .ok o S := rfl
def addMV (S : Sto) (x y : W) : Rs W := match rdW S x, rdW S y with
  | some (.lst a), some (.lst b) => if a.length + b.length ≤ sizeLine then newW S (.lst (a ++ b)) else .no
  | _, _ => .no
def pairB : D → Bool
  | .tp .t [.str _, .str _] => true
  | _ => false
def vsrt2 : D → Option D
  | .lst ds => if ds.all pairB = true ∧ ds.length < 64 then some (.lst (sortD (uq ds))) else none
  | .flst ds => if ds.all pairB = true ∧ ds.length < 64 then some (.lst (sortD (uq ds))) else none
  | _ => none
/-! ### the reading -/
structure GV where
  fns : List (Str × Nat × (List W → Sto → Rs W))
  cst : List (Str × D)
  bn : List Str
  er : Bool
def callV (G : GV) (j : Nat) (r : Rs (List W)) : Rs W := match nth G.fns j with
  | some (_, n, f) => r.bind fun ws S => if ws.length = n then f ws S else .no
  | none => .no
def cstV (G : GV) (j : Nat) (S : Sto) : Rs W := match nth G.cst j with
  | some (_, d) => .ok (.v d) S
  | none => .no
/-- a bool -/
def tstV (r : Rs W) : Rs Bool := r.bind fun w S => lft S (blW w)
def truV (r : Rs W) : Rs Bool := r.bind fun w S => lft S (truW S w)
mutual
def evE (G : GV) : Ex → WEn → Sto → Rs W
  | .loc i, en, S => lft S (getV en i)
  | .non, _, S => .ok (.v .non) S
  | .bl b, _, S => .ok (.v (.bl b)) S
  | .int i, _, S => .ok (.v (.int i)) S
  | .str x, _, S => .ok (.v (.str x)) S
  | .glo j, _, S => cstV G j S
  | .bin o a b, en, S => (evE G a en S).bind fun x S1 => (evE G b en S1).bind fun y S2 => lfv S2 (rd2 S2 x y o.vo)
  | .srt2 a, en, S => (evE G a en S).bind fun x S1 => lfv S1 (rd1 S1 x vsrt2)
  | .addM a b, en, S => (evE G a en S).bind fun x S1 => (evE G b en S1).bind fun y S2 => addMV S2 x y
  | .neg a, en, S => (evE G a en S).bind fun x S1 => lfv S1 (rd1 S1 x vneg)
  | .cmp o a b, en, S => (evE G a en S).bind fun x S1 => (evE G b en S1).bind fun y S2 => lfv S2 (o.vo S2 x y)
  | .chn o o' a b c, en, S => (evE G a en S).bind fun x S1 => (evE G b en S1).bind fun y S2 => match o.vo S2 x y with
    | some (.bl true) => (evE G c en S2).bind fun z S3 => lfv S3 (o'.vo S3 y z)
    | some (.bl false) => .ok (.v (.bl false)) S2
    | _ => .no
  | .bol k es, en, S => evV G k es en S
  | .nt a, en, S => (evE G a en S).bind fun x S1 => lfv S1 (blO ((blW x).map not))
  | .ite c a b, en, S => (evT G c en S).bind fun k S1 => match k with | true => evE G a en S1 | false => evE G b en S1
  | .tup es, en, S => (evL G es en S).bind fun ws S1 => match plnW ws with
    | some ds => if ds.length ≤ sizeLine then .ok (.v (.tup ds)) S1 else .no
    | none => .no
  | .lst m es, en, S => (evL G es en S).bind fun ws S1 => match plnW ws with
    | some ds => if ds.length ≤ sizeLine then (match m with | true => newW S1 (.lst ds) | false => .ok (.v (.lst ds)) S1) else .no
    | none => .no
  | .idx a b, en, S => (evE G a en S).bind fun x S1 => (evE G b en S1).bind fun y S2 => lft S2 (ixW S2 x y)
  | .sli a lo hi, en, S => (evE G a en S).bind fun x S1 => (evO G lo en S1).bind fun l S2 => (evO G hi en S2).bind fun h S3 => lfv S3 (rd1 S3 x fun d => vsl d l h)
  | .rev a, en, S => (evE G a en S).bind fun x S1 => lfv S1 (rd1 S1 x vrev)
  | .call j e es, en, S => callV G j ((evE G e en S).bind fun x S1 => (evL G es en S1).bind fun xs S2 => .ok (x :: xs) S2)
  | .blt b e es, en, S => (evE G e en S).bind fun x S1 => (evL G es en S1).bind fun xs S2 => b.wo S2 (x :: xs)
  | .isi T e, en, S => (evE G e en S).bind fun x S1 => lfv S1 (rd1 S1 x fun d => blO (isTy M00 d T))
  | .mth m o e es, en, S => (evE G o en S).bind fun x S1 => match tyW m S1 x with
    | true => (evE G e en S1).bind fun y S2 => (evL G es en S2).bind fun ys S3 => m.wo S3 x (y :: ys)
    | false => .no
  | .comp m elt tg ik its ifs own, en, S => (evL G its en S).bind fun ws S1 => match itW ik ws with
    | some items => compR m (calm (compV tg (evC G ifs) (evE G elt) (wipeV en (own.map (·.2))) items S1))
    | none => .no
  | .newK m, _, S => match m with | true => newW S (.dK []) | false => .ok (.v (.dK [] [])) S
  | .newT, _, S => newW S (.dT [])
  | .dis m kvs, en, S => (calm (evP G kvs en S)).bind fun ps S1 => disW m S1 ps
  | .fmt e, en, S => (evE G e en S).bind fun x S1 => lfv S1 (rd1 S1 x vfmt)
  | .js e e2 es, en, S => (evE G e en S).bind fun x S1 => jsV Str.empty x fun a1 => (evE G e2 en S1).bind fun y S2 => jsV a1 y fun a2 => evJ G es a2 en S2
def evT (G : GV) : Ex → WEn → Sto → Rs Bool
  | .cmp o a b, en, S => (evE G a en S).bind fun x S1 => (evE G b en S1).bind fun y S2 => lft S2 (match o.vo S2 x y with | some (.bl b) => some b | _ => none)
  | .chn o o' a b c, en, S => (evE G a en S).bind fun x S1 => (evE G b en S1).bind fun y S2 => match o.vo S2 x y with
    | some (.bl true) => (evE G c en S2).bind fun z S3 => lft S3 (match o'.vo S3 y z with | some (.bl b) => some b | _ => none)
    | some (.bl false) => .ok false S2
    | _ => .no
  | .bol k es, en, S => evB G k es en S
  | .nt a, en, S => (evT G a en S).bind fun b S1 => .ok (!b) S1
  | .loc i, en, S => truV (lft S (getV en i))
  | .non, _, S => .ok false S
  | .bl b, _, S => .ok b S
  | .int i, _, S => .ok (i != 0) S
  | .str x, _, S => truV (.ok (.v (.str x)) S)
  | .idx a b, en, S => truV ((evE G a en S).bind fun x S1 => (evE G b en S1).bind fun y S2 => lft S2 (ixW S2 x y))
  | .call j e es, en, S => truV (callV G j ((evE G e en S).bind fun x S1 => (evL G es en S1).bind fun xs S2 => .ok (x :: xs) S2))
  | .blt b e es, en, S => truV ((evE G e en S).bind fun x S1 => (evL G es en S1).bind fun xs S2 => b.wo S2 (x :: xs))
  | .isi T e, en, S => truV ((evE G e en S).bind fun x S1 => lfv S1 (rd1 S1 x fun d => blO (isTy M00 d T)))
  | .mth m o e es, en, S => truV ((evE G o en S).bind fun x S1 => match tyW m S1 x with
    | true => (evE G e en S1).bind fun y S2 => (evL G es en S2).bind fun ys S3 => m.wo S3 x (y :: ys)
    | false => .no)
  | _, _, _ => .no
def evL (G : GV) : List Ex → WEn → Sto → Rs (List W)
  | [], _, S => .ok [] S
  | e :: es, en, S => (evE G e en S).bind fun x S1 => (evL G es en S1).bind fun xs S2 => .ok (x :: xs) S2
def evV (G : GV) : Bool → List Ex → WEn → Sto → Rs W
  | _, [], _, _ => .no
  | _, [e], en, S => evE G e en S
  | true, e :: es, en, S => (evE G e en S).bind fun x S1 => match blW x with | some true => evV G true es en S1 | some false => .ok (.v (.bl false)) S1 | none => .no
  | false, e :: es, en, S => (evE G e en S).bind fun x S1 => match blW x with | some true => .ok (.v (.bl true)) S1 | some false => evV G false es en S1 | none => .no
def evB (G : GV) : Bool → List Ex → WEn → Sto → Rs Bool
  | _, [], _, _ => .no
  | _, [e], en, S => evT G e en S
  | true, e :: es, en, S => (evT G e en S).bind fun b S1 => match b with | true => evB G true es en S1 | false => .ok false S1
  | false, e :: es, en, S => (evT G e en S).bind fun b S1 => match b with | true => .ok true S1 | false => evB G false es en S1
def evO (G : GV) : List Ex → WEn → Sto → Rs (Option Int)
  | [], _, S => .ok none S
  | e :: _, en, S => (evE G e en S).bind fun x S1 => match x with | .v (.int i) => .ok (some i) S1 | _ => .no
def evC (G : GV) : List Ex → WEn → Sto → Rs Bool
  | [], _, S => .ok true S
  | e :: _, en, S => evT G e en S
def evJ (G : GV) : List Ex → Str → WEn → Sto → Rs W
  | [], acc, _, S => .ok (.v (.str acc)) S
  | e :: es, acc, en, S => (evE G e en S).bind fun x S1 => jsV acc x fun a => evJ G es a en S1
def evP (G : GV) : List Ex → WEn → Sto → Rs (List (W × W))
  | k :: v :: r, en, S => (evE G k en S).bind fun x S1 => (evE G v en S1).bind fun y S2 => (evP G r en S2).bind fun ps S3 => .ok ((x, y) :: ps) S3
  | _, _, S => .ok [] S
end
mutual
noncomputable def evS (G : GV) : Sx → WEn → Sto → Rs Oc
  | .asg tg e, en, S => (evE G e en S).bind fun w S1 => match bindV tg w en with | some e' => .ok (.nx e') S1 | none => .no
  | .par i j a b, en, S => (evE G a en S).bind fun x S1 => (evE G b en S1).bind fun y S2 => .ok (.nx (setV2 (setV2 en i x) j y)) S2
  | .sput o i e, en, S => (evE G e en S).bind fun v S1 => (evE G o en S1).bind fun x S2 => (evE G i en S2).bind fun k S3 => match putW S3 x k v with | some S4 => .ok (.nx en) S4 | none => .no
  | .aug i k e, en, S => match getV en i with
    | some d => (evE G e en S).bind fun d2 S1 => match rd2 S1 d d2 (match k with | true => viadd | false => visub) with | some r => .ok (.nx (setV2 en i (.v r))) S1 | none => .no
    | none => .no
  | .expr e, en, S => (evE G e en S).bind fun _ S1 => .ok (.nx en) S1
  | .ret e, en, S => (evE G e en S).bind fun w S1 => .ok (.rt w) S1
  | .retN, _, S => .ok (.rt (.v .non)) S
  | .ifs c a b, en, S => (evT G c en S).bind fun k S1 => match k with | true => evSs G a en S1 | false => evSs G b en S1
  | .fors tg ik its body, en, S => (evL G its en S).bind fun ws S1 => match itW ik ws with
    | some items => turnsV tg (evSs G body) items en S1
    | none => .no
  | .whl c body, en, S => whV (evT G c) (evSs G body) en S
  | .brk, en, S => .ok (.bk en) S
  | .cnt, en, S => .ok (.ct en) S
  | .pss, en, S => .ok (.nx en) S
  | .fz i, en, S => match fzV i en S with | some (e, S1) => .ok (.nx e) S1 | none => .no
  | .rse e, en, S => (evE G e en S).bind fun w S1 => match w with | .v d => .ex ⟨"InvalidLine", some d⟩ S1 | .r _ => .no
  | .rseN, _, _ => .no
  | .tryR body k _, en, S => catchV k (evSs G body en S)
noncomputable def evSs (G : GV) : List Sx → WEn → Sto → Rs Oc
  | [], en, S => .ok (.nx en) S
  | s :: r, en, S => (evS G s en S).bind fun o S1 => match o with
    | .nx e => evSs G r e S1
    | o => .ok o S1
end
/-- a body's end -/
def Rs.out (r : Rs Oc) : Rs W := r.bind fun o S => match o with
  | .nx _ => .ok (.v .non) S
  | .rt w => .ok w S
  | _ => .no
def startV (n : Nat) (ws : List W) : WEn := ws.map some ++ List.replicate (n - ws.length) none
/-- a def as a function -/
noncomputable def runV (G : GV) (n : Nat) (B : List Sx) : List W → Sto → Rs W := fun ws S => (evSs G B (startV n ws) S).out
end Z

/-! V2: numbers for addresses; what stays; operators are sound. -/
namespace Z
open PySem PySem.Spec PyProof.Rows L2

abbrev Nm := Nat → Addr
def rnW (ι : Nm) : W → D
  | .v d => d
  | .r i => .ref (ι i)
def rnO (ι : Nm) : VO → MO
  | .lst ds => .lst ds
  | .dK kvs => .dK (kvs.map fun kv => (kv.1, rnW ι kv.2))
  | .dT kvs => .dT (kvs.map fun kv => (kv.1, rnW ι kv.2))
  | .ins C fs => .ins C (fs.map fun kv => (kv.1, rnW ι kv.2))
def rnE (ι : Nm) (en : WEn) : En := en.map (Option.map (rnW ι))
def wfW (n : Nat) : W → Prop
  | .v _ => True
  | .r i => i < n
def wfO (n : Nat) : VO → Prop
  | .lst _ => True
  | .dK kvs => ∀ kv ∈ kvs, wfW n kv.2
  | .dT kvs => ∀ kv ∈ kvs, wfW n kv.2
  | .ins _ fs => ∀ kv ∈ fs, wfW n kv.2
def wfE (n : Nat) (en : WEn) : Prop := ∀ w, some w ∈ en → wfW n w
def wfL (n : Nat) (ws : List W) : Prop := ∀ w ∈ ws, wfW n w
theorem wfW.le {n m : Nat} {w : W} (h : wfW n w) (l : n ≤ m) : wfW m w := by
  cases w with
  | v d => trivial
  | r i => exact Nat.lt_of_lt_of_le h l
theorem wfO.le {n m : Nat} {o : VO} (h : wfO n o) (l : n ≤ m) : wfO m o := by
  cases o with
  | lst ds => trivial
  | dK kvs => exact fun kv hk => (h kv hk).le l
  | dT kvs => exact fun kv hk => (h kv hk).le l
  | ins C kvs => exact fun kv hk => (h kv hk).le l
theorem wfE.le {n m : Nat} {e : WEn} (h : wfE n e) (l : n ≤ m) : wfE m e := fun w hw => (h w hw).le l
theorem wfL.le {n m : Nat} {e : List W} (h : wfL n e) (l : n ≤ m) : wfL m e := fun w hw => (h w hw).le l
structure Emb (ι : Nm) (S : Sto) (M : MH) : Prop where
  at' : ∀ i o, getS S i = some o → M (ι i) = some (rnO ι o)
  inj : ∀ i j o u, getS S i = some o → getS S j = some u → ι i = ι j → i = j
  wf : ∀ i o, getS S i = some o → wfO S.length o
structure Ext (ι : Nm) (S : Sto) (M : MH) (ι' : Nm) (S' : Sto) (M' : MH) : Prop where
  emb : Emb ι' S' M'
  agr : ∀ i, i < S.length → ι' i = ι i
  len : S.length ≤ S'.length
  own : ∀ i o, getS S' i = some o → M (ι' i) = none ∨ ∃ j u, getS S j = some u ∧ ι j = ι' i
  frm : ∀ a, M a ≠ none → (∀ i o, getS S i = some o → ι i ≠ a) → M' a = M a
theorem Ext.refl {ι : Nm} {S : Sto} {M : MH} (e : Emb ι S M) : Ext ι S M ι S M := ⟨e, fun _ _ => rfl, Nat.le_refl _, fun i o h => .inr ⟨i, o, h, rfl⟩, fun _ _ _ => rfl⟩
theorem Ext.trans {ι ι1 ι2 : Nm} {S S1 S2 : Sto} {M M1 M2 : MH} (a : Ext ι S M ι1 S1 M1) (b : Ext ι1 S1 M1 ι2 S2 M2) : Ext ι S M ι2 S2 M2 where
  emb := b.emb
  agr := fun i h => (b.agr i (Nat.lt_of_lt_of_le h a.len)).trans (a.agr i h)
  len := Nat.le_trans a.len b.len
  own := fun i o h => by
    rcases b.own i o h with z | ⟨j, u, z1, z2⟩
    · by_cases q : M (ι2 i) = none
      · exact .inl q
      · refine .inr ?_
        apply Classical.byContradiction
        intro hn
        have := a.frm (ι2 i) q fun j u hj e => hn ⟨j, u, hj, e⟩
        rw [z] at this
        exact q this.symm
    · rcases a.own j u z1 with z | ⟨k, u2, y1, y2⟩
      · rw [← z2]; exact .inl z
      · exact .inr ⟨k, u2, y1, y2.trans z2⟩
  frm := fun c h1 h2 => by
    have e1 := a.frm c h1 h2
    rw [← e1]
    refine b.frm c (by rw [e1]; exact h1) fun i o h e => ?_
    rcases a.own i o h with z | ⟨k, u2, y1, y2⟩
    · rw [e] at z; exact h1 z
    · exact h2 k u2 y1 (y2.trans e)
theorem rnW_agr {ι ι' : Nm} {n : Nat} (h : ∀ i, i < n → ι' i = ι i) {w : W} (hw : wfW n w) : rnW ι' w = rnW ι w := by
  cases w with
  | v d => rfl
  | r i => show D.ref (ι' i) = D.ref (ι i); rw [h i hw]
theorem rnE_agr {ι ι' : Nm} {n : Nat} (h : ∀ i, i < n → ι' i = ι i) {e : WEn} (hw : wfE n e) : rnE ι' e = rnE ι e := by
  refine List.map_congr_left fun x hx => ?_
  cases x with
  | none => rfl
  | some w => show some (rnW ι' w) = some (rnW ι w); rw [rnW_agr h (hw w hx)]
theorem rnL_agr {ι ι' : Nm} {n : Nat} (h : ∀ i, i < n → ι' i = ι i) {ws : List W} (hw : wfL n ws) : ws.map (rnW ι') = ws.map (rnW ι) := List.map_congr_left fun x hx => rnW_agr h (hw x hx)
theorem rnO_agr {ι ι' : Nm} {n : Nat} (h : ∀ i, i < n → ι' i = ι i) {o : VO} (hw : wfO n o) : rnO ι' o = rnO ι o := by
  cases o with
  | lst ds => rfl
  | dK kvs => show MO.dK _ = MO.dK _; congr 1; exact List.map_congr_left fun kv hk => by rw [rnW_agr h (hw kv hk)]
  | dT kvs => show MO.dT _ = MO.dT _; congr 1; exact List.map_congr_left fun kv hk => by rw [rnW_agr h (hw kv hk)]
  | ins C kvs => show MO.ins _ _ = MO.ins _ _; congr 1; exact List.map_congr_left fun kv hk => by rw [rnW_agr h (hw kv hk)]
theorem getS_lt {S : Sto} {i : Nat} {o : VO} (h : getS S i = some o) : i < S.length := by
  unfold getS at h
  by_cases q : i < S.length
  · exact q
  · rw [List.getElem?_eq_none (by omega)] at h; cases h
theorem getS_new {S : Sto} {o : VO} : getS (S ++ [some o]) S.length = some o := by
  unfold getS; simp
theorem getS_old {S : Sto} {o : VO} {i : Nat} (h : i ≠ S.length) : getS (S ++ [some o]) i = getS S i := by
  unfold getS
  by_cases q : i < S.length
  · rw [List.getElem?_append_left q]
  · rw [List.getElem?_eq_none (l := S) (by omega), List.getElem?_eq_none (l := S ++ [some o]) (by rw [List.length_append, List.length_singleton]; omega)]
theorem getS_set {S : Sto} {i : Nat} {o : Option VO} (h : i < S.length) : getS (setS S i o) i = o := by
  unfold getS setS; rw [List.getElem?_set_self h]; rfl
theorem getS_ne {S : Sto} {i j : Nat} {o : Option VO} (h : j ≠ i) : getS (setS S i o) j = getS S j := by
  unfold getS setS; rw [List.getElem?_set_ne (Ne.symm h)]
/-- a new thing -/
def pin (ι : Nm) (n : Nat) (p : Addr) : Nm := fun i => if i = n then p else ι i
theorem pin_at {ι : Nm} {n : Nat} {p : Addr} : pin ι n p n = p := if_pos rfl
theorem pin_ne {ι : Nm} {n i : Nat} {p : Addr} (h : i ≠ n) : pin ι n p i = ι i := if_neg h
theorem Ext.new {ι : Nm} {S : Sto} {M : MH} (e : Emb ι S M) {p : Addr} (hp : M p = none) {o : VO} (w : wfO S.length o) : Ext ι S M (pin ι S.length p) (S ++ [some o]) (up M p (rnO ι o)) := by
  have agr : ∀ i, i < S.length → pin ι S.length p i = ι i := fun i h => pin_ne (Nat.ne_of_lt h)
  have ne : ∀ i u, getS S i = some u → ι i ≠ p := fun i u h q => by
    have := e.at' i u h
    rw [q, hp] at this; cases this
  have hl : S.length ≤ (S ++ [some o]).length := by rw [List.length_append]; omega
  refine ⟨⟨fun i u h => ?_, fun i j u v h1 h2 q => ?_, fun i u h => ?_⟩, agr, hl, fun i u h => ?_, fun a h1 h2 => ?_⟩
  · by_cases q : i = S.length
    · subst q
      rw [getS_new] at h
      cases h
      rw [pin_at, up_same, rnO_agr agr w]
    · rw [getS_old q] at h
      rw [pin_ne q, up_ne (ne i u h), e.at' i u h, rnO_agr agr (e.wf i u h)]
  · by_cases q1 : i = S.length
    · by_cases q2 : j = S.length
      · rw [q1, q2]
      · rw [getS_old q2] at h2
        rw [q1, pin_at, pin_ne q2] at q
        exact absurd q.symm (ne j v h2)
    · rw [getS_old q1] at h1
      by_cases q2 : j = S.length
      · rw [q2, pin_at, pin_ne q1] at q
        exact absurd q (ne i u h1)
      · rw [getS_old q2] at h2
        rw [pin_ne q1, pin_ne q2] at q
        exact e.inj i j u v h1 h2 q
  · by_cases q : i = S.length
    · subst q
      rw [getS_new] at h
      cases h
      exact w.le hl
    · rw [getS_old q] at h
      exact (e.wf i u h).le hl
  · by_cases q : i = S.length
    · rw [q, pin_at]; exact .inl hp
    · rw [getS_old q] at h
      exact .inr ⟨i, u, h, (pin_ne q).symm⟩
  · exact up_ne fun z => by subst z; exact h1 hp
/-- a thing is written -/
theorem Ext.put {ι : Nm} {S : Sto} {M : MH} (e : Emb ι S M) {i : Nat} {o u : VO} (h : getS S i = some u) (w : wfO S.length o) : Ext ι S M ι (setS S i (some o)) (up M (ι i) (rnO ι o)) := by
  have hi := getS_lt h
  have hl : (setS S i (some o)).length = S.length := List.length_set
  have old : ∀ j v, getS (setS S i (some o)) j = some v → (j = i ∧ v = o) ∨ (j ≠ i ∧ getS S j = some v) := fun j v hj => by
    by_cases q : j = i
    · subst q
      rw [getS_set hi] at hj
      exact .inl ⟨rfl, (Option.some.inj hj).symm⟩
    · rw [getS_ne q] at hj
      exact .inr ⟨q, hj⟩
  have liv : ∀ j v, getS (setS S i (some o)) j = some v → ∃ v', getS S j = some v' := fun j v hj => by
    rcases old j v hj with ⟨rfl, _⟩ | ⟨_, q⟩
    · exact ⟨_, h⟩
    · exact ⟨_, q⟩
  refine ⟨⟨fun j v hj => ?_, fun j k v v' h1 h2 q => ?_, fun j v hj => ?_⟩, fun _ _ => rfl, Nat.le_of_eq hl.symm, fun j v hj => ?_, fun a h1 h2 => ?_⟩
  · rcases old j v hj with ⟨rfl, rfl⟩ | ⟨q, hj⟩
    · exact up_same
    · rw [up_ne fun z => q (e.inj j i v u hj h z)]
      exact e.at' j v hj
  · obtain ⟨_, z1⟩ := liv j v h1
    obtain ⟨_, z2⟩ := liv k v' h2
    exact e.inj j k _ _ z1 z2 q
  · rw [hl]
    rcases old j v hj with ⟨rfl, rfl⟩ | ⟨q, hj⟩
    · exact w
    · exact e.wf j v hj
  · obtain ⟨v', z⟩ := liv j v hj
    exact .inr ⟨j, v', z, rfl⟩
  · exact up_ne fun z => h2 i u h z.symm
/-- a thing is frozen -/
theorem Ext.del {ι : Nm} {S : Sto} {M : MH} (e : Emb ι S M) {i : Nat} {u : VO} (h : getS S i = some u) : Ext ι S M ι (setS S i none) (er M (ι i)) := by
  have hi := getS_lt h
  have hl : (setS S i none).length = S.length := List.length_set
  have old : ∀ j v, getS (setS S i none) j = some v → (j ≠ i ∧ getS S j = some v) := fun j v hj => by
    by_cases q : j = i
    · subst q
      rw [getS_set hi] at hj; cases hj
    · rw [getS_ne q] at hj
      exact ⟨q, hj⟩
  have erne : ∀ a, a ≠ ι i → er M (ι i) a = M a := fun a q => by unfold er; rw [if_neg q]
  refine ⟨⟨fun j v hj => ?_, fun j k v v' h1 h2 q => ?_, fun j v hj => ?_⟩, fun _ _ => rfl, Nat.le_of_eq hl.symm, fun j v hj => ?_, fun a h1 h2 => ?_⟩
  · obtain ⟨q, hj⟩ := old j v hj
    rw [erne _ fun z => q (e.inj j i v u hj h z)]
    exact e.at' j v hj
  · exact e.inj j k _ _ (old j v h1).2 (old k v' h2).2 q
  · rw [hl]
    exact e.wf j v (old j v hj).2
  · exact .inr ⟨j, v, (old j v hj).2, rfl⟩
  · exact erne _ fun z => h2 i u h z.symm
/-- a mark that is not ours is put aside -/
theorem Ext.aside {ι ι' : Nm} {S S' : Sto} {M M' : MH} {p : Addr} (x : Ext ι S M ι' S' M') (hp : M p ≠ none) (hn : ∀ i o, getS S i = some o → ι i ≠ p) : Ext ι S (er M p) ι' S' (er M' p) ∧ M' p = M p ∧ ∀ i o, getS S' i = some o → ι' i ≠ p := by
  have ne : ∀ i o, getS S' i = some o → ι' i ≠ p := fun i o h q => by
    rcases x.own i o h with z | ⟨j, u, z1, z2⟩
    · rw [q] at z; exact hp z
    · exact hn j u z1 (z2.trans q)
  have erne : ∀ (M : MH) a, a ≠ p → er M p a = M a := fun M a q => by unfold er; rw [if_neg q]
  refine ⟨⟨⟨fun i o h => ?_, x.emb.inj, x.emb.wf⟩, x.agr, x.len, fun i o h => ?_, fun a h1 h2 => ?_⟩, x.frm p hp hn, ne⟩
  · rw [erne _ _ (ne i o h)]; exact x.emb.at' i o h
  · rw [erne _ _ (ne i o h)]; exact x.own i o h
  · by_cases q : a = p
    · subst q; exact absurd er_none h1
    · rw [erne _ _ q] at h1 ⊢
      rw [erne _ _ q]
      exact x.frm a h1 h2
/-- .. and marked again -/
theorem Emb.mark {ι : Nm} {S : Sto} {M : MH} {p : Addr} {o : MO} (e : Emb ι S M) (hn : ∀ i o, getS S i = some o → ι i ≠ p) : Emb ι S (up M p o) :=
  ⟨fun i u h => by rw [up_ne (hn i u h)]; exact e.at' i u h, e.inj, e.wf⟩
theorem Emb.fresh {ι : Nm} {S : Sto} {M : MH} {p : Addr} (e : Emb ι S M) (hp : M p = none) : ∀ i o, getS S i = some o → ι i ≠ p := fun i u h q => by
  have := e.at' i u h
  rw [q, hp] at this; cases this
theorem er_up' {M : MH} {p : Addr} {o : MO} : er (up M p o) p = er M p := by
  funext a; unfold er up
  by_cases q : a = p
  · rw [if_pos q, if_pos q]
  · rw [if_neg q, if_neg q, if_neg q]
theorem er_self {M : MH} {p : Addr} (h : M p = none) : er M p = M := by
  funext a; unfold er
  by_cases q : a = p
  · rw [if_pos q, q, h]
  · rw [if_neg q]
theorem up_er {M : MH} {p : Addr} {o : MO} (h : M p = some o) : up (er M p) p o = M := by
  funext a; unfold er up
  by_cases q : a = p
  · simp [q, h]
  · simp [q]

/-! ### slots -/
theorem getV_eq : ∀ (e : WEn) (i : Nat), getV e i = (e[i]?).join
  | [], i => by simp [getV]
  | x :: r, 0 => by cases x <;> simp [getV]
  | x :: r, n + 1 => by show getV r n = _; rw [getV_eq r n]; simp
theorem getE_rn {ι : Nm} : ∀ (e : WEn) (i : Nat), getE (rnE ι e) i = (getV e i).map (rnW ι)
  | [], _ => rfl
  | x :: _, 0 => rfl
  | _ :: r, n + 1 => getE_rn r n
theorem setE_rn {ι : Nm} : ∀ (e : WEn) (i : Nat) (w : W), setE (rnE ι e) i (rnW ι w) = rnE ι (setV2 e i w)
  | [], _, _ => rfl
  | x :: _, 0, _ => rfl
  | x :: r, n + 1, w => by
    show (x.map (rnW ι)) :: setE (rnE ι r) n (rnW ι w) = _
    rw [setE_rn r n w]; rfl
theorem wipeE1_rn {ι : Nm} : ∀ (e : WEn) (i : Nat), wipeE1 (rnE ι e) i = rnE ι (wipeV1 e i)
  | [], _ => rfl
  | x :: _, 0 => rfl
  | x :: r, n + 1 => by
    show (x.map (rnW ι)) :: wipeE1 (rnE ι r) n = _
    rw [wipeE1_rn r n]; rfl
theorem wipeE_rn {ι : Nm} (e : WEn) : ∀ (vs : List Nat), wipeE (rnE ι e) vs = rnE ι (wipeV e vs)
  | [] => rfl
  | v :: vs => by
    show wipeE1 (wipeE (rnE ι e) vs) v = rnE ι (wipeV1 (wipeV e vs) v)
    rw [wipeE_rn e vs, wipeE1_rn]
theorem wfE_get {n : Nat} : ∀ {e : WEn} {i : Nat} {w : W}, wfE n e → getV e i = some w → wfW n w
  | [], _, _, _, h => by cases h
  | x :: r, 0, w, h, q => h w (by have q : x = some w := q; rw [q]; simp)
  | x :: r, i + 1, w, h, q => wfE_get (e := r) (fun u hu => h u (List.mem_cons_of_mem _ hu)) q
theorem wfE_set {n : Nat} {w : W} (hw : wfW n w) : ∀ {e : WEn} {i : Nat}, wfE n e → wfE n (setV2 e i w)
  | [], _, h => h
  | x :: r, 0, h => fun u hu => by
    rcases List.mem_cons.mp (show some u ∈ some w :: r from hu) with q | q
    · cases q; exact hw
    · exact h u (List.mem_cons_of_mem _ q)
  | x :: r, i + 1, h => fun u hu => by
    rcases List.mem_cons.mp (show some u ∈ x :: setV2 r i w from hu) with q | q
    · exact h u (by rw [q]; simp)
    · exact wfE_set hw (e := r) (fun u hu => h u (List.mem_cons_of_mem _ hu)) u q
theorem wfE_wipe1 {n : Nat} : ∀ {e : WEn} {i : Nat}, wfE n e → wfE n (wipeV1 e i)
  | [], _, h => h
  | x :: r, 0, h => fun u hu => by
    rcases List.mem_cons.mp (show some u ∈ none :: r from hu) with q | q
    · cases q
    · exact h u (List.mem_cons_of_mem _ q)
  | x :: r, i + 1, h => fun u hu => by
    rcases List.mem_cons.mp (show some u ∈ x :: wipeV1 r i from hu) with q | q
    · exact h u (by rw [q]; simp)
    · exact wfE_wipe1 (e := r) (fun u hu => h u (List.mem_cons_of_mem _ hu)) u q
theorem wfE_wipe {n : Nat} {e : WEn} (h : wfE n e) : ∀ (vs : List Nat), wfE n (wipeV e vs)
  | [] => h
  | v :: vs => wfE_wipe1 (wfE_wipe h vs)
theorem setAll_rn {ι : Nm} : ∀ (is : List Nat) (ds : List D) (e e' : WEn), setAllV e is ds = some e' → setAll (rnE ι e) is ds = some (rnE ι e')
  | [], [], e, e', h => by cases h; rfl
  | [], _ :: _, _, _, h => by cases h
  | _ :: _, [], _, _, h => by cases h
  | i :: is, d :: ds, e, e', h => by
    show setAll (setE (rnE ι e) i d) is ds = _
    have := setE_rn (ι := ι) e i (.v d)
    rw [show setE (rnE ι e) i d = rnE ι (setV2 e i (.v d)) from this]
    exact setAll_rn is ds _ _ h
theorem setAll_wf {n : Nat} : ∀ (is : List Nat) (ds : List D) (e e' : WEn), wfE n e → setAllV e is ds = some e' → wfE n e'
  | [], [], e, e', w, h => by cases h; exact w
  | [], _ :: _, _, _, _, h => by cases h
  | _ :: _, [], _, _, _, h => by cases h
  | i :: is, d :: ds, e, e', w, h => setAll_wf is ds _ _ (wfE_set (w := .v d) trivial w) h
theorem bind_rn {ι : Nm} {n : Nat} {tg : Tg} {w : W} {e e' : WEn} (he : wfE n e) (hw : wfW n w) (h : bindV tg w e = some e') : bindT tg (rnW ι w) (rnE ι e) = some (rnE ι e') ∧ wfE n e' := by
  cases tg with
  | nm i =>
    cases h
    exact ⟨congrArg some (setE_rn e i w), wfE_set hw he⟩
  | tp is =>
    cases w with
    | r i => cases h
    | v d =>
      cases d with
      | tp k ds =>
        have h : setAllV e is ds = some e' := h
        exact ⟨setAll_rn is ds e e' h, setAll_wf is ds e e' he h⟩
      | _ => cases h

/-! ### reading -/
section
variable {ι : Nm} {S : Sto} {M : MH} {w x y : W} {d : D}
theorem rdW_cases (h : rdW S w = some d) : (w = .v d ∧ ∀ a, d ≠ .ref a) ∨ ∃ i ds, w = .r i ∧ getS S i = some (.lst ds) ∧ d = .lst ds := by
  cases w with
  | v d' =>
    left
    cases d' with
    | ref a => cases h
    | _ => cases h; exact ⟨rfl, fun a q => by cases q⟩
  | r i =>
    right
    have h : (match getS S i with | some (.lst ds) => some (D.lst ds) | _ => none) = some d := h
    split at h
    · rename_i ds q
      cases h
      exact ⟨i, ds, rfl, q, rfl⟩
    · cases h
theorem rdW_at (e : Emb ι S M) {i : Nat} {ds : List D} (h : getS S i = some (.lst ds)) : M (ι i) = some (.lst ds) := e.at' i _ h
theorem rd_rdL (e : Emb ι S M) (h : rdW S w = some d) : rdL M (rnW ι w) = d := by
  rcases rdW_cases h with ⟨rfl, q⟩ | ⟨i, ds, rfl, g, rfl⟩
  · cases d <;> first | rfl | exact absurd rfl (q _)
  · show (match M (ι i) with | some (.lst ds) => D.lst ds | _ => .ref (ι i)) = _
    rw [rdW_at e g]
theorem rd_asL (e : Emb ι S M) (h : rdW S w = some d) : asL M (rnW ι w) = asL M00 d := by
  rcases rdW_cases h with ⟨rfl, q⟩ | ⟨i, ds, rfl, g, rfl⟩
  · cases d <;> first | rfl | exact absurd rfl (q _)
  · show (match M (ι i) with | some (.lst ds) => some ds | _ => none) = some ds
    rw [rdW_at e g]
theorem rd_exL (e : Emb ι S M) (h : rdW S w = some d) : exL M (rnW ι w) = exL M00 d := by
  rcases rdW_cases h with ⟨rfl, q⟩ | ⟨i, ds, rfl, g, rfl⟩
  · cases d <;> first | rfl | exact absurd rfl (q _)
  · show (match M (ι i) with | some (.lst ds) => some ds | _ => none) = some ds
    rw [rdW_at e g]
theorem rd_asT (h : rdW S w = some d) : asT (rnW ι w) = asT d := by
  rcases rdW_cases h with ⟨rfl, q⟩ | ⟨i, ds, rfl, g, rfl⟩
  · rfl
  · rfl
theorem rd_seqM (e : Emb ι S M) (h : rdW S w = some d) : seqM M (rnW ι w) = seqM M00 d := by
  unfold seqM
  rw [rd_asT h, rd_asL e h]
theorem rdL_pl {M : MH} (h : ∀ a, d ≠ .ref a) : rdL M d = d := by
  cases d <;> first | rfl | exact absurd rfl (h _)
theorem sq_seqM (e : Emb ι S M) {ds : List D} (h : sqW S w = some ds) : seqM M (rnW ι w) = some ds := by
  unfold sqW at h
  cases q : rdW S w with
  | none => rw [q] at h; cases h
  | some d =>
    rw [q] at h
    rw [rd_seqM e q]
    cases d <;> first | exact h | cases h
theorem plW_eq (h : plW w = some d) : w = .v d ∧ ∀ a, d ≠ .ref a := by
  cases w with
  | r i => cases h
  | v d' =>
    cases d' with
    | ref a => cases h
    | _ => cases h; exact ⟨rfl, fun a q => by cases q⟩
theorem valD_G {κ : Type} [DecidableEq κ] {kvs : List (κ × D)} {k : κ} : valD kvs k = valG kvs k := rfl
theorem valG_map {κ α β : Type} [DecidableEq κ] (f : α → β) (k : κ) : ∀ kvs : List (κ × α), valG (kvs.map fun kv => (kv.1, f kv.2)) k = (valG kvs k).map f
  | [] => rfl
  | kv :: r => by
    have ih := valG_map f k r
    unfold valG at ih ⊢
    rw [List.map_cons]
    by_cases q : kv.1 = k
    · rw [List.find?_cons_of_pos (by exact decide_eq_true q), List.find?_cons_of_pos (by exact decide_eq_true q)]; rfl
    · rw [List.find?_cons_of_neg (by simpa using q), List.find?_cons_of_neg (by simpa using q)]; exact ih
theorem putG_map {κ α β : Type} [DecidableEq κ] (f : α → β) (k : κ) (v : α) (kvs : List (κ × α)) : putG (kvs.map fun kv => (kv.1, f kv.2)) k (f v) = (putG kvs k v).map fun kv => (kv.1, f kv.2) := by
  unfold putG
  rw [List.any_map]
  by_cases q : (kvs.any fun kv => decide (kv.1 = k)) = true
  · rw [if_pos q, if_pos (by exact q), List.map_map, List.map_map]
    refine List.map_congr_left fun kv _ => ?_
    show (if kv.1 = k then _ else _) = _
    show _ = ((if kv.1 = k then (kv.1, v) else kv).1, f (if kv.1 = k then (kv.1, v) else kv).2)
    by_cases z : kv.1 = k
    · rw [if_pos z, if_pos z]
    · rw [if_neg z, if_neg z]
  · rw [if_neg q, if_neg (by exact q), List.map_append]; rfl
theorem valG_mem {κ α : Type} [DecidableEq κ] {kvs : List (κ × α)} {k : κ} {v : α} (h : valG kvs k = some v) : (k, v) ∈ kvs := by
  unfold valG at h
  cases q : kvs.find? fun kv => decide (kv.1 = k) with
  | none => rw [q] at h; cases h
  | some e =>
    rw [q] at h
    have h : e.2 = v := Option.some.inj h
    have h1 : decide (e.1 = k) = true := List.find?_some (p := fun kv : κ × α => decide (kv.1 = k)) q
    have h1 := of_decide_eq_true h1
    have h2 := List.mem_of_find?_eq_some q
    rw [← h1, ← h]; exact h2
theorem putG_mem {κ α : Type} [DecidableEq κ] {kvs : List (κ × α)} {k : κ} {v : α} {e : κ × α} (h : e ∈ putG kvs k v) : e ∈ kvs ∨ e = (k, v) := by
  unfold putG at h
  split at h
  · obtain ⟨e0, h0, h1⟩ := List.mem_map.mp h
    split at h1
    · rename_i z
      rw [← h1, ← z]; exact .inr rfl
    · rw [← h1]; exact .inl h0
  · rcases List.mem_append.mp h with h | h
    · exact .inl h
    · exact .inr (List.mem_singleton.mp h)
theorem rnd_v {kvs : List (Key × D)} {k : Key} : ((valG kvs k).map W.v).map (rnW ι) = valG kvs k := by
  cases valG kvs k <;> rfl
theorem rnd_vT {kvs : List (List Key × D)} {k : List Key} : ((valG kvs k).map W.v).map (rnW ι) = valG kvs k := by
  cases valG kvs k <;> rfl
theorem df_dfind (e : Emb ι S M) {o : Option W} (h : dfW S y d = some o) : dfind M (rnW ι y) d = some (o.map (rnW ι)) ∧ seqM M (rnW ι y) = none ∧ ∀ w, o = some w → wfW S.length w := by
  cases y with
  | v z =>
    cases z with
    | dK ks ds =>
      have h : (match keyK d with | some k => some ((valG (ks.zip ds) k).map W.v) | none => none) = some o := h
      split at h
      · rename_i k hk
        cases h
        refine ⟨?_, rfl, ?_⟩
        · show (match (some (ks.zip ds)), keyK d with | some kvs, some k => some (valD kvs k) | _, _ => _) = _
          rw [hk, rnd_v]; rfl
        · intro w hw
          cases q : valG (ks.zip ds) k with
          | none => rw [q] at hw; cases hw
          | some v => rw [q] at hw; cases hw; trivial
      · cases h
    | dT ks ds =>
      have h : (match keyT d with | some k => some ((valG (ks.zip ds) k).map W.v) | none => none) = some o := h
      split at h
      · rename_i k hk
        cases h
        refine ⟨?_, rfl, ?_⟩
        · have : dfind M (D.dT ks ds) d = (match some (ks.zip ds), keyT d with | some kvs, some k => some (valD kvs k) | _, _ => none) := by
            unfold dfind; rfl
          show dfind M (D.dT ks ds) d = _
          rw [this, hk, rnd_vT]; rfl
        · intro w hw
          cases q : valG (ks.zip ds) k with
          | none => rw [q] at hw; cases hw
          | some v => rw [q] at hw; cases hw; trivial
      · cases h
    | _ => cases h
  | r i =>
    have h : (match getS S i with
      | some (.dK kvs) => (match keyK d with | some k => some (valG kvs k) | none => none)
      | some (.dT kvs) => (match keyT d with | some k => some (valG kvs k) | none => none)
      | _ => none) = some o := h
    split at h
    · rename_i kvs g
      split at h
      · rename_i k hk
        cases h
        have hM := e.at' i _ g
        refine ⟨?_, ?_, fun w hw => e.wf i _ g _ (valG_mem hw)⟩
        · have : asK M (.ref (ι i)) = some (kvs.map fun kv => (kv.1, rnW ι kv.2)) := by
            show (match M (ι i) with | some (.dK kvs) => some kvs | _ => none) = _
            rw [hM]; rfl
          show dfind M (.ref (ι i)) d = _
          unfold dfind
          rw [this, hk, ← valG_map]; rfl
        · show (match M (ι i) with | some (.lst ds) => some ds | _ => none) = none
          rw [hM]; rfl
      · cases h
    · rename_i kvs g
      split at h
      · rename_i k hk
        cases h
        have hM := e.at' i _ g
        refine ⟨?_, ?_, fun w hw => e.wf i _ g _ (valG_mem hw)⟩
        · have h1 : asK M (.ref (ι i)) = none := by
            show (match M (ι i) with | some (.dK kvs) => some kvs | _ => none) = _
            rw [hM]; rfl
          have h2 : asD M (.ref (ι i)) = some (kvs.map fun kv => (kv.1, rnW ι kv.2)) := by
            show (match M (ι i) with | some (.dT kvs) => some kvs | _ => none) = _
            rw [hM]; rfl
          show dfind M (.ref (ι i)) d = _
          unfold dfind
          rw [h1, h2, hk, ← valG_map]; rfl
        · show (match M (ι i) with | some (.lst ds) => some ds | _ => none) = none
          rw [hM]; rfl
      · cases h
    · cases h
end
end Z

/-! V3: operators and constructs: the functions are sound for the reading of data. -/
namespace Z
open PySem PySem.Spec PyProof.Rows L2

/-- what is left to show behind a result -/
def Post {α : Type} (ι : Nm) (S : Sto) (M : MH) (E : X3) (r : Rs α) (K : α → Nm → Sto → MH → Prop) : Prop := match r with
  | .ok a S' => ∀ ι' M', Ext ι S M ι' S' M' → K a ι' S' M'
  | .ex x S' => ∀ ι' M', Ext ι S M ι' S' M' → E x M'
  | .no => False
section
variable {α β : Type} {ι ι1 : Nm} {S S1 : Sto} {M M1 : MH} {E : X3} {r : Rs α} {K K' : α → Nm → Sto → MH → Prop}
theorem Post.from (x : Ext ι S M ι1 S1 M1) (h : Post ι S M E r K) : Post ι1 S1 M1 E r K := by
  cases r with
  | ok a S' => exact fun ι' M' y => h ι' M' (x.trans y)
  | ex e S' => exact fun ι' M' y => h ι' M' (x.trans y)
  | no => exact h
theorem Post.bind {g : α → Sto → Rs β} {K : β → Nm → Sto → MH → Prop} (h : Post ι S M E (r.bind g) K) : Post ι S M E r fun a ι' S' M' => Post ι' S' M' E (g a S') K := by
  cases r with
  | ok a S' => exact fun ι' M' x => Post.from x (show Post ι S M E (g a S') K from h)
  | ex e S' => exact h
  | no => exact h
theorem Post.imp (h : Post ι S M E r K) (f : ∀ a ι' S' M', Ext ι S M ι' S' M' → K a ι' S' M' → K' a ι' S' M') : Post ι S M E r K' := by
  cases r with
  | ok a S' => exact fun ι' M' x => f a ι' S' M' x (h ι' M' x)
  | ex e S' => exact h
  | no => exact h
theorem Post.now {a : α} (e : Emb ι S M) (h : Post ι S M E (.ok a S) K) : K a ι S M := h ι M (Ext.refl e)
theorem Post.lft {o : Option α} (e : Emb ι S M) (h : Post ι S M E (lft S o) K) : ∃ a, o = some a ∧ K a ι S M := by
  cases o with
  | none => exact h.elim
  | some a => exact ⟨a, rfl, Post.now e h⟩
theorem Post.lfv {o : Option D} {K : W → Nm → Sto → MH → Prop} (e : Emb ι S M) (h : Post ι S M E (lfv S o) K) : ∃ a, o = some a ∧ K (.v a) ι S M := by
  cases o with
  | none => exact h.elim
  | some a => exact ⟨a, rfl, Post.now e h⟩
end
def SndE (E : X3) (t : T3) (f : WF W) : Prop := ∀ en S ι M Q, wfE S.length en → Emb ι S M → Post ι S M E (f en S) (fun w ι' S' M' => wfW S'.length w → Q (rnW ι' w) M') → t (rnE ι en) M Q
def SndT (E : X3) (t : TB3) (f : WF Bool) : Prop := ∀ en S ι M Q, wfE S.length en → Emb ι S M → Post ι S M E (f en S) (fun b _ _ M' => Q b M') → t (rnE ι en) M Q
def SndL (E : X3) (t : TL3) (f : WF (List W)) : Prop := ∀ en S ι M Q, wfE S.length en → Emb ι S M → Post ι S M E (f en S) (fun ws ι' S' M' => wfL S'.length ws → Q (ws.map (rnW ι')) M') → t (rnE ι en) M Q
def SndO (E : X3) (t : TO3) (f : WF (Option Int)) : Prop := ∀ en S ι M Q, wfE S.length en → Emb ι S M → Post ι S M E (f en S) (fun b _ _ M' => Q b M') → t (rnE ι en) M Q
def SndI (E : X3) (t : TL3) (f : WF (List D)) : Prop := ∀ en S ι M Q, wfE S.length en → Emb ι S M → Post ι S M E (f en S) (fun ds _ _ M' => Q ds M') → t (rnE ι en) M Q
def OpS (o : O2) (f : Sto → W → W → Option D) : Prop := ∀ S ι M x y r Q, Emb ι S M → f S x y = some r → Q r M → o (rnW ι x) (rnW ι y) M Q
def OpW (o : O2) (f : Sto → W → W → Option W) : Prop := ∀ S ι M x y r Q, Emb ι S M → f S x y = some r → (wfW S.length r → Q (rnW ι r) M) → o (rnW ι x) (rnW ι y) M Q
def Op1 (o : O1) (f : Sto → W → Option D) : Prop := ∀ S ι M x r Q, Emb ι S M → f S x = some r → Q r M → o (rnW ι x) M Q
section
variable {E : X3} {ta tb tc : T3} {fa fb fc : WF W}
theorem wf_ext {ι ι1 : Nm} {S S1 : Sto} {M M1 : MH} (x : Ext ι S M ι1 S1 M1) {en : WEn} (h : wfE S.length en) : wfE S1.length en ∧ rnE ι en = rnE ι1 en := ⟨h.le x.len, (rnE_agr x.agr h).symm⟩
theorem rd1_some {S : Sto} {w : W} {f : D → Option D} {r : D} (h : rd1 S w f = some r) : ∃ d, rdW S w = some d ∧ f d = some r := by
  unfold rd1 at h
  cases q : rdW S w with
  | none => rw [q] at h; cases h
  | some d => rw [q] at h; exact ⟨d, rfl, h⟩
theorem rd2_some {S : Sto} {x y : W} {f : D → D → Option D} {r : D} (h : rd2 S x y f = some r) : ∃ d e, rdW S x = some d ∧ rdW S y = some e ∧ f d e = some r := by
  unfold rd2 at h
  cases q : rdW S x with
  | none => rw [q] at h; cases h
  | some d =>
    cases q2 : rdW S y with
    | none => rw [q, q2] at h; cases h
    | some e => rw [q, q2] at h; exact ⟨d, e, rfl, rfl, h⟩
theorem rdW_v {S : Sto} {w : W} {d : D} (h : rdW S w = some d) (hn : ∀ ds, d ≠ .lst ds) : w = .v d := by
  rcases rdW_cases h with ⟨rfl, _⟩ | ⟨i, ds, rfl, g, rfl⟩
  · rfl
  · exact absurd rfl (hn ds)
/-! ### operators -/
theorem os_bin (o : BOp) : OpS o.o2 (fun S x y => rd2 S x y o.vo) := by
  intro S ι M x y r Q em h q
  obtain ⟨d, e, hx, hy, hf⟩ := rd2_some h
  cases o with
  | add =>
    change vadd d e = some r at hf
    show add3 _ _ _ _
    unfold vadd at hf
    split at hf
    · rw [rdW_v hx (fun _ z => by cases z), rdW_v hy (fun _ z => by cases z)]
      cases hf; exact q
    · rw [rdW_v hx (fun _ z => by cases z), rdW_v hy (fun _ z => by cases z)]
      split at hf
      · rename_i hl
        cases hf; exact ⟨hl, q⟩
      · cases hf
    · rw [rdW_v hx (fun _ z => by cases z), rdW_v hy (fun _ z => by cases z)]
      split at hf
      · rename_i hl
        cases hf; exact ⟨hl, q⟩
      · cases hf
    · rename_i a b
      split at hf
      · rename_i hl
        cases hf
        have h1 := rd_exL em hx
        have h2 := rd_exL em hy
        have key : ∀ u v : D, exL M u = some a → exL M v = some b → add3 u v M Q := by
          intro u v h1 h2
          unfold add3
          split
          · cases h1
          · cases h1
          · cases h1
          · rw [h1, h2]; exact ⟨hl, q⟩
        exact key _ _ h1 h2
      · cases hf
    · cases hf
  | sub =>
    change vsub d e = some r at hf
    unfold vsub at hf
    split at hf
    · rw [rdW_v hx (fun _ z => by cases z), rdW_v hy (fun _ z => by cases z)]
      cases hf; exact q
    · cases hf
  | mul =>
    change vmul d e = some r at hf
    show mul3 _ _ _ _
    unfold vmul at hf
    split at hf
    · rw [rdW_v hx (fun _ z => by cases z), rdW_v hy (fun _ z => by cases z)]
      split at hf
      · rename_i hl
        cases hf
        refine ⟨?_, q⟩
        unfold mulOk at hl
        show IntMulOk _ _
        unfold IntMulOk
        rw [Bool.not_eq_true'] at hl
        rw [hl]; simp
      · cases hf
    · rw [rdW_v hx (fun _ z => by cases z), rdW_v hy (fun _ z => by cases z)]
      split at hf
      · rename_i hl
        cases hf
        exact ⟨hl.1, hl.2.1, hl.2.2, q⟩
      · cases hf
    · rw [rdW_v hx (fun _ z => by cases z), rdW_v hy (fun _ z => by cases z)]
      split at hf
      · rename_i hl
        cases hf
        exact ⟨hl, q⟩
      · cases hf
    · rename_i a k
      rw [rdW_v hy (fun _ z => by cases z)]
      split at hf
      · rename_i hl
        cases hf
        have h1 := rd_exL em hx
        have key : ∀ u : D, exL M u = some a → mul3 u (.int k) M Q := by
          intro u h1
          unfold mul3
          split
          · cases h1
          · cases h1
          · cases h1
          · rename_i z
            cases z
            rw [h1]; exact ⟨hl.1, hl.2.1, hl.2.2, q⟩
          · rename_i h7 h8 h9 h10
            first | exact (h10 _ rfl).elim | exact (h9 _ rfl).elim | exact (h8 _ rfl).elim | exact (h7 _ rfl).elim
        exact key _ h1
      · cases hf
    · cases hf
  | fdv =>
    change vfdv d e = some r at hf
    unfold vfdv at hf
    split at hf
    · rw [rdW_v hx (fun _ z => by cases z), rdW_v hy (fun _ z => by cases z)]
      split at hf
      · rename_i hl
        cases hf; exact ⟨hl, q⟩
      · cases hf
    · cases hf
  | mod =>
    change vmod d e = some r at hf
    unfold vmod at hf
    split at hf
    · rw [rdW_v hx (fun _ z => by cases z), rdW_v hy (fun _ z => by cases z)]
      split at hf
      · rename_i hl
        cases hf; exact ⟨hl, q⟩
      · cases hf
    · cases hf
  | pow =>
    change vpow d e = some r at hf
    unfold vpow at hf
    split at hf
    · rw [rdW_v hx (fun _ z => by cases z), rdW_v hy (fun _ z => by cases z)]
      split at hf
      · rename_i hl
        cases hf; exact ⟨hl, q⟩
      · cases hf
    · cases hf
theorem eqOk_of {S : Sto} {ι : Nm} {M : MH} {x y : W} {d e : D} (em : Emb ι S M) (hx : rdW S x = some d) (hy : rdW S y = some e) (h : veqOk d e = true) : eqOk M (rnW ι x) (rnW ι y) = true := by
  unfold eqOk
  rw [rd_rdL em hx, rd_rdL em hy]
  unfold veqOk at h
  rw [Bool.or_eq_true] at h ⊢
  rcases h with h | h
  · left
    have : (∀ ds, d ≠ .lst ds) ∧ ∀ ds, e ≠ .lst ds := by
      constructor <;> intro ds z <;> subst z
      · exact absurd h (by simp [sc2])
      · cases d <;> exact absurd h (by simp [sc2])
    rw [rdW_v hx this.1, rdW_v hy this.2]; exact h
  · right; exact h
theorem ltOk_of {S : Sto} {ι : Nm} {M : MH} {x y : W} {d e : D} (em : Emb ι S M) (hx : rdW S x = some d) (hy : rdW S y = some e) (h : vltOk d e = true) : ltOk M (rnW ι x) (rnW ι y) = true := by
  unfold ltOk
  rw [rd_rdL em hx, rd_rdL em hy]; exact h
theorem rdW_int {S : Sto} {x : W} {ι : Nm} {M : MH} {d : D} (em : Emb ι S M) (hx : rdW S x = some d) {i : Int} (h : rnW ι x = .int i) : d = .int i := by
  rcases rdW_cases hx with ⟨rfl, _⟩ | ⟨j, ds, rfl, g, rfl⟩
  · exact h
  · cases h
theorem inW_ok {S : Sto} {ι : Nm} {M : MH} {x y : W} {b : Bool} (em : Emb ι S M) (h : inW S x y = some b) : inAns M (rnW ι x) (rnW ι y) = some b := by
  unfold inW at h
  split at h
  · cases h
  · rename_i d hx
    obtain ⟨rfl, _⟩ := plW_eq hx
    show inAns M d (rnW ι y) = some b
    split at h
    · rename_i z
      exact h
    · rename_i hny
      have key : ∀ Y : D, (∀ z, Y ≠ .str z) → inAns M d Y = (match seqM M Y with
          | some ds => if inOk d ds = true then some (ds.any fun z => eqv z d) else none
          | none => match dfind M Y d with
            | some o => some o.isSome
            | none => none) := by
        intro Y hY
        unfold inAns
        split
        · exact absurd rfl (hY _)
        · rfl
      have hY : ∀ z, rnW ι y ≠ .str z := by
        intro z e
        cases y with
        | r i => cases e
        | v d' => exact hny z (by rw [show d' = .str z from e])
      rw [key _ hY]
      split at h
      · rename_i ds hs
        rw [sq_seqM em hs]; exact h
      · split at h
        · rename_i o ho
          obtain ⟨h1, h2, _⟩ := df_dfind em ho
          rw [h1, h2]
          cases h
          cases o <;> rfl
        · cases h
theorem ixW_ok {S : Sto} {ι : Nm} {M : MH} {x y r : W} (em : Emb ι S M) (h : ixW S x y = some r) : ixAns M (rnW ι x) (rnW ι y) = some (rnW ι r) ∧ wfW S.length r := by
  unfold ixW at h
  split at h
  · cases h
  · rename_i i hy
    obtain ⟨rfl, _⟩ := plW_eq hy
    show ixAns M (rnW ι x) (.int i) = _ ∧ _
    split at h
    · rename_i z
      split at h
      · rename_i hl
        split at h
        · rename_i c hc
          cases h
          refine ⟨?_, trivial⟩
          show (if z.length ≤ sizeLine then (match atI z.cps.toList i with | some c => some (D.str ⟨#[c]⟩) | none => none) else none) = _
          rw [if_pos hl, hc]; rfl
        · cases h
      · cases h
    · rename_i hnx
      have key : ∀ Y : D, (∀ z, Y ≠ .str z) → ixAns M Y (.int i) = (match seqM M Y with
          | some ds => atI ds i
          | none => (dfind M Y (.int i)).join) := by
        intro Y hY
        show (match Y with
          | .str z => if z.length ≤ sizeLine then (match atI z.cps.toList i with | some c => some (D.str ⟨#[c]⟩) | none => none) else none
          | x => match seqM M x with
            | some ds => atI ds i
            | none => (dfind M x (.int i)).join) = _
        split
        · exact absurd rfl (hY _)
        · rfl
      have hY : ∀ z, rnW ι x ≠ .str z := by
        intro z e
        cases x with
        | r i => cases e
        | v d' => exact hnx z (by rw [show d' = .str z from e])
      rw [key _ hY]
      split at h
      · rename_i ds hs
        rw [sq_seqM em hs]
        cases q : atI ds i with
        | none => rw [q] at h; cases h
        | some d => rw [q] at h; cases h; exact ⟨q, trivial⟩
      · cases q : dfW S x (.int i) with
        | none => rw [q] at h; cases h
        | some o =>
          rw [q] at h
          obtain ⟨h1, h2, h3⟩ := df_dfind em q
          have h : o = some r := h
          subst h
          rw [h1, h2]
          exact ⟨rfl, h3 r rfl⟩
  · rename_i d hni hy
    obtain ⟨rfl, _⟩ := plW_eq hy
    cases q : dfW S x d with
    | none => rw [q] at h; cases h
    | some o =>
      rw [q] at h
      obtain ⟨h1, h2, h3⟩ := df_dfind em q
      have h : o = some r := h
      subst h
      refine ⟨?_, h3 r rfl⟩
      show ixAns M (rnW ι x) d = _
      unfold ixAns
      split
      · exact absurd rfl (hni _)
      · rw [h1]; rfl
theorem os_cmp (o : COp) : OpS o.o2 (fun S x y => o.vo S x y) := by
  intro S ι M x y r Q em h q
  cases o with
  | eq =>
    obtain ⟨d, e, hx, hy, hf⟩ := rd2_some (show rd2 S x y veq = some r from h)
    unfold veq at hf
    split at hf
    · rename_i hl
      cases hf
      refine ⟨eqOk_of em hx hy hl, ?_⟩
      rw [rd_rdL em hx, rd_rdL em hy]; exact q
    · cases hf
  | ne =>
    obtain ⟨d, e, hx, hy, hf⟩ := rd2_some (show rd2 S x y vne = some r from h)
    unfold vne at hf
    split at hf
    · rename_i hl
      cases hf
      refine ⟨eqOk_of em hx hy hl, ?_⟩
      rw [rd_rdL em hx, rd_rdL em hy]; exact q
    · cases hf
  | lt =>
    obtain ⟨d, e, hx, hy, hf⟩ := rd2_some (show rd2 S x y vlt = some r from h)
    show lt3 _ _ _ _
    unfold lt3
    split
    · rename_i i j h1 h2
      cases rdW_int em hx h1
      cases rdW_int em hy h2
      cases hf; exact q
    · rename_i hno
      rw [rd_rdL em hx, rd_rdL em hy]
      unfold vlt at hf
      split at hf
      · exact (hno _ _ (by rw [rdW_v hx (fun _ z => by cases z)]; rfl) (by rw [rdW_v hy (fun _ z => by cases z)]; rfl)).elim
      · split at hf
        · rename_i hl
          cases hf
          exact ⟨ltOk_of em hx hy hl, q⟩
        · cases hf
  | le =>
    obtain ⟨d, e, hx, hy, hf⟩ := rd2_some (show rd2 S x y vle = some r from h)
    show le3 _ _ _ _
    unfold le3
    split
    · rename_i i j h1 h2
      cases rdW_int em hx h1
      cases rdW_int em hy h2
      cases hf; exact q
    · rename_i hno
      rw [rd_rdL em hx, rd_rdL em hy]
      unfold vle at hf
      split at hf
      · exact (hno _ _ (by rw [rdW_v hx (fun _ z => by cases z)]; rfl) (by rw [rdW_v hy (fun _ z => by cases z)]; rfl)).elim
      · split at hf
        · rename_i hl
          cases hf
          exact ⟨ltOk_of em hx hy hl, q⟩
        · cases hf
  | gt =>
    obtain ⟨d, e, hx, hy, hf⟩ := rd2_some (show rd2 S x y vgt = some r from h)
    show gt3 _ _ _ _
    unfold gt3
    split
    · rename_i i j h1 h2
      cases rdW_int em hx h1
      cases rdW_int em hy h2
      cases hf; exact q
    · rename_i hno
      rw [rd_rdL em hx, rd_rdL em hy]
      unfold vgt at hf
      split at hf
      · exact (hno _ _ (by rw [rdW_v hx (fun _ z => by cases z)]; rfl) (by rw [rdW_v hy (fun _ z => by cases z)]; rfl)).elim
      · split at hf
        · rename_i hl
          cases hf
          exact ⟨ltOk_of em hx hy hl, q⟩
        · cases hf
  | ge =>
    obtain ⟨d, e, hx, hy, hf⟩ := rd2_some (show rd2 S x y vge = some r from h)
    show ge3 _ _ _ _
    unfold ge3
    split
    · rename_i i j h1 h2
      cases rdW_int em hx h1
      cases rdW_int em hy h2
      cases hf; exact q
    · rename_i hno
      rw [rd_rdL em hx, rd_rdL em hy]
      unfold vge at hf
      split at hf
      · exact (hno _ _ (by rw [rdW_v hx (fun _ z => by cases z)]; rfl) (by rw [rdW_v hy (fun _ z => by cases z)]; rfl)).elim
      · split at hf
        · rename_i hl
          cases hf
          exact ⟨ltOk_of em hx hy hl, q⟩
        · cases hf
  | isin =>
    have h : blO (inW S x y) = some r := h
    cases z : inW S x y with
    | none => rw [z] at h; cases h
    | some b =>
      rw [z] at h
      cases h
      show (match inAns M (rnW ι x) (rnW ι y) with | some b => Q (.bl b) M | none => False)
      rw [inW_ok em z]; exact q
  | notin =>
    have h : blO ((inW S x y).map not) = some r := h
    cases z : inW S x y with
    | none => rw [z] at h; cases h
    | some b =>
      rw [z] at h
      cases h
      show (match inAns M (rnW ι x) (rnW ι y) with | some b => Q (.bl (!b)) M | none => False)
      rw [inW_ok em z]; exact q
  | «is» =>
    have h : (if nonW y = true then some (D.bl (nonW x)) else none) = some r := h
    split at h
    · rename_i hl
      cases h
      have hy : y = .v .non := by
        cases y with
        | r i => cases hl
        | v d => cases d <;> first | rfl | cases hl
      subst hy
      show Q (.bl (isNon (rnW ι x))) M
      have : isNon (rnW ι x) = nonW x := by
        cases x with
        | r i => rfl
        | v d => cases d <;> rfl
      rw [this]; exact q
    · cases h
  | «isnot» =>
    have h : (if nonW y = true then some (D.bl (!nonW x)) else none) = some r := h
    split at h
    · rename_i hl
      cases h
      have hy : y = .v .non := by
        cases y with
        | r i => cases hl
        | v d => cases d <;> first | rfl | cases hl
      subst hy
      show Q (.bl (!isNon (rnW ι x))) M
      have : isNon (rnW ι x) = nonW x := by
        cases x with
        | r i => rfl
        | v d => cases d <;> rfl
      rw [this]; exact q
    · cases h
end
end Z

/-! V4: constructs of expressions are sound. -/
namespace Z
open PySem PySem.Spec PyProof.Rows L2
section
variable {E : X3} {ta tb tc : T3} {fa fb fc : WF W} {tl : TL3} {fl : WF (List W)}
theorem sd_loc (i : Nat) : SndE E (loc3 i) (fun en S => lft S (getV en i)) := by
  intro en S ι M Q we em h
  obtain ⟨w, hw, k⟩ := Post.lft em h
  unfold loc3
  rw [getE_rn, hw]
  exact k (wfE_get we hw)
theorem sd_con (d : D) : SndE E (con3 d) (fun _ S => .ok (.v d) S) := fun en S ι M Q we em h => Post.now em h trivial
theorem sd_bin {o : O2} {f : Sto → W → W → Option D} (ho : OpS o f) (ha : SndE E ta fa) (hb : SndE E tb fb) : SndE E (op2 o ta tb) (fun en S => (fa en S).bind fun x S1 => (fb en S1).bind fun y S2 => lfv S2 (f S2 x y)) := by
  intro en S ι M Q we em h
  refine ha en S ι M _ we em ((Post.bind h).imp fun x ι1 S1 M1 x1 h1 wx => ?_)
  obtain ⟨we1, e1⟩ := wf_ext x1 we
  rw [e1]
  refine hb en S1 ι1 M1 _ we1 x1.emb ((Post.bind h1).imp fun y ι2 S2 M2 x2 h2 wy => ?_)
  obtain ⟨r, hr, k⟩ := Post.lfv x2.emb h2
  rw [← rnW_agr x2.agr wx]
  exact ho S2 ι2 M2 x y r Q x2.emb hr (k trivial)
theorem sd_binW {o : O2} {f : Sto → W → W → Option W} (ho : OpW o f) (ha : SndE E ta fa) (hb : SndE E tb fb) : SndE E (op2 o ta tb) (fun en S => (fa en S).bind fun x S1 => (fb en S1).bind fun y S2 => lft S2 (f S2 x y)) := by
  intro en S ι M Q we em h
  refine ha en S ι M _ we em ((Post.bind h).imp fun x ι1 S1 M1 x1 h1 wx => ?_)
  obtain ⟨we1, e1⟩ := wf_ext x1 we
  rw [e1]
  refine hb en S1 ι1 M1 _ we1 x1.emb ((Post.bind h1).imp fun y ι2 S2 M2 x2 h2 wy => ?_)
  obtain ⟨r, hr, k⟩ := Post.lft x2.emb h2
  rw [← rnW_agr x2.agr wx]
  exact ho S2 ι2 M2 x y r Q x2.emb hr k
theorem sd_un {o : O1} {f : Sto → W → Option D} (ho : Op1 o f) (ha : SndE E ta fa) : SndE E (op1 o ta) (fun en S => (fa en S).bind fun x S1 => lfv S1 (f S1 x)) := by
  intro en S ι M Q we em h
  refine ha en S ι M _ we em ((Post.bind h).imp fun x ι1 S1 M1 x1 h1 wx => ?_)
  obtain ⟨r, hr, k⟩ := Post.lfv x1.emb h1
  exact ho S1 ι1 M1 x r Q x1.emb hr (k trivial)
theorem ow_ix : OpW ix3 ixW := by
  intro S ι M x y r Q em h q
  obtain ⟨h1, h2⟩ := ixW_ok em h
  unfold ix3
  rw [h1]; exact q h2
theorem o1_neg : Op1 neg3 (fun S x => rd1 S x vneg) := by
  intro S ι M x r Q em h q
  obtain ⟨d, hx, hf⟩ := rd1_some h
  unfold vneg at hf
  split at hf
  · rw [rdW_v hx (fun _ z => by cases z)]
    cases hf; exact q
  · cases hf
theorem asL_not {d : D} {M : MH} (h : ∀ a, d ≠ .ref a) : asL M d = asL M00 d := by
  cases d <;> first | rfl | exact absurd rfl (h _)
theorem isTy_rd {S : Sto} {ι : Nm} {M : MH} {x : W} {d : D} {T : Ty} (em : Emb ι S M) (hx : rdW S x = some d) : isTy M (rnW ι x) T = isTy M00 d T := by
  rcases rdW_cases hx with ⟨rfl, q⟩ | ⟨i, ds, rfl, g, rfl⟩
  · cases d <;> first | rfl | exact absurd rfl (q _)
  · show (match asL M (.ref (ι i)) with | some _ => some (decide (T = .tlst)) | none => none) = some (decide (T = .tlst))
    have : asL M (.ref (ι i)) = some ds := by
      show (match M (ι i) with | some (.lst ds) => some ds | _ => none) = some ds
      rw [rdW_at em g]
    rw [this]
theorem o1_isi (T : Ty) : Op1 (isi3 T) (fun S x => rd1 S x fun d => blO (isTy M00 d T)) := by
  intro S ι M x r Q em h q
  obtain ⟨d, hx, hf⟩ := rd1_some h
  unfold isi3
  rw [isTy_rd em hx]
  cases z : isTy M00 d T with
  | none => rw [z] at hf; cases hf
  | some b => rw [z] at hf; cases hf; exact q
theorem o1_rev : Op1 rev3 (fun S x => rd1 S x vrev) := by
  intro S ι M x r Q em h q
  obtain ⟨d, hx, hf⟩ := rd1_some h
  unfold rev3
  rw [rd_asL em hx]
  unfold vrev at hf
  split at hf
  · cases hf; exact q
  · cases hf; exact q
  · cases hf
theorem blW_some {w : W} {b : Bool} (h : blW w = some b) : w = .v (.bl b) := by
  cases w with
  | r i => cases h
  | v d => cases d <;> first | (cases h; done) | (cases h; rfl)
theorem sd_not (ha : SndE E ta fa) : SndE E (notV3 ta) (fun en S => (fa en S).bind fun x S1 => lfv S1 (blO ((blW x).map not))) := by
  intro en S ι M Q we em h
  refine ha en S ι M _ we em ((Post.bind h).imp fun x ι1 S1 M1 x1 h1 wx => ?_)
  obtain ⟨r, hr, k⟩ := Post.lfv x1.emb h1
  cases z : blW x with
  | none => rw [z] at hr; cases hr
  | some b =>
    rw [z] at hr
    cases hr
    rw [blW_some z]
    exact k trivial
theorem bl_of {o : Option D} {r : Bool} (h : (match o with | some (.bl b) => some b | _ => none) = some r) : o = some (.bl r) := by
  split at h
  · cases h; rfl
  · cases h
theorem sd_tcmp {o : O2} {f : Sto → W → W → Option D} (ho : OpS o f) (ha : SndE E ta fa) (hb : SndE E tb fb) : SndT E (tst (op2 o ta tb)) (fun en S => (fa en S).bind fun x S1 => (fb en S1).bind fun y S2 => lft S2 (match f S2 x y with | some (.bl b) => some b | _ => none)) := by
  intro en S ι M Q we em h
  refine ha en S ι M _ we em ((Post.bind h).imp fun x ι1 S1 M1 x1 h1 wx => ?_)
  obtain ⟨we1, e1⟩ := wf_ext x1 we
  rw [e1]
  refine hb en S1 ι1 M1 _ we1 x1.emb ((Post.bind h1).imp fun y ι2 S2 M2 x2 h2 wy => ?_)
  obtain ⟨r, hr, k⟩ := Post.lft x2.emb h2
  rw [← rnW_agr x2.agr wx]
  exact ho S2 ι2 M2 x y _ _ x2.emb (bl_of hr) k
theorem sd_chain {o o' : O2} {f f' : Sto → W → W → Option D} (ho : OpS o f) (ho' : OpS o' f') (ha : SndE E ta fa) (hb : SndE E tb fb) (hc : SndE E tc fc) :
    SndE E (chain3 o o' ta tb tc) (fun en S => (fa en S).bind fun x S1 => (fb en S1).bind fun y S2 => match f S2 x y with
      | some (.bl true) => (fc en S2).bind fun z S3 => lfv S3 (f' S3 y z)
      | some (.bl false) => .ok (.v (.bl false)) S2
      | _ => .no) := by
  intro en S ι M Q we em h
  refine ha en S ι M _ we em ((Post.bind h).imp fun x ι1 S1 M1 x1 h1 wx => ?_)
  obtain ⟨we1, e1⟩ := wf_ext x1 we
  rw [e1]
  refine hb en S1 ι1 M1 _ we1 x1.emb ((Post.bind h1).imp fun y ι2 S2 M2 x2 h2 wy => ?_)
  rw [← rnW_agr x2.agr wx]
  split at h2
  · rename_i hr
    refine ho S2 ι2 M2 x y _ _ x2.emb hr ?_
    obtain ⟨we2, e2⟩ := wf_ext x2 we1
    rw [e2]
    refine hc en S2 ι2 M2 _ we2 x2.emb ((Post.bind h2).imp fun z ι3 S3 M3 x3 h3 wz => ?_)
    obtain ⟨r, hr, k⟩ := Post.lfv x3.emb h3
    rw [← rnW_agr x3.agr wy]
    exact ho' S3 ι3 M3 y z r Q x3.emb hr (k trivial)
  · rename_i hr
    refine ho S2 ι2 M2 x y _ _ x2.emb hr ?_
    exact Post.now x2.emb h2 trivial
  · exact h2.elim
theorem sd_tchain {o o' : O2} {f f' : Sto → W → W → Option D} (ho : OpS o f) (ho' : OpS o' f') (ha : SndE E ta fa) (hb : SndE E tb fb) (hc : SndE E tc fc) :
    SndT E (tst (chain3 o o' ta tb tc)) (fun en S => (fa en S).bind fun x S1 => (fb en S1).bind fun y S2 => match f S2 x y with
      | some (.bl true) => (fc en S2).bind fun z S3 => lft S3 (match f' S3 y z with | some (.bl b) => some b | _ => none)
      | some (.bl false) => .ok false S2
      | _ => .no) := by
  intro en S ι M Q we em h
  refine ha en S ι M _ we em ((Post.bind h).imp fun x ι1 S1 M1 x1 h1 wx => ?_)
  obtain ⟨we1, e1⟩ := wf_ext x1 we
  rw [e1]
  refine hb en S1 ι1 M1 _ we1 x1.emb ((Post.bind h1).imp fun y ι2 S2 M2 x2 h2 wy => ?_)
  rw [← rnW_agr x2.agr wx]
  split at h2
  · rename_i hr
    refine ho S2 ι2 M2 x y _ _ x2.emb hr ?_
    obtain ⟨we2, e2⟩ := wf_ext x2 we1
    rw [e2]
    refine hc en S2 ι2 M2 _ we2 x2.emb ((Post.bind h2).imp fun z ι3 S3 M3 x3 h3 wz => ?_)
    obtain ⟨r, hr, k⟩ := Post.lft x3.emb h3
    rw [← rnW_agr x3.agr wy]
    exact ho' S3 ι3 M3 y z _ _ x3.emb (bl_of hr) k
  · rename_i hr
    refine ho S2 ι2 M2 x y _ _ x2.emb hr ?_
    exact Post.now x2.emb h2
  · exact h2.elim
/-! #### and, or, not, if -/
variable {tA tB : TB3} {fA fB : WF Bool}
theorem sd_and (ha : SndT E tA fA) (hb : SndT E tB fB) : SndT E (and3 tA tB) (fun en S => (fA en S).bind fun b S1 => match b with | true => fB en S1 | false => .ok false S1) := by
  intro en S ι M Q we em h
  refine ha en S ι M _ we em ((Post.bind h).imp fun b ι1 S1 M1 x1 h1 => ?_)
  obtain ⟨we1, e1⟩ := wf_ext x1 we
  rw [e1]
  cases b with
  | true => exact hb en S1 ι1 M1 _ we1 x1.emb h1
  | false => exact Post.now x1.emb h1
theorem sd_or (ha : SndT E tA fA) (hb : SndT E tB fB) : SndT E (or3 tA tB) (fun en S => (fA en S).bind fun b S1 => match b with | true => .ok true S1 | false => fB en S1) := by
  intro en S ι M Q we em h
  refine ha en S ι M _ we em ((Post.bind h).imp fun b ι1 S1 M1 x1 h1 => ?_)
  obtain ⟨we1, e1⟩ := wf_ext x1 we
  rw [e1]
  cases b with
  | false => exact hb en S1 ι1 M1 _ we1 x1.emb h1
  | true => exact Post.now x1.emb h1
theorem sd_tnot (ha : SndT E tA fA) : SndT E (not3 tA) (fun en S => (fA en S).bind fun b S1 => .ok (!b) S1) := by
  intro en S ι M Q we em h
  exact ha en S ι M _ we em ((Post.bind h).imp fun b ι1 S1 M1 x1 h1 => Post.now x1.emb h1)
theorem sd_ite (hc : SndT E tA fA) (ha : SndE E ta fa) (hb : SndE E tb fb) : SndE E (ite3 tA ta tb) (fun en S => (fA en S).bind fun k S1 => match k with | true => fa en S1 | false => fb en S1) := by
  intro en S ι M Q we em h
  refine hc en S ι M _ we em ((Post.bind h).imp fun b ι1 S1 M1 x1 h1 => ?_)
  obtain ⟨we1, e1⟩ := wf_ext x1 we
  rw [e1]
  cases b with
  | true => exact ha en S1 ι1 M1 _ we1 x1.emb h1
  | false => exact hb en S1 ι1 M1 _ we1 x1.emb h1
theorem sd_andV (ha : SndE E ta fa) (hb : SndE E tb fb) : SndE E (andV3 ta tb) (fun en S => (fa en S).bind fun x S1 => match blW x with | some true => fb en S1 | some false => .ok (.v (.bl false)) S1 | none => .no) := by
  intro en S ι M Q we em h
  refine ha en S ι M _ we em ((Post.bind h).imp fun x ι1 S1 M1 x1 h1 wx => ?_)
  obtain ⟨we1, e1⟩ := wf_ext x1 we
  rw [e1]
  split at h1
  · rename_i hz
    rw [blW_some hz]
    exact hb en S1 ι1 M1 _ we1 x1.emb h1
  · rename_i hz
    rw [blW_some hz]
    exact Post.now x1.emb h1 trivial
  · exact h1.elim
theorem sd_orV (ha : SndE E ta fa) (hb : SndE E tb fb) : SndE E (orV3 ta tb) (fun en S => (fa en S).bind fun x S1 => match blW x with | some true => .ok (.v (.bl true)) S1 | some false => fb en S1 | none => .no) := by
  intro en S ι M Q we em h
  refine ha en S ι M _ we em ((Post.bind h).imp fun x ι1 S1 M1 x1 h1 wx => ?_)
  obtain ⟨we1, e1⟩ := wf_ext x1 we
  rw [e1]
  split at h1
  · rename_i hz
    rw [blW_some hz]
    exact Post.now x1.emb h1 trivial
  · rename_i hz
    rw [blW_some hz]
    exact hb en S1 ι1 M1 _ we1 x1.emb h1
  · exact h1.elim
/-! #### truth -/
theorem truW_ok {S : Sto} {ι : Nm} {M : MH} {w : W} {b : Bool} (em : Emb ι S M) (h : truW S w = some b) : truA M (rnW ι w) = some b := by
  cases w with
  | v d =>
    cases d <;> first | exact h | cases h
  | r i =>
    have h : (match sqW S (.r i) with
      | some ds => some (!ds.isEmpty)
      | none => match getS S i with | some (.dK kvs) => some (!kvs.isEmpty) | _ => none) = some b := h
    show (match seqM M (.ref (ι i)) with
      | some ds => some (!ds.isEmpty)
      | none => (match M (ι i) with | some (.dK kvs) => some (!kvs.isEmpty) | _ => none)) = some b
    split at h
    · rename_i ds hs
      rw [show seqM M (.ref (ι i)) = some ds from sq_seqM em hs]; exact h
    · split at h
      · rename_i kvs g
        have hM := em.at' i _ g
        have h1 : seqM M (.ref (ι i)) = none := by
          show (match M (ι i) with | some (.lst ds) => some ds | _ => none) = none
          rw [hM]; rfl
        rw [h1, hM]
        cases h
        cases kvs <;> rfl
      · cases h
theorem sd_tru (ha : SndE E ta fa) : SndT E (tru3 ta) (fun en S => truV (fa en S)) := by
  intro en S ι M Q we em h
  refine ha en S ι M _ we em ((Post.bind h).imp fun x ι1 S1 M1 x1 h1 wx => ?_)
  obtain ⟨r, hr, k⟩ := Post.lft x1.emb h1
  rw [truW_ok x1.emb hr]; exact k
/-! #### lists of arguments, displays -/
theorem sd_nil : SndL E nil3 (fun _ S => .ok [] S) := fun en S ι M Q we em h => Post.now em h fun w hw => nomatch hw
theorem sd_cons (ha : SndE E ta fa) (hl : SndL E tl fl) : SndL E (cons3 ta tl) (fun en S => (fa en S).bind fun x S1 => (fl en S1).bind fun xs S2 => .ok (x :: xs) S2) := by
  intro en S ι M Q we em h
  refine ha en S ι M _ we em ((Post.bind h).imp fun x ι1 S1 M1 x1 h1 wx => ?_)
  obtain ⟨we1, e1⟩ := wf_ext x1 we
  rw [e1]
  refine hl en S1 ι1 M1 _ we1 x1.emb ((Post.bind h1).imp fun xs ι2 S2 M2 x2 h2 wxs => ?_)
  rw [← rnW_agr x2.agr wx]
  refine Post.now x2.emb h2 fun w hw => ?_
  rcases List.mem_cons.mp hw with rfl | hw
  · exact wx.le x2.len
  · exact wxs w hw
theorem plnW_ok {ι : Nm} : ∀ {ws : List W} {ds : List D}, plnW ws = some ds → ws.map (rnW ι) = ds
  | [], _, h => by cases h; rfl
  | .r i :: r, _, h => by cases h
  | .v d :: r, ds, h => by
    have h : (match plnW r with | some ds => some (d :: ds) | none => none) = some ds := h
    split at h
    · rename_i es he
      cases h
      rw [List.map_cons, plnW_ok he]; rfl
    · cases h
theorem sd_tup (hl : SndL E tl fl) : SndE E (tup3 tl) (fun en S => (fl en S).bind fun ws S1 => match plnW ws with
    | some ds => if ds.length ≤ sizeLine then .ok (.v (.tup ds)) S1 else .no
    | none => .no) := by
  intro en S ι M Q we em h
  refine hl en S ι M _ we em ((Post.bind h).imp fun xs ι1 S1 M1 x1 h1 wxs => ?_)
  split at h1
  · rename_i ds hds
    split at h1
    · rename_i hz
      rw [plnW_ok hds]
      exact ⟨hz, Post.now x1.emb h1 trivial⟩
    · exact h1.elim
  · exact h1.elim
theorem sd_lst (hl : SndL E tl fl) : SndE E (lst3 tl) (fun en S => (fl en S).bind fun ws S1 => match plnW ws with
    | some ds => if ds.length ≤ sizeLine then .ok (.v (.lst ds)) S1 else .no
    | none => .no) := by
  intro en S ι M Q we em h
  refine hl en S ι M _ we em ((Post.bind h).imp fun xs ι1 S1 M1 x1 h1 wxs => ?_)
  split at h1
  · rename_i ds hds
    split at h1
    · rename_i hz
      rw [plnW_ok hds]
      exact ⟨hz, Post.now x1.emb h1 trivial⟩
    · exact h1.elim
  · exact h1.elim
theorem post_new {ι : Nm} {S : Sto} {M : MH} {o : VO} {K : W → Nm → Sto → MH → Prop} (em : Emb ι S M) (w : wfO S.length o) (h : Post ι S M E (newW S o) K) {p : Addr} (hp : M p = none) : K (.r S.length) (pin ι S.length p) (S ++ [some o]) (up M p (rnO ι o)) :=
  h _ _ (Ext.new em hp w)
theorem lt_new {S : Sto} {o : VO} : wfW (S ++ [some o]).length (.r S.length) := by
  show S.length < (S ++ [some o]).length
  rw [List.length_append]; simp
theorem sd_lstM (hl : SndL E tl fl) : SndE E (lstM3 tl) (fun en S => (fl en S).bind fun ws S1 => match plnW ws with
    | some ds => if ds.length ≤ sizeLine then newW S1 (.lst ds) else .no
    | none => .no) := by
  intro en S ι M Q we em h
  refine hl en S ι M _ we em ((Post.bind h).imp fun xs ι1 S1 M1 x1 h1 wxs => ?_)
  split at h1
  · rename_i ds hds
    split at h1
    · rename_i hz
      rw [plnW_ok hds]
      refine ⟨hz, fun p hp => ?_⟩
      have := post_new (o := .lst ds) x1.emb trivial h1 hp lt_new
      have e : rnW (pin ι1 S1.length p) (.r S1.length) = .ref p := congrArg D.ref pin_at
      rw [e] at this
      exact this
    · exact h1.elim
  · exact h1.elim
theorem sd_addM (ha : SndE E ta fa) (hb : SndE E tb fb) : SndE E (op2 addM3 ta tb) (fun en S => (fa en S).bind fun x S1 => (fb en S1).bind fun y S2 => addMV S2 x y) := by
  intro en S ι M Q we em h
  refine ha en S ι M _ we em ((Post.bind h).imp fun x ι1 S1 M1 x1 h1 wx => ?_)
  obtain ⟨we1, e1⟩ := wf_ext x1 we
  rw [e1]
  refine hb en S1 ι1 M1 _ we1 x1.emb ((Post.bind h1).imp fun y ι2 S2 M2 x2 h2 wy => ?_)
  rw [← rnW_agr x2.agr wx]
  unfold addMV at h2
  split at h2
  · rename_i a b hx hy
    split at h2
    · rename_i hz
      have k1 := rd_exL x2.emb hx
      have k2 := rd_exL x2.emb hy
      unfold addM3
      rw [k1, k2]
      refine ⟨hz, fun p hp => ?_⟩
      have := post_new (o := .lst (a ++ b)) x2.emb trivial h2 hp lt_new
      have e : rnW (pin ι2 S2.length p) (.r S2.length) = .ref p := congrArg D.ref pin_at
      rw [e] at this
      exact this
    · exact h2.elim
  · exact h2.elim
theorem sd_newK (m : Bool) : SndE E (newK3 m) (fun _ S => match m with | true => newW S (.dK []) | false => .ok (.v (.dK [] [])) S) := by
  intro en S ι M Q we em h
  cases m with
  | true =>
    intro p hp
    have := post_new (o := .dK []) em (fun kv hk => nomatch hk) h hp lt_new
    have e : rnW (pin ι S.length p) (.r S.length) = .ref p := congrArg D.ref pin_at
    rw [e] at this
    exact this
  | false => exact Post.now em h trivial
theorem sd_newT : SndE E newT3 (fun _ S => newW S (.dT [])) := by
  intro en S ι M Q we em h p hp
  have := post_new (o := .dT []) em (fun kv hk => nomatch hk) h hp lt_new
  have e : rnW (pin ι S.length p) (.r S.length) = .ref p := congrArg D.ref pin_at
  rw [e] at this
  exact this
/-! #### slices -/
variable {to1 to2 : TO3} {fo1 fo2 : WF (Option Int)}
theorem sd_noP : SndO E noP3 (fun _ S => .ok none S) := fun en S ι M Q we em h => Post.now em h
theorem sd_part (ha : SndE E ta fa) : SndO E (part3 ta) (fun en S => (fa en S).bind fun x S1 => match x with | .v (.int i) => .ok (some i) S1 | _ => .no) := by
  intro en S ι M Q we em h
  refine ha en S ι M _ we em ((Post.bind h).imp fun x ι1 S1 M1 x1 h1 wx => ?_)
  split at h1
  · exact Post.now x1.emb h1
  · exact h1.elim
theorem vsl_ok {S : Sto} {ι : Nm} {M : MH} {x : W} {d r : D} {l h : Option Int} (em : Emb ι S M) (hx : rdW S x = some d) (hf : vsl d l h = some r) : slA M (rnW ι x) l h = some r := by
  unfold vsl at hf
  have key : ∀ (u : D) (ds : List D), asL M u = some ds → slA M u l h = some (.lst (cutD ds l h)) := by
    intro u ds hu
    unfold slA
    split
    · cases hu
    · cases hu
    · rw [hu]
  split at hf
  · rw [rdW_v hx (fun _ z => by cases z)]; exact hf
  · rw [rdW_v hx (fun _ z => by cases z)]; exact hf
  · rw [key _ _ (by rw [rd_asL em hx]; rfl)]; exact hf
  · rw [key _ _ (by rw [rd_asL em hx]; rfl)]; exact hf
  · cases hf
theorem sd_sl (ha : SndE E ta fa) (h1 : SndO E to1 fo1) (h2 : SndO E to2 fo2) : SndE E (sl3 ta to1 to2) (fun en S => (fa en S).bind fun x S1 => (fo1 en S1).bind fun l S2 => (fo2 en S2).bind fun h S3 => lfv S3 (rd1 S3 x fun d => vsl d l h)) := by
  intro en S ι M Q we em h
  refine ha en S ι M _ we em ((Post.bind h).imp fun x ι1 S1 M1 x1 g1 wx => ?_)
  obtain ⟨we1, e1⟩ := wf_ext x1 we
  rw [e1]
  refine h1 en S1 ι1 M1 _ we1 x1.emb ((Post.bind g1).imp fun l ι2 S2 M2 x2 g2 => ?_)
  obtain ⟨we2, e2⟩ := wf_ext x2 we1
  rw [e2]
  refine h2 en S2 ι2 M2 _ we2 x2.emb ((Post.bind g2).imp fun hh ι3 S3 M3 x3 g3 => ?_)
  obtain ⟨r, hr, k⟩ := Post.lfv x3.emb g3
  obtain ⟨d, hx, hf⟩ := rd1_some hr
  rw [← rnW_agr (x2.trans x3).agr wx, vsl_ok x3.emb hx hf]
  exact k trivial
end
end Z

/-! V5: built-ins, methods, walks, comprehensions, displays of dicts, calls are sound. -/
namespace Z
open PySem PySem.Spec PyProof.Rows L2
section
variable {E : X3} {ta tb tc : T3} {fa fb fc : WF W} {tl : TL3} {fl : WF (List W)}
/-- a function of a plain value or a list -/
def RdOk (f : MH → D → Option D) : Prop := ∀ {S : Sto} {ι : Nm} {M : MH} {x : W} {d : D}, Emb ι S M → rdW S x = some d → f M (rnW ι x) = f M00 d
theorem rd_len : RdOk lenA := by
  intro S ι M x d em hx
  rcases rdW_cases hx with ⟨rfl, q⟩ | ⟨i, ds, rfl, g, rfl⟩
  · cases d <;> first | rfl | exact absurd rfl (q _)
  · show (match seqM M (.ref (ι i)) with | some ds => some (D.int ds.length) | none => none) = _
    rw [show seqM M (.ref (ι i)) = some ds from rd_seqM em hx]; rfl
theorem rd_int : RdOk intA := by
  intro S ι M x d em hx
  rcases rdW_cases hx with ⟨rfl, q⟩ | ⟨i, ds, rfl, g, rfl⟩ <;> rfl
theorem rd_abs : RdOk absA := by
  intro S ι M x d em hx
  rcases rdW_cases hx with ⟨rfl, q⟩ | ⟨i, ds, rfl, g, rfl⟩ <;> rfl
theorem rd_str : RdOk strA := by
  intro S ι M x d em hx
  rcases rdW_cases hx with ⟨rfl, q⟩ | ⟨i, ds, rfl, g, rfl⟩ <;> rfl
theorem rd_sum : RdOk sumA := by
  intro S ι M x d em hx; unfold sumA; rw [rd_asL em hx]
theorem rd_all : RdOk allA := by
  intro S ι M x d em hx; unfold allA; rw [rd_asL em hx]
theorem rd_any : RdOk anyA := by
  intro S ι M x d em hx; unfold anyA; rw [rd_asL em hx]
theorem rd_minL : RdOk Z.minL := by
  intro S ι M x d em hx; unfold Z.minL; rw [rd_asL em hx]
theorem rd_maxL : RdOk Z.maxL := by
  intro S ι M x d em hx; unfold Z.maxL; rw [rd_asL em hx]
theorem o1_ofO {f : MH → D → Option D} (hf : RdOk f) : Op1 (ofO f) (fun S x => rd1 S x (f M00)) := by
  intro S ι M x r Q em h q
  obtain ⟨d, hx, h1⟩ := rd1_some h
  unfold ofO
  rw [hf em hx, h1]; exact q
theorem os_ofO2 {f : MH → D → D → Option D} (hf : ∀ (M : MH) (d e r : D), f M00 d e = some r → f M d e = some r ∧ (∀ ds, d ≠ .lst ds) ∧ ∀ ds, e ≠ .lst ds) : OpS (ofO2 f) (fun S x y => rd2 S x y (f M00)) := by
  intro S ι M x y r Q em h q
  obtain ⟨d, e, hx, hy, h1⟩ := rd2_some h
  obtain ⟨h2, h3, h4⟩ := hf M d e r h1
  unfold ofO2
  rw [rdW_v hx h3, rdW_v hy h4]
  show (match f M d e with | some r => Q r M | none => False)
  rw [h2]; exact q
theorem os_min : OpS (ofO2 minA) (fun S x y => rd2 S x y (minA M00)) := os_ofO2 fun M d e r h => by
  unfold minA at h
  split at h
  · exact ⟨h, (by intro ds z; cases z), (by intro ds z; cases z)⟩
  · cases h
theorem os_max : OpS (ofO2 maxA) (fun S x y => rd2 S x y (maxA M00)) := os_ofO2 fun M d e r h => by
  unfold maxA at h
  split at h
  · exact ⟨h, (by intro ds z; cases z), (by intro ds z; cases z)⟩
  · cases h
theorem sortB_ok {ds : List D} (h : sortB ds = true) : sortOk ds := by
  unfold sortB at h
  obtain ⟨h, h3⟩ := b2 h
  obtain ⟨h1, h2⟩ := b2 h
  refine ⟨fun d hd e he => List.all_eq_true.mp (List.all_eq_true.mp h1 d hd) e he, fun d hd => List.all_eq_true.mp h2 d hd, ?_⟩
  rw [Bool.or_eq_true] at h3
  rcases h3 with h3 | h3
  · left
    intro d hd
    have := List.all_eq_true.mp h3 d hd
    unfold tup1 at this
    split at this
    · exact ⟨_, _, _, rfl⟩
    · cases this
  · right
    intro d hd
    have := List.all_eq_true.mp h3 d hd
    refine ⟨fun z => ?_, fun k xs z => ?_⟩ <;> subst z <;> cases this
theorem o1_srt : Op1 srtA (fun S x => rd1 S x vsrt) := by
  intro S ι M x r Q em h q
  obtain ⟨d, hx, hf⟩ := rd1_some h
  unfold srtA
  rw [rd_asL em hx]
  unfold vsrt at hf
  split at hf
  · split at hf
    · rename_i hz
      cases hf; exact ⟨sortB_ok hz, q⟩
    · cases hf
  · split at hf
    · rename_i hz
      cases hf; exact ⟨sortB_ok hz, q⟩
    · cases hf
  · cases hf
theorem pairB_ok {ds : List D} (h : ds.all pairB = true) : ∀ d ∈ ds, pairT d := fun d hd => by
  have := List.all_eq_true.mp h d hd
  unfold pairB at this
  split at this
  · exact ⟨_, _, rfl⟩
  · cases this
theorem o1_srt2 : Op1 srt2 (fun S x => rd1 S x vsrt2) := by
  intro S ι M x r Q em h q
  obtain ⟨d, hx, hf⟩ := rd1_some h
  unfold srt2
  rw [rd_asL em hx]
  unfold vsrt2 at hf
  split at hf
  · split at hf
    · rename_i hz
      cases hf; exact ⟨pairB_ok hz.1, hz.2, q⟩
    · cases hf
  · split at hf
    · rename_i hz
      cases hf; exact ⟨pairB_ok hz.1, hz.2, q⟩
    · cases hf
  · cases hf
theorem tupA_asL {k : TK} (hk : k ≠ .s) {d : D} {M : MH} {ds : List D} {Q : Q3} (h : asL M d = some ds) (q : Q (.tp k ds) M) : tupA k d M Q := by
  unfold tupA
  split
  · cases h
  · rw [h]; exact q
  · rw [h]; exact q
  · exact absurd rfl hk
theorem o1_tupT : Op1 (tupA .t) (fun S x => rd1 S x vtupT) := by
  intro S ι M x r Q em h q
  obtain ⟨d, hx, hf⟩ := rd1_some h
  unfold vtupT at hf
  split at hf
  · rw [rdW_v hx (fun _ z => by cases z)]
    cases hf; exact q
  · cases hf
    exact tupA_asL (by decide) (by rw [rd_asL em hx]; rfl) q
  · cases hf
    exact tupA_asL (by decide) (by rw [rd_asL em hx]; rfl) q
  · cases hf
theorem o1_tupK : Op1 (tupA .k) (fun S x => rd1 S x vtupK) := by
  intro S ι M x r Q em h q
  obtain ⟨d, hx, hf⟩ := rd1_some h
  unfold vtupK at hf
  split at hf
  · cases hf
    exact tupA_asL (by decide) (by rw [rd_asL em hx]; rfl) q
  · cases hf
    exact tupA_asL (by decide) (by rw [rd_asL em hx]; rfl) q
  · cases hf
/-- what list() reads -/
def lstD (M : MH) (d : D) : Option (List D) := match seqM M d with
  | some ds => some ds
  | none => match asD M d with
    | some kvs => some (kvs.map fun kv => D.tup (kv.1.map kD))
    | none => match asK M d with
      | some kvs => some (kvs.map fun kv => kD kv.1)
      | none => none
theorem lstA_D {m : Bool} {d : D} {M : MH} {Q : Q3} {ds : List D} (h : lstD M d = some ds) (q : resL m ds M Q) : lstA m d M Q := by
  unfold lstD at h
  unfold lstA
  split at h
  · rename_i e; try rw [e]
    cases h; exact q
  · rename_i e
    try rw [e]
    split at h
    · rename_i e2; cases h; try rw [e2]
      exact q
    · rename_i e2
      try rw [e2]
      split at h
      · rename_i e3; cases h; try rw [e3]
        exact q
      · cases h
theorem lstW_ok {S : Sto} {ι : Nm} {M : MH} {w : W} {ds : List D} (em : Emb ι S M) (h : lstW S w = some ds) : lstD M (rnW ι w) = some ds := by
  unfold lstW at h
  unfold lstD
  split at h
  · rename_i e
    rw [sq_seqM em e]; exact h
  · split at h
    · exact h
    · exact h
    · rename_i i e
      split at h
      · rename_i kvs g
        have hM := em.at' i _ g
        have h1 : seqM M (.ref (ι i)) = none := by
          show (match M (ι i) with | some (.lst ds) => some ds | _ => none) = none
          rw [hM]; rfl
        have h2 : asD M (.ref (ι i)) = none := by
          show (match M (ι i) with | some (.dT kvs) => some kvs | _ => none) = _
          rw [hM]; rfl
        have h3 : asK M (.ref (ι i)) = some (kvs.map fun kv => (kv.1, rnW ι kv.2)) := by
          show (match M (ι i) with | some (.dK kvs) => some kvs | _ => none) = _
          rw [hM]; rfl
        show (match seqM M (.ref (ι i)) with
          | some ds => some ds
          | none => match asD M (.ref (ι i)) with
            | some kvs => some (kvs.map fun (kv : List Key × D) => D.tup (kv.1.map kD))
            | none => match asK M (.ref (ι i)) with
              | some kvs => some (kvs.map fun (kv : Key × D) => kD kv.1)
              | none => none) = _
        rw [h1, h2, h3]
        cases h
        simp
      · rename_i kvs g
        have hM := em.at' i _ g
        have h1 : seqM M (.ref (ι i)) = none := by
          show (match M (ι i) with | some (.lst ds) => some ds | _ => none) = none
          rw [hM]; rfl
        have h2 : asD M (.ref (ι i)) = some (kvs.map fun kv => (kv.1, rnW ι kv.2)) := by
          show (match M (ι i) with | some (.dT kvs) => some kvs | _ => none) = _
          rw [hM]; rfl
        show (match seqM M (.ref (ι i)) with
          | some ds => some ds
          | none => match asD M (.ref (ι i)) with
            | some kvs => some (kvs.map fun (kv : List Key × D) => D.tup (kv.1.map kD))
            | none => match asK M (.ref (ι i)) with
              | some kvs => some (kvs.map fun (kv : Key × D) => kD kv.1)
              | none => none) = _
        rw [h1, h2]
        cases h
        simp
      · cases h
    · cases h
/-- behind an operation -/
def PW (ι : Nm) (S : Sto) (M : MH) (E : X3) (r : Rs W) (Q : Q3) : Prop := Post ι S M E r fun w ι' S' M' => wfW S'.length w → Q (rnW ι' w) M'
theorem pw_lfv {ι : Nm} {S : Sto} {M : MH} {o : Option D} {Q : Q3} (em : Emb ι S M) (h : PW ι S M E (lfv S o) Q) : ∃ d, o = some d ∧ Q d M := by
  obtain ⟨d, h1, h2⟩ := Post.lfv em h
  exact ⟨d, h1, h2 trivial⟩
theorem pw_new {ι : Nm} {S : Sto} {M : MH} {o : VO} {Q : Q3} (em : Emb ι S M) (w : wfO S.length o) (h : PW ι S M E (newW S o) Q) : ∀ p, M p = none → Q (.ref p) (up M p (rnO (pin ι S.length p) o)) := by
  intro p hp
  have := post_new em w h hp lt_new
  have e : rnW (pin ι S.length p) (.r S.length) = .ref p := congrArg D.ref pin_at
  rw [e] at this
  have e2 : rnO (pin ι S.length p) o = rnO ι o := rnO_agr (fun i h => pin_ne (Nat.ne_of_lt h)) w
  rw [e2]
  exact this
theorem bt_ok {b : Bt} {ι : Nm} {S : Sto} {M : MH} {ws : List W} {Q : Q3} (em : Emb ι S M) (h : PW ι S M E (b.wo S ws) Q) : b.ol (ws.map (rnW ι)) M Q := by
  unfold Bt.wo at h
  split at h
  · obtain ⟨d, h1, h2⟩ := pw_lfv em h; exact o1_ofO rd_len S ι M _ d Q em h1 h2
  · obtain ⟨d, h1, h2⟩ := pw_lfv em h; exact o1_ofO rd_int S ι M _ d Q em h1 h2
  · obtain ⟨d, h1, h2⟩ := pw_lfv em h; exact o1_ofO rd_abs S ι M _ d Q em h1 h2
  · obtain ⟨d, h1, h2⟩ := pw_lfv em h; exact o1_ofO rd_str S ι M _ d Q em h1 h2
  · obtain ⟨d, h1, h2⟩ := pw_lfv em h; exact os_min S ι M _ _ d Q em h1 h2
  · obtain ⟨d, h1, h2⟩ := pw_lfv em h; exact os_max S ι M _ _ d Q em h1 h2
  · obtain ⟨d, h1, h2⟩ := pw_lfv em h; exact o1_ofO rd_minL S ι M _ d Q em h1 h2
  · obtain ⟨d, h1, h2⟩ := pw_lfv em h; exact o1_ofO rd_maxL S ι M _ d Q em h1 h2
  · obtain ⟨d, h1, h2⟩ := pw_lfv em h; exact o1_ofO rd_sum S ι M _ d Q em h1 h2
  · obtain ⟨d, h1, h2⟩ := pw_lfv em h; exact o1_ofO rd_all S ι M _ d Q em h1 h2
  · obtain ⟨d, h1, h2⟩ := pw_lfv em h; exact o1_ofO rd_any S ι M _ d Q em h1 h2
  · obtain ⟨d, h1, h2⟩ := pw_lfv em h; exact o1_srt S ι M _ d Q em h1 h2
  · obtain ⟨d, h1, h2⟩ := pw_lfv em h; exact o1_tupT S ι M _ d Q em h1 h2
  · obtain ⟨d, h1, h2⟩ := pw_lfv em h; exact o1_tupK S ι M _ d Q em h1 h2
  · split at h
    · rename_i ds hd
      exact lstA_D (lstW_ok em hd) (Post.now em h trivial)
    · exact h.elim
  · split at h
    · rename_i ds hd
      exact lstA_D (lstW_ok em hd) (pw_new (o := .lst ds) em trivial h)
    · exact h.elim
  · exact h.elim
theorem sd_blt {b : Bt} (ha : SndL E tl fl) : SndE E (opL b.ol tl) (fun en S => (fl en S).bind fun xs S2 => b.wo S2 xs) := by
  intro en S ι M Q we em h
  exact ha en S ι M _ we em ((Post.bind h).imp fun xs ι1 S1 M1 x1 h1 wxs => bt_ok x1.emb h1)
theorem bind_assoc {α β γ : Type} {r : Rs α} {f : α → Sto → Rs β} {g : β → Sto → Rs γ} : (r.bind f).bind g = r.bind fun a S => (f a S).bind g := by
  cases r <;> rfl
/-! #### methods -/
theorem tyOk_of {m : Mt} {S : Sto} {ι : Nm} {M : MH} {o : W} {ws : List W} (em : Emb ι S M) (h : m.wo S o ws ≠ .no) : True := trivial
theorem pw_put {ι : Nm} {S : Sto} {M : MH} {a : Nat} {u o : VO} {Q : Q3} {w : W} (em : Emb ι S M) (g : getS S a = some u) (wo : wfO S.length o) (h : PW ι S M E (.ok w (setS S a (some o))) Q) (hw : wfW S.length w) : Q (rnW ι w) (up M (ι a) (rnO ι o)) :=
  h _ _ (Ext.put em g wo) (by rw [show (setS S a (some o)).length = S.length from List.length_set]; exact hw)
theorem mt_ok {m : Mt} {ι : Nm} {S : Sto} {M : MH} {o : W} {ws : List W} {Q : Q3} (em : Emb ι S M) (wws : wfL S.length ws) (h : PW ι S M E (m.wo S o ws) Q) :
    tyOk m M (rnW ι o) = true ∧ (match mthA m M (rnW ι o) (ws.map (rnW ι)) with | some (r, M3) => Q r M3 | none => False) := by
  unfold Mt.wo at h
  split at h
  · rename_i a x
    split at h
    · rename_i ds g
      split at h
      · rename_i hl
        have hM : M (ι a) = some (.lst ds) := em.at' a _ g
        refine ⟨?_, ?_⟩
        · show (match M (ι a) with | some (.lst ds) => some ds | _ => none).isSome = true
          rw [hM]; rfl
        · have : mthA .append M (.ref (ι a)) [x] = some (.non, up M (ι a) (.lst (ds ++ [x]))) := by
            show (match M (ι a) with
              | some (.lst ds) => if ds.length < sizeLine then some (D.non, up M (ι a) (.lst (ds ++ [x]))) else none
              | _ => none) = _
            rw [hM]; exact if_pos hl
          show (match mthA .append M (.ref (ι a)) [x] with | some (r, M3) => Q r M3 | none => False)
          rw [this]
          exact pw_put (o := .lst (ds ++ [x])) em g trivial h trivial
      · exact h.elim
    · exact h.elim
  · rename_i a x
    split at h
    · rename_i ds es g hx
      split at h
      · rename_i hl
        have hM : M (ι a) = some (.lst ds) := em.at' a _ g
        have hX : exL M (rnW ι x) = some es := by rw [rd_exL em hx]; rfl
        refine ⟨?_, ?_⟩
        · show (match M (ι a) with | some (.lst ds) => some ds | _ => none).isSome = true
          rw [hM]; rfl
        · have : mthA .extend M (.ref (ι a)) [rnW ι x] = some (.non, up M (ι a) (.lst (ds ++ es))) := by
            show (match M (ι a) with
              | some (.lst ds) => (match exL M (rnW ι x) with
                | some es => if ds.length + es.length ≤ sizeLine then some (D.non, up M (ι a) (.lst (ds ++ es))) else none
                | none => none)
              | _ => none) = _
            rw [hM, hX]; exact if_pos hl
          show (match mthA .extend M (.ref (ι a)) [rnW ι x] with | some (r, M3) => Q r M3 | none => False)
          rw [this]
          exact pw_put (o := .lst (ds ++ es)) em g trivial h trivial
      · exact h.elim
    · exact h.elim
  · rename_i k z
    split at h
    · rename_i r hr
      obtain ⟨h1, h2, h3⟩ := df_dfind em hr
      refine ⟨?_, ?_⟩
      · show ((asK M (rnW ι o)).isSome || (asD M (rnW ι o)).isSome) = true
        unfold dfind at h1
        rw [Bool.or_eq_true]
        split at h1
        · rename_i e _; left; rw [e]; rfl
        · split at h1
          · rename_i e _; right; rw [e]; rfl
          · cases h1
      · have : mthA .get M (rnW ι o) [k, rnW ι z] = some ((r.map (rnW ι)).getD (rnW ι z), M) := by
          show (match dfind M (rnW ι o) k with | some r => some (r.getD (rnW ι z), M) | none => none) = _
          rw [h1]
        show (match mthA .get M (rnW ι o) [k, rnW ι z] with | some (r, M3) => Q r M3 | none => False)
        rw [this]
        have wz : wfW S.length z := wws z (by simp)
        have := Post.now em h
        cases r with
        | none => exact this wz
        | some r => exact this (h3 r rfl)
    · exact h.elim
  · rename_i a k z
    split at h
    · rename_i kvs k' g hk
      split at h
      · rename_i hl
        have hM : M (ι a) = some (.dK (kvs.map fun kv => (kv.1, rnW ι kv.2))) := em.at' a _ g
        have wz : wfW S.length z := wws z (by simp)
        refine ⟨?_, ?_⟩
        · show ((match M (ι a) with | some (.dK kvs) => some kvs | _ => none).isSome || _) = true
          rw [hM]; rfl
        · have hlen : (kvs.map fun kv => (kv.1, rnW ι kv.2)).length < sizeLine := by rw [List.length_map]; exact hl
          have e0 : mthA .setdefault M (.ref (ι a)) [k, rnW ι z] = (match valD (kvs.map fun kv => (kv.1, rnW ι kv.2)) k' with
                | some v => some (v, M)
                | none => some (rnW ι z, up M (ι a) (.dK (putD (kvs.map fun kv => (kv.1, rnW ι kv.2)) k' (rnW ι z))))) := by
            show (match M (ι a), keyK k with
              | some (.dK kvs), some k => if kvs.length < sizeLine then (match valD kvs k with
                | some v => some (v, M)
                | none => some (rnW ι z, up M (ι a) (.dK (putD kvs k (rnW ι z))))) else none
              | _, _ => none) = _
            rw [hM, hk]
            exact if_pos hlen
          show (match mthA .setdefault M (.ref (ι a)) [k, rnW ι z] with | some (r, M3) => Q r M3 | none => False)
          rw [e0, valD_G, valG_map]
          split at h
          · rename_i v hv
            rw [hv]
            exact Post.now em h (em.wf a _ g _ (valG_mem hv))
          · rename_i hv
            rw [hv]
            have := pw_put (o := .dK (putG kvs k' z)) em g (fun kv hkv => by
              rcases putG_mem hkv with q | q
              · exact em.wf a _ g _ q
              · rw [q]; exact wz) h wz
            have e : putD (kvs.map fun kv => (kv.1, rnW ι kv.2)) k' (rnW ι z) = (putG kvs k' z).map fun kv => (kv.1, rnW ι kv.2) := putG_map (rnW ι) k' z kvs
            show Q (rnW ι z) (up M (ι a) (.dK (putD (kvs.map fun kv => (kv.1, rnW ι kv.2)) k' (rnW ι z))))
            rw [e]
            exact this
      · exact h.elim
    · exact h.elim
  · rename_i x
    split at h
    · rename_i ds hx
      split at h
      · rename_i hl
        have hX : exL M (rnW ι o) = some ds := by rw [rd_exL em hx]; rfl
        refine ⟨?_, ?_⟩
        · show (exL M (rnW ι o)).isSome = true
          rw [hX]; rfl
        · have : mthA .index M (rnW ι o) [x] = (match findD x ds 0 with | some j => some (.int j, M) | none => none) := by
            show (match exL M (rnW ι o) with
              | some ds => if lay 59 x && layL 59 ds then (match findD x ds 0 with | some j => some (D.int j, M) | none => none) else none
              | none => none) = _
            rw [hX]; exact if_pos hl
          show (match mthA .index M (rnW ι o) [x] with | some (r, M3) => Q r M3 | none => False)
          rw [this]
          split at h
          · rename_i j hj
            try rw [hj]
            exact Post.now em h trivial
          · exact h.elim
      · exact h.elim
    · exact h.elim
  · rename_i ds x
    split at h
    · rename_i ys hy
      split at h
      · rename_i j hj
        refine ⟨rfl, ?_⟩
        have : mthA .indexT M (.tp .k ds) [.str x] = some (.int j, M) := by
          show (match strsOf ds with
            | some ys => (match findS x ys 0 with | some j => some (D.int j, M) | none => none)
            | none => none) = _
          rw [hy]; show (match findS x ys 0 with | some j => some (D.int j, M) | none => none) = _; rw [hj]
        show (match mthA .indexT M (.tp .k ds) [.str x] with | some (r, M3) => Q r M3 | none => False)
        rw [this]
        exact Post.now em h trivial
      · exact h.elim
    · exact h.elim
  · rename_i z x
    split at h
    · rename_i ds hs
      split at h
      · rename_i ys hy
        split at h
        · rename_i hl
          refine ⟨rfl, ?_⟩
          have : mthA .join M (.str z) [rnW ι x] = some (.str (Txt.join z ys), M) := by
            simp only [mthA, sq_seqM em hs, hy]
            exact if_pos hl
          show (match mthA .join M (.str z) [rnW ι x] with | some (r, M3) => Q r M3 | none => False)
          rw [this]
          exact Post.now em h trivial
        · exact h.elim
      · exact h.elim
    · exact h.elim
  · rename_i a b
    split at h
    · rename_i hl
      refine ⟨rfl, ?_⟩
      have : mthA .split M (.str a) [.str b] = some (.lst ((Txt.split a b).map D.str), M) := if_pos hl
      show (match mthA .split M (.str a) [.str b] with | some (r, M3) => Q r M3 | none => False)
      rw [this]
      exact Post.now em h trivial
    · exact h.elim
  · exact ⟨rfl, Post.now em h trivial⟩
  · exact h.elim
end
end Z

/-! V6: walks, comprehensions, displays of dicts, calls, statements are sound. -/
namespace Z
open PySem PySem.Spec PyProof.Rows L2
section
variable {E : X3} {ta tb tc : T3} {fa fb fc : WF W} {tl : TL3} {fl : WF (List W)}
/-! #### walks -/
def itF (ik : IK) (fl : WF (List W)) : WF (List D) := fun en S => (fl en S).bind fun ws S1 => lft S1 (itW ik ws)
theorem it_seq {ws : List W} {ds : List D} (h : itW .seq ws = some ds) : ∃ d, ws = [.v d] ∧ itemsA d = some ds := by
  unfold itW at h
  split at h <;> first | contradiction | skip
  rename_i w _
  cases w with
  | r i => cases h
  | v d => exact ⟨d, rfl, h⟩
theorem it_rng1 {ws : List W} {ds : List D} (h : itW .rng1 ws = some ds) : ∃ j, ws = [.v (.int j)] ∧ (-16777216 ≤ j ∧ j ≤ 16777216) ∧ rngD 0 j.toNat = ds := by
  unfold itW at h
  split at h <;> first | contradiction | skip
  split at h
  · rename_i j _ hz; exact ⟨j, rfl, hz, Option.some.inj h⟩
  · cases h
theorem it_rng2 {ws : List W} {ds : List D} (h : itW .rng2 ws = some ds) : ∃ i j, ws = [.v (.int i), .v (.int j)] ∧ (-16777216 ≤ i ∧ i ≤ 16777216 ∧ -16777216 ≤ j ∧ j ≤ 16777216 ∧ j - i ≤ 16777216) ∧ rngD i (j - i).toNat = ds := by
  unfold itW at h
  split at h <;> first | contradiction | skip
  split at h
  · rename_i i j _ hz; exact ⟨i, j, rfl, hz, Option.some.inj h⟩
  · cases h
theorem it_enm {ws : List W} {ds : List D} (h : itW .enm ws = some ds) : ∃ es, ws = [.v (.lst es)] ∧ es.length ≤ sizeLine ∧ enumD 0 es = ds := by
  unfold itW at h
  split at h <;> first | contradiction | skip
  split at h
  · rename_i es _ hz; exact ⟨es, rfl, hz, Option.some.inj h⟩
  · cases h
theorem sd_it (ik : IK) (hl : SndL E tl fl) : SndI E (wi ik tl) (itF ik fl) := by
  intro en S ι M Q we em h
  have h0 : Post ι S M E (fl en S) (fun ws ι1 S1 M1 => ∃ ds, itW ik ws = some ds ∧ Q ds M1) := (Post.bind h).imp fun ws ι1 S1 M1 x1 h1 => by
    obtain ⟨ds, h2, h3⟩ := Post.lft x1.emb h1
    exact ⟨ds, h2, h3⟩
  cases ik with
  | seq =>
    refine hl en S ι M _ we em (h0.imp fun ws ι1 S1 M1 x1 ⟨ds, h2, q⟩ _ => ?_)
    obtain ⟨d, rfl, h3⟩ := it_seq h2
    show (match itemsA d with | some ds => Q ds M1 | none => False)
    rw [h3]; exact q
  | rng1 =>
    refine hl en S ι M _ we em (h0.imp fun ws ι1 S1 M1 x1 ⟨ds, h2, q⟩ _ => ?_)
    obtain ⟨j, rfl, hz, rfl⟩ := it_rng1 h2
    exact ⟨hz, q⟩
  | rng2 =>
    refine hl en S ι M _ we em (h0.imp fun ws ι1 S1 M1 x1 ⟨ds, h2, q⟩ _ => ?_)
    obtain ⟨i, j, rfl, hz, rfl⟩ := it_rng2 h2
    exact ⟨hz, q⟩
  | enm =>
    refine hl en S ι M _ we em (h0.imp fun ws ι1 S1 M1 x1 ⟨ds, h2, q⟩ _ => ?_)
    obtain ⟨es, rfl, hz, rfl⟩ := it_enm h2
    exact ⟨trivial, hz, q⟩
/-! #### aside -/
theorem Emb.er {ι : Nm} {S : Sto} {M : MH} {p : Addr} (e : Emb ι S M) (hn : ∀ i o, getS S i = some o → ι i ≠ p) : Emb ι S (Z.er M p) :=
  ⟨fun i u h => by unfold Z.er; rw [if_neg (hn i u h)]; exact e.at' i u h, e.inj, e.wf⟩
theorem post_aside {α : Type} {ι : Nm} {S : Sto} {M : MH} {p : Addr} {r : Rs α} {K : α → Nm → Sto → MH → Prop} (hp : M p ≠ none) (hn : ∀ i o, getS S i = some o → ι i ≠ p) (h : Post ι S (Z.er M p) noX r K) :
    Post ι S M noX r fun a ι' S' M' => K a ι' S' (Z.er M' p) ∧ M' p = M p ∧ ∀ i o, getS S' i = some o → ι' i ≠ p := by
  cases r with
  | ok a S' => exact fun ι' M' x => let ⟨y, z1, z2⟩ := x.aside hp hn; ⟨h ι' _ y, z1, z2⟩
  | ex e S' => exact fun ι' M' x => let ⟨y, z1, z2⟩ := x.aside hp hn; (id (h ι' (Z.er M' p) y) : False)
  | no => exact h
theorem post_calm {α : Type} {ι : Nm} {S : Sto} {M : MH} {E E' : X3} {r : Rs α} {K : α → Nm → Sto → MH → Prop} (h : Post ι S M E (calm r) K) : Post ι S M E' r K := by
  cases r with
  | ok a S' => exact h
  | ex e S' => exact h.elim
  | no => exact h
theorem cw_ok {tg : Tg} {tt : TB3} {te : T3} {ft : WF Bool} {fe : WF W} (hT : SndT noX tt ft) (hE : SndE noX te fe) {en : WEn} {p : Addr} {Kc : List D → MH → Prop} :
    ∀ (items acc : List D) (S : Sto) (ι : Nm) (M : MH), wfE S.length en → Emb ι S M → (∀ i o, getS S i = some o → ι i ≠ p) → M p = some (.lst acc) →
      Post ι S (Z.er M p) noX (compV tg ft fe en items S) (fun ys ι' S' N => N p = none → Kc (acc ++ ys) (up N p (.lst (acc ++ ys)))) → compW tg tt te (rnE ι en) p Kc items acc M
  | [], acc, S, ι, M, we, em, hn, hp, h => by
    have := Post.now (Emb.er em hn) h er_none
    rw [List.append_nil, up_er hp] at this
    exact ⟨hp, this⟩
  | x :: r, acc, S, ι, M, we, em, hn, hp, h => by
    have hp0 : M p ≠ none := by rw [hp]; intro z; cases z
    unfold compV at h
    unfold compW
    cases q : bindV tg (.v x) en with
    | none => rw [q] at h; exact h.elim
    | some e1 =>
      rw [q] at h
      obtain ⟨b1, we1⟩ := bind_rn (ι := ι) (w := .v x) we trivial q
      rw [show bindT tg x (rnE ι en) = some (rnE ι e1) from b1]
      refine hT e1 S ι M _ we1 em ((post_aside hp0 hn (Post.bind h)).imp fun b ι1 S1 M1 x1 ⟨h1, p1, n1⟩ => ?_)
      have em1 := x1.emb
      have hp1 : M1 p = some (.lst acc) := p1.trans hp
      have hp01 : M1 p ≠ none := by rw [hp1]; intro z; cases z
      have we1' := we.le x1.len
      cases b with
      | false =>
        show compW tg tt te (rnE ι en) p Kc r acc M1
        rw [← rnE_agr x1.agr we]
        exact cw_ok hT hE r acc S1 ι1 M1 we1' em1 n1 hp1 h1
      | true =>
        show te (rnE ι e1) M1 _
        rw [← rnE_agr x1.agr we1]
        refine hE e1 S1 ι1 M1 _ (we1.le x1.len) em1 ((post_aside hp01 n1 (Post.bind h1)).imp fun w ι2 S2 M2 x2 ⟨h2, p2, n2⟩ ww => ?_)
        have hp2 : M2 p = some (.lst acc) := p2.trans hp1
        refine ⟨hp2, ?_⟩
        cases w with
        | r i => exact h2.elim
        | v y =>
          show compW tg tt te (rnE ι en) p Kc r (acc ++ [y]) (up M2 p (.lst (acc ++ [y])))
          rw [← rnE_agr (x1.trans x2).agr we]
          refine cw_ok hT hE r (acc ++ [y]) S2 ι2 _ (we.le (x1.trans x2).len) (Emb.mark x2.emb n2) n2 up_same ?_
          rw [er_up']
          refine (Post.bind (show Post ι2 S2 (Z.er M2 p) noX ((compV tg ft fe en r S2).bind fun ys S3 => .ok (y :: ys) S3) _ from h2)).imp fun ys ι3 S3 M3 x3 h3 hN => ?_
          have := Post.now x3.emb h3 hN
          rw [List.append_assoc]
          exact this
theorem post_it {α : Type} {ik : IK} {r : Rs (List W)} {g : List D → Sto → Rs α} {ι : Nm} {S : Sto} {M : MH} {K : α → Nm → Sto → MH → Prop}
    (h : Post ι S M E (r.bind fun ws S1 => match itW ik ws with | some items => g items S1 | none => .no) K) : Post ι S M E (r.bind fun ws S1 => lft S1 (itW ik ws)) fun items ι1 S1 M1 => Post ι1 S1 M1 E (g items S1) K := by
  cases r with
  | no => exact h
  | ex e S' => exact h
  | ok ws S1 =>
    rw [Rs.bind_ok] at h ⊢
    cases q : itW ik ws with
    | none => rw [q] at h; exact h.elim
    | some items => rw [q] at h; exact fun ι1 M1 x1 => Post.from x1 h
def endC (m : Bool) (p : Addr) (Q : Q3) : List D → MH → Prop := fun acc M2 => match m with | true => Q (.ref p) M2 | false => Q (.lst acc) (Z.er M2 p)
theorem sd_comp {m : Bool} {ik : IK} {tg : Tg} {own : List Nat} {tt : TB3} {te : T3} {ft : WF Bool} {fe : WF W} (hl : SndL E tl fl) (hT : SndT noX tt ft) (hE : SndE noX te fe) :
    SndE E (comp3 m (wi ik tl) tg tt te own) (fun en S => (fl en S).bind fun ws S1 => match itW ik ws with
      | some items => compR m (calm (compV tg ft fe (wipeV en own) items S1))
      | none => .no) := by
  intro en S ι M Q we em h
  show wi ik tl (rnE ι en) M fun items M1 => ∀ p, M1 p = none → compW tg tt te (wipeE (rnE ι en) own) p (endC m p Q) items [] (up M1 p (.lst []))
  refine sd_it ik hl en S ι M _ we em ((post_it h).imp fun items ι1 S1 M1 x1 h1 p hp => ?_)
  have ww := wfE_wipe (we.le x1.len) own
  rw [wipeE_rn, ← rnE_agr x1.agr (wfE_wipe we own)]
  have fr := Emb.fresh x1.emb hp
  refine cw_ok hT hE items [] S1 ι1 (up M1 p (.lst [])) ww (Emb.mark x1.emb fr) fr up_same ?_
  rw [er_up', er_self hp]
  refine (post_calm (Post.bind h1)).imp fun ys ι2 S2 N x2 h2 hN => ?_
  rw [List.nil_append]
  cases m with
  | true => exact pw_new (o := .lst ys) x2.emb trivial h2 p hN
  | false =>
    show Q (.lst ys) (Z.er (up N p (.lst ys)) p)
    rw [er_up', er_self hN]
    exact Post.now x2.emb h2 trivial
/-! #### displays of dicts -/
def SndP (E : X3) (t : List (T3 × T3)) (f : WF (List (W × W))) : Prop := ∀ en S ι M Q, wfE S.length en → Emb ι S M → Post ι S M E (f en S) (fun ps ι' S' M' => (∀ q ∈ ps, wfW S'.length q.1 ∧ wfW S'.length q.2) → Q (ps.map fun q => (rnW ι' q.1, rnW ι' q.2)) M') → pairs3 t (rnE ι en) M Q
theorem sd_pnil : SndP E [] (fun _ S => .ok [] S) := fun en S ι M Q we em h => Post.now em h fun q hq => nomatch hq
theorem sd_pcons {t : List (T3 × T3)} {fp : WF (List (W × W))} (ha : SndE E ta fa) (hb : SndE E tb fb) (hp : SndP E t fp) : SndP E ((ta, tb) :: t) (fun en S => (fa en S).bind fun x S1 => (fb en S1).bind fun y S2 => (fp en S2).bind fun ps S3 => .ok ((x, y) :: ps) S3) := by
  intro en S ι M Q we em h
  refine ha en S ι M _ we em ((Post.bind h).imp fun x ι1 S1 M1 x1 h1 wx => ?_)
  obtain ⟨we1, e1⟩ := wf_ext x1 we
  rw [e1]
  refine hb en S1 ι1 M1 _ we1 x1.emb ((Post.bind h1).imp fun y ι2 S2 M2 x2 h2 wy => ?_)
  obtain ⟨we2, e2⟩ := wf_ext x2 we1
  rw [e2]
  refine hp en S2 ι2 M2 _ we2 x2.emb ((Post.bind h2).imp fun ps ι3 S3 M3 x3 h3 wps => ?_)
  rw [← rnW_agr (x2.trans x3).agr wx, ← rnW_agr x3.agr wy]
  refine Post.now x3.emb h3 fun q hq => ?_
  rcases List.mem_cons.mp hq with rfl | hq
  · exact ⟨wx.le (x2.trans x3).len, wy.le x3.len⟩
  · exact wps q hq
theorem keysW_ok {ι : Nm} {n : Nat} : ∀ {ps : List (W × W)} {kvs : List (Key × W)}, keysW ps = some kvs → (∀ q ∈ ps, wfW n q.1 ∧ wfW n q.2) → keysD (ps.map fun q => (rnW ι q.1, rnW ι q.2)) = some (kvs.map fun kv => (kv.1, rnW ι kv.2)) ∧ ∀ kv ∈ kvs, wfW n kv.2
  | [], kvs, h, _ => by cases h; exact ⟨rfl, fun kv hk => nomatch hk⟩
  | (k, v) :: r, kvs, h, w => by
    cases k with
    | r i => cases h
    | v k =>
      have h : (match keyK k, keysW r with
        | some k, some r => some ((k, v) :: r)
        | _, _ => none) = some kvs := h
      split at h
      · rename_i k' r' h1 h2
        cases h
        obtain ⟨i1, i2⟩ := keysW_ok (ι := ι) h2 fun q hq => w q (List.mem_cons_of_mem _ hq)
        refine ⟨?_, fun kv hk => ?_⟩
        · show (match keyK k, keysD (r.map fun q => (rnW ι q.1, rnW ι q.2)) with
            | some k, some r => some ((k, rnW ι v) :: r)
            | _, _ => none) = _
          rw [h1, i1]; rfl
        · rcases List.mem_cons.mp hk with rfl | hk
          · exact (w (W.v k, v) (by simp)).2
          · exact i2 kv hk
      · cases h
theorem merge_map {ι : Nm} : ∀ (more kvs : List (Key × W)), mergeD (kvs.map fun kv => (kv.1, rnW ι kv.2)) (more.map fun kv => (kv.1, rnW ι kv.2)) = (mergeG kvs more).map fun kv => (kv.1, rnW ι kv.2)
  | [], kvs => rfl
  | kv :: r, kvs => by
    show mergeD (putD (kvs.map fun kv => (kv.1, rnW ι kv.2)) kv.1 (rnW ι kv.2)) (r.map fun kv => (kv.1, rnW ι kv.2)) = _
    rw [show putD (kvs.map fun kv => (kv.1, rnW ι kv.2)) kv.1 (rnW ι kv.2) = (putG kvs kv.1 kv.2).map fun kv => (kv.1, rnW ι kv.2) from putG_map (rnW ι) kv.1 kv.2 kvs, merge_map r]
    rfl
theorem merge_wf {n : Nat} : ∀ (more kvs : List (Key × W)), (∀ kv ∈ kvs, wfW n kv.2) → (∀ kv ∈ more, wfW n kv.2) → ∀ kv ∈ mergeG kvs more, wfW n kv.2
  | [], kvs, h, _ => h
  | kv :: r, kvs, h, g => merge_wf r _ (fun e he => by
      rcases putG_mem he with q | q
      · exact h e q
      · rw [q]; exact g kv (by simp)) fun e he => g e (List.mem_cons_of_mem _ he)
theorem sd_dis {m : Bool} {t : List (T3 × T3)} {fp : WF (List (W × W))} (hp : SndP E t fp) : SndE E (disp3 m t) (fun en S => (calm (fp en S)).bind fun ps S1 => disW m S1 ps) := by
  intro en S ι M Q we em h p hpn
  replace h : Post ι S M E ((calm (fp en S)).bind fun ps S1 => disW m S1 ps) (fun w ι' S' M' => wfW S'.length w → Q (rnW ι' w) M') := h
  have fr := Emb.fresh em hpn
  have h0 : Post ι S (Z.er (up M p (.dK [])) p) noX (fp en S) (fun ps ι1 S1 N => Post ι1 S1 N E (disW m S1 ps) fun w ι' S' M' => wfW S'.length w → Q (rnW ι' w) M') := by
    rw [er_up', er_self hpn]
    exact post_calm (Post.bind h)
  have h1 := post_aside (M := up M p (.dK [])) (by rw [up_same]; intro z; cases z) fr h0
  have h2 : Post ι S (up M p (.dK [])) E (fp en S) (fun ps ι1 S1 M1 => Post ι1 S1 (Z.er M1 p) E (disW m S1 ps) (fun w ι' S' M' => wfW S'.length w → Q (rnW ι' w) M') ∧ M1 p = some (.dK []) ∧ ∀ i o, getS S1 i = some o → ι1 i ≠ p) := by
    cases hr : fp en S with
    | no => rw [hr] at h1; exact h1
    | ex e S' => rw [hr] at h; exact h.elim
    | ok ps S1 =>
      rw [hr] at h1
      intro ι' M' x
      obtain ⟨a, b, c⟩ := h1 ι' M' x
      exact ⟨a, b.trans up_same, c⟩
  refine hp en S ι (up M p (.dK [])) _ we (Emb.mark em fr) (h2.imp fun ps ι1 S1 M1 x1 ⟨h3, p3, n3⟩ wps => ?_)
  refine ⟨p3, ?_⟩
  unfold disW at h3
  split at h3
  · rename_i kvs hk
    obtain ⟨k1, k2⟩ := keysW_ok (ι := ι1) hk wps
    rw [k1]
    split at h3
    · rename_i hl
      refine ⟨by rw [List.length_map]; exact hl, ?_⟩
      have hm : mergeD [] (kvs.map fun kv => (kv.1, rnW ι1 kv.2)) = (mergeG [] kvs).map fun kv => (kv.1, rnW ι1 kv.2) := merge_map kvs []
      rw [hm]
      have wm := merge_wf kvs [] (fun kv hk => nomatch hk) k2
      have em1 := Emb.er x1.emb n3
      cases m with
      | true =>
        have := pw_new (o := .dK (mergeG [] kvs)) em1 wm h3 p er_none
        have e2 : rnO (pin ι1 S1.length p) (.dK (mergeG [] kvs)) = .dK ((mergeG [] kvs).map fun kv => (kv.1, rnW ι1 kv.2)) := rnO_agr (ι := ι1) (o := .dK (mergeG [] kvs)) (fun i h => pin_ne (Nat.ne_of_lt h)) wm
        rw [e2] at this
        have e3 : ∀ o, up (Z.er M1 p) p o = up M1 p o := fun o => by
          funext a; unfold up Z.er
          by_cases q : a = p
          · simp [q]
          · simp [q]
        rw [e3] at this
        exact this
      | false =>
        dsimp only at h3
        split at h3
        · rename_i ds hds
          have h4 : Post ι1 S1 (Z.er M1 p) E (.ok (.v (.dK ((mergeG [] kvs).map (·.1)) ds)) S1) (fun w ι' S' M' => wfW S'.length w → Q (rnW ι' w) M') := h3
          have := Post.now em1 h4 trivial
          have e : ((mergeG [] kvs).map fun kv => (kv.1, rnW ι1 kv.2)).map (·.2) = ds := by
            rw [← plnW_ok (ι := ι1) hds, List.map_map, List.map_map]; rfl
          have e' : ((mergeG [] kvs).map fun kv => (kv.1, rnW ι1 kv.2)).map (·.1) = (mergeG [] kvs).map (·.1) := by
            rw [List.map_map]; rfl
          show Q (.dK (((mergeG [] kvs).map fun kv => (kv.1, rnW ι1 kv.2)).map (·.1)) (((mergeG [] kvs).map fun kv => (kv.1, rnW ι1 kv.2)).map (·.2))) (Z.er M1 p)
          rw [e, e']
          exact this
        · exact h3.elim
    · exact h3.elim
  · exact h3.elim
/-! #### methods, calls -/
theorem ty_lst {S : Sto} {ι : Nm} {M : MH} {o : W} (em : Emb ι S M) (h : (match rdW S o with | some (.lst _) => true | _ => false) = true) : (exL M (rnW ι o)).isSome = true := by
  split at h
  · rename_i ds hx
    rw [rd_exL em hx]; rfl
  · cases h
theorem ty_dct {S : Sto} {ι : Nm} {M : MH} {o : W} (em : Emb ι S M) (h : (match o with
    | .v (.dK _ _) => true
    | .v (.dT _ _) => true
    | .r i => (match getS S i with | some (.dK _) => true | some (.dT _) => true | _ => false)
    | _ => false) = true) : ((asK M (rnW ι o)).isSome || (asD M (rnW ι o)).isSome) = true := by
  split at h
  · rfl
  · rfl
  · rename_i i
    split at h
    · rename_i kvs g
      show ((match M (ι i) with | some (.dK kvs) => some kvs | _ => none).isSome || _) = true
      rw [em.at' i _ g]; rfl
    · rename_i kvs g
      rw [Bool.or_eq_true]; right
      show (match M (ι i) with | some (.dT kvs) => some kvs | _ => none).isSome = true
      rw [em.at' i _ g]; rfl
    · cases h
  · cases h
theorem ty_str {ι : Nm} {o : W} (h : (match o with | .v (.str _) => true | _ => false) = true) : isStrD (rnW ι o) = true := by
  split at h
  · rfl
  · cases h
theorem ty_tk {ι : Nm} {o : W} (h : (match o with | .v (.tp .k _) => true | _ => false) = true) : isTk (rnW ι o) = true := by
  split at h
  · rfl
  · cases h
theorem tyW_ok {m : Mt} {S : Sto} {ι : Nm} {M : MH} {o : W} (em : Emb ι S M) (h : tyW m S o = true) : tyOk m M (rnW ι o) = true := by
  cases m with
  | append => exact ty_lst em h
  | extend => exact ty_lst em h
  | index => exact ty_lst em h
  | get => exact ty_dct em h
  | setdefault => exact ty_dct em h
  | indexT => exact ty_tk h
  | join => exact ty_str h
  | split => exact ty_str h
  | startswith => exact ty_str h
theorem sd_mth {m : Mt} (ho : SndE E ta fa) (hl : SndL E tl fl) : SndE E (mth3 m ta tl) (fun en S => (fa en S).bind fun x S1 => match tyW m S1 x with
    | true => (fl en S1).bind fun ws S2 => m.wo S2 x ws
    | false => .no) := by
  intro en S ι M Q we em h
  refine ho en S ι M _ we em ((Post.bind h).imp fun x ι1 S1 M1 x1 h1 wx => ?_)
  obtain ⟨we1, e1⟩ := wf_ext x1 we
  rw [e1]
  split at h1
  · rename_i ht
    refine ⟨tyW_ok x1.emb ht, ?_⟩
    refine hl en S1 ι1 M1 _ we1 x1.emb ((Post.bind h1).imp fun ws ι2 S2 M2 x2 h2 wws => ?_)
    rw [← rnW_agr x2.agr wx]
    exact (mt_ok x2.emb wws h2).2
  · exact h1.elim
/-- a def's promise, of its function -/
def spV (F : List W → Sto → Rs W) : Sp3 := fun ds M Q E => ∃ ws S ι, ds = ws.map (rnW ι) ∧ wfL S.length ws ∧ Emb ι S M ∧ PW ι S M E (F ws S) Q
theorem sd_call {n : Nat} {F : List W → Sto → Rs W} (hl : SndL E tl fl) : SndE E (call3 n (spV F) E tl) (fun en S => (fl en S).bind fun ws S2 => if ws.length = n then F ws S2 else .no) := by
  intro en S ι M Q we em h
  refine hl en S ι M _ we em ((Post.bind h).imp fun ws ι1 S1 M1 x1 h4 wws => ?_)
  split at h4
  · rename_i h3
    exact ⟨by rw [List.length_map]; exact h3, ws, S1, ι1, rfl, wws, x1.emb, h4⟩
  · exact h4.elim
end
end Z

/-! V7: statements; THE END: the reading by functions is sound. -/
namespace Z
open PySem PySem.Spec PyProof.Rows L2
def wfC (n : Nat) : Oc → Prop
  | .nx e => wfE n e
  | .rt w => wfW n w
  | .bk e => wfE n e
  | .ct e => wfE n e
def oQ (D3 : Ends3) (ι : Nm) (o : Oc) (M : MH) : Prop := match o with
  | .nx e => D3.nx (rnE ι e) M
  | .rt w => D3.rt (rnW ι w) M
  | .bk e => D3.bk (rnE ι e) M
  | .ct e => D3.ct (rnE ι e) M
def SndS (E : X3) (t : TS3) (f : WF Oc) : Prop := ∀ D3 en S ι M, wfE S.length en → Emb ι S M → Post ι S M E (f en S) (fun o ι' S' M' => wfC S'.length o → oQ D3 ι' o M') → t D3 (rnE ι en) M
section
variable {E : X3} {ta tb tc : T3} {fa fb fc : WF W} {tl : TL3} {fl : WF (List W)} {t u : TS3} {f g : WF Oc}
theorem SndE.congr {t : T3} {f g : WF W} (h : SndE E t f) (e : ∀ en S, f en S = g en S) : SndE E t g := by
  have : f = g := by funext en S; exact e en S
  rw [← this]; exact h
theorem ss_seq (h1 : SndS E t f) (h2 : SndS E u g) : SndS E (seq3 t u) (fun en S => (f en S).bind fun o S1 => match o with | .nx e => g e S1 | o => .ok o S1) := by
  intro D3 en S ι M we em h
  refine h1 _ en S ι M we em ((Post.bind h).imp fun o ι1 S1 M1 x1 h1 wo => ?_)
  cases o with
  | nx e => exact h2 D3 e S1 ι1 M1 wo x1.emb h1
  | rt w => exact Post.now x1.emb h1 wo
  | bk e => exact Post.now x1.emb h1 wo
  | ct e => exact Post.now x1.emb h1 wo
theorem ss_next : SndS E next3 (fun en S => .ok (.nx en) S) := fun D3 en S ι M we em h => Post.now em h we
theorem ss_brk : SndS E brk3 (fun en S => .ok (.bk en) S) := fun D3 en S ι M we em h => Post.now em h we
theorem ss_cnt : SndS E cnt3 (fun en S => .ok (.ct en) S) := fun D3 en S ι M we em h => Post.now em h we
theorem ss_drop (ha : SndE E ta fa) : SndS E (drop3 ta) (fun en S => (fa en S).bind fun _ S1 => .ok (.nx en) S1) := by
  intro D3 en S ι M we em h
  refine ha en S ι M _ we em ((Post.bind h).imp fun x ι1 S1 M1 x1 h1 wx => ?_)
  obtain ⟨we1, e1⟩ := wf_ext x1 we
  rw [e1]
  exact Post.now x1.emb h1 we1
theorem ss_ret (ha : SndE E ta fa) : SndS E (ret3 ta) (fun en S => (fa en S).bind fun w S1 => .ok (.rt w) S1) := by
  intro D3 en S ι M we em h
  refine ha en S ι M _ we em ((Post.bind h).imp fun x ι1 S1 M1 x1 h1 wx => ?_)
  exact Post.now x1.emb h1 wx
theorem ss_retN : SndS E retN3 (fun _ S => .ok (.rt (.v .non)) S) := fun D3 en S ι M we em h => Post.now em h trivial
theorem ss_if {tA : TB3} {fA : WF Bool} (hc : SndT E tA fA) (h1 : SndS E t f) (h2 : SndS E u g) : SndS E (if3 tA t u) (fun en S => (fA en S).bind fun k S1 => match k with | true => f en S1 | false => g en S1) := by
  intro D3 en S ι M we em h
  refine hc en S ι M _ we em ((Post.bind h).imp fun b ι1 S1 M1 x1 g1 => ?_)
  obtain ⟨we1, e1⟩ := wf_ext x1 we
  rw [e1]
  cases b with
  | true => exact h1 D3 en S1 ι1 M1 we1 x1.emb g1
  | false => exact h2 D3 en S1 ι1 M1 we1 x1.emb g1
theorem ss_asg {tg : Tg} (ha : SndE E ta fa) : SndS E (asg3 ta tg) (fun en S => (fa en S).bind fun w S1 => match bindV tg w en with | some e' => .ok (.nx e') S1 | none => .no) := by
  intro D3 en S ι M we em h
  refine ha en S ι M _ we em ((Post.bind h).imp fun w ι1 S1 M1 x1 h1 ww => ?_)
  obtain ⟨we1, e1⟩ := wf_ext x1 we
  rw [e1]
  split at h1
  · rename_i e' hb
    obtain ⟨b1, b2⟩ := bind_rn (ι := ι1) we1 ww hb
    rw [b1]
    exact Post.now x1.emb h1 b2
  · exact h1.elim
theorem ss_par {i j : Nat} (ha : SndE E ta fa) (hb : SndE E tb fb) : SndS E (par3 i j (cons3 ta (cons3 tb nil3))) (fun en S => (fa en S).bind fun x S1 => (fb en S1).bind fun y S2 => .ok (.nx (setV2 (setV2 en i x) j y)) S2) := by
  intro D3 en S ι M we em h
  refine ha en S ι M _ we em ((Post.bind h).imp fun x ι1 S1 M1 x1 h1 wx => ?_)
  obtain ⟨we1, e1⟩ := wf_ext x1 we
  rw [e1]
  refine hb en S1 ι1 M1 _ we1 x1.emb ((Post.bind h1).imp fun y ι2 S2 M2 x2 h2 wy => ?_)
  obtain ⟨we2, e2⟩ := wf_ext x2 we1
  show D3.nx (setE (setE (rnE ι1 en) i (rnW ι1 x)) j (rnW ι2 y)) M2
  rw [← rnW_agr x2.agr wx, e2, setE_rn, setE_rn]
  exact Post.now x2.emb h2 (wfE_set wy (wfE_set (wx.le x2.len) we2))
theorem put3_ref {M : MH} {a : Addr} {i v : D} : put3 M (.ref a) i v = (match M a with
        | some (.lst ds) => (match i with
          | .int k => (match ixN ds.length k with
            | some j => some (up M a (.lst (ds.set j v)))
            | none => none)
          | _ => none)
        | some (.dK kvs) => (match keyK i with
          | some k => if kvs.length < sizeLine then some (up M a (.dK (putD kvs k v))) else none
          | none => none)
        | some (.dT kvs) => (match keyT i with
          | some k => if kvs.length < sizeLine then some (up M a (.dT (putD kvs k v))) else none
          | none => none)
        | _ => none) := rfl
theorem putW_ok {S S' : Sto} {ι : Nm} {M : MH} {o i v : W} (em : Emb ι S M) (wv : wfW S.length v) (h : putW S o i v = some S') : ∃ M', put3 M (rnW ι o) (rnW ι i) (rnW ι v) = some M' ∧ Ext ι S M ι S' M' := by
  unfold putW at h
  split at h
  · rename_i a i
    show ∃ M', put3 M (.ref (ι a)) i (rnW ι v) = some M' ∧ _
    have red := put3_ref (M := M) (a := ι a) (i := i) (v := rnW ι v)
    split at h
    · rename_i ds g
      have hM : M (ι a) = some (.lst ds) := em.at' a _ g
      split at h
      · rename_i k d
        split at h
        · rename_i j hj
          cases h
          refine ⟨_, ?_, Ext.put em g (o := .lst (ds.set j d)) trivial⟩
          rw [red, hM]
          show (match ixN ds.length k with | some j => some (up M (ι a) (.lst (ds.set j d))) | none => none) = _
          rw [hj]; rfl
        · cases h
      · cases h
    · rename_i kvs g
      have hM : M (ι a) = some (.dK (kvs.map fun kv => (kv.1, rnW ι kv.2))) := em.at' a _ g
      split at h
      · rename_i k hk
        split at h
        · rename_i hl
          cases h
          refine ⟨_, ?_, Ext.put em g (o := .dK (putG kvs k v)) fun kv hkv => ?_⟩
          · rw [red, hM]
            show (match keyK i with
              | some k => if (kvs.map fun (kv : Key × W) => (kv.1, rnW ι kv.2)).length < sizeLine then some (up M (ι a) (.dK (putD (kvs.map fun (kv : Key × W) => (kv.1, rnW ι kv.2)) k (rnW ι v)))) else none
              | none => none) = _
            rw [hk]
            show (if (kvs.map fun kv => (kv.1, rnW ι kv.2)).length < sizeLine then _ else none) = _
            rw [if_pos (by rw [List.length_map]; exact hl), show putD (kvs.map fun kv => (kv.1, rnW ι kv.2)) k (rnW ι v) = (putG kvs k v).map fun kv => (kv.1, rnW ι kv.2) from putG_map (rnW ι) k v kvs]
            rfl
          · rcases putG_mem hkv with q | q
            · exact em.wf a _ g kv q
            · rw [q]; exact wv
        · cases h
      · cases h
    · rename_i kvs g
      have hM : M (ι a) = some (.dT (kvs.map fun kv => (kv.1, rnW ι kv.2))) := em.at' a _ g
      split at h
      · rename_i k hk
        split at h
        · rename_i hl
          cases h
          refine ⟨_, ?_, Ext.put em g (o := .dT (putG kvs k v)) fun kv hkv => ?_⟩
          · rw [red, hM]
            show (match keyT i with
              | some k => if (kvs.map fun (kv : List Key × W) => (kv.1, rnW ι kv.2)).length < sizeLine then some (up M (ι a) (.dT (putD (kvs.map fun (kv : List Key × W) => (kv.1, rnW ι kv.2)) k (rnW ι v)))) else none
              | none => none) = _
            rw [hk]
            show (if (kvs.map fun kv => (kv.1, rnW ι kv.2)).length < sizeLine then _ else none) = _
            rw [if_pos (by rw [List.length_map]; exact hl), show putD (kvs.map fun kv => (kv.1, rnW ι kv.2)) k (rnW ι v) = (putG kvs k v).map fun kv => (kv.1, rnW ι kv.2) from putG_map (rnW ι) k v kvs]
            rfl
          · rcases putG_mem hkv with q | q
            · exact em.wf a _ g kv q
            · rw [q]; exact wv
        · cases h
      · cases h
    · cases h
  · cases h
theorem ss_sput (ho : SndE E ta fa) (hi : SndE E tb fb) (he : SndE E tc fc) : SndS E (sput3 ta tb tc) (fun en S => (fc en S).bind fun v S1 => (fa en S1).bind fun x S2 => (fb en S2).bind fun k S3 => match putW S3 x k v with | some S4 => .ok (.nx en) S4 | none => .no) := by
  intro D3 en S ι M we em h
  refine he en S ι M _ we em ((Post.bind h).imp fun v ι1 S1 M1 x1 h1 wv => ?_)
  obtain ⟨we1, e1⟩ := wf_ext x1 we
  rw [e1]
  refine ho en S1 ι1 M1 _ we1 x1.emb ((Post.bind h1).imp fun x ι2 S2 M2 x2 h2 wx => ?_)
  obtain ⟨we2, e2⟩ := wf_ext x2 we1
  rw [e2]
  refine hi en S2 ι2 M2 _ we2 x2.emb ((Post.bind h2).imp fun k ι3 S3 M3 x3 h3 wk => ?_)
  obtain ⟨we3, e3⟩ := wf_ext x3 we2
  rw [← rnW_agr (x2.trans x3).agr wv, ← rnW_agr x3.agr wx]
  split at h3
  · rename_i S4 hp
    obtain ⟨M4, p1, p2⟩ := putW_ok x3.emb (wv.le (x2.trans x3).len) hp
    rw [p1, e3]
    exact h3 ι3 M4 p2 (we3.le p2.len)
  · exact h3.elim
theorem ss_aug {i : Nat} {o : O2} {w : D → D → Option D} (hw : ∀ d e r, w d e = some r → (∀ ds, d ≠ .lst ds) ∧ (∀ ds, e ≠ .lst ds) ∧ ∀ (M : MH) (Q : Q3), Q r M → o d e M Q) (ha : SndE E ta fa) : SndS E (aug3 i ta o) (fun en S => match getV en i with
    | some d => (fa en S).bind fun d2 S1 => match rd2 S1 d d2 w with | some r => .ok (.nx (setV2 en i (.v r))) S1 | none => .no
    | none => .no) := by
  intro D3 en S ι M we em h
  unfold aug3
  rw [getE_rn]
  dsimp only at h
  split at h
  · rename_i d hd
    rw [hd]
    refine ha en S ι M _ we em ((Post.bind h).imp fun d2 ι1 S1 M1 x1 h1 ww => ?_)
    obtain ⟨we1, e1⟩ := wf_ext x1 we
    split at h1
    · rename_i r hr
      obtain ⟨x, y, hx, hy, hf⟩ := rd2_some hr
      obtain ⟨n1, n2, n3⟩ := hw x y r hf
      rw [← rnW_agr x1.agr (wfE_get we hd), rdW_v hx n1, rdW_v hy n2]
      refine n3 _ _ ?_
      rw [e1, show setE (rnE ι1 en) i r = rnE ι1 (setV2 en i (.v r)) from setE_rn en i (.v r)]
      exact Post.now x1.emb h1 (wfE_set (w := .v r) trivial we1)
    · exact h1.elim
  · exact h.elim
theorem iadd_ok (d e r : D) (h : viadd d e = some r) : (∀ ds, d ≠ .lst ds) ∧ (∀ ds, e ≠ .lst ds) ∧ ∀ (M : MH) (Q : Q3), Q r M → iadd3 d e M Q := by
  unfold viadd at h
  split at h
  · cases h; exact ⟨(fun _ z => nomatch z), (fun _ z => nomatch z), fun M Q q => q⟩
  · split at h
    · rename_i hl
      cases h; exact ⟨(fun _ z => nomatch z), (fun _ z => nomatch z), fun M Q q => ⟨hl, q⟩⟩
    · cases h
  · cases h
theorem isub_ok (d e r : D) (h : visub d e = some r) : (∀ ds, d ≠ .lst ds) ∧ (∀ ds, e ≠ .lst ds) ∧ ∀ (M : MH) (Q : Q3), Q r M → isub3 d e M Q := by
  unfold visub at h
  split at h
  · cases h; exact ⟨(fun _ z => nomatch z), (fun _ z => nomatch z), fun M Q q => q⟩
  · cases h
theorem turns_ok {tg : Tg} {body : TS3} {fb : WF Oc} {Z : Ends3} (hb : SndS E body fb) : ∀ (items : List D) (en : WEn) (S : Sto) (ι : Nm) (M : MH), wfE S.length en → Emb ι S M →
    Post ι S M E (turnsV tg fb items en S) (fun o ι' S' M' => wfC S'.length o → oQ Z ι' o M') → turns3 tg body Z items (rnE ι en) M
  | [], en, S, ι, M, we, em, h => Post.now em h we
  | x :: r, en, S, ι, M, we, em, h => by
    unfold turnsV at h
    unfold turns3
    cases q : bindV tg (.v x) en with
    | none => rw [q] at h; exact h.elim
    | some e1 =>
      rw [q] at h
      obtain ⟨b1, we1⟩ := bind_rn (ι := ι) (w := .v x) we trivial q
      rw [show bindT tg x (rnE ι en) = some (rnE ι e1) from b1]
      refine hb _ e1 S ι M we1 em ((Post.bind h).imp fun o ι1 S1 M1 x1 h1 wo => ?_)
      cases o with
      | nx e => exact turns_ok hb r e S1 ι1 M1 wo x1.emb h1
      | ct e => exact turns_ok hb r e S1 ι1 M1 wo x1.emb h1
      | bk e => exact Post.now x1.emb h1 wo
      | rt w => exact Post.now x1.emb h1 wo
theorem ss_for {ik : IK} {tg : Tg} {body : TS3} {fb : WF Oc} (hl : SndL E tl fl) (hb : SndS E body fb) : SndS E (for3 (wi ik tl) tg body) (fun en S => (fl en S).bind fun ws S1 => match itW ik ws with
    | some items => turnsV tg fb items en S1
    | none => .no) := by
  intro D3 en S ι M we em h
  refine sd_it ik hl en S ι M _ we em ((post_it (g := fun items S1 => turnsV tg fb items en S1) h).imp fun items ι1 S1 M1 x1 h1 => ?_)
  obtain ⟨we1, e1⟩ := wf_ext x1 we
  rw [e1]
  exact turns_ok hb items en S1 ι1 M1 we1 x1.emb h1
theorem whN_ok {tA : TB3} {fA : WF Bool} {body : TS3} {fb : WF Oc} {D3 : Ends3} (hc : SndT E tA fA) (hb : SndS E body fb) : ∀ (n : Nat) (en : WEn) (S : Sto) (ι : Nm) (M : MH), wfE S.length en → Emb ι S M →
    Post ι S M E (whN fA fb n en S) (fun o ι' S' M' => wfC S'.length o → oQ D3 ι' o M') → whileN tA body D3 n (rnE ι en) M
  | 0, en, S, ι, M, we, em, h => h
  | n + 1, en, S, ι, M, we, em, h => by
    unfold whN at h
    unfold whileN
    refine hc en S ι M _ we em ((Post.bind h).imp fun b ι1 S1 M1 x1 h1 => ?_)
    obtain ⟨we1, e1⟩ := wf_ext x1 we
    rw [e1]
    cases b with
    | false => exact Post.now x1.emb h1 we1
    | true =>
      refine hb _ en S1 ι1 M1 we1 x1.emb ((Post.bind h1).imp fun o ι2 S2 M2 x2 h2 wo => ?_)
      cases o with
      | nx e => exact whN_ok hc hb n e S2 ι2 M2 wo x2.emb h2
      | ct e => exact whN_ok hc hb n e S2 ι2 M2 wo x2.emb h2
      | bk e => exact Post.now x2.emb h2 wo
      | rt w => exact Post.now x2.emb h2 wo
theorem ss_while {tA : TB3} {fA : WF Bool} {body : TS3} {fb : WF Oc} (hc : SndT E tA fA) (hb : SndS E body fb) : SndS E (while3 tA body) (whV fA fb) := by
  intro D3 en S ι M we em h
  unfold whV at h
  split at h
  · rename_i hz
    exact ⟨hz.choose, whN_ok hc hb _ en S ι M we em h⟩
  · exact h.elim
theorem ss_fz {i : Nat} (h2 : SndS E u g) : SndS E (fz3 i u) (fun en S => (match fzV i en S with | some (e, S1) => Rs.ok (.nx e) S1 | none => .no : Rs Oc).bind fun o S1 => match o with | .nx e => g e S1 | o => .ok o S1) := by
  intro D3 en S ι M we em h
  unfold fz3
  rw [getE_rn]
  dsimp only at h
  have key : ∀ (a : Nat) (vo : VO) (d : D), getV en i = some (.r a) → getS S a = some vo → fzV i en S = some (setV2 en i (.v d), setS S a none) → u D3 (setE (rnE ι en) i d) (Z.er M (ι a)) := by
    intro a vo d h1 h3 h4
    rw [h4] at h
    have x := Ext.del em h3
    rw [show setE (rnE ι en) i d = rnE ι (setV2 en i (.v d)) from setE_rn en i (.v d)]
    exact h2 D3 _ _ ι _ ((wfE_set (w := .v d) trivial we).le x.len) x.emb (Post.from x h)
  unfold fzV at h key
  split at h
  · rename_i e S1 hz
    split at hz
    · rename_i a ha
      rw [ha]
      show (match M (ι a) with
        | some (.lst ds) => u D3 (setE (rnE ι en) i (.lst ds)) (Z.er M (ι a))
        | some (.dK kvs) => u D3 (setE (rnE ι en) i (.dK (kvs.map (·.1)) (kvs.map (·.2)))) (Z.er M (ι a))
        | some (.dT kvs) => u D3 (setE (rnE ι en) i (.dT (kvs.map (·.1)) (kvs.map (·.2)))) (Z.er M (ι a))
        | _ => False)
      split at hz
      · rename_i ds g
        rw [show M (ι a) = some (.lst ds) from em.at' a _ g]
        refine key a _ (.lst ds) ha g ?_
        rw [ha]; dsimp only; rw [g]
      · rename_i kvs g
        split at hz
        · rename_i ds hds
          rw [show M (ι a) = some (.dK (kvs.map fun kv => (kv.1, rnW ι kv.2))) from em.at' a _ g]
          have e : (kvs.map fun kv => (kv.1, rnW ι kv.2)).map (·.2) = ds := by
            rw [← plnW_ok (ι := ι) hds, List.map_map, List.map_map]; rfl
          have e' : (kvs.map fun kv => (kv.1, rnW ι kv.2)).map (·.1) = kvs.map (·.1) := by
            rw [List.map_map]; rfl
          show u D3 (setE (rnE ι en) i (.dK ((kvs.map fun kv => (kv.1, rnW ι kv.2)).map (·.1)) ((kvs.map fun kv => (kv.1, rnW ι kv.2)).map (·.2)))) (Z.er M (ι a))
          rw [e, e']
          refine key a _ (.dK (kvs.map (·.1)) ds) ha g ?_
          rw [ha]; dsimp only; rw [g]; dsimp only; rw [hds]
        · cases hz
      · rename_i kvs g
        split at hz
        · rename_i ds hds
          rw [show M (ι a) = some (.dT (kvs.map fun kv => (kv.1, rnW ι kv.2))) from em.at' a _ g]
          have e : (kvs.map fun kv => (kv.1, rnW ι kv.2)).map (·.2) = ds := by
            rw [← plnW_ok (ι := ι) hds, List.map_map, List.map_map]; rfl
          have e' : (kvs.map fun kv => (kv.1, rnW ι kv.2)).map (·.1) = kvs.map (·.1) := by
            rw [List.map_map]; rfl
          show u D3 (setE (rnE ι en) i (.dT ((kvs.map fun kv => (kv.1, rnW ι kv.2)).map (·.1)) ((kvs.map fun kv => (kv.1, rnW ι kv.2)).map (·.2)))) (Z.er M (ι a))
          rw [e, e']
          refine key a _ (.dT (kvs.map (·.1)) ds) ha g ?_
          rw [ha]; dsimp only; rw [g]; dsimp only; rw [hds]
        · cases hz
      · cases hz
    · cases hz
  · exact h.elim
end
end Z

/-! V8: the reading by functions is sound, whole; THE END. -/
namespace Z
open PySem PySem.Spec PyProof.Rows L2
def gtOf (G : GV) : GT := ⟨G.fns.map fun e => (e.1, e.2.1, spV e.2.2), G.cst, G.bn, G.er⟩
theorem nth_map {α β : Type} (f : α → β) : ∀ (l : List α) (j : Nat), nth (l.map f) j = (nth l j).map f
  | [], _ => rfl
  | _ :: _, 0 => rfl
  | _ :: r, n + 1 => nth_map f r n
section
variable {G : GV} {E : X3}
theorem sd_callG {tl : TL3} {fl : WF (List W)} {j : Nat} (hl : SndL E tl fl) : SndE E (callG (gtOf G) j E tl) (fun en S => callV G j (fl en S)) := by
  unfold callG callV
  rw [show (gtOf G).fns = G.fns.map fun e => (e.1, e.2.1, spV e.2.2) from rfl, nth_map]
  cases q : nth G.fns j with
  | none => exact fun en S ι M Q we em h => h
  | some e =>
    obtain ⟨x, n, F⟩ := e
    exact sd_call hl
theorem sd_cst {j : Nat} : SndE E (cstG (gtOf G) j) (fun _ S => cstV G j S) := by
  unfold cstG cstV
  show SndE E (match nth G.cst j with | some (_, d) => con3 d | none => fun _ _ _ => False) _
  cases q : nth G.cst j with
  | none => exact fun en S ι M Q we em h => h
  | some e => exact sd_con e.2
theorem sd_no {t : T3} : SndE E t (fun _ _ => .no) := fun en S ι M Q we em h => h.elim
theorem sd_noT {t : TB3} : SndT E t (fun _ _ => .no) := fun en S ι M Q we em h => h.elim
theorem o1_fmt : Op1 fmt3 (fun S x => rd1 S x vfmt) := by
  intro S ι M x r Q em h q
  obtain ⟨d, hx, hf⟩ := rd1_some h
  unfold vfmt at hf
  split at hf
  · rw [rdW_v hx (fun _ z => by cases z)]
    split at hf
    · rename_i hl
      cases hf; exact ⟨hl, q⟩
    · cases hf
  · rw [rdW_v hx (fun _ z => by cases z)]
    split at hf
    · rename_i hl
      cases hf; exact ⟨hl, q⟩
    · cases hf
  · cases hf
def SndJ (E : X3) (ts : List T3) (acc : Str) (f : WF W) : Prop := ∀ en S ι M (Q : Q3), wfE S.length en → Emb ι S M → Post ι S M E (f en S) (fun w ι' S' M' => wfW S'.length w → Q (rnW ι' w) M') → jsW ts acc (rnE ι en) M (fun out M1 => Q (.str out) M1)
theorem js_step {t : T3} {ts : List T3} {acc : Str} {f : WF W} {g : Str → WF W} (h1 : SndE E t f) (h2 : ∀ a, SndJ E ts a (g a)) : SndJ E (t :: ts) acc (fun en S => (f en S).bind fun x S1 => jsV acc x fun a => g a en S1) := by
  intro en S ι M Q we em h
  refine h1 en S ι M _ we em ((Post.bind h).imp fun x ι1 S1 M1 x1 h3 wx => ?_)
  obtain ⟨we1, e1⟩ := wf_ext x1 we
  rw [e1]
  unfold jsV at h3
  split at h3
  · split at h3
    · rename_i hl
      exact ⟨hl, h2 _ en S1 ι1 M1 Q we1 x1.emb h3⟩
    · exact h3.elim
  · exact h3.elim
mutual
theorem sndE (G : GV) (E : X3) : ∀ e : Ex, SndE E (wpe (gtOf G) e E) (evE G e)
  | .loc i => sd_loc i
  | .non => sd_con .non
  | .bl b => sd_con (.bl b)
  | .int i => sd_con (.int i)
  | .str x => sd_con (.str x)
  | .glo j => sd_cst
  | .bin o a b => sd_bin (os_bin o) (sndE G E a) (sndE G E b)
  | .srt2 a => sd_un o1_srt2 (sndE G E a)
  | .addM a b => sd_addM (sndE G E a) (sndE G E b)
  | .neg a => sd_un o1_neg (sndE G E a)
  | .cmp o a b => sd_bin (os_cmp o) (sndE G E a) (sndE G E b)
  | .chn o o' a b c => sd_chain (os_cmp o) (os_cmp o') (sndE G E a) (sndE G E b) (sndE G E c)
  | .bol k es => sndV G E k es
  | .nt a => sd_not (sndE G E a)
  | .ite c a b => sd_ite (sndT G E c) (sndE G E a) (sndE G E b)
  | .tup es => sd_tup (sndL G E es)
  | .lst m es => match m with
    | true => sd_lstM (sndL G E es)
    | false => sd_lst (sndL G E es)
  | .idx a b => sd_binW ow_ix (sndE G E a) (sndE G E b)
  | .sli a lo hi => sd_sl (sndE G E a) (sndO G E lo) (sndO G E hi)
  | .rev a => sd_un o1_rev (sndE G E a)
  | .call j e es => sd_callG (sd_cons (sndE G E e) (sndL G E es))
  | .blt b e es => (sd_blt (b := b) (sd_cons (sndE G E e) (sndL G E es))).congr fun en S => by
    show Rs.bind (Rs.bind _ _) _ = _
    first | (simp only [bind_assoc, Rs.bind_ok]; done) | (simp only [bind_assoc, Rs.bind_ok]; rfl)
  | .isi T e => sd_un (o1_isi T) (sndE G E e)
  | .mth m o e es => (sd_mth (m := m) (sndE G E o) (sd_cons (sndE G E e) (sndL G E es))).congr fun en S => by
    first | (simp only [bind_assoc, Rs.bind_ok]; done) | (simp only [bind_assoc, Rs.bind_ok]; rfl)
  | .comp m elt tg ik its ifs own => sd_comp (sndL G E its) (sndC G noX ifs) (sndE G noX elt)
  | .newK m => sd_newK m
  | .newT => sd_newT
  | .dis m kvs => sd_dis (sndP G E kvs)
  | .fmt e => sd_un o1_fmt (sndE G E e)
  | .js e e2 es => by
    intro en S ι M Q we em h
    show jsW (wpe (gtOf G) e E :: wpe (gtOf G) e2 E :: wpj (gtOf G) es E) Str.empty (rnE ι en) M (fun out M1 => Q (.str out) M1)
    refine js_step (sndE G E e) (fun a1 => js_step (sndE G E e2) (fun a2 => sndJ G E es a2)) en S ι M Q we em ?_
    exact h
theorem sndT (G : GV) (E : X3) : ∀ e : Ex, SndT E (wpt (gtOf G) e E) (evT G e)
  | .cmp o a b => sd_tcmp (os_cmp o) (sndE G E a) (sndE G E b)
  | .chn o o' a b c => sd_tchain (os_cmp o) (os_cmp o') (sndE G E a) (sndE G E b) (sndE G E c)
  | .bol k es => sndB G E k es
  | .nt a => sd_tnot (sndT G E a)
  | .loc i => sd_tru (sd_loc i)
  | .non => sd_tru (sd_con .non)
  | .bl b => sd_tru (sd_con (.bl b))
  | .int i => sd_tru (sd_con (.int i))
  | .str x => sd_tru (sd_con (.str x))
  | .idx a b => sd_tru (sd_binW ow_ix (sndE G E a) (sndE G E b))
  | .call j e es => sd_tru (sd_callG (sd_cons (sndE G E e) (sndL G E es)))
  | .blt b e es => sd_tru ((sd_blt (b := b) (sd_cons (sndE G E e) (sndL G E es))).congr fun en S => by
    show Rs.bind (Rs.bind _ _) _ = _
    simp only [bind_assoc, Rs.bind_ok])
  | .isi T e => sd_tru (sd_un (o1_isi T) (sndE G E e))
  | .mth m o e es => sd_tru ((sd_mth (m := m) (sndE G E o) (sd_cons (sndE G E e) (sndL G E es))).congr fun en S => by
    first | (simp only [bind_assoc, Rs.bind_ok]; done) | (simp only [bind_assoc, Rs.bind_ok]; rfl))
  | .glo _ => sd_noT
  | .bin _ _ _ => sd_noT
  | .addM _ _ => sd_noT
  | .srt2 _ => sd_noT
  | .neg _ => sd_noT
  | .ite _ _ _ => sd_noT
  | .tup _ => sd_noT
  | .lst _ _ => sd_noT
  | .sli _ _ _ => sd_noT
  | .rev _ => sd_noT
  | .comp _ _ _ _ _ _ _ => sd_noT
  | .newK _ => sd_noT
  | .newT => sd_noT
  | .dis _ _ => sd_noT
  | .fmt _ => sd_noT
  | .js _ _ _ => sd_noT
theorem sndL (G : GV) (E : X3) : ∀ es : List Ex, SndL E (wpl (gtOf G) es E) (evL G es)
  | [] => sd_nil
  | e :: es => sd_cons (sndE G E e) (sndL G E es)
theorem sndV (G : GV) (E : X3) : ∀ (k : Bool) (es : List Ex), SndE E (wpv (gtOf G) k es E) (evV G k es)
  | true, [] => sd_no
  | false, [] => sd_no
  | true, [e] => sndE G E e
  | false, [e] => sndE G E e
  | true, e :: e' :: es => sd_andV (sndE G E e) (sndV G E true (e' :: es))
  | false, e :: e' :: es => sd_orV (sndE G E e) (sndV G E false (e' :: es))
theorem sndB (G : GV) (E : X3) : ∀ (k : Bool) (es : List Ex), SndT E (wpb (gtOf G) k es E) (evB G k es)
  | true, [] => sd_noT
  | false, [] => sd_noT
  | true, [e] => sndT G E e
  | false, [e] => sndT G E e
  | true, e :: e' :: es => sd_and (sndT G E e) (sndB G E true (e' :: es))
  | false, e :: e' :: es => sd_or (sndT G E e) (sndB G E false (e' :: es))
theorem sndO (G : GV) (E : X3) : ∀ es : List Ex, SndO E (wpo (gtOf G) es E) (evO G es)
  | [] => sd_noP
  | e :: _ => sd_part (sndE G E e)
theorem sndC (G : GV) (E : X3) : ∀ es : List Ex, SndT E (wpc (gtOf G) es E) (evC G es)
  | [] => fun en S ι M Q we em h => Post.now em h
  | e :: _ => sndT G E e
theorem sndJ (G : GV) (E : X3) : ∀ (es : List Ex) (acc : Str), SndJ E (wpj (gtOf G) es E) acc (evJ G es acc)
  | [], acc => fun en S ι M Q we em h => Post.now em h trivial
  | e :: es, acc => js_step (sndE G E e) fun a => sndJ G E es a
theorem sndP (G : GV) (E : X3) : ∀ es : List Ex, SndP E (wpp (gtOf G) es E) (evP G es)
  | [] => sd_pnil
  | [_] => sd_pnil
  | k :: v :: r => sd_pcons (sndE G E k) (sndE G E v) (sndP G E r)
end
mutual
theorem sndS (G : GV) (E : X3) : ∀ s : Sx, (∀ i, s ≠ .fz i) → SndS E (wps (gtOf G) E s) (evS G s)
  | .asg tg e, _ => ss_asg (sndE G E e)
  | .par i j a b, _ => ss_par (sndE G E a) (sndE G E b)
  | .sput o i e, _ => ss_sput (sndE G E o) (sndE G E i) (sndE G E e)
  | .aug i k e, _ => match k with
    | true => ss_aug iadd_ok (sndE G E e)
    | false => ss_aug isub_ok (sndE G E e)
  | .expr e, _ => ss_drop (sndE G E e)
  | .ret e, _ => ss_ret (sndE G E e)
  | .retN, _ => ss_retN
  | .ifs c a b, _ => ss_if (sndT G E c) (sndSs G E a) (sndSs G E b)
  | .fors tg ik its body, _ => ss_for (sndL G E its) (sndSs G E body)
  | .whl c body, _ => ss_while (sndT G E c) (sndSs G E body)
  | .brk, _ => ss_brk
  | .cnt, _ => ss_cnt
  | .pss, _ => ss_next
  | .fz i, h => absurd rfl (h i)
  | .rse e, _ => fun D3 en S ι M we em h => (sndE G E e) en S ι M _ we em ((Post.bind h).imp fun w ι1 S1 M1 x1 h1 ww => by
      cases w with
      | r i => exact h1.elim
      | v d => exact h1 ι1 M1 (Ext.refl x1.emb))
  | .rseN, _ => fun D3 en S ι M we em h => h.elim
  | .tryR body k i, _ => fun D3 en S ι M we em h => by
      refine (sndSs G (excR D3 k) body) D3 en S ι M we em ?_
      have h : Post ι S M E (catchV k (evSs G body en S)) (fun o ι' S' M' => wfC S'.length o → oQ D3 ι' o M') := h
      cases hr : evSs G body en S with
      | no => rw [hr] at h; exact h
      | ok o S1 => rw [hr] at h; exact h
      | ex x S1 =>
        rw [hr] at h
        unfold catchV at h
        dsimp only at h
        split at h
        · rename_i a ha
          split at h
          · rename_i hc
            exact fun ι' M' xx => ⟨hc, a, ha, h ι' M' xx trivial⟩
          · exact h.elim
        · exact h.elim
theorem sndSs (G : GV) (E : X3) : ∀ l : List Sx, SndS E (wpss (gtOf G) E l) (evSs G l)
  | [] => ss_next
  | .fz i :: r => ss_fz (sndSs G E r)
  | .asg tg e :: r => ss_seq (t := wps (gtOf G) E (.asg tg e)) (u := wpss (gtOf G) E r) (f := evS G (.asg tg e)) (g := evSs G r) (sndS G E (.asg tg e) (fun _ => nofun)) (sndSs G E r)
  | .par i j a b :: r => ss_seq (t := wps (gtOf G) E (.par i j a b)) (u := wpss (gtOf G) E r) (f := evS G (.par i j a b)) (g := evSs G r) (sndS G E (.par i j a b) (fun _ => nofun)) (sndSs G E r)
  | .sput o i e :: r => ss_seq (t := wps (gtOf G) E (.sput o i e)) (u := wpss (gtOf G) E r) (f := evS G (.sput o i e)) (g := evSs G r) (sndS G E (.sput o i e) (fun _ => nofun)) (sndSs G E r)
  | .aug i k e :: r => ss_seq (t := wps (gtOf G) E (.aug i k e)) (u := wpss (gtOf G) E r) (f := evS G (.aug i k e)) (g := evSs G r) (sndS G E (.aug i k e) (fun _ => nofun)) (sndSs G E r)
  | .expr e :: r => ss_seq (t := wps (gtOf G) E (.expr e)) (u := wpss (gtOf G) E r) (f := evS G (.expr e)) (g := evSs G r) (sndS G E (.expr e) (fun _ => nofun)) (sndSs G E r)
  | .ret e :: r => ss_seq (t := wps (gtOf G) E (.ret e)) (u := wpss (gtOf G) E r) (f := evS G (.ret e)) (g := evSs G r) (sndS G E (.ret e) (fun _ => nofun)) (sndSs G E r)
  | .retN :: r => ss_seq (t := wps (gtOf G) E .retN) (u := wpss (gtOf G) E r) (f := evS G .retN) (g := evSs G r) (sndS G E .retN (fun _ => nofun)) (sndSs G E r)
  | .ifs c a b :: r => ss_seq (t := wps (gtOf G) E (.ifs c a b)) (u := wpss (gtOf G) E r) (f := evS G (.ifs c a b)) (g := evSs G r) (sndS G E (.ifs c a b) (fun _ => nofun)) (sndSs G E r)
  | .fors tg ik its body :: r => ss_seq (t := wps (gtOf G) E (.fors tg ik its body)) (u := wpss (gtOf G) E r) (f := evS G (.fors tg ik its body)) (g := evSs G r) (sndS G E (.fors tg ik its body) (fun _ => nofun)) (sndSs G E r)
  | .whl c body :: r => ss_seq (t := wps (gtOf G) E (.whl c body)) (u := wpss (gtOf G) E r) (f := evS G (.whl c body)) (g := evSs G r) (sndS G E (.whl c body) (fun _ => nofun)) (sndSs G E r)
  | .brk :: r => ss_seq (t := wps (gtOf G) E .brk) (u := wpss (gtOf G) E r) (f := evS G .brk) (g := evSs G r) (sndS G E .brk (fun _ => nofun)) (sndSs G E r)
  | .cnt :: r => ss_seq (t := wps (gtOf G) E .cnt) (u := wpss (gtOf G) E r) (f := evS G .cnt) (g := evSs G r) (sndS G E .cnt (fun _ => nofun)) (sndSs G E r)
  | .rse e :: r => ss_seq (t := wps (gtOf G) E (.rse e)) (u := wpss (gtOf G) E r) (f := evS G (.rse e)) (g := evSs G r) (sndS G E (.rse e) (fun _ => nofun)) (sndSs G E r)
  | .rseN :: r => ss_seq (t := wps (gtOf G) E .rseN) (u := wpss (gtOf G) E r) (f := evS G .rseN) (g := evSs G r) (sndS G E .rseN (fun _ => nofun)) (sndSs G E r)
  | .tryR b k i :: r => ss_seq (t := wps (gtOf G) E (.tryR b k i)) (u := wpss (gtOf G) E r) (f := evS G (.tryR b k i)) (g := evSs G r) (sndS G E (.tryR b k i) (fun _ => nofun)) (sndSs G E r)
  | .pss :: r => ss_seq (t := wps (gtOf G) E .pss) (u := wpss (gtOf G) E r) (f := evS G .pss) (g := evSs G r) (sndS G E .pss (fun _ => nofun)) (sndSs G E r)
end
theorem start_rn {ι : Nm} {n : Nat} {ws : List W} : startE n (ws.map (rnW ι)) = rnE ι (startV n ws) := by
  unfold startE startV rnE
  rw [List.map_append, List.map_map, List.map_map, List.map_replicate, List.length_map]
  rfl
theorem start_wf {n m : Nat} {ws : List W} (h : wfL m ws) : wfE m (startV n ws) := by
  intro w hw
  unfold startV at hw
  rcases List.mem_append.mp hw with q | q
  · obtain ⟨u, h1, h2⟩ := List.mem_map.mp q
    cases h2; exact h w h1
  · have := List.eq_of_mem_replicate q
    cases this
/-- a def keeps the promise of its function -/
theorem pV (G : GV) (n : Nat) (B : List Sx) (ds : List D) (M : MH) (Q : Q3) (E : X3) (h : spV (runV G n B) ds M Q E) : wpss (gtOf G) E B (bodyEnds Q) (startE n ds) M := by
  obtain ⟨ws, S, ι, rfl, wws, em, h⟩ := h
  rw [start_rn]
  refine sndSs G E B (bodyEnds Q) _ S ι M (start_wf wws) em ?_
  refine (Post.bind h).imp fun o ι1 S1 M1 x1 h1 wo => ?_
  cases o with
  | nx e => exact ⟨M1, Sub.refl _, Post.now x1.emb h1 trivial⟩
  | rt w => exact ⟨M1, Sub.refl _, Post.now x1.emb h1 wo⟩
  | bk e => exact h1.elim
  | ct e => exact h1.elim
theorem emb0 : Emb (fun _ => 0) [] M00 := ⟨(fun i o h => nomatch h), (fun i j o u h => nomatch h), (fun i o h => nomatch h)⟩
/-- THE END: the law answers True -/
theorem lawV {F : List W → Sto → Rs W} {ns : List Int} {S' : Sto} (h : F [.v (.flst (ns.map D.int))] [] = .ok (.v (.bl true)) S') : spV F [.flst (ns.map D.int)] M00 (fun v _ => v = .bl true) noX := by
  refine ⟨[.v (.flst (ns.map D.int))], [], fun _ => 0, rfl, fun w hw => ?_, emb0, ?_⟩
  · have := List.mem_singleton.mp hw
    subst this; trivial
  · unfold PW
    rw [h]
    exact fun ι' M' x _ => rfl
end
end Z

set_option autoImplicit true
/-! V9: the reading's equations, for simp. -/
namespace Z
open PySem PySem.Spec PyProof.Rows L2
@[simp] theorem evE_1 : evE G (.loc i) en S = lft S (getV en i) := by rfl
@[simp] theorem evE_2 : evE G .non z1 S = .ok (.v .non) S := by rfl
@[simp] theorem evE_3 : evE G (.bl b) z1 S = .ok (.v (.bl b)) S := by rfl
@[simp] theorem evE_4 : evE G (.int i) z1 S = .ok (.v (.int i)) S := by rfl
@[simp] theorem evE_5 : evE G (.str x) z1 S = .ok (.v (.str x)) S := by rfl
@[simp] theorem evE_6 : evE G (.glo j) z1 S = cstV G j S := by rfl
@[simp] theorem evE_7 : evE G (.bin o a b) en S = (evE G a en S).bind fun x S1 => (evE G b en S1).bind fun y S2 => lfv S2 (rd2 S2 x y o.vo) := by rfl
@[simp] theorem evE_8 : evE G (.neg a) en S = (evE G a en S).bind fun x S1 => lfv S1 (rd1 S1 x vneg) := by rfl
@[simp] theorem evE_9 : evE G (.cmp o a b) en S = (evE G a en S).bind fun x S1 => (evE G b en S1).bind fun y S2 => lfv S2 (o.vo S2 x y) := by rfl
@[simp] theorem evE_10 : evE G (.chn o o' a b c) en S = (evE G a en S).bind fun x S1 => (evE G b en S1).bind fun y S2 => match o.vo S2 x y with
    | some (.bl true) => (evE G c en S2).bind fun z S3 => lfv S3 (o'.vo S3 y z)
    | some (.bl false) => .ok (.v (.bl false)) S2
    | _ => .no := by rfl
@[simp] theorem evE_11 : evE G (.bol k es) en S = evV G k es en S := by rfl
@[simp] theorem evE_12 : evE G (.nt a) en S = (evE G a en S).bind fun x S1 => lfv S1 (blO ((blW x).map not)) := by rfl
@[simp] theorem evE_13 : evE G (.ite c a b) en S = (evT G c en S).bind fun k S1 => match k with | true => evE G a en S1 | false => evE G b en S1 := by rfl
@[simp] theorem evE_14 : evE G (.tup es) en S = (evL G es en S).bind fun ws S1 => match plnW ws with
    | some ds => if ds.length ≤ sizeLine then .ok (.v (.tup ds)) S1 else .no
    | none => .no := by rfl
@[simp] theorem evE_15 : evE G (.lst m es) en S = (evL G es en S).bind fun ws S1 => match plnW ws with
    | some ds => if ds.length ≤ sizeLine then (match m with | true => newW S1 (.lst ds) | false => .ok (.v (.lst ds)) S1) else .no
    | none => .no := by rfl
@[simp] theorem evE_16 : evE G (.idx a b) en S = (evE G a en S).bind fun x S1 => (evE G b en S1).bind fun y S2 => lft S2 (ixW S2 x y) := by rfl
@[simp] theorem evE_17 : evE G (.sli a lo0 hi0) en S = (evE G a en S).bind fun x S1 => (evO G lo0 en S1).bind fun l S2 => (evO G hi0 en S2).bind fun h S3 => lfv S3 (rd1 S3 x fun d => vsl d l h) := by rfl
@[simp] theorem evE_18 : evE G (.rev a) en S = (evE G a en S).bind fun x S1 => lfv S1 (rd1 S1 x vrev) := by rfl
@[simp] theorem evE_19 : evE G (.call j e es) en S = callV G j ((evE G e en S).bind fun x S1 => (evL G es en S1).bind fun xs S2 => .ok (x :: xs) S2) := by rfl
@[simp] theorem evE_20 : evE G (.blt b e es) en S = (evE G e en S).bind fun x S1 => (evL G es en S1).bind fun xs S2 => b.wo S2 (x :: xs) := by rfl
@[simp] theorem evE_21 : evE G (.isi T e) en S = (evE G e en S).bind fun x S1 => lfv S1 (rd1 S1 x fun d => blO (isTy M00 d T)) := by rfl
@[simp] theorem evE_22 : evE G (.mth m o e es) en S = (evE G o en S).bind fun x S1 => match tyW m S1 x with
    | true => (evE G e en S1).bind fun y S2 => (evL G es en S2).bind fun ys S3 => m.wo S3 x (y :: ys)
    | false => .no := by rfl
@[simp] theorem evE_23 : evE G (.comp m elt tg ik its ifs own) en S = (evL G its en S).bind fun ws S1 => match itW ik ws with
    | some items => compR m (calm (compV tg (evC G ifs) (evE G elt) (wipeV en (own.map (·.2))) items S1))
    | none => .no := by rfl
@[simp] theorem evE_24 : evE G (.newK m) z1 S = match m with | true => newW S (.dK []) | false => .ok (.v (.dK [] [])) S := by rfl
@[simp] theorem evE_25 : evE G .newT z1 S = newW S (.dT []) := by rfl
@[simp] theorem evE_26 : evE G (.dis m kvs) en S = (calm (evP G kvs en S)).bind fun ps S1 => disW m S1 ps := by rfl
@[simp] theorem evE_27 : evE G (.fmt e) en S = (evE G e en S).bind fun x S1 => lfv S1 (rd1 S1 x vfmt) := by rfl
@[simp] theorem evE_28 : evE G (.js e e2 es) en S = (evE G e en S).bind fun x S1 => jsV Str.empty x fun a1 => (evE G e2 en S1).bind fun y S2 => jsV a1 y fun a2 => evJ G es a2 en S2 := by rfl
@[simp] theorem evT_1 : evT G (.cmp o a b) en S = (evE G a en S).bind fun x S1 => (evE G b en S1).bind fun y S2 => lft S2 (match o.vo S2 x y with | some (.bl b) => some b | _ => none) := by rfl
@[simp] theorem evT_2 : evT G (.chn o o' a b c) en S = (evE G a en S).bind fun x S1 => (evE G b en S1).bind fun y S2 => match o.vo S2 x y with
    | some (.bl true) => (evE G c en S2).bind fun z S3 => lft S3 (match o'.vo S3 y z with | some (.bl b) => some b | _ => none)
    | some (.bl false) => .ok false S2
    | _ => .no := by rfl
@[simp] theorem evT_3 : evT G (.bol k es) en S = evB G k es en S := by rfl
@[simp] theorem evT_4 : evT G (.nt a) en S = (evT G a en S).bind fun b S1 => .ok (!b) S1 := by rfl
@[simp] theorem evT_5 : evT G (.loc i) en S = truV (lft S (getV en i)) := by rfl
@[simp] theorem evT_6 : evT G .non z1 S = .ok false S := by rfl
@[simp] theorem evT_7 : evT G (.bl b) z1 S = .ok b S := by rfl
@[simp] theorem evT_8 : evT G (.int i) z1 S = .ok (i != 0) S := by rfl
@[simp] theorem evT_9 : evT G (.str x) z1 S = truV (.ok (.v (.str x)) S) := by rfl
@[simp] theorem evT_10 : evT G (.idx a b) en S = truV ((evE G a en S).bind fun x S1 => (evE G b en S1).bind fun y S2 => lft S2 (ixW S2 x y)) := by rfl
@[simp] theorem evT_11 : evT G (.call j e es) en S = truV (callV G j ((evE G e en S).bind fun x S1 => (evL G es en S1).bind fun xs S2 => .ok (x :: xs) S2)) := by rfl
@[simp] theorem evT_12 : evT G (.blt b e es) en S = truV ((evE G e en S).bind fun x S1 => (evL G es en S1).bind fun xs S2 => b.wo S2 (x :: xs)) := by rfl
@[simp] theorem evT_13 : evT G (.isi T e) en S = truV ((evE G e en S).bind fun x S1 => lfv S1 (rd1 S1 x fun d => blO (isTy M00 d T))) := by rfl
@[simp] theorem evT_14 : evT G (.mth m o e es) en S = truV ((evE G o en S).bind fun x S1 => match tyW m S1 x with
    | true => (evE G e en S1).bind fun y S2 => (evL G es en S2).bind fun ys S3 => m.wo S3 x (y :: ys)
    | false => .no) := by rfl
@[simp] theorem evL_1 : evL G [] z1 S = .ok [] S := by rfl
@[simp] theorem evL_2 : evL G (e :: es) en S = (evE G e en S).bind fun x S1 => (evL G es en S1).bind fun xs S2 => .ok (x :: xs) S2 := by rfl
@[simp] theorem evV_1 : evV G z1 [] z2 z3 = .no := by rfl
@[simp] theorem evV_2 : evV G z1 [e] en S = evE G e en S := by rfl
@[simp] theorem evV_3 : evV G true (e :: e' :: es) en S = (evE G e en S).bind fun x S1 => match blW x with | some true => evV G true (e' :: es) en S1 | some false => .ok (.v (.bl false)) S1 | none => .no := by rfl
@[simp] theorem evV_4 : evV G false (e :: e' :: es) en S = (evE G e en S).bind fun x S1 => match blW x with | some true => .ok (.v (.bl true)) S1 | some false => evV G false (e' :: es) en S1 | none => .no := by rfl
@[simp] theorem evB_1 : evB G z1 [] z2 z3 = .no := by rfl
@[simp] theorem evB_2 : evB G z1 [e] en S = evT G e en S := by rfl
@[simp] theorem evB_3 : evB G true (e :: e' :: es) en S = (evT G e en S).bind fun b S1 => match b with | true => evB G true (e' :: es) en S1 | false => .ok false S1 := by rfl
@[simp] theorem evB_4 : evB G false (e :: e' :: es) en S = (evT G e en S).bind fun b S1 => match b with | true => .ok true S1 | false => evB G false (e' :: es) en S1 := by rfl
@[simp] theorem evO_1 : evO G [] z1 S = .ok none S := by rfl
@[simp] theorem evO_2 : evO G (e :: z1) en S = (evE G e en S).bind fun x S1 => match x with | .v (.int i) => .ok (some i) S1 | _ => .no := by rfl
@[simp] theorem evC_1 : evC G [] z1 S = .ok true S := by rfl
@[simp] theorem evC_2 : evC G (e :: z1) en S = evT G e en S := by rfl
@[simp] theorem evJ_1 : evJ G [] acc z1 S = .ok (.v (.str acc)) S := by rfl
@[simp] theorem evJ_2 : evJ G (e :: es) acc en S = (evE G e en S).bind fun x S1 => jsV acc x fun a => evJ G es a en S1 := by rfl
@[simp] theorem evP_1 : evP G (k :: v :: r) en S = (evE G k en S).bind fun x S1 => (evE G v en S1).bind fun y S2 => (evP G r en S2).bind fun ps S3 => .ok ((x, y) :: ps) S3 := by rfl
@[simp] theorem evP_2 : evP G [] en S = .ok [] S := by rfl
@[simp] theorem evS_1 : evS G (.asg tg e) en S = (evE G e en S).bind fun w S1 => match bindV tg w en with | some e' => .ok (.nx e') S1 | none => .no := by rfl
@[simp] theorem evS_2 : evS G (.par i j a b) en S = (evE G a en S).bind fun x S1 => (evE G b en S1).bind fun y S2 => .ok (.nx (setV2 (setV2 en i x) j y)) S2 := by rfl
@[simp] theorem evS_3 : evS G (.sput o i e) en S = (evE G e en S).bind fun v S1 => (evE G o en S1).bind fun x S2 => (evE G i en S2).bind fun k S3 => match putW S3 x k v with | some S4 => .ok (.nx en) S4 | none => .no := by rfl
@[simp] theorem evS_4 : evS G (.aug i k e) en S = match getV en i with
    | some d => (evE G e en S).bind fun d2 S1 => match rd2 S1 d d2 (match k with | true => viadd | false => visub) with | some r => .ok (.nx (setV2 en i (.v r))) S1 | none => .no
    | none => .no := by rfl
@[simp] theorem evS_5 : evS G (.expr e) en S = (evE G e en S).bind fun _ S1 => .ok (.nx en) S1 := by rfl
@[simp] theorem evS_6 : evS G (.ret e) en S = (evE G e en S).bind fun w S1 => .ok (.rt w) S1 := by rfl
@[simp] theorem evS_7 : evS G .retN z1 S = .ok (.rt (.v .non)) S := by rfl
@[simp] theorem evS_8 : evS G (.ifs c a b) en S = (evT G c en S).bind fun k S1 => match k with | true => evSs G a en S1 | false => evSs G b en S1 := by rfl
@[simp] theorem evS_9 : evS G (.fors tg ik its body) en S = (evL G its en S).bind fun ws S1 => match itW ik ws with
    | some items => turnsV tg (evSs G body) items en S1
    | none => .no := by rfl
@[simp] theorem evS_10 : evS G (.whl c body) en S = whV (evT G c) (evSs G body) en S := by rfl
@[simp] theorem evS_11 : evS G .brk en S = .ok (.bk en) S := by rfl
@[simp] theorem evS_12 : evS G .cnt en S = .ok (.ct en) S := by rfl
@[simp] theorem evS_13 : evS G .pss en S = .ok (.nx en) S := by rfl
@[simp] theorem evS_14 : evS G (.fz i) en S = match fzV i en S with | some (e, S1) => .ok (.nx e) S1 | none => .no := by rfl
@[simp] theorem evS_15 : evS G (.rse e) en S = (evE G e en S).bind fun w S1 => match w with | .v d => .ex ⟨"InvalidLine", some d⟩ S1 | .r _ => .no := by rfl
@[simp] theorem evS_16 : evS G .rseN z1 z2 = .no := by rfl
@[simp] theorem evS_17 : evS G (.tryR body k z1) en S = catchV k (evSs G body en S) := by rfl
@[simp] theorem evSs_1 : evSs G [] en S = .ok (.nx en) S := by rfl
@[simp] theorem evSs_2 : evSs G (s :: r) en S = (evS G s en S).bind fun o S1 => match o with
    | .nx e => evSs G r e S1
    | o => .ok o S1 := by rfl

@[simp] theorem evE_7m : evE G (.addM a b) en S = (evE G a en S).bind fun x S1 => (evE G b en S1).bind fun y S2 => addMV S2 x y := by rfl
@[simp] theorem evE_7s : evE G (.srt2 a) en S = (evE G a en S).bind fun x S1 => lfv S1 (rd1 S1 x vsrt2) := by rfl
/-! readers at constructors -/
section
variable {S : Sto}
@[simp] theorem rdW_non : rdW S (.v .non) = some .non := rfl
@[simp] theorem rdW_bl {b : Bool} : rdW S (.v (.bl b)) = some (.bl b) := rfl
@[simp] theorem rdW_i {i : Int} : rdW S (.v (.int i)) = some (.int i) := rfl
@[simp] theorem rdW_str {x : Str} : rdW S (.v (.str x)) = some (.str x) := rfl
@[simp] theorem rdW_tp {k : TK} {ds : List D} : rdW S (.v (.tp k ds)) = some (.tp k ds) := rfl
@[simp] theorem rdW_lst {ds : List D} : rdW S (.v (.lst ds)) = some (.lst ds) := rfl
@[simp] theorem rdW_flst {ds : List D} : rdW S (.v (.flst ds)) = some (.flst ds) := rfl
theorem rdW_pl {d : D} (h : pln d = true) : rdW S (.v d) = some d := by cases d <;> first | rfl | (simp [pln] at h)
@[simp] theorem plW_non : plW (.v .non) = some .non := rfl
@[simp] theorem plW_bl {b : Bool} : plW (.v (.bl b)) = some (.bl b) := rfl
@[simp] theorem plW_int {i : Int} : plW (.v (.int i)) = some (.int i) := rfl
@[simp] theorem plW_str {x : Str} : plW (.v (.str x)) = some (.str x) := rfl
@[simp] theorem plW_tp {k : TK} {ds : List D} : plW (.v (.tp k ds)) = some (.tp k ds) := rfl
@[simp] theorem plW_lst {ds : List D} : plW (.v (.lst ds)) = some (.lst ds) := rfl
@[simp] theorem blW_bl {b : Bool} : blW (.v (.bl b)) = some b := rfl
@[simp] theorem sqW_tp {k : TK} {ds : List D} : sqW S (.v (.tp k ds)) = some ds := rfl
@[simp] theorem sqW_lst {ds : List D} : sqW S (.v (.lst ds)) = some ds := rfl
@[simp] theorem sqW_flst {ds : List D} : sqW S (.v (.flst ds)) = some ds := rfl
@[simp] theorem truW_non : truW S (.v .non) = some false := rfl
@[simp] theorem truW_bl {b : Bool} : truW S (.v (.bl b)) = some b := rfl
@[simp] theorem truW_int {i : Int} : truW S (.v (.int i)) = some (i != 0) := rfl
@[simp] theorem truW_tp {k : TK} {ds : List D} : truW S (.v (.tp k ds)) = some (!ds.isEmpty) := rfl
@[simp] theorem truW_lst {ds : List D} : truW S (.v (.lst ds)) = some (!ds.isEmpty) := rfl
@[simp] theorem nonW_non : nonW (.v .non) = true := rfl
@[simp] theorem nonW_int {i : Int} : nonW (.v (.int i)) = false := rfl
@[simp] theorem nonW_str {i : Str} : nonW (.v (.str i)) = false := rfl
@[simp] theorem nonW_bl {i : Bool} : nonW (.v (.bl i)) = false := rfl
@[simp] theorem nonW_tp {k : TK} {ds : List D} : nonW (.v (.tp k ds)) = false := rfl
@[simp] theorem nonW_lst {ds : List D} : nonW (.v (.lst ds)) = false := rfl
@[simp] theorem nonW_r {i : Nat} : nonW (.r i) = false := rfl
@[simp] theorem itW_tp {k : TK} {ds : List D} : itW .seq [.v (.tp k ds)] = some ds := rfl
@[simp] theorem itW_lst {ds : List D} : itW .seq [.v (.lst ds)] = some ds := rfl
@[simp] theorem itW_flst {ds : List D} : itW .seq [.v (.flst ds)] = some ds := rfl
@[simp] theorem plnW_nil : plnW [] = some [] := rfl
@[simp] theorem plnW_cons {d : D} {r : List W} : plnW (.v d :: r) = (match plnW r with | some ds => some (d :: ds) | none => none) := rfl
@[simp] theorem getV_0 {x : Option W} {r : WEn} : getV (x :: r) 0 = x := rfl
@[simp] theorem getV_s {x : Option W} {r : WEn} {n : Nat} : getV (x :: r) (n + 1) = getV r n := rfl
@[simp] theorem setV2_0 {x : Option W} {r : WEn} {d : W} : setV2 (x :: r) 0 d = some d :: r := rfl
@[simp] theorem setV2_s {x : Option W} {r : WEn} {n : Nat} {d : W} : setV2 (x :: r) (n + 1) d = x :: setV2 r n d := rfl
@[simp] theorem wipeV_nil {e : WEn} : wipeV e [] = e := rfl
@[simp] theorem wipeV_cons {e : WEn} {v : Nat} {vs : List Nat} : wipeV e (v :: vs) = wipeV1 (wipeV e vs) v := rfl
@[simp] theorem wipeV1_0 {x : Option W} {r : WEn} : wipeV1 (x :: r) 0 = none :: r := rfl
@[simp] theorem wipeV1_s {x : Option W} {r : WEn} {n : Nat} : wipeV1 (x :: r) (n + 1) = x :: wipeV1 r n := rfl
@[simp] theorem bindV_nm {i : Nat} {w : W} {e : WEn} : bindV (.nm i) w e = some (setV2 e i w) := rfl
@[simp] theorem bindV_tp {is : List Nat} {k : TK} {ds : List D} {e : WEn} : bindV (.tp is) (.v (.tp k ds)) e = setAllV e is ds := rfl
@[simp] theorem setAllV_nil {e : WEn} : setAllV e [] [] = some e := rfl
@[simp] theorem setAllV_cons {e : WEn} {i : Nat} {is : List Nat} {d : D} {ds : List D} : setAllV e (i :: is) (d :: ds) = setAllV (setV2 e i (.v d)) is ds := rfl
@[simp] theorem nth_0 {α : Type u} {x : α} {r : List α} : nth (x :: r) 0 = some x := rfl
@[simp] theorem nth_s {α : Type u} {x : α} {r : List α} {n : Nat} : nth (x :: r) (n + 1) = nth r n := rfl
@[simp] theorem out_nx {e : WEn} : Rs.out (.ok (.nx e) S) = .ok (.v .non) S := rfl
@[simp] theorem out_rt {w : W} : Rs.out (.ok (.rt w) S) = .ok w S := rfl
@[simp] theorem out_ex {x : Exc} : Rs.out (.ex x S) = .ex x S := rfl
@[simp] theorem rd1_some' {w : W} {f : D → Option D} {d : D} (h : rdW S w = some d) : rd1 S w f = f d := by unfold rd1; rw [h]
@[simp] theorem rd2_some' {x y : W} {f : D → D → Option D} {d e : D} (h : rdW S x = some d) (g : rdW S y = some e) : rd2 S x y f = f d e := by unfold rd2; rw [h, g]
@[simp] theorem blO_some {b : Bool} : blO (some b) = some (.bl b) := rfl
@[simp] theorem turnsV_nil {tg : Tg} {body : WF Oc} {en : WEn} : turnsV tg body [] en S = .ok (.nx en) S := rfl
@[simp] theorem compV_nil {tg : Tg} {tt : WF Bool} {te : WF W} {en : WEn} : compV tg tt te en [] S = .ok [] S := rfl
@[simp] theorem compR_ok {ys : List D} : compR false (.ok ys S) = .ok (.v (.lst ys)) S := rfl
@[simp] theorem compR_okM {ys : List D} : compR true (.ok ys S) = newW S (.lst ys) := rfl
@[simp] theorem truV_ok {w : W} : truV (.ok w S) = lft S (truW S w) := rfl
@[simp] theorem truV_ex {x : Exc} : truV (.ex x S) = .ex x S := rfl
theorem compV_fm {tg : Tg} {tt : WF Bool} {te : WF W} {en : WEn} (b : D → Bool) (f : D → D) : ∀ (items : List D), (∀ x ∈ items, ∃ e1, bindV tg (.v x) en = some e1 ∧ tt e1 S = .ok (b x) S ∧ (b x = true → te e1 S = .ok (.v (f x)) S)) → compV tg tt te en items S = .ok ((items.filter b).map f) S
  | [], _ => rfl
  | x :: r, h => by
    obtain ⟨e1, h1, h2, h3⟩ := h x (by simp)
    have ih := compV_fm (tg := tg) (tt := tt) (te := te) (en := en) b f r fun y hy => h y (List.mem_cons_of_mem _ hy)
    unfold compV
    rw [h1]
    simp only [h2, Rs.bind_ok]
    cases q : b x with
    | true => simp only [h3 q, Rs.bind_ok, ih, List.filter_cons_of_pos q, List.map_cons]
    | false => rw [List.filter_cons_of_neg (by rw [q]; simp)]; exact ih
theorem compV_map {tg : Tg} {tt : WF Bool} {te : WF W} {en : WEn} (f : D → D) (items : List D) (h : ∀ x ∈ items, ∃ e1, bindV tg (.v x) en = some e1 ∧ tt e1 S = .ok true S ∧ te e1 S = .ok (.v (f x)) S) : compV tg tt te en items S = .ok (items.map f) S := by
  have := compV_fm (S := S) (tg := tg) (tt := tt) (te := te) (en := en) (fun _ => true) f items fun x hx => by
    obtain ⟨e1, h1, h2, h3⟩ := h x hx
    exact ⟨e1, h1, h2, fun _ => h3⟩
  rw [this, List.filter_eq_self.mpr fun _ _ => rfl]
end
/-! a while, step by step -/
theorem whN_mono {c : WF Bool} {b : WF Oc} : ∀ (n : Nat) (en : WEn) (S : Sto), whN c b n en S ≠ .no → whN c b (n + 1) en S = whN c b n en S
  | 0, en, S, h => absurd rfl h
  | n + 1, en, S, h => by
    unfold whN at h
    conv => lhs; unfold whN
    conv => rhs; unfold whN
    cases hc : c en S with
    | no => rfl
    | ex x S1 => rfl
    | ok k S1 =>
      rw [hc] at h
      simp only [Rs.bind_ok] at h ⊢
      cases k with
      | false => rfl
      | true =>
        dsimp only at h ⊢
        cases hb : b en S1 with
        | no => rfl
        | ex x S2 => rfl
        | ok o S2 =>
          rw [hb] at h
          simp only [Rs.bind_ok] at h ⊢
          cases o with
          | nx e => exact whN_mono n e S2 h
          | ct e => exact whN_mono n e S2 h
          | bk e => rfl
          | rt w => rfl
theorem whN_le {c : WF Bool} {b : WF Oc} {n : Nat} {en : WEn} {S : Sto} (h : whN c b n en S ≠ .no) : ∀ m, n ≤ m → whN c b m en S = whN c b n en S
  | 0, l => by have : n = 0 := by omega
               subst this; rfl
  | m + 1, l => by
    by_cases e : n = m + 1
    · rw [e]
    · have := whN_le h m (by omega)
      rw [whN_mono m en S (by rw [this]; exact h), this]
theorem whV_of {c : WF Bool} {b : WF Oc} {n : Nat} {en : WEn} {S : Sto} (h : whN c b n en S ≠ .no) : whV c b en S = whN c b n en S := by
  have ex : ∃ n, whN c b n en S ≠ .no := ⟨n, h⟩
  unfold whV
  rw [dif_pos ex]
  have h2 := ex.choose_spec
  rcases Nat.le_total n ex.choose with l | l
  · exact whN_le h _ l
  · exact (whN_le h2 _ l).symm
/-- one turn of a while -/
theorem whV_step {c : WF Bool} {b : WF Oc} {en : WEn} {S : Sto} : whV c b en S = (c en S).bind fun k S1 => match k with
    | true => (b en S1).bind fun o S2 => match o with
      | .nx e => whV c b e S2
      | .ct e => whV c b e S2
      | .bk e => .ok (.nx e) S2
      | .rt w => .ok (.rt w) S2
    | false => .ok (.nx en) S1 := by
  have go : ∀ n e S2, whN c b n e S2 ≠ .no → whV c b e S2 = whN c b n e S2 := fun n e S2 h => whV_of h
  by_cases ex : ∃ n, whN c b n en S ≠ .no
  · obtain ⟨n, h⟩ := ex
    rw [whV_of h]
    cases n with
    | zero => exact absurd rfl h
    | succ n =>
      unfold whN at h ⊢
      cases hc : c en S with
      | no => rfl
      | ex x S1 => rfl
      | ok k S1 =>
        rw [hc] at h
        simp only [Rs.bind_ok] at h ⊢
        cases k with
        | false => rfl
        | true =>
          dsimp only at h ⊢
          cases hb : b en S1 with
          | no => rfl
          | ex x S2 => rfl
          | ok o S2 =>
            rw [hb] at h
            simp only [Rs.bind_ok] at h ⊢
            cases o with
            | nx e => exact (go n e S2 h).symm
            | ct e => exact (go n e S2 h).symm
            | bk e => rfl
            | rt w => rfl
  · have no : ∀ n, whN c b n en S = .no := fun n => Classical.byContradiction fun z => ex ⟨n, z⟩
    have e0 : whV c b en S = .no := by unfold whV; rw [dif_neg ex]
    rw [e0]
    have n1 := fun n => no (n + 1)
    cases hc : c en S with
    | no => rfl
    | ex x S1 =>
      have := n1 0
      unfold whN at this
      rw [hc] at this; cases this
    | ok k S1 =>
      simp only [Rs.bind_ok]
      cases k with
      | false =>
        have := n1 0
        unfold whN at this
        rw [hc] at this; cases this
      | true =>
        dsimp only
        cases hb : b en S1 with
        | no => rfl
        | ex x S2 =>
          have := n1 0
          unfold whN at this
          rw [hc] at this
          simp only [Rs.bind_ok, hb] at this
          cases this
        | ok o S2 =>
          simp only [Rs.bind_ok]
          have key : ∀ e, (∀ n, whN c b n e S2 = .no) → whV c b e S2 = .no := fun e hn => by
            unfold whV
            rw [dif_neg (fun ⟨n, z⟩ => z (hn n))]
          cases o with
          | nx e =>
            refine (key e fun n => ?_).symm
            have := n1 n
            unfold whN at this
            rw [hc] at this
            simpa only [Rs.bind_ok, hb] using this
          | ct e =>
            refine (key e fun n => ?_).symm
            have := n1 n
            unfold whN at this
            rw [hc] at this
            simpa only [Rs.bind_ok, hb] using this
          | bk e =>
            have := n1 0
            unfold whN at this
            rw [hc] at this
            simp only [Rs.bind_ok, hb] at this
            cases this
          | rt w =>
            have := n1 0
            unfold whN at this
            rw [hc] at this
            simp only [Rs.bind_ok, hb] at this
            cases this
/-- a tuple of texts of the written part -/
def toksOf : List D → List Value → Prop
  | [], us => us = []
  | d :: r, us => match d with
    | .str x => ∃ t us', us = .str x t :: us' ∧ toksOf r us'
    | _ => False
theorem toksOf_len : ∀ {ds : List D} {us : List Value}, toksOf ds us → us.length = ds.length
  | [], us, h => by have h : us = [] := h; rw [h]; rfl
  | d :: r, us, h => by
    cases d with
    | str x =>
      obtain ⟨t, us', h1, h2⟩ := h
      rw [h1, List.length_cons, List.length_cons, toksOf_len h2]
    | _ => exact h.elim
theorem toksOf_vals {K : PySem.W.Frag} {M : MH} {H : Hp} : ∀ {ds : List D} {us : List Value}, toksOf ds us → ∃ vs, Vals vs us ∧ RpL K M H ds vs
  | [], us, h => by
    have h : us = [] := h
    subst h
    exact ⟨[], .nil, rfl⟩
  | d :: r, us, h => by
    cases d with
    | str x =>
      obtain ⟨t, us', h1, h2⟩ := h
      subst h1
      obtain ⟨vs, g1, g2⟩ := toksOf_vals (K := K) (M := M) (H := H) h2
      exact ⟨.str x :: vs, .cons ⟨t, rfl⟩ g1, .str x, vs, rfl, rfl, g2⟩
    | _ => exact h.elim
theorem DC.tup {K : PySem.W.Frag} {x : Str} {a : Addr} {od : Option Addr} {its : Array Value} {n : Nat} {sl : Array (Option Value)} {ds : List D} (h : PySem.W.nsIn K mainGlobals x = some (some (.ref a))) (l : K.lookup a = some ⟨.type "tuple", od, .seq its n, sl⟩) (r : toksOf ds its.toList) (hn : ds.length ≤ sizeLine := by decide) : DC K x (.tp .s ds) := by
  refine ⟨.ref a, .ref a, h, rfl, fun M H => ?_⟩
  obtain ⟨vs, g1, g2⟩ := toksOf_vals (K := K) (M := M) (H := H) r
  refine ⟨a, vs, rfl, ⟨_, its, n, l, rfl, rfl, ?_, g1⟩, g2⟩
  have := toksOf_len r
  rw [← Array.length_toList, this]; exact hn

end Z

/-! V10: texts, lines, methods at sight. -/
namespace Z
open PySem PySem.Spec PyProof.Rows L2
abbrev tl (x : Str) : List Nat := x.cps.toList
def lns (ws : List Str) : D := .lst (ws.map D.str)
/-! ### plain facts of texts -/
theorem eqvL_str : ∀ a b : List Str, eqvL (a.map D.str) (b.map D.str) = decide (a = b)
  | [], [] => rfl
  | [], _ :: _ => rfl
  | _ :: _, [] => rfl
  | x :: a, y :: b => by
    show (eqv (.str x) (.str y) && eqvL (a.map D.str) (b.map D.str)) = _
    rw [eqvL_str a b]
    show ((x == y) && _) = _
    by_cases h : x = y
    · subst h; simp
    · have : (x == y) = false := by simpa using h
      rw [this]; simp [h]
theorem layL_str (n : Nat) : ∀ a : List Str, (∀ x ∈ a, PyData.strOk x = true) → layL n (a.map D.str) = true
  | [], _ => by simp [layL]
  | x :: a, h => by
    rw [List.map_cons, layL, layL_str n a fun y hy => h y (List.mem_cons_of_mem _ hy)]
    simp [lay, h x (by simp)]
def okS (x : Str) : Prop := PyData.strOk x = true
theorem okS_of {x : Str} (h : ∀ c ∈ tl x, c < 128) : okS x := by
  show PyData.strOk x = true
  unfold PyData.strOk
  rw [← Array.all_toList, List.all_eq_true]
  intro c hc
  have := h c hc
  exact decide_eq_true (by omega)
theorem veq_lns {a b : List Str} (ha : ∀ x ∈ a, okS x) (hb : ∀ x ∈ b, okS x) : veq (lns a) (lns b) = some (.bl (decide (a = b))) := by
  unfold veq veqOk lns
  have h1 : lay 60 (D.lst (a.map D.str)) = true := layL_str 59 a ha
  have h2 : lay 60 (D.lst (b.map D.str)) = true := layL_str 59 b hb
  rw [h1, h2]
  simp only [Bool.and_self, Bool.or_true, if_true]
  show some (D.bl (eqvL _ _)) = _
  rw [eqvL_str]
theorem vne_lns {a b : List Str} (ha : ∀ x ∈ a, okS x) (hb : ∀ x ∈ b, okS x) : vne (lns a) (lns b) = some (.bl (!decide (a = b))) := by
  unfold vne veqOk lns
  have h1 : lay 60 (D.lst (a.map D.str)) = true := layL_str 59 a ha
  have h2 : lay 60 (D.lst (b.map D.str)) = true := layL_str 59 b hb
  rw [h1, h2]
  simp only [Bool.and_self, Bool.or_true, if_true]
  show some (D.bl (!eqvL _ _)) = _
  rw [eqvL_str]
@[simp] theorem veq_str {x y : Str} : veq (.str x) (.str y) = some (.bl (decide (x = y))) := by
  show some (D.bl (x == y)) = _
  congr 2
@[simp] theorem vne_str {x y : Str} : vne (.str x) (.str y) = some (.bl (!decide (x = y))) := by
  show some (D.bl (!(x == y))) = _
  congr 2
@[simp] theorem veq_int {x y : Int} : veq (.int x) (.int y) = some (.bl (decide (x = y))) := by
  show some (D.bl (x == y)) = _
  congr 2
@[simp] theorem vne_int {x y : Int} : vne (.int x) (.int y) = some (.bl (!decide (x = y))) := by
  show some (D.bl (!(x == y))) = _
  congr 2
@[simp] theorem vlt_int {x y : Int} : vlt (.int x) (.int y) = some (.bl (decide (x < y))) := rfl
@[simp] theorem vle_int {x y : Int} : vle (.int x) (.int y) = some (.bl (decide (x ≤ y))) := rfl
@[simp] theorem vgt_int {x y : Int} : vgt (.int x) (.int y) = some (.bl (decide (y < x))) := rfl
@[simp] theorem vge_int {x y : Int} : vge (.int x) (.int y) = some (.bl (decide (y ≤ x))) := rfl
@[simp] theorem vadd_int {x y : Int} : vadd (.int x) (.int y) = some (.int (x + y)) := rfl
@[simp] theorem vsub_int {x y : Int} : vsub (.int x) (.int y) = some (.int (x - y)) := rfl
theorem vle_chr {a b : Nat} : vle (.str ⟨#[a]⟩) (.str ⟨#[b]⟩) = some (.bl (decide (a ≤ b))) := by
  show (if vltOk (.str ⟨#[a]⟩) (.str ⟨#[b]⟩) = true then some (D.bl (!ltD (.str ⟨#[b]⟩) (.str ⟨#[a]⟩))) else none) = _
  rw [if_pos (show vltOk (.str ⟨#[a]⟩) (.str ⟨#[b]⟩) = true from rfl)]
  congr 2
  show (!decide ([b] < [a])) = decide (a ≤ b)
  have : ([b] < [a]) ↔ b < a := by
    constructor
    · intro h
      cases h with
      | rel h => exact h
      | cons h => cases h
    · intro h
      exact .rel h
  by_cases h : a ≤ b
  · rw [decide_eq_true h, decide_eq_false (by rw [this]; omega)]; rfl
  · rw [decide_eq_false h, decide_eq_true (by rw [this]; omega)]; rfl
theorem c_sp : (" " : Str) = ⟨#[32]⟩ := by decide +kernel
theorem c_ti : ("~" : Str) = ⟨#[126]⟩ := by decide +kernel
theorem c_0 : ("0" : Str) = ⟨#[48]⟩ := by decide +kernel
theorem c_9 : ("9" : Str) = ⟨#[57]⟩ := by decide +kernel
theorem c_a : ("a" : Str) = ⟨#[97]⟩ := by decide +kernel
theorem c_z : ("z" : Str) = ⟨#[122]⟩ := by decide +kernel
theorem c_nl : ("\n" : Str) = ⟨#[10]⟩ := by decide +kernel
theorem c_sl : ("/" : Str) = ⟨#[47]⟩ := by decide +kernel
theorem c_mi : ("-" : Str) = ⟨#[45]⟩ := by decide +kernel
/-- all signs within bounds, as the program asks -/
def rngS (a b : Nat) (x : Str) : Bool := (tl x).all fun c => decide (a ≤ c) && decide (c ≤ b)
def rngL (a b : Nat) (x : Str) : List D := (tl x).map fun c => D.bl (decide (a ≤ c) && decide (c ≤ b))
@[simp] theorem rng_all {a b : Nat} {x : Str} : allA M00 (.lst (rngL a b x)) = some (.bl (rngS a b x)) := allA_map _ _
theorem all_chars {S : Sto} {G : GV} {en : WEn} {lo hi : Str} {a b : Nat} (i : Nat) (x : Str) (hl : lo = ⟨#[a]⟩) (hh : hi = ⟨#[b]⟩) (hi' : ∀ d, getV (setV2 en i (.v d)) i = some (.v d)) :
    compV (.nm i) (evC G []) (evE G (.chn .le .le (.str lo) (.loc i) (.str hi))) en (charsD x) S = .ok (rngL a b x) S := by
  have := compV_map (S := S) (tg := .nm i) (tt := evC G []) (te := evE G (.chn .le .le (.str lo) (.loc i) (.str hi))) (en := en) (fun d => match d with | .str z => (match tl z with | [c] => .bl (decide (a ≤ c) && decide (c ≤ b)) | _ => .non) | _ => .non) (charsD x) (fun d hd => by
    obtain ⟨c, hc, rfl⟩ := List.mem_map.mp hd
    refine ⟨_, rfl, rfl, ?_⟩
    simp only [evE_10, evE_2, evE_3, evE_4, evE_5, evE_1, hi', Rs.bind_ok, lft_some, COp.vo, rd2, rdW_str, hl, hh, vle_chr]
    by_cases h1 : a ≤ c
    · simp [h1, vle_chr]
    · simp [h1])
  rw [this]
  congr 1
  unfold charsD rngL
  rw [List.map_map]
  rfl
/-! ### methods at sight -/
section
variable {S : Sto}
@[simp] theorem tyW_split {x : Str} : tyW .split S (.v (.str x)) = true := rfl
@[simp] theorem tyW_join {x : Str} : tyW .join S (.v (.str x)) = true := rfl
@[simp] theorem tyW_starts {x : Str} : tyW .startswith S (.v (.str x)) = true := rfl
theorem tyW_app {i : Nat} {ds : List D} (h : getS S i = some (.lst ds)) : tyW .append S (.r i) = true := by
  show (match (match getS S i with | some (.lst ds) => some (D.lst ds) | _ => none) with | some (.lst _) => true | _ => false) = true
  rw [h]
theorem tyW_ext {i : Nat} {ds : List D} (h : getS S i = some (.lst ds)) : tyW .extend S (.r i) = true := by
  show (match (match getS S i with | some (.lst ds) => some (D.lst ds) | _ => none) with | some (.lst _) => true | _ => false) = true
  rw [h]
theorem wo_split {a b : Str} (h1 : (b.length == 0) = false) (h2 : a.length + 2 ≤ sizeLine) : Mt.split.wo S (.v (.str a)) [.v (.str b)] = .ok (.v (lns (Txt.split a b))) S := if_pos ⟨h1, h2⟩
@[simp] theorem wo_starts {a b : Str} : Mt.startswith.wo S (.v (.str a)) [.v (.str b)] = .ok (.v (.bl (Txt.startswith a b))) S := rfl
theorem wo_join {z : Str} {ys : List Str} (h : (ys.map (·.length)).sum + ys.length * z.length ≤ 16777216) : Mt.join.wo S (.v (.str z)) [.v (lns ys)] = .ok (.v (.str (Txt.join z ys))) S := by
  unfold Mt.wo
  simp only [sqW_lst, lns, strsOf_map]
  exact if_pos h
theorem wo_append {i : Nat} {ds : List D} {x : D} (h : getS S i = some (.lst ds)) (hl : ds.length < sizeLine) : Mt.append.wo S (.r i) [.v x] = .ok (.v .non) (setS S i (some (.lst (ds ++ [x])))) := by
  show (match getS S i with
    | some (.lst ds) => if ds.length < sizeLine then Rs.ok (W.v D.non) (setS S i (some (.lst (ds ++ [x])))) else .no
    | _ => .no) = _
  rw [h]; exact if_pos hl
theorem wo_extend {i : Nat} {ds es : List D} (h : getS S i = some (.lst ds)) (hl : ds.length + es.length ≤ sizeLine) : Mt.extend.wo S (.r i) [.v (.lst es)] = .ok (.v .non) (setS S i (some (.lst (ds ++ es)))) := by
  show (match getS S i, some (D.lst es) with
    | some (.lst ds), some (.lst es) => if ds.length + es.length ≤ sizeLine then Rs.ok (W.v D.non) (setS S i (some (.lst (ds ++ es)))) else .no
    | _, _ => .no) = _
  rw [h]; exact if_pos hl
@[simp] theorem rdW_lns {ws : List Str} : rdW S (.v (lns ws)) = some (lns ws) := rfl
@[simp] theorem plW_lns {ws : List Str} : plW (.v (lns ws)) = some (lns ws) := rfl
@[simp] theorem sqW_lns {ws : List Str} : sqW S (.v (lns ws)) = some (ws.map D.str) := rfl
@[simp] theorem nonW_lns {ws : List Str} : nonW (.v (lns ws)) = false := rfl
@[simp] theorem itW_lns {ws : List Str} : itW .seq [.v (lns ws)] = some (ws.map D.str) := rfl
@[simp] theorem len_lns {ws : List Str} : lenA M00 (lns ws) = some (.int ws.length) := by show some (D.int (ws.map D.str).length) = _; rw [List.length_map]
theorem ix_lns {ws : List Str} {i : Nat} {x : Str} (h : ws[i]? = some x) : ixW S (.v (lns ws)) (.v (.int i)) = some (.v (.str x)) := by
  show (atI (ws.map D.str) (i : Int)).map W.v = _
  rw [atI_get (by rw [List.length_map]; exact (List.getElem?_eq_some_iff.mp h).1), List.getElem?_map, h]; rfl
theorem ix_lst {ds : List D} {i : Nat} {x : D} (h : ds[i]? = some x) : ixW S (.v (.lst ds)) (.v (.int i)) = some (.v x) := by
  show (atI ds (i : Int)).map W.v = _
  rw [atI_get (List.getElem?_eq_some_iff.mp h).1, h]; rfl
theorem ix_tp {k : TK} {ds : List D} {i : Nat} {x : D} (h : ds[i]? = some x) : ixW S (.v (.tp k ds)) (.v (.int i)) = some (.v x) := by
  show (atI ds (i : Int)).map W.v = _
  rw [atI_get (List.getElem?_eq_some_iff.mp h).1, h]; rfl
end
theorem mem_joinL {S : List Nat} : ∀ {parts : List (List Nat)} {p : List Nat} {c : Nat}, p ∈ parts → c ∈ p → c ∈ TL.joinL S parts
  | [], _, _, h, _ => nomatch h
  | [q], p, c, h, hc => by
    have : p = q := by simpa using h
    subst this; exact hc
  | q :: r :: rs, p, c, h, hc => by
    show c ∈ q ++ (S ++ TL.joinL S (r :: rs))
    rcases List.mem_cons.mp h with e | h
    · subst e; simp [hc]
    · have := mem_joinL (S := S) h hc
      simp [this]
theorem split_mem {x y w : Str} (h : w ∈ Txt.split x y) {c : Nat} (hc : c ∈ tl w) : c ∈ tl x := by
  have e := StrLaws.join_split x y
  have : tl x = TL.joinL (tl y) ((Txt.split x y).map tl) := by
    have := TL.tl_join y (Txt.split x y)
    rw [e] at this
    exact this
  rw [this]
  exact mem_joinL (List.mem_map.mpr ⟨w, h, rfl⟩) hc
theorem joinL_len {S : List Nat} : ∀ {parts : List (List Nat)}, 1 ≤ S.length → parts.length ≤ (TL.joinL S parts).length + 1
  | [], _ => by simp [TL.joinL]
  | [q], _ => by simp
  | q :: r :: rs, h => by
    have := joinL_len (S := S) (parts := r :: rs) h
    show _ ≤ (q ++ (S ++ TL.joinL S (r :: rs))).length + 1
    simp only [List.length_append, List.length_cons] at this ⊢
    omega
theorem split_len {x y : Str} (hy : 1 ≤ y.length) : (Txt.split x y).length ≤ x.length + 1 := by
  have e := StrLaws.join_split x y
  have h1 := TL.tl_join y (Txt.split x y)
  rw [e] at h1
  have := joinL_len (S := TL.tl y) (parts := (Txt.split x y).map TL.tl) (by rw [← TL.len_tl]; exact hy)
  rw [← h1, List.length_map, ← TL.len_tl] at this
  exact this
theorem part_len {S : List Nat} : ∀ {parts : List (List Nat)} {p : List Nat}, p ∈ parts → p.length ≤ (TL.joinL S parts).length
  | [], _, h => nomatch h
  | [q], p, h => by
    have : p = q := by simpa using h
    subst this; exact Nat.le_refl _
  | q :: r :: rs, p, h => by
    show _ ≤ (q ++ (S ++ TL.joinL S (r :: rs))).length
    rw [List.length_append, List.length_append]
    rcases List.mem_cons.mp h with e | h
    · subst e; omega
    · have := part_len (S := S) h
      omega
theorem split_part {x y w : Str} (h : w ∈ Txt.split x y) : w.length ≤ x.length := by
  have e := StrLaws.join_split x y
  have h1 := TL.tl_join y (Txt.split x y)
  rw [e] at h1
  have := part_len (S := TL.tl y) (p := TL.tl w) (List.mem_map.mpr ⟨w, h, rfl⟩)
  rw [← h1, ← TL.len_tl, ← TL.len_tl] at this
  exact this
end Z

/-! V11: operators at sight. -/
namespace Z
open PySem PySem.Spec PyProof.Rows L2
@[simp] theorem bo_add {x y : D} : BOp.add.vo x y = vadd x y := rfl
@[simp] theorem bo_sub {x y : D} : BOp.sub.vo x y = vsub x y := rfl
@[simp] theorem bo_mul {x y : D} : BOp.mul.vo x y = vmul x y := rfl
@[simp] theorem bo_fdv {x y : D} : BOp.fdv.vo x y = vfdv x y := rfl
@[simp] theorem bo_mod {x y : D} : BOp.mod.vo x y = vmod x y := rfl
@[simp] theorem bo_pow {x y : D} : BOp.pow.vo x y = vpow x y := rfl
section
variable {S : Sto} {w x y : W} {ws : List W}
@[simp] theorem co_eq : COp.eq.vo S x y = rd2 S x y veq := rfl
@[simp] theorem co_ne : COp.ne.vo S x y = rd2 S x y vne := rfl
@[simp] theorem co_lt : COp.lt.vo S x y = rd2 S x y vlt := rfl
@[simp] theorem co_le : COp.le.vo S x y = rd2 S x y vle := rfl
@[simp] theorem co_gt : COp.gt.vo S x y = rd2 S x y vgt := rfl
@[simp] theorem co_ge : COp.ge.vo S x y = rd2 S x y vge := rfl
@[simp] theorem co_in : COp.isin.vo S x y = blO (inW S x y) := rfl
@[simp] theorem co_nin : COp.notin.vo S x y = blO ((inW S x y).map not) := rfl
@[simp] theorem co_is : COp.is.vo S x y = if nonW y = true then some (.bl (nonW x)) else none := rfl
@[simp] theorem co_isn : COp.isnot.vo S x y = if nonW y = true then some (.bl (!nonW x)) else none := rfl
@[simp] theorem bt_len : Bt.len.wo S [w] = lfv S (rd1 S w (lenA M00)) := rfl
@[simp] theorem bt_int : Bt.int.wo S [w] = lfv S (rd1 S w (intA M00)) := rfl
@[simp] theorem bt_abs : Bt.abs.wo S [w] = lfv S (rd1 S w (absA M00)) := rfl
@[simp] theorem bt_strI : Bt.strI.wo S [w] = lfv S (rd1 S w (strA M00)) := rfl
@[simp] theorem bt_all : Bt.all.wo S [w] = lfv S (rd1 S w (allA M00)) := rfl
@[simp] theorem bt_any : Bt.any.wo S [w] = lfv S (rd1 S w (anyA M00)) := rfl
@[simp] theorem bt_sum : Bt.sum.wo S [w] = lfv S (rd1 S w (sumA M00)) := rfl
@[simp] theorem bt_srt : Bt.srt.wo S [w] = lfv S (rd1 S w vsrt) := rfl
@[simp] theorem bt_tupT : Bt.tupT.wo S [w] = lfv S (rd1 S w vtupT) := rfl
@[simp] theorem bt_min2 : Bt.min2.wo S [x, y] = lfv S (rd2 S x y (minA M00)) := rfl
@[simp] theorem bt_max2 : Bt.max2.wo S [x, y] = lfv S (rd2 S x y (maxA M00)) := rfl
@[simp] theorem bt_minL : Bt.minL.wo S [w] = lfv S (rd1 S w (Z.minL M00)) := rfl
@[simp] theorem bt_maxL : Bt.maxL.wo S [w] = lfv S (rd1 S w (Z.maxL M00)) := rfl
@[simp] theorem bt_lstF : Bt.lstF.wo S [w] = match lstW S w with | some ds => .ok (.v (.lst ds)) S | none => .no := rfl
@[simp] theorem bt_lstM : Bt.lstM.wo S [w] = match lstW S w with | some ds => newW S (.lst ds) | none => .no := rfl
@[simp] theorem newW_eq {o : VO} : newW S o = .ok (.r S.length) (S ++ [some o]) := rfl
@[simp] theorem tup_lst {ds : List D} : vtupT (.lst ds) = some (.tup ds) := rfl
@[simp] theorem tup_tp {k : TK} {ds : List D} : vtupT (.tp k ds) = some (.tp k ds) := rfl
@[simp] theorem lenA_lst' {ds : List D} : lenA M00 (.lst ds) = some (.int ds.length) := rfl
@[simp] theorem lenA_flst {ds : List D} : lenA M00 (.flst ds) = some (.int ds.length) := rfl
@[simp] theorem lenA_tp' {k : TK} {ds : List D} : lenA M00 (.tp k ds) = some (.int ds.length) := rfl
@[simp] theorem int_int {i : Int} : intA M00 (.int i) = some (.int i) := rfl
@[simp] theorem int_bl {i : Bool} : intA M00 (.bl i) = some (.int (if i then 1 else 0)) := rfl
@[simp] theorem sl_0 : (0 : Nat) ≤ sizeLine := by decide
@[simp] theorem sl_1 : (1 : Nat) ≤ sizeLine := by decide
@[simp] theorem sl_2 : (2 : Nat) ≤ sizeLine := by decide
@[simp] theorem sl_3 : (3 : Nat) ≤ sizeLine := by decide
@[simp] theorem sl_4 : (4 : Nat) ≤ sizeLine := by decide
@[simp] theorem sl_5 : (5 : Nat) ≤ sizeLine := by decide
@[simp] theorem sl_6 : (6 : Nat) ≤ sizeLine := by decide
@[simp] theorem sl_8 : (8 : Nat) ≤ sizeLine := by decide
@[simp] theorem sl_11 : (11 : Nat) ≤ sizeLine := by decide
@[simp] theorem sl_12 : (12 : Nat) ≤ sizeLine := by decide
end
/-! things in the store -/
section
variable {S J : Sto} {o : Option VO}
@[simp] theorem getS_app0 {x : Option VO} {r : Sto} : getS (x :: r) 0 = x := by cases x <;> rfl
theorem getS_last : getS (S ++ [o]) S.length = o := by unfold getS; simp
theorem getS_mid : getS (S ++ o :: J) S.length = o := by unfold getS; simp
theorem setS_last {o' : Option VO} : setS (S ++ [o]) S.length o' = S ++ [o'] := by unfold setS; simp
theorem setS_mid {o' : Option VO} : setS (S ++ o :: J) S.length o' = S ++ o' :: J := by unfold setS; simp
theorem rdW_mid {ds : List D} : rdW (S ++ some (.lst ds) :: J) (.r S.length) = some (.lst ds) := by
  show (match getS (S ++ some (.lst ds) :: J) S.length with | some (.lst ds) => some (D.lst ds) | _ => none) = _
  rw [getS_mid]
theorem sqW_mid {ds : List D} : sqW (S ++ some (.lst ds) :: J) (.r S.length) = some ds := by
  unfold sqW; rw [rdW_mid]
theorem truW_mid {ds : List D} : truW (S ++ some (.lst ds) :: J) (.r S.length) = some (!ds.isEmpty) := by
  unfold truW
  simp only [sqW_mid]
theorem ixW_mid {ds : List D} {i : Int} {x : D} (h : atI ds i = some x) : ixW (S ++ some (.lst ds) :: J) (.r S.length) (.v (.int i)) = some (.v x) := by
  unfold ixW
  simp only [plW_int, sqW_mid, h]; rfl
theorem ty_app_mid {ds : List D} : tyW .append (S ++ some (.lst ds) :: J) (.r S.length) = true := tyW_app getS_mid
theorem ty_ext_mid {ds : List D} : tyW .extend (S ++ some (.lst ds) :: J) (.r S.length) = true := tyW_ext getS_mid
theorem wo_app_mid {ds : List D} {x : D} (hl : ds.length < sizeLine) : Mt.append.wo (S ++ some (.lst ds) :: J) (.r S.length) [.v x] = .ok (.v .non) (S ++ some (.lst (ds ++ [x])) :: J) := by
  rw [wo_append getS_mid hl, setS_mid]
theorem wo_ext_mid {ds es : List D} (hl : ds.length + es.length ≤ sizeLine) : Mt.extend.wo (S ++ some (.lst ds) :: J) (.r S.length) [.v (.lst es)] = .ok (.v .non) (S ++ some (.lst (ds ++ es)) :: J) := by
  rw [wo_extend getS_mid hl, setS_mid]
end
end Z

namespace K82
open PySem PySem.Spec PyProof.Rows L2 Z

def topS (i : Nat) : Stmt := PySem.Challenge.pw_letterways_k82_faults_of_networks.main.body.getD i (.Pass ⟨0, 0, 0, 0⟩)
/-! is_integer -/
abbrev sis_integer : Stmt := topS 1
def Nis_integer : List Str := ["value"]
def Bis_integer : List Sx := [.ret (.bol true [(.isi .tint (.loc 0)), (.nt (.isi .tbool (.loc 0)))])]
noncomputable def Gis_integer : GV := ⟨[], [], ["isinstance", "int", "bool"], false⟩
noncomputable def Fis_integer : List W → Sto → Rs W := runV Gis_integer 1 Bis_integer
theorem eis_integer {w0 : W} {S : Sto} : Fis_integer [w0] S = (evSs Gis_integer Bis_integer [some w0] S).out := rfl
/-! is_row -/
abbrev sis_row : Stmt := topS 2
def Nis_row : List Str := ["value", "size"]
def Bis_row : List Sx := [.ret (.bol true [(.isi .ttup (.loc 0)), (.cmp .eq (.blt .len (.loc 0) []) (.loc 1))])]
noncomputable def Gis_row : GV := ⟨[], [], ["isinstance", "tuple", "len"], false⟩
noncomputable def Fis_row : List W → Sto → Rs W := runV Gis_row 2 Bis_row
theorem eis_row {w0 w1 : W} {S : Sto} : Fis_row [w0, w1] S = (evSs Gis_row Bis_row [some w0, some w1] S).out := rfl
/-! is_name -/
abbrev sis_name : Stmt := topS 3
def Nis_name : List Str := ["value", "sign"]
def Bis_name : List Sx := [.ifs (.bol false [(.nt (.isi .tstr (.loc 0))), (.nt (.chn .le .le (.int 1) (.blt .len (.loc 0) []) (.int 12)))])
    [.ret (.bl false)]
    [], .ret (.blt .all (.comp false (.chn .le .le (.str "a") (.loc 1) (.str "z")) (.nm 1) .seq [(.loc 0)] [] [("sign", 1)]) [])]
noncomputable def Gis_name : GV := ⟨[], [], ["isinstance", "str", "len", "all"], false⟩
noncomputable def Fis_name : List W → Sto → Rs W := runV Gis_name 2 Bis_name
theorem eis_name {w0 : W} {S : Sto} : Fis_name [w0] S = (evSs Gis_name Bis_name [some w0, none] S).out := rfl
/-! is_ascending -/
abbrev sis_ascending : Stmt := topS 4
def Nis_ascending : List Str := ["row", "at"]
def Bis_ascending : List Sx := [.ret (.blt .all (.comp false (.cmp .lt (.idx (.loc 0) (.loc 1)) (.idx (.loc 0) (.bin .add (.loc 1) (.int 1)))) (.nm 1) .rng1 [(.bin .sub (.blt .len (.loc 0) []) (.int 1))] [] [("at", 1)]) [])]
noncomputable def Gis_ascending : GV := ⟨[], [], ["all", "range", "len"], false⟩
noncomputable def Fis_ascending : List W → Sto → Rs W := runV Gis_ascending 2 Bis_ascending
theorem eis_ascending {w0 : W} {S : Sto} : Fis_ascending [w0] S = (evSs Gis_ascending Bis_ascending [some w0, none] S).out := rfl
/-! is_names -/
abbrev sis_names : Stmt := topS 5
def Nis_names : List Str := ["value", "least", "most", "name"]
def Bis_names : List Sx := [.ifs (.bol false [(.nt (.isi .ttup (.loc 0))), (.nt (.chn .le .le (.loc 1) (.blt .len (.loc 0) []) (.loc 2)))])
    [.ret (.bl false)]
    [], .ret (.bol true [(.blt .all (.comp false (.call 0 (.loc 3) []) (.nm 3) .seq [(.loc 0)] [] [("name", 3)]) []), (.call 1 (.loc 0) [])])]
noncomputable def Gis_names : GV := ⟨[("is_name", 1, Fis_name), ("is_ascending", 1, Fis_ascending)], [], ["isinstance", "tuple", "len", "all"], false⟩
noncomputable def Fis_names : List W → Sto → Rs W := runV Gis_names 4 Bis_names
theorem eis_names {w0 w1 w2 : W} {S : Sto} : Fis_names [w0, w1, w2] S = (evSs Gis_names Bis_names [some w0, some w1, some w2, none] S).out := rfl
/-! is_bound -/
abbrev sis_bound : Stmt := topS 9
def Nis_bound : List Str := ["value"]
def Bis_bound : List Sx := [.ret (.bol false [(.cmp .is (.loc 0) .non), (.call 0 (.loc 0) [])])]
noncomputable def Gis_bound : GV := ⟨[("is_integer", 1, Fis_integer)], [], [], false⟩
noncomputable def Fis_bound : List W → Sto → Rs W := runV Gis_bound 1 Bis_bound
theorem eis_bound {w0 : W} {S : Sto} : Fis_bound [w0] S = (evSs Gis_bound Bis_bound [some w0] S).out := rfl
/-! _is_pair -/
abbrev s_is_pair : Stmt := topS 10
def N_is_pair : List Str := ["pair", "value", "step"]
def B_is_pair : List Sx := [.ifs (.bol false [(.nt (.isi .ttup (.loc 0))), (.cmp .ne (.blt .len (.loc 0) []) (.int 2))])
    [.ret (.bl false)]
    [], .asg (.tp [1, 2]) (.loc 0), .ifs (.cmp .is (.loc 1) .non)
    [.ret (.bol true [(.call 0 (.loc 2) []), (.cmp .eq (.loc 2) (.int 0))])]
    [], .ret (.bol true [(.call 0 (.loc 1) []), (.call 0 (.loc 2) [])])]
noncomputable def G_is_pair : GV := ⟨[("is_integer", 1, Fis_integer)], [], ["isinstance", "tuple", "len"], false⟩
noncomputable def F_is_pair : List W → Sto → Rs W := runV G_is_pair 3 B_is_pair
theorem e_is_pair {w0 : W} {S : Sto} : F_is_pair [w0] S = (evSs G_is_pair B_is_pair [some w0, none, none] S).out := rfl
/-! form_fault -/
abbrev sform_fault : Stmt := topS 11
def Nform_fault : List Str := ["form", "head", "tail", "value", "pair"]
def Bform_fault : List Sx := [.ifs (.bol false [(.nt (.isi .ttup (.loc 0))), (.cmp .ne (.blt .len (.loc 0) []) (.int 2))])
    [.ret (.str "form")]
    [], .asg (.tp [1, 2]) (.loc 0), .ifs (.bol false [(.nt (.isi .ttup (.loc 1))), (.nt (.isi .ttup (.loc 2)))])
    [.ret (.str "form")]
    [], .ifs (.bol false [(.cmp .gt (.blt .len (.loc 1) []) (.glo 0)), (.nt (.blt .all (.comp false (.call 0 (.loc 3) []) (.nm 3) .seq [(.loc 1)] [] [("value", 3)]) []))])
    [.ret (.str "head")]
    [], .ifs (.bol false [(.nt (.chn .le .le (.int 1) (.blt .len (.loc 2) []) (.glo 1))), (.nt (.blt .all (.comp false (.call 1 (.loc 4) []) (.nm 4) .seq [(.loc 2)] [] [("pair", 4)]) []))])
    [.ret (.str "tail")]
    [], .ret .non]
noncomputable def Gform_fault : GV := ⟨[("is_bound", 1, Fis_bound), ("_is_pair", 1, F_is_pair)], [("MAX_HEAD", D.int 4000), ("MAX_PERIOD", D.int 1000)], ["isinstance", "tuple", "len", "all"], false⟩
noncomputable def Fform_fault : List W → Sto → Rs W := runV Gform_fault 5 Bform_fault
theorem eform_fault {w0 : W} {S : Sto} : Fform_fault [w0] S = (evSs Gform_fault Bform_fault [some w0, none, none, none, none] S).out := rfl
/-! _is_leg -/
abbrev s_is_leg : Stmt := topS 15
def N_is_leg : List Str := ["offices", "leg"]
def B_is_leg : List Sx := [.ifs (.bol false [(.nt (.call 0 (.loc 1) [(.int 3)])), (.cmp .notin (.idx (.loc 1) (.int 0)) (.loc 0)), (.cmp .notin (.idx (.loc 1) (.int 1)) (.loc 0))])
    [.ret (.bl false)]
    [], .ret (.bol true [(.cmp .ne (.idx (.loc 1) (.int 0)) (.idx (.loc 1) (.int 1))), (.cmp .is (.call 1 (.idx (.loc 1) (.int 2)) []) .non)])]
noncomputable def G_is_leg : GV := ⟨[("is_row", 2, Fis_row), ("form_fault", 1, Fform_fault)], [], [], false⟩
noncomputable def F_is_leg : List W → Sto → Rs W := runV G_is_leg 2 B_is_leg
theorem e_is_leg {w0 w1 : W} {S : Sto} : F_is_leg [w0, w1] S = (evSs G_is_leg B_is_leg [some w0, some w1] S).out := rfl
/-! _are_legs -/
abbrev s_are_legs : Stmt := topS 16
def N_are_legs : List Str := ["offices", "legs", "leg", "pairs", "at"]
def B_are_legs : List Sx := [.ifs (.bol false [(.cmp .gt (.blt .len (.loc 1) []) (.glo 0)), (.nt (.blt .all (.comp false (.call 0 (.loc 0) [(.loc 2)]) (.nm 2) .seq [(.loc 1)] [] [("leg", 2)]) []))])
    [.ret (.bl false)]
    [], .asg (.nm 3) (.comp false (.sli (.loc 2) [] [(.int 2)]) (.nm 2) .seq [(.loc 1)] [] [("leg", 2)]), .ret (.blt .all (.comp false (.cmp .le (.idx (.loc 3) (.loc 4)) (.idx (.loc 3) (.bin .add (.loc 4) (.int 1)))) (.nm 4) .rng1 [(.bin .sub (.blt .len (.loc 3) []) (.int 1))] [] [("at", 4)]) [])]
noncomputable def G_are_legs : GV := ⟨[("_is_leg", 2, F_is_leg)], [("MAX_LEGS", D.int 30)], ["len", "all", "range"], false⟩
noncomputable def F_are_legs : List W → Sto → Rs W := runV G_are_legs 5 B_are_legs
theorem e_are_legs {w0 w1 : W} {S : Sto} : F_are_legs [w0, w1] S = (evSs G_are_legs B_are_legs [some w0, some w1, none, none, none] S).out := rfl
/-! has_debts -/
abbrev shas_debts : Stmt := topS 17
def Nhas_debts : List Str := ["form", "value", "step"]
def Bhas_debts : List Sx := [.ifs (.blt .any (.comp false (.bol true [(.cmp .isnot (.loc 1) .non), (.cmp .lt (.loc 1) (.int 0))]) (.nm 1) .seq [(.idx (.loc 0) (.int 0))] [] [("value", 1)]) [])
    [.ret (.bl true)]
    [], .ret (.blt .any (.comp false (.bol true [(.cmp .isnot (.loc 1) .non), (.bol false [(.cmp .lt (.loc 1) (.int 0)), (.cmp .lt (.loc 2) (.int 0))])]) (.tp [1, 2]) .seq [(.idx (.loc 0) (.int 1))] [] [("step", 2), ("value", 1)]) [])]
noncomputable def Ghas_debts : GV := ⟨[], [], ["any"], false⟩
noncomputable def Fhas_debts : List W → Sto → Rs W := runV Ghas_debts 3 Bhas_debts
theorem ehas_debts {w0 : W} {S : Sto} : Fhas_debts [w0] S = (evSs Ghas_debts Bhas_debts [some w0, none, none] S).out := rfl
/-! network_fault -/
abbrev snetwork_fault : Stmt := topS 18
def Nnetwork_fault : List Str := ["network", "offices", "legs", "leg"]
def Bnetwork_fault : List Sx := [.ifs (.bol false [(.nt (.call 0 (.loc 0) [(.int 2)])), (.nt (.isi .ttup (.idx (.loc 0) (.int 0)))), (.nt (.isi .ttup (.idx (.loc 0) (.int 1))))])
    [.ret (.str "form")]
    [], .asg (.tp [1, 2]) (.loc 0), .ifs (.nt (.call 1 (.loc 1) [(.int 1), (.glo 0)]))
    [.ret (.str "offices")]
    [], .ifs (.nt (.call 2 (.loc 1) [(.loc 2)]))
    [.ret (.str "legs")]
    [], .ret (.ite (.blt .any (.comp false (.call 3 (.idx (.loc 3) (.int 2)) []) (.nm 3) .seq [(.loc 2)] [] [("leg", 3)]) []) (.str "values") .non)]
noncomputable def Gnetwork_fault : GV := ⟨[("is_row", 2, Fis_row), ("is_names", 3, Fis_names), ("_are_legs", 2, F_are_legs), ("has_debts", 1, Fhas_debts)], [("MAX_OFFICES", D.int 8)], ["isinstance", "tuple", "any"], false⟩
noncomputable def Fnetwork_fault : List W → Sto → Rs W := runV Gnetwork_fault 4 Bnetwork_fault
theorem enetwork_fault {w0 : W} {S : Sto} : Fnetwork_fault [w0] S = (evSs Gnetwork_fault Bnetwork_fault [some w0, none, none, none] S).out := rfl
/-! _law_state -/
abbrev s_law_state : Stmt := topS 20
def N_law_state : List Str := ["script"]
def B_law_state : List Sx := [.ret (.lst true [(.blt .lstF (.loc 0) []), (.int 0), (.int 0), (.int 0), (.bl false)])]
noncomputable def G_law_state : GV := ⟨[], [], ["list"], false⟩
noncomputable def F_law_state : List W → Sto → Rs W := runV G_law_state 1 B_law_state
theorem e_law_state {w0 : W} {S : Sto} : F_law_state [w0] S = (evSs G_law_state B_law_state [some w0] S).out := rfl
/-! _law_draw -/
abbrev s_law_draw : Stmt := topS 21
def N_law_draw : List Str := ["state", "limit", "cell", "digit", "mixed"]
def B_law_draw : List Sx := [.ifs (.cmp .eq (.idx (.loc 0) (.int 3)) (.int 0))
    [.ifs (.cmp .ge (.idx (.loc 0) (.int 1)) (.blt .len (.idx (.loc 0) (.int 0)) []))
    [.ret (.int 0)]
    [], .asg (.nm 2) (.idx (.idx (.loc 0) (.int 0)) (.idx (.loc 0) (.int 1))), .ifs (.cmp .lt (.loc 2) (.int 0))
    [.asg (.nm 2) (.bin .sub (.neg (.int 1)) (.loc 2))]
    [], .sput (.loc 0) (.int 1) (.bin .add (.idx (.loc 0) (.int 1)) (.int 1)), .sput (.loc 0) (.int 2) (.loc 2), .sput (.loc 0) (.int 4) (.cmp .ge (.loc 2) (.bin .pow (.int 10) (.int 18))), .sput (.loc 0) (.int 3) (.int 6), .ifs (.idx (.loc 0) (.int 4))
    [.sput (.loc 0) (.int 3) (.int 60)]
    []]
    [], .sput (.loc 0) (.int 3) (.bin .sub (.idx (.loc 0) (.int 3)) (.int 1)), .ifs (.idx (.loc 0) (.int 4))
    [.asg (.nm 3) (.bin .mod (.blt .int (.idx (.loc 0) (.int 2)) []) (.loc 1)), .sput (.loc 0) (.int 2) (.bin .fdv (.idx (.loc 0) (.int 2)) (.loc 1)), .ifs (.cmp .eq (.idx (.loc 0) (.int 2)) (.int 0))
    [.sput (.loc 0) (.int 3) (.int 0)]
    [], .ret (.loc 3)]
    [], .asg (.nm 4) (.bin .mod (.blt .int (.bin .add (.bin .add (.bin .mul (.idx (.loc 0) (.int 2)) (.int 48271)) (.bin .mul (.idx (.loc 0) (.int 3)) (.int 69621))) (.int 7)) []) (.int 2147483647)), .asg (.nm 4) (.bin .mod (.blt .int (.bin .add (.bin .add (.bin .mul (.loc 4) (.loc 4)) (.bin .mul (.idx (.loc 0) (.int 2)) (.int 31))) (.idx (.loc 0) (.int 3))) []) (.int 1000003)), .ret (.bin .mod (.blt .int (.loc 4) []) (.loc 1))]
noncomputable def G_law_draw : GV := ⟨[], [], ["len", "int"], false⟩
noncomputable def F_law_draw : List W → Sto → Rs W := runV G_law_draw 5 B_law_draw
theorem e_law_draw {w0 w1 : W} {S : Sto} : F_law_draw [w0, w1] S = (evSs G_law_draw B_law_draw [some w0, some w1, none, none, none] S).out := rfl
/-! _law_name -/
abbrev s_law_name : Stmt := topS 22
def N_law_name : List Str := ["state", "letters", "size", "name", "k"]
def B_law_name : List Sx := [.asg (.nm 1) (.str "abcdefghijklmnopqrstuvwxyz"), .asg (.nm 2) (.bin .add (.int 1) (.idx (.lst false [(.call 0 (.loc 0) [(.int 3)]), (.call 0 (.loc 0) [(.int 12)])]) (.call 0 (.loc 0) [(.int 2)]))), .asg (.nm 3) (.str ""), .fors (.nm 4) .rng1 [(.loc 2)]
    [.asg (.nm 3) (.bin .add (.loc 3) (.idx (.loc 1) (.call 0 (.loc 0) [(.int 26)])))], .ret (.loc 3)]
noncomputable def G_law_name : GV := ⟨[("_law_draw", 2, F_law_draw)], [], ["range"], false⟩
noncomputable def F_law_name : List W → Sto → Rs W := runV G_law_name 5 B_law_name
theorem e_law_name {w0 : W} {S : Sto} : F_law_name [w0] S = (evSs G_law_name B_law_name [some w0, none, none, none, none] S).out := rfl
/-! _law_offices -/
abbrev s_law_offices : Stmt := topS 23
def N_law_offices : List Str := ["state", "count", "found", "k", "spare", "letter", "name"]
def B_law_offices : List Sx := [.asg (.nm 2) (.lst true []), .fors (.nm 3) .rng1 [(.loc 1)]
    [.asg (.nm 4) (.bin .add (.lst false [(.call 0 (.loc 0) [])]) (.comp false (.bin .add (.str "q") (.loc 5)) (.nm 5) .seq [(.str "abcdefghijklmnopqrstuvwxyz")] [] [("letter", 5)])), .expr (.mth .append (.loc 2) (.idx (.comp false (.loc 6) (.nm 6) .seq [(.loc 4)] [(.cmp .notin (.loc 6) (.loc 2))] [("name", 6)]) (.int 0)) [])], .ret (.blt .tupT (.blt .srt (.loc 2) []) [])]
noncomputable def G_law_offices : GV := ⟨[("_law_name", 1, F_law_name)], [], ["range", "tuple", "sorted"], false⟩
noncomputable def F_law_offices : List W → Sto → Rs W := runV G_law_offices 7 B_law_offices
theorem e_law_offices {w0 w1 : W} {S : Sto} : F_law_offices [w0, w1] S = (evSs G_law_offices B_law_offices [some w0, some w1, none, none, none, none, none] S).out := rfl
/-! _law_in_order -/
abbrev s_law_in_order : Stmt := topS 24
def N_law_in_order : List Str := ["legs", "found", "pair", "leg"]
def B_law_in_order : List Sx := [.asg (.nm 1) (.lst false []), .fors (.nm 2) .seq [(.srt2 (.comp false (.sli (.loc 3) [] [(.int 2)]) (.nm 3) .seq [(.loc 0)] [] [("leg", 3)]))]
    [.asg (.nm 1) (.bin .add (.loc 1) (.comp false (.loc 3) (.nm 3) .seq [(.loc 0)] [(.cmp .eq (.sli (.loc 3) [] [(.int 2)]) (.loc 2))] [("leg", 3)]))], .ret (.blt .tupT (.loc 1) [])]
noncomputable def G_law_in_order : GV := ⟨[], [], ["sorted", "set", "tuple"], false⟩
noncomputable def F_law_in_order : List W → Sto → Rs W := runV G_law_in_order 4 B_law_in_order
theorem e_law_in_order {w0 : W} {S : Sto} : F_law_in_order [w0] S = (evSs G_law_in_order B_law_in_order [some w0, none, none, none] S).out := rfl
/-! _law_leg_form -/
abbrev s_law_leg_form : Stmt := topS 25
def N_law_leg_form : List Str := ["state", "head", "k", "base", "tail", "step"]
def B_law_leg_form : List Sx := [.asg (.nm 1) (.comp false (.idx (.lst false [.non, (.call 0 (.loc 0) [(.int 31)])]) (.blt .int (.cmp .gt (.call 0 (.loc 0) [(.int 4)]) (.int 0)) [])) (.nm 2) .rng1 [(.call 0 (.loc 0) [(.int 4)])] [] [("k", 2)]), .asg (.nm 3) (.call 0 (.loc 0) [(.int 3)]), .asg (.nm 4) (.lst true []), .fors (.nm 2) .rng1 [(.idx (.lst false [(.int 1), (.int 1), (.int 2), (.int 3)]) (.call 0 (.loc 0) [(.int 4)]))]
    [.asg (.nm 5) (.idx (.lst false [(.loc 3), (.call 0 (.loc 0) [(.int 4)])]) (.blt .int (.cmp .eq (.call 0 (.loc 0) [(.int 3)]) (.int 0)) [])), .expr (.mth .append (.loc 4) (.idx (.lst false [(.tup [(.call 0 (.loc 0) [(.int 31)]), (.loc 5)]), (.tup [.non, (.int 0)])]) (.blt .int (.cmp .eq (.call 0 (.loc 0) [(.int 5)]) (.int 4)) [])) [])], .ret (.tup [(.blt .tupT (.loc 1) []), (.blt .tupT (.loc 4) [])])]
noncomputable def G_law_leg_form : GV := ⟨[("_law_draw", 2, F_law_draw)], [], ["range", "int", "tuple"], false⟩
noncomputable def F_law_leg_form : List W → Sto → Rs W := runV G_law_leg_form 6 B_law_leg_form
theorem e_law_leg_form {w0 : W} {S : Sto} : F_law_leg_form [w0] S = (evSs G_law_leg_form B_law_leg_form [some w0, none, none, none, none, none] S).out := rfl
/-! _law_network -/
abbrev s_law_network : Stmt := topS 26
def N_law_network : List Str := ["state", "most", "many", "offices", "pool", "k", "legs", "start", "goal", "form"]
def B_law_network : List Sx := [.asg (.nm 3) (.call 0 (.loc 0) [(.bin .add (.int 2) (.call 1 (.loc 0) [(.bin .sub (.loc 1) (.int 1))]))]), .asg (.nm 4) (.comp false (.call 2 (.loc 0) []) (.nm 5) .rng1 [(.bin .add (.int 1) (.call 1 (.loc 0) [(.int 4)]))] [] [("k", 5)]), .asg (.nm 6) (.lst true []), .fors (.nm 5) .rng1 [(.call 1 (.loc 0) [(.bin .add (.loc 2) (.int 1))])]
    [.asg (.nm 7) (.call 1 (.loc 0) [(.blt .len (.loc 3) [])]), .asg (.nm 8) (.bin .mod (.blt .int (.bin .add (.bin .add (.loc 7) (.int 1)) (.call 1 (.loc 0) [(.bin .sub (.blt .len (.loc 3) []) (.int 1))])) []) (.blt .len (.loc 3) [])), .asg (.nm 9) (.idx (.loc 4) (.call 1 (.loc 0) [(.blt .len (.loc 4) [])])), .ifs (.cmp .eq (.call 1 (.loc 0) [(.int 3)]) (.int 0))
    [.asg (.nm 9) (.call 2 (.loc 0) [])]
    [], .expr (.mth .append (.loc 6) (.tup [(.idx (.loc 3) (.loc 7)), (.idx (.loc 3) (.loc 8)), (.loc 9)]) [])], .fz 6, .ret (.tup [(.loc 3), (.call 3 (.loc 6) [])])]
noncomputable def G_law_network : GV := ⟨[("_law_offices", 2, F_law_offices), ("_law_draw", 2, F_law_draw), ("_law_leg_form", 1, F_law_leg_form), ("_law_in_order", 1, F_law_in_order)], [], ["range", "len", "int"], false⟩
noncomputable def F_law_network : List W → Sto → Rs W := runV G_law_network 10 B_law_network
theorem e_law_network {w0 w1 w2 : W} {S : Sto} : F_law_network [w0, w1, w2] S = (evSs G_law_network B_law_network [some w0, some w1, some w2, none, none, none, none, none, none, none] S).out := rfl
/-! _law_with_leg -/
abbrev s_law_with_leg : Stmt := topS 27
def N_law_with_leg : List Str := ["network", "at", "leg", "legs"]
def B_law_with_leg : List Sx := [.asg (.nm 3) (.idx (.loc 0) (.int 1)), .ret (.tup [(.idx (.loc 0) (.int 0)), (.bin .add (.bin .add (.sli (.loc 3) [] [(.loc 1)]) (.tup [(.loc 2)])) (.sli (.loc 3) [(.bin .add (.loc 1) (.int 1))] []))])]
noncomputable def G_law_with_leg : GV := ⟨[], [], [], false⟩
noncomputable def F_law_with_leg : List W → Sto → Rs W := runV G_law_with_leg 4 B_law_with_leg
theorem e_law_with_leg {w0 w1 w2 : W} {S : Sto} : F_law_with_leg [w0, w1, w2] S = (evSs G_law_with_leg B_law_with_leg [some w0, some w1, some w2, none] S).out := rfl
/-! _law_wrong_offices -/
abbrev s_law_wrong_offices : Stmt := topS 28
def N_law_wrong_offices : List Str := ["state", "network", "offices", "many", "wrong"]
def B_law_wrong_offices : List Sx := [.asg (.nm 2) (.idx (.loc 1) (.int 0)), .asg (.nm 3) (.tup [(.str "a"), (.str "b"), (.str "c"), (.str "d"), (.str "e"), (.str "f"), (.str "g"), (.str "h"), (.str "i")]), .asg (.nm 4) (.lst false [(.tup []), (.loc 3), (.bin .add (.loc 2) (.sli (.loc 2) [] [(.int 1)])), (.tup [(.str "")]), (.tup [(.str "A")]), (.tup [(.str "abcdefghijklm")]), (.tup [(.int 1)]), (.tup [.non]), (.tup [(.str "a"), (.str "a")]), (.tup [(.str "b"), (.str "a")])]), .asg (.nm 4) (.bin .add (.loc 4) (.lst false [(.tup [(.str "caf_")]), (.tup [(.str "a"), (.tup [(.str "b")])]), (.tup [(.bl true)]), (.tup [(.str "a b")]), (.tup [(.str "a1")])])), .ret (.idx (.loc 4) (.call 0 (.loc 0) [(.blt .len (.loc 4) [])]))]
noncomputable def G_law_wrong_offices : GV := ⟨[("_law_draw", 2, F_law_draw)], [], ["len"], false⟩
noncomputable def F_law_wrong_offices : List W → Sto → Rs W := runV G_law_wrong_offices 5 B_law_wrong_offices
theorem e_law_wrong_offices {w0 w1 : W} {S : Sto} : F_law_wrong_offices [w0, w1] S = (evSs G_law_wrong_offices B_law_wrong_offices [some w0, some w1, none, none, none] S).out := rfl
/-! _law_wrong_form -/
abbrev s_law_wrong_form : Stmt := topS 29
def N_law_wrong_form : List Str := ["state", "wrong"]
def B_law_wrong_form : List Sx := [.asg (.nm 1) (.lst false [(.tup [(.tup []), (.tup [])]), (.tup [(.tup [(.int 1)]), (.tup [(.tup [.non, (.int 1)])])]), (.tup [(.tup [(.bl true)]), (.tup [(.tup [(.int 1), (.int 0)])])]), .non, (.tup [(.tup []), (.tup [(.tup [(.int 1), (.bl true)])])]), (.tup [(.bin .mul (.tup [(.int 0)]) (.int 4001)), (.tup [(.tup [(.int 1), (.int 0)])])])]), .asg (.nm 1) (.bin .add (.loc 1) (.lst false [(.tup [(.tup []), (.bin .mul (.tup [(.tup [(.int 1), (.int 0)])]) (.int 1001))]), (.tup [(.tup []), (.tup [(.tup [(.int 1), (.int 0)])]), (.tup [])]), (.int 3), (.tup [(.tup [(.int 1)]), (.int 3)]), (.tup [(.tup []), (.tup [(.tup [(.int 1)])])]), (.tup [(.tup []), (.tup [(.tup [(.bl false), (.int 0)])])])])), .ret (.idx (.loc 1) (.call 0 (.loc 0) [(.blt .len (.loc 1) [])]))]
noncomputable def G_law_wrong_form : GV := ⟨[("_law_draw", 2, F_law_draw)], [], ["len"], false⟩
noncomputable def F_law_wrong_form : List W → Sto → Rs W := runV G_law_wrong_form 2 B_law_wrong_form
theorem e_law_wrong_form {w0 : W} {S : Sto} : F_law_wrong_form [w0] S = (evSs G_law_wrong_form B_law_wrong_form [some w0, none] S).out := rfl
/-! _law_wrong_leg -/
abbrev s_law_wrong_leg : Stmt := topS 30
def N_law_wrong_leg : List Str := ["state", "network", "one", "two", "form", "wrong"]
def B_law_wrong_leg : List Sx := [.asg (.nm 2) (.idx (.idx (.loc 1) (.int 0)) (.int 0)), .asg (.nm 3) (.idx (.idx (.loc 1) (.int 0)) (.int 1)), .asg (.nm 4) (.tup [(.tup []), (.tup [(.tup [(.int 1), (.int 0)])])]), .asg (.nm 5) (.lst false [.non, (.tup []), (.tup [(.loc 2), (.loc 3)]), (.tup [(.loc 2), (.loc 3), (.loc 4), (.int 1)]), (.tup [(.loc 2), (.loc 2), (.loc 4)]), (.tup [(.loc 2), (.str "Zz"), (.loc 4)]), (.tup [(.str ""), (.loc 3), (.loc 4)]), (.int 3), (.str "abc")]), .asg (.nm 5) (.bin .add (.loc 5) (.lst false [(.tup [.non, (.loc 3), (.loc 4)]), (.tup [(.tup [(.loc 2)]), (.loc 3), (.loc 4)]), (.tup [(.loc 2), (.int 1), (.loc 4)]), (.tup [(.loc 2), (.loc 3), (.call 0 (.loc 0) [])])])), .ret (.idx (.loc 5) (.idx (.lst false [(.int 12), (.call 1 (.loc 0) [(.int 13)])]) (.call 1 (.loc 0) [(.int 2)])))]
noncomputable def G_law_wrong_leg : GV := ⟨[("_law_wrong_form", 1, F_law_wrong_form), ("_law_draw", 2, F_law_draw)], [], [], false⟩
noncomputable def F_law_wrong_leg : List W → Sto → Rs W := runV G_law_wrong_leg 6 B_law_wrong_leg
theorem e_law_wrong_leg {w0 w1 : W} {S : Sto} : F_law_wrong_leg [w0, w1] S = (evSs G_law_wrong_leg B_law_wrong_leg [some w0, some w1, none, none, none, none] S).out := rfl
/-! _law_debts -/
abbrev s_law_debts : Stmt := topS 31
def N_law_debts : List Str := ["state", "forms"]
def B_law_debts : List Sx := [.asg (.nm 1) (.lst false [(.tup [(.tup [(.neg (.int 1))]), (.tup [(.tup [(.int 0), (.int 0)])])]), (.tup [(.tup []), (.tup [(.tup [(.neg (.int 1)), (.int 0)])])]), (.tup [(.tup []), (.tup [(.tup [(.int 5), (.neg (.int 1))])])]), (.tup [(.tup [(.int 3), .non, (.neg (.int 7))]), (.tup [(.tup [.non, (.int 0)])])])]), .asg (.nm 1) (.bin .add (.loc 1) (.lst false [(.tup [(.tup [(.int 0), (.int 0), (.bin .sub (.int 0) (.bin .pow (.int 10) (.int 30)))]), (.tup [(.tup [(.int 1), (.int 1)])])]), (.tup [(.tup []), (.tup [(.tup [(.bin .pow (.int 10) (.int 30)), (.neg (.int 1))])])]), (.tup [(.tup []), (.tup [(.tup [(.int 1), (.int 0)]), (.tup [(.neg (.int 2)), (.int 1)])])])])), .ret (.idx (.loc 1) (.call 0 (.loc 0) [(.blt .len (.loc 1) [])]))]
noncomputable def G_law_debts : GV := ⟨[("_law_draw", 2, F_law_draw)], [], ["len"], false⟩
noncomputable def F_law_debts : List W → Sto → Rs W := runV G_law_debts 2 B_law_debts
theorem e_law_debts {w0 : W} {S : Sto} : F_law_debts [w0] S = (evSs G_law_debts B_law_debts [some w0, none] S).out := rfl
/-! _law_full -/
abbrev s_law_full : Stmt := topS 32
def N_law_full : List Str := ["count", "form", "offices", "k"]
def B_law_full : List Sx := [.asg (.nm 2) (.tup [(.str "a"), (.str "b"), (.str "c"), (.str "d"), (.str "e"), (.str "f"), (.str "g"), (.str "h")]), .ret (.tup [(.loc 2), (.blt .tupT (.comp false (.tup [(.idx (.loc 2) (.bin .fdv (.loc 3) (.int 4))), (.idx (.loc 2) (.bin .add (.bin .fdv (.loc 3) (.int 4)) (.int 1))), (.loc 1)]) (.nm 3) .rng1 [(.loc 0)] [] [("k", 3)]) [])])]
noncomputable def G_law_full : GV := ⟨[], [], ["tuple", "range"], false⟩
noncomputable def F_law_full : List W → Sto → Rs W := runV G_law_full 4 B_law_full
theorem e_law_full {w0 w1 : W} {S : Sto} : F_law_full [w0, w1] S = (evSs G_law_full B_law_full [some w0, some w1, none, none] S).out := rfl
/-! _law_shapes_hold -/
abbrev s_law_shapes_hold : Stmt := topS 33
def N_law_shapes_hold : List Str := ["state", "network", "offices", "legs", "wrong"]
def B_law_shapes_hold : List Sx := [.asg (.tp [2, 3]) (.loc 1), .asg (.nm 4) (.lst false [.non, (.str "ab"), (.tup []), (.tup [(.loc 2)]), (.bin .add (.loc 1) (.tup [(.int 1)])), (.tup [(.mth .join (.str "+") (.loc 2) []), (.loc 3)]), (.tup [(.loc 2), .non]), (.bl true)]), .asg (.nm 4) (.bin .add (.loc 4) (.lst false [(.tup [(.str "ab"), (.loc 3)]), (.tup [(.loc 2), (.str "ab")]), (.tup [(.int 3), (.tup [])]), (.tup [.non, .non]), (.int 7)])), .ret (.cmp .eq (.call 0 (.idx (.loc 4) (.call 1 (.loc 0) [(.blt .len (.loc 4) [])])) []) (.str "form"))]
noncomputable def G_law_shapes_hold : GV := ⟨[("network_fault", 1, Fnetwork_fault), ("_law_draw", 2, F_law_draw)], [], ["len"], false⟩
noncomputable def F_law_shapes_hold : List W → Sto → Rs W := runV G_law_shapes_hold 5 B_law_shapes_hold
theorem e_law_shapes_hold {w0 w1 : W} {S : Sto} : F_law_shapes_hold [w0, w1] S = (evSs G_law_shapes_hold B_law_shapes_hold [some w0, some w1, none, none, none] S).out := rfl
/-! law -/
abbrev slaw : Stmt := topS 34
def Nlaw : List Str := ["script", "state", "network", "offices", "legs", "row", "leg", "longer", "at", "spoiled", "debt", "owing", "back", "count", "many"]
def Blaw : List Sx := [.asg (.nm 1) (.call 0 (.loc 0) []), .asg (.nm 2) (.call 1 (.loc 1) [(.int 8), (.int 14)]), .ifs (.bol false [(.cmp .isnot (.call 2 (.loc 2) []) .non), (.nt (.call 3 (.loc 1) [(.loc 2)]))])
    [.ret (.bl false)]
    [], .asg (.tp [3, 4]) (.loc 2), .fors (.nm 5) .seq [(.lst false [(.loc 4), (.tup [(.int 3)]), (.tup [(.tup [(.idx (.loc 3) (.int 0)), (.idx (.loc 3) (.int 0)), (.tup [(.tup [(.neg (.int 1))]), (.tup [(.tup [(.int 0), (.int 0)])])])])])])]
    [.ifs (.cmp .ne (.call 2 (.tup [(.call 4 (.loc 1) [(.loc 2)]), (.loc 5)]) []) (.str "offices"))
    [.ret (.bl false)]
    []], .asg (.nm 6) (.tup [(.idx (.loc 3) (.int 0)), (.idx (.loc 3) (.int 1)), (.tup [(.tup []), (.tup [(.tup [(.int 1), (.int 0)])])])]), .asg (.nm 7) (.tup [(.loc 3), (.bin .add (.tup [(.loc 6)]) (.loc 4))]), .asg (.nm 8) (.call 5 (.loc 1) [(.blt .len (.idx (.loc 7) (.int 1)) [])]), .asg (.nm 9) (.call 6 (.loc 7) [(.loc 8), (.call 7 (.loc 1) [(.loc 2)])]), .ifs (.cmp .ne (.call 2 (.loc 9) []) (.str "legs"))
    [.ret (.bl false)]
    [], .asg (.nm 10) (.call 5 (.loc 1) [(.blt .len (.idx (.loc 7) (.int 1)) [])]), .asg (.nm 11) (.call 6 (.loc 7) [(.loc 10), (.bin .add (.sli (.idx (.idx (.loc 7) (.int 1)) (.loc 10)) [] [(.int 2)]) (.tup [(.call 8 (.loc 1) [])]))]), .ifs (.cmp .ne (.call 2 (.loc 11) []) (.str "values"))
    [.ret (.bl false)]
    [], .ifs (.bol true [(.cmp .ne (.loc 10) (.loc 8)), (.cmp .ne (.call 2 (.call 6 (.loc 11) [(.loc 8), (.idx (.idx (.loc 9) (.int 1)) (.loc 8))]) []) (.str "legs"))])
    [.ret (.bl false)]
    [], .asg (.nm 12) (.tup [(.idx (.loc 3) (.int 1)), (.idx (.loc 3) (.int 0)), (.idx (.loc 6) (.int 2))]), .ifs (.bol false [(.cmp .ne (.call 2 (.tup [(.loc 3), (.tup [(.loc 12), (.loc 6)])]) []) (.str "legs")), (.cmp .isnot (.call 2 (.tup [(.loc 3), (.tup [(.loc 6), (.loc 6), (.loc 12)])]) []) .non)])
    [.ret (.bl false)]
    [], .asg (.nm 13) (.bin .add (.int 29) (.call 5 (.loc 1) [(.int 3)])), .ifs (.bol false [(.cmp .isnot (.call 2 (.call 9 (.blt .min2 (.loc 13) [(.int 28)]) [(.idx (.loc 6) (.int 2))]) []) .non), (.cmp .isnot (.call 2 (.tup [(.sli (.loc 3) [] [(.int 1)]), (.tup [])]) []) .non)])
    [.ret (.bl false)]
    [], .asg (.nm 14) (.tup [(.loc 3), (.bin .mul (.tup [(.loc 6)]) (.loc 13))]), .ret (.bol true [(.cmp .eq (.call 2 (.loc 14) []) (.idx (.lst false [.non, (.str "legs")]) (.blt .int (.cmp .gt (.loc 13) (.int 30)) []))), (.cmp .is (.call 2 (.loc 2) []) .non)])]
noncomputable def Glaw : GV := ⟨[("_law_state", 1, F_law_state), ("_law_network", 3, F_law_network), ("network_fault", 1, Fnetwork_fault), ("_law_shapes_hold", 2, F_law_shapes_hold), ("_law_wrong_offices", 2, F_law_wrong_offices), ("_law_draw", 2, F_law_draw), ("_law_with_leg", 3, F_law_with_leg), ("_law_wrong_leg", 2, F_law_wrong_leg), ("_law_debts", 1, F_law_debts), ("_law_full", 2, F_law_full)], [], ["len", "min", "int"], false⟩
noncomputable def Flaw : List W → Sto → Rs W := runV Glaw 15 Blaw
theorem elaw {w0 : W} {S : Sto} : Flaw [w0] S = (evSs Glaw Blaw [some w0, none, none, none, none, none, none, none, none, none, none, none, none, none, none] S).out := rfl
end K82

/-! k82: small functions on any plain value -/
namespace K82
open PySem PySem.Spec PyProof.Rows L2 Z
theorem v_is_integer {S : Sto} {d : D} (h : pln d = true) : Fis_integer [.v d] S = .ok (.v (.bl (Z.isInt d))) S := by
  rw [eis_integer]
  unfold Bis_integer Gis_integer
  cases d <;> first | (simp [pln] at h; done) | simp [isTy, Z.isInt, asL]
def lowS (x : Str) : Bool := decide (1 ≤ x.length) && decide (x.length ≤ 12) && rngS 97 122 x
/-- a name -/
def nmD : D → Bool | .str x => lowS x | _ => false
theorem v_is_name_str {S : Sto} {x : Str} (hl : x.length ≤ sizeLine) : Fis_name [.v (.str x)] S = .ok (.v (.bl (lowS x))) S := by
  rw [eis_name]
  unfold Bis_name Gis_name lowS
  have e1 : lenA M00 (.str x) = some (.int x.length) := if_pos hl
  by_cases h1 : 1 ≤ x.length
  · by_cases h2 : x.length ≤ 12
    · have h1' : (1 : Int) ≤ x.length := by omega
      have h2' : (x.length : Int) ≤ 12 := by omega
      simp [h1', h2', COp.vo, isTy, Bt.wo, e1, itW, itmW, itemsA, hl, h1, h2]
      rw [all_chars 1 x c_a c_z (fun d => rfl)]
      simp [Bt.wo]
    · have h1' : (1 : Int) ≤ x.length := by omega
      have h2' : ¬ (x.length : Int) ≤ 12 := by omega
      simp [h1', h2', COp.vo, isTy, Bt.wo, e1, h2]
  · have h1' : ¬ (1 : Int) ≤ x.length := by omega
    simp [h1', COp.vo, isTy, Bt.wo, e1, h1]
/-- texts that are not too long -/
def szD : D → Bool | .str x => decide (x.length ≤ sizeLine) | _ => true
theorem v_is_name {S : Sto} {d : D} (h : pln d = true) (hs : szD d = true) : Fis_name [.v d] S = .ok (.v (.bl (nmD d))) S := by
  cases d with
  | str x => exact v_is_name_str (of_decide_eq_true hs)
  | ref a => simp [pln] at h
  | dK a b => rw [eis_name]; unfold Bis_name Gis_name nmD; first | (simp [pln] at h; done) | simp [isTy, asL]
  | dT a b => rw [eis_name]; unfold Bis_name Gis_name nmD; first | (simp [pln] at h; done) | simp [isTy, asL]
  | _ => rw [eis_name]; unfold Bis_name Gis_name nmD; first | (simp [pln] at h; done) | simp [isTy, asL]
def bndD (d : D) : Bool := Z.isNon d || Z.isInt d
theorem v_is_bound {S : Sto} {d : D} (h : pln d = true) : Fis_bound [.v d] S = .ok (.v (.bl (bndD d))) S := by
  rw [eis_bound]
  unfold Bis_bound Gis_bound bndD
  have hi := v_is_integer (S := S) h
  cases d <;> first | (simp [pln] at h; done) | (simp [callV, Z.isNon, Z.isInt]; done) | simp [callV, hi, Z.isNon, Z.isInt]
/-- a pair of a tail -/
def prB : D → Bool
  | .tp _ [v, s] => if Z.isNon v = true then (match s with | .int i => decide (i = 0) | _ => false) else Z.isInt v && Z.isInt s
  | _ => false
end K82

/-! k82: draws, names -/
namespace K82
open PySem PySem.Spec PyProof.Rows L2 Z
section
variable {J : Sto} {a b c d e x : D}
theorem q0 : ixW (some (.lst [a, b, c, d, e]) :: J) (.r 0) (.v (.int 0)) = some (.v a) := rfl
theorem q1 : ixW (some (.lst [a, b, c, d, e]) :: J) (.r 0) (.v (.int 1)) = some (.v b) := rfl
theorem q2 : ixW (some (.lst [a, b, c, d, e]) :: J) (.r 0) (.v (.int 2)) = some (.v c) := rfl
theorem q3 : ixW (some (.lst [a, b, c, d, e]) :: J) (.r 0) (.v (.int 3)) = some (.v d) := rfl
theorem q4 : ixW (some (.lst [a, b, c, d, e]) :: J) (.r 0) (.v (.int 4)) = some (.v e) := rfl
theorem u1 : putW (some (.lst [a, b, c, d, e]) :: J) (.r 0) (.v (.int 1)) (.v x) = some (some (.lst [a, x, c, d, e]) :: J) := rfl
theorem u2 : putW (some (.lst [a, b, c, d, e]) :: J) (.r 0) (.v (.int 2)) (.v x) = some (some (.lst [a, b, x, d, e]) :: J) := rfl
theorem u3 : putW (some (.lst [a, b, c, d, e]) :: J) (.r 0) (.v (.int 3)) (.v x) = some (some (.lst [a, b, c, x, e]) :: J) := rfl
theorem u4 : putW (some (.lst [a, b, c, d, e]) :: J) (.r 0) (.v (.int 4)) (.v x) = some (some (.lst [a, b, c, d, x]) :: J) := rfl
end
theorem mulOk_r {i j : Int} (h : Builtin.Int.intBits j ≤ 64) : mulOk i j = true := by
  unfold mulOk
  have : decide (Builtin.Int.intBits j > shortFactorBits) = false := decide_eq_false (by unfold shortFactorBits; omega)
  rw [this]; simp
theorem mo1 {i : Int} : mulOk i 48271 = true := mulOk_r (by decide +kernel)
theorem mo2 {i : Int} : mulOk i 69621 = true := mulOk_r (by decide +kernel)
theorem mo3 {i : Int} : mulOk i 31 = true := mulOk_r (by decide +kernel)
theorem mo4 {m : Int} (h0 : 0 ≤ m) (h : m < 2147483647) : mulOk m m = true := mulOk_r (PySem.intBits_le_iff.mpr (by omega))
theorem dr2 {a : D} {k v c lim : Int} {b : Bool} {o : Option W} {J : Sto} (hv : 0 ≤ v) (h1 : 1 ≤ lim) (h2 : lim < 1073741824) : ∃ r v' c', 0 ≤ r ∧ r < lim ∧ 0 ≤ v' ∧
    evSs G_law_draw (B_law_draw.drop 1) [some (.r 0), some (.v (.int lim)), o, none, none] (some (.lst [a, .int k, .int v, .int c, .bl b]) :: J) = .ok (.rt (.v (.int r))) (some (.lst [a, .int k, .int v', .int c', .bl b]) :: J) := by
  have hl0 : lim ≠ 0 := by omega
  have hl : lim.natAbs < 1073741824 := by omega
  unfold B_law_draw G_law_draw
  cases b with
  | true =>
    by_cases hz : v.fdiv lim = 0
    · refine ⟨v.fmod lim, v.fdiv lim, 0, Int.fmod_nonneg_of_pos v (by omega), Int.fmod_lt_of_pos v (by omega), by omega, ?_⟩
      simp [q0, q1, q2, q3, q4, u1, u2, u3, u4, vmod, vfdv, hl0, hl, hz]
    · refine ⟨v.fmod lim, v.fdiv lim, c - 1, Int.fmod_nonneg_of_pos v (by omega), Int.fmod_lt_of_pos v (by omega), Int.fdiv_nonneg hv (by omega), ?_⟩
      simp [q0, q1, q2, q3, q4, u1, u2, u3, u4, vmod, vfdv, hl0, hl, hz]
  | false =>
    have m1 := Int.fmod_nonneg_of_pos (v * 48271 + (c - 1) * 69621 + 7) (show (0 : Int) < 2147483647 by omega)
    have m2 := Int.fmod_lt_of_pos (v * 48271 + (c - 1) * 69621 + 7) (show (0 : Int) < 2147483647 by omega)
    have m3 := mo4 m1 m2
    generalize hm : (v * 48271 + (c - 1) * 69621 + 7).fmod 2147483647 = m at m1 m2 m3
    refine ⟨((m * m + v * 31 + (c - 1)).fmod 1000003).fmod lim, v, c - 1, Int.fmod_nonneg_of_pos _ (by omega), Int.fmod_lt_of_pos _ (by omega), hv, ?_⟩
    simp [q0, q1, q2, q3, q4, u1, u2, u3, u4, vmod, vmul, hl0, mo1, mo2, mo3, hm, m3]
def sx1 : Sx := .ifs (.cmp .eq (.idx (.loc 0) (.int 3)) (.int 0))
    [.ifs (.cmp .ge (.idx (.loc 0) (.int 1)) (.blt .len (.idx (.loc 0) (.int 0)) []))
    [.ret (.int 0)]
    [], .asg (.nm 2) (.idx (.idx (.loc 0) (.int 0)) (.idx (.loc 0) (.int 1))), .ifs (.cmp .lt (.loc 2) (.int 0))
    [.asg (.nm 2) (.bin .sub (.neg (.int 1)) (.loc 2))]
    [], .sput (.loc 0) (.int 1) (.bin .add (.idx (.loc 0) (.int 1)) (.int 1)), .sput (.loc 0) (.int 2) (.loc 2), .sput (.loc 0) (.int 4) (.cmp .ge (.loc 2) (.bin .pow (.int 10) (.int 18))), .sput (.loc 0) (.int 3) (.int 6), .ifs (.idx (.loc 0) (.int 4))
    [.sput (.loc 0) (.int 3) (.int 60)]
    []]
    []
/-- the law's state -/
structure Stt where
  ns : List Int
  k : Nat
  v : Int
  c : Int
  b : Bool
  hv : 0 ≤ v
def stL (s : Stt) : List D := [.lst (s.ns.map D.int), .int s.k, .int s.v, .int s.c, .bl s.b]
def SS (s : Stt) (J : Sto) : Sto := some (.lst (stL s)) :: J
theorem v_draw (s : Stt) (J : Sto) {lim : Int} (h1 : 1 ≤ lim) (h2 : lim < 1073741824) : ∃ (r : Int) (s' : Stt), 0 ≤ r ∧ r < lim ∧ F_law_draw [.r 0, .v (.int lim)] (SS s J) = .ok (.v (.int r)) (SS s' J) := by
  obtain ⟨ns, k, v, c, b, hv⟩ := s
  have two : ∀ (s : Sx) (r : List Sx) (en : WEn) (S : Sto), evSs G_law_draw (s :: r) en S = (evS G_law_draw s en S).bind fun o S1 => match o with | .nx e => evSs G_law_draw r e S1 | o => .ok o S1 := fun _ _ _ _ => rfl
  have hB : B_law_draw = sx1 :: B_law_draw.drop 1 := rfl
  rw [e_law_draw]
  have go : ∀ (k' : Nat) (v' c' : Int) (b' : Bool) (o : Option W), 0 ≤ v' → evS G_law_draw sx1 [some (.r 0), some (.v (.int lim)), none, none, none] (SS ⟨ns, k, v, c, b, hv⟩ J) = .ok (.nx [some (.r 0), some (.v (.int lim)), o, none, none]) (some (.lst [.lst (ns.map D.int), .int k', .int v', .int c', .bl b']) :: J) → ∃ (r : Int) (s' : Stt), 0 ≤ r ∧ r < lim ∧ (evSs G_law_draw B_law_draw [some (.r 0), some (.v (.int lim)), none, none, none] (SS ⟨ns, k, v, c, b, hv⟩ J)).out = .ok (.v (.int r)) (SS s' J) := by
    intro k' v' c' b' o hv' h
    obtain ⟨r, v2, c2, r1, r2, r3, r4⟩ := dr2 (a := .lst (ns.map D.int)) (k := k') (v := v') (c := c') (b := b') (o := o) (J := J) hv' h1 h2
    refine ⟨r, ⟨ns, k', v2, c2, b', r3⟩, r1, r2, ?_⟩
    rw [hB, two, h]
    simp only [Rs.bind_ok, r4]
    rfl
  by_cases hc : c = 0
  · subst hc
    by_cases hk : k < ns.length
    · have hk' : ¬ ((ns.length : Int) ≤ k) := by omega
      have hx : ∀ {S : Sto}, ixW S (.v (.lst (ns.map D.int))) (.v (.int (k : Int))) = some (.v (.int ns[k])) := fun {S} => ix_lst (by rw [List.getElem?_map, List.getElem?_eq_getElem hk]; rfl)
      generalize ns[k] = z at hx
      have e18 : vpow (.int 10) (.int 18) = some (.int 1000000000000000000) := by simp [vpow]
      have hl : ((ns.map D.int).length : Int) = ns.length := by rw [List.length_map]
      have ek : ((k : Int) + 1) = ((k + 1 : Nat) : Int) := by omega
      by_cases hz : z < 0
      · have hv' : 0 ≤ -1 - z := by omega
        by_cases hb : (1000000000000000000 : Int) ≤ -1 - z
        · refine go (k + 1) (-1 - z) 60 true (some (.v (.int (-1 - z)))) hv' ?_
          unfold sx1 G_law_draw SS stL
          simp [q0, q1, q2, q3, q4, u1, u2, u3, u4, hk', hx, hl, hz, vneg, e18, hb]
        · refine go (k + 1) (-1 - z) 6 false (some (.v (.int (-1 - z)))) hv' ?_
          unfold sx1 G_law_draw SS stL
          simp [q0, q1, q2, q3, q4, u1, u2, u3, u4, hk', hx, hl, hz, vneg, e18, hb]
      · have hv' : 0 ≤ z := by omega
        by_cases hb : (1000000000000000000 : Int) ≤ z
        · refine go (k + 1) z 60 true (some (.v (.int z))) hv' ?_
          unfold sx1 G_law_draw SS stL
          simp [q0, q1, q2, q3, q4, u1, u2, u3, u4, hk', hx, hl, hz, vneg, e18, hb]
        · refine go (k + 1) z 6 false (some (.v (.int z))) hv' ?_
          unfold sx1 G_law_draw SS stL
          simp [q0, q1, q2, q3, q4, u1, u2, u3, u4, hk', hx, hl, hz, vneg, e18, hb]
    · have hk' : ((ns.length : Int) ≤ k) := by omega
      refine ⟨0, ⟨ns, k, v, 0, b, hv⟩, by omega, by omega, ?_⟩
      unfold B_law_draw G_law_draw SS stL
      simp [q0, q1, q2, q3, q4, hk']
  · refine go k v c b none hv ?_
    unfold sx1 G_law_draw SS stL
    simp [q3, hc]
theorem mulOk_l {i j : Int} (h : Builtin.Int.intBits i ≤ 64) : mulOk i j = true := by
  unfold mulOk
  have : decide (Builtin.Int.intBits i > shortFactorBits) = false := decide_eq_false (by unfold shortFactorBits; omega)
  rw [this]; simp
/-- a comprehension with draws -/
theorem comp_dr {tg : Tg} {te : WF W} {G : GV} {en : WEn} {J : Sto} {P : D → Prop} : ∀ (items : List D) (s : Stt), (∀ x ∈ items, ∃ e1, bindV tg (.v x) en = some e1 ∧ ∀ s, ∃ d s', P d ∧ te e1 (SS s J) = .ok (.v d) (SS s' J)) →
    ∃ ds s', (∀ d ∈ ds, P d) ∧ ds.length = items.length ∧ compV tg (evC G []) te en items (SS s J) = .ok ds (SS s' J)
  | [], s, _ => ⟨[], s, by simp, rfl, rfl⟩
  | x :: r, s, h => by
    obtain ⟨e1, b1, h1⟩ := h x (by simp)
    obtain ⟨d, s1, p1, t1⟩ := h1 s
    obtain ⟨ds, s2, p2, l2, t2⟩ := comp_dr (te := te) (G := G) (J := J) (P := P) r s1 fun z hz => h z (List.mem_cons_of_mem _ hz)
    refine ⟨d :: ds, s2, ?_, by rw [List.length_cons, l2, List.length_cons], ?_⟩
    · intro z hz
      rcases List.mem_cons.mp hz with e | hz
      · rw [e]; exact p1
      · exact p2 z hz
    · unfold compV
      rw [b1]
      simp only [evC_1, Rs.bind_ok, t1, t2]
theorem pull {α : Type} {g : α → D} {Q : α → Prop} : ∀ ds : List D, (∀ d ∈ ds, ∃ o, Q o ∧ d = g o) → ∃ os : List α, os.map g = ds ∧ ∀ o ∈ os, Q o
  | [], _ => ⟨[], rfl, by simp⟩
  | d :: r, h => by
    obtain ⟨o, q, e⟩ := h d (by simp)
    obtain ⟨os, e2, q2⟩ := pull r fun z hz => h z (List.mem_cons_of_mem _ hz)
    refine ⟨o :: os, by rw [List.map_cons, e2, e], ?_⟩
    intro z hz
    rcases List.mem_cons.mp hz with e | hz
    · rw [e]; exact q
    · exact q2 z hz
theorem it_rng {j : Int} (h0 : 0 ≤ j) (h : j ≤ 16777216) : itW .rng1 [.v (.int j)] = some (rngD 0 j.toNat) := if_pos ⟨by omega, h⟩
theorem rng_len (i : Int) (n : Nat) : (rngD i n).length = n := rngD_len i n
theorem getS_SS {s : Stt} {J : Sto} {o : Option VO} : getS (SS s (J ++ [o])) (J.length + 1) = o := by
  show getS (some (.lst (stL s)) :: (J ++ [o])) (J.length + 1) = o
  unfold getS
  simp
theorem setS_SS {s : Stt} {J : Sto} {o o' : Option VO} : setS (SS s (J ++ [o])) (J.length + 1) o' = SS s (J ++ [o']) := by
  show (some (.lst (stL s)) :: (J ++ [o])).set (J.length + 1) o' = _
  simp [SS]
theorem vadd_str {a b : Str} (h : a.length + b.length ≤ sizeLine) : vadd (.str a) (.str b) = some (.str (a ++ b)) := if_pos h
theorem len_app (x y : Str) : (x ++ y).length = x.length + y.length := by
  rw [TL.len_tl, TL.len_tl, TL.len_tl, TL.tl_append, List.length_append]
theorem sl1000 : (1000 : Nat) + 2 ≤ sizeLine := by decide
def abc : Str := "abcdefghijklmnopqrstuvwxyz"
theorem abc_tl : tl abc = List.range' 97 26 := by decide +kernel
theorem ix_abc {S : Sto} {k : Nat} (h : k < 26) : ixW S (.v (.str abc)) (.v (.int (k : Nat))) = some (.v (.str ⟨#[97 + k]⟩)) := by
  have hl : abc.length ≤ sizeLine := by decide +kernel
  have e : atI abc.cps.toList ((k : Nat) : Int) = some (97 + k) := by
    rw [show abc.cps.toList = List.range' 97 26 from abc_tl, atI_get (by rw [List.length_range']; exact h)]
    rw [List.getElem?_range' h]; simp
  unfold ixW
  simp only [plW_int, if_pos hl, e]
def azS (x : Str) : Prop := rngS 97 122 x = true
theorem az_app {x : Str} {k : Nat} (h : azS x) (hk : k < 26) : azS (x ++ ⟨#[97 + k]⟩) := by
  unfold azS rngS at *
  rw [show tl (x ++ ⟨#[97 + k]⟩) = tl x ++ tl (⟨#[97 + k]⟩ : Str) from TL.tl_append _ _, List.all_append, h, Bool.true_and]
  show (decide (97 ≤ 97 + k) && decide (97 + k ≤ 122) && true) = true
  rw [decide_eq_true (by omega), decide_eq_true (by omega)]; rfl
def bodyN : List Sx := [.asg (.nm 3) (.bin .add (.loc 3) (.idx (.loc 1) (.call 0 (.loc 0) [(.int 26)])))]
theorem loop_N {o2 : Option W} (J : Sto) : ∀ (items : List D) (s : Stt) (x : Str) (o4 : Option W), azS x → x.length + items.length ≤ 100 → ∃ (s' : Stt) (x' : Str) (o4' : Option W), azS x' ∧ x'.length = x.length + items.length ∧
    turnsV (.nm 4) (evSs G_law_name bodyN) items [some (.r 0), some (.v (.str abc)), o2, some (.v (.str x)), o4] (SS s J) = .ok (.nx [some (.r 0), some (.v (.str abc)), o2, some (.v (.str x')), o4']) (SS s' J)
  | [], s, x, o4, h, _ => ⟨s, x, o4, h, rfl, rfl⟩
  | y :: r, s, x, o4, h, hl => by
    rw [List.length_cons] at hl
    obtain ⟨q, s1, q1, q2, hq⟩ := v_draw s J (lim := 26) (by omega) (by omega)
    obtain ⟨k, rfl⟩ : ∃ k : Nat, q = k := ⟨q.toNat, by omega⟩
    have l1 : (⟨#[97 + k]⟩ : Str).length = 1 := rfl
    have s0 := sl1000
    have a : vadd (.str x) (.str ⟨#[97 + k]⟩) = some (.str (x ++ ⟨#[97 + k]⟩)) := vadd_str (by rw [l1]; omega)
    obtain ⟨s2, x', o4', z1, z2, z3⟩ := loop_N J (o2 := o2) r s1 (x ++ ⟨#[97 + k]⟩) (some (.v y)) (az_app h (by omega)) (by rw [len_app, l1]; omega)
    refine ⟨s2, x', o4', z1, by rw [z2, len_app, l1, List.length_cons]; omega, ?_⟩
    conv => lhs; unfold turnsV
    have b : evSs G_law_name bodyN [some (.r 0), some (.v (.str abc)), o2, some (.v (.str x)), some (.v y)] (SS s J) = .ok (.nx [some (.r 0), some (.v (.str abc)), o2, some (.v (.str (x ++ ⟨#[97 + k]⟩))), some (.v y)]) (SS s1 J) := by
      unfold bodyN G_law_name
      simp [callV, hq, ix_abc (show k < 26 by omega), a]
    simp only [bindV_nm, setV2_s, setV2_0, b, Rs.bind_ok, z3]
theorem ix2 {S : Sto} {x y : D} {q : Int} (h0 : 0 ≤ q) (h : q < 2) : ixW S (.v (.lst [x, y])) (.v (.int q)) = some (.v (if q = 0 then x else y)) := by
  by_cases e : q = 0
  · subst e; exact ix_lst (i := 0) rfl
  · have : q = 1 := by omega
    subst this; exact ix_lst (i := 1) rfl
theorem v_law_name (s : Stt) (J : Sto) : ∃ (x : Str) (s' : Stt), lowS x = true ∧ F_law_name [.r 0] (SS s J) = .ok (.v (.str x)) (SS s' J) := by
  rw [e_law_name]
  have hB : B_law_name = [.asg (.nm 1) (.str "abcdefghijklmnopqrstuvwxyz"), .asg (.nm 2) (.bin .add (.int 1) (.idx (.lst false [(.call 0 (.loc 0) [(.int 3)]), (.call 0 (.loc 0) [(.int 12)])]) (.call 0 (.loc 0) [(.int 2)]))), .asg (.nm 3) (.str ""), .fors (.nm 4) .rng1 [(.loc 2)] bodyN, .ret (.loc 3)] := rfl
  obtain ⟨a, s1, a1, a2, ha⟩ := v_draw s J (lim := 3) (by omega) (by omega)
  obtain ⟨b, s2, b1, b2, hb⟩ := v_draw s1 J (lim := 12) (by omega) (by omega)
  obtain ⟨c, s3, c1, c2, hc⟩ := v_draw s2 J (lim := 2) (by omega) (by omega)
  have key : ∃ n : Int, 0 ≤ n ∧ n < 12 ∧ ∀ S : Sto, ixW S (.v (.lst [.int a, .int b])) (.v (.int c)) = some (.v (.int n)) := by
    by_cases e : c = 0
    · exact ⟨a, by omega, by omega, fun S => by rw [ix2 c1 c2, if_pos e]⟩
    · exact ⟨b, by omega, by omega, fun S => by rw [ix2 c1 c2, if_neg e]⟩
  obtain ⟨n, n0, n1, hn⟩ := key
  obtain ⟨s4, x, o4', z1, z2, z3⟩ := loop_N J (o2 := some (.v (.int (1 + n)))) (rngD 0 (1 + n).toNat) s3 "" none (by show rngS 97 122 "" = true; decide +kernel) (by rw [rng_len, show ("" : Str).length = 0 by decide +kernel]; omega)
  rw [rng_len, show ("" : Str).length = 0 by decide +kernel] at z2
  refine ⟨x, s4, ?_, ?_⟩
  · unfold lowS
    rw [decide_eq_true (by omega), decide_eq_true (by omega), show rngS 97 122 x = true from z1]; rfl
  · have cf : ∀ r, callV G_law_name 0 r = r.bind fun ws S => if ws.length = 2 then F_law_draw ws S else .no := fun r => by unfold G_law_name; rfl
    have z3' : turnsV (.nm 4) (evSs G_law_name bodyN) (rngD 0 (1 + n).toNat) [some (.r 0), some (.v (.str "abcdefghijklmnopqrstuvwxyz")), some (.v (.int (1 + n))), some (.v (.str "")), none] (SS s3 J) = _ := z3
    rw [hB]
    simp only [evSs_2, evSs_1, evS_1, evS_9, evS_6, evE_5, evE_7, evE_4, evE_16, evE_15, evE_19, evE_1, evL_1, evL_2, getV_0, getV_s, lft_some, Rs.bind_ok, cf, List.length_cons, List.length_nil, Nat.zero_add, Nat.reduceAdd, if_true, ha, hb, hc, plnW_cons, plnW_nil, sl_2, hn, rd2_some' rdW_i rdW_i, bo_add, vadd_int, lfv_some, bindV_nm, setV2_0, setV2_s, it_rng (show 0 ≤ 1 + n by omega) (show 1 + n ≤ 16777216 by omega), z3', out_rt]
end K82

/-! k82: forms of any kind -/
namespace K82
open PySem PySem.Spec PyProof.Rows L2 Z
/-- plain members -/
def pl1 : D → Bool | .tp _ ds => ds.all pln | d => pln d
theorem v_is_pair {S : Sto} {d : D} (h : pln d = true) (h1 : pl1 d = true) : F_is_pair [.v d] S = .ok (.v (.bl (prB d))) S := by
  rw [e_is_pair]
  unfold B_is_pair G_is_pair
  cases d with
  | tp k ds =>
    match ds, h1 with
    | [], _ => simp [isTy, prB]
    | [a], _ => simp [isTy, prB]
    | [v, s], h1 =>
      have hv : pln v = true := by unfold pl1 at h1; simp at h1; exact h1.1
      have hs : pln s = true := by unfold pl1 at h1; simp at h1; exact h1.2
      have iv := fun S => v_is_integer (S := S) hv
      have is_ := fun S => v_is_integer (S := S) hs
      cases v with
      | non =>
        cases s with
        | int i => simp [isTy, prB, callV, is_, Z.isNon, Z.isInt]
        | _ => first | (simp [pln] at hs; done) | simp [isTy, prB, callV, is_, Z.isNon, Z.isInt]
      | int i =>
        cases hs2 : Z.isInt s <;> simp [isTy, prB, callV, iv, is_, Z.isNon, Z.isInt, hs2]
      | _ => first | (simp [pln] at hv; done) | simp [isTy, prB, callV, iv, is_, Z.isNon, Z.isInt]
    | a :: b :: c :: r, _ =>
      have : ¬ ((r.length : Int) + 1 + 1 + 1 = 2) := by omega
      simp [isTy, prB, this]
  | _ => first | (simp [pln] at h; done) | simp [isTy, prB, asL]
def isTp : D → Bool | .tp _ _ => true | _ => false
/-- a form of any kind: its members plain -/
def fpl : D → Bool
  | .tp _ [h, t] => pln h && pln t && (match h with | .tp _ hs => hs.all pln | _ => true) && (match t with | .tp _ ts => ts.all fun z => pln z && pl1 z | _ => true)
  | d => pln d
def ff2 (hs ts : List D) : D := if hs.length ≤ 4000 ∧ hs.all bndD = true then (if 1 ≤ ts.length ∧ ts.length ≤ 1000 ∧ ts.all prB = true then .non else .str "tail") else .str "head"
def ffD : D → D
  | .tp _ [.tp _ hs, .tp _ ts] => ff2 hs ts
  | _ => .str "form"
theorem v_ff2 {S : Sto} {k1 k2 k3 : TK} {hs ts : List D} (hh : hs.all pln = true) (ht : ts.all (fun z => pln z && pl1 z) = true) : Fform_fault [.v (.tp k1 [.tp k2 hs, .tp k3 ts])] S = .ok (.v (ff2 hs ts)) S := by
  rw [eform_fault]
  unfold Bform_fault Gform_fault ff2
  have ah : allA M00 (.lst (hs.map fun d => D.bl (bndD d))) = some (.bl (hs.all bndD)) := allA_map _ _
  have at_ : allA M00 (.lst (ts.map fun d => D.bl (prB d))) = some (.bl (ts.all prB)) := allA_map _ _
  generalize hA : hs.all bndD = A at ah
  generalize hB : ts.all prB = B at at_
  simp [isTy, cstV]
  by_cases h1 : hs.length ≤ 4000
  · have h1' : ¬ (4000 : Int) < hs.length := by omega
    simp [h1, h1']
    rw [compV_map (fun d => .bl (bndD d)) hs (fun x hx => by
      refine ⟨_, rfl, rfl, ?_⟩
      simp [callV, v_is_bound (List.all_eq_true.mp hh x hx)])]
    simp only [calm_ok, compR_ok, Rs.bind_ok, rd1_some' rdW_lst, ah, lfv_some]
    cases A with
    | false => simp
    | true =>
      by_cases h2 : 1 ≤ ts.length
      · by_cases h3 : ts.length ≤ 1000
        · have h2' : (1 : Int) ≤ ts.length := by omega
          have h3' : (ts.length : Int) ≤ 1000 := by omega
          simp [h2, h3, h2', h3']
          rw [compV_map (fun d => .bl (prB d)) ts (fun x hx => by
            refine ⟨_, rfl, rfl, ?_⟩
            have := List.all_eq_true.mp ht x hx
            rw [Bool.and_eq_true] at this
            simp [callV, v_is_pair this.1 this.2])]
          simp only [calm_ok, compR_ok, Rs.bind_ok, rd1_some' rdW_lst, at_, lfv_some]
          cases B <;> simp
        · have h2' : (1 : Int) ≤ ts.length := by omega
          have h3' : ¬ (ts.length : Int) ≤ 1000 := by omega
          simp [h3, h2', h3']
      · have h2' : ¬ (1 : Int) ≤ ts.length := by omega
        simp [h2, h2']
  · have h1' : (4000 : Int) < hs.length := by omega
    simp [h1, h1']
end K82

namespace K82
open PySem PySem.Spec PyProof.Rows L2 Z
theorem v_form_fault {S : Sto} {d : D} (h : fpl d = true) : Fform_fault [.v d] S = .ok (.v (ffD d)) S := by
  cases d with
  | tp k ds =>
    match ds, h with
    | [], _ => rw [eform_fault]; unfold Bform_fault Gform_fault ffD; simp [isTy]
    | [a], _ => rw [eform_fault]; unfold Bform_fault Gform_fault ffD; simp [isTy]
    | [a, t], h =>
      unfold fpl at h
      simp only [Bool.and_eq_true] at h
      obtain ⟨⟨⟨ha, ht⟩, h1⟩, h2⟩ := h
      cases a with
      | tp k2 hs =>
        cases t with
        | tp k3 ts => exact v_ff2 h1 h2
        | _ => first | (simp [pln] at ht; done) | (rw [eform_fault]; unfold Bform_fault Gform_fault ffD; simp [isTy, asL])
      | _ => first | (simp [pln] at ha; done) | (rw [eform_fault]; unfold Bform_fault Gform_fault ffD; simp [isTy, asL])
    | a :: b :: c :: r, _ =>
      have : ¬ ((r.length : Int) + 1 + 1 + 1 = 2) := by omega
      rw [eform_fault]; unfold Bform_fault Gform_fault ffD; simp [isTy, this]
  | _ => first | (simp [fpl, pln] at h; done) | (rw [eform_fault]; unfold Bform_fault Gform_fault ffD; simp [isTy, asL])
/-! rows -/
def rowB (n : Int) : D → Bool | .tp _ ds => decide ((ds.length : Int) = n) | _ => false
theorem v_is_row {S : Sto} {d : D} {n : Int} (h : pln d = true) : Fis_row [.v d, .v (.int n)] S = .ok (.v (.bl (rowB n d))) S := by
  rw [eis_row]
  unfold Bis_row Gis_row
  cases d <;> first | (simp [pln] at h; done) | simp [isTy, asL, rowB]
end K82

namespace K82
open PySem PySem.Spec PyProof.Rows L2 Z
theorem vlt_str {x y : Str} : vlt (.str x) (.str y) = some (.bl (ltD (.str x) (.str y))) := rfl
theorem v_is_ascending {S : Sto} {k : TK} {ws : List Str} (hl : ws.length ≤ 1000) : Fis_ascending [.v (.tp k (ws.map D.str))] S = .ok (.v (.bl (ascB (ws.map D.str)))) S := by
  rw [eis_ascending]
  unfold Bis_ascending Gis_ascending
  have ir : itW .rng1 [.v (.int ((ws.length : Int) - 1))] = some (rngD 0 (ws.length - 1)) := by
    have : ((ws.length : Int) - 1).toNat = ws.length - 1 := by omega
    rw [← this]
    exact if_pos ⟨by omega, by omega⟩
  simp [ir]
  rw [compV_map (fun d => match d with | .int i => .bl (match (ws.map D.str)[i.toNat]?, (ws.map D.str)[i.toNat + 1]? with | some x, some y => ltD x y | _, _ => false) | d => d) (rngD 0 (ws.length - 1)) (fun x hx => by
    obtain ⟨i, hi, rfl⟩ := rngD_mem hx
    refine ⟨_, rfl, rfl, ?_⟩
    have h1 : i < ws.length := by omega
    have h2 : i + 1 < ws.length := by omega
    have e0 : (0 : Int) + (i : Int) = ((i : Nat) : Int) := by omega
    have e1 : ∀ S, ixW S (.v (.tp k (ws.map D.str))) (.v (.int ((i : Nat) : Int))) = some (.v (.str ws[i])) := fun S => ix_tp (by rw [List.getElem?_map, List.getElem?_eq_getElem h1]; rfl)
    have e2 : ∀ S, ixW S (.v (.tp k (ws.map D.str))) (.v (.int ((i : Int) + 1))) = some (.v (.str ws[i + 1])) := fun S => ix_tp (i := i + 1) (by rw [List.getElem?_map, List.getElem?_eq_getElem h2]; rfl)
    have e3 : (ws.map D.str)[i]? = some (.str ws[i]) := by rw [List.getElem?_map, List.getElem?_eq_getElem h1]; rfl
    have e4 : (ws.map D.str)[i + 1]? = some (.str ws[i + 1]) := by rw [List.getElem?_map, List.getElem?_eq_getElem h2]; rfl
    rw [e0]
    simp only [setV2_s, setV2_0, evE_9, evE_16, evE_7, evE_4, evE_1, getV_0, getV_s, lft_some, Rs.bind_ok, e1, rd2_some' rdW_i rdW_i, bo_add, vadd_int, lfv_some, e2, co_lt, rd2_some' rdW_str rdW_str, vlt_str, Int.toNat_natCast, e3, e4])]
  have al : allA M00 (.lst ((rngD 0 (ws.length - 1)).map (fun d => match d with | .int i => D.bl (match (ws.map D.str)[i.toNat]?, (ws.map D.str)[i.toNat + 1]? with | some x, some y => ltD x y | _, _ => false) | d => d))) = some (.bl (ascB (ws.map D.str))) := by
    rw [rngD0, List.map_map, ← ascB_range, List.length_map]
    exact allA_map _ _
  simp only [calm_ok, compR_ok, Rs.bind_ok, rd1_some' rdW_lst, al, lfv_some, out_rt]
end K82

namespace K82
open PySem PySem.Spec PyProof.Rows L2 Z
theorem names_str : ∀ {ds : List D}, ds.all nmD = true → ∃ ws : List Str, ds = ws.map D.str
  | [], _ => ⟨[], rfl⟩
  | d :: r, h => by
    rw [List.all_cons, Bool.and_eq_true] at h
    obtain ⟨ws, e⟩ := names_str h.2
    cases d with
    | str x => exact ⟨x :: ws, by rw [e]; rfl⟩
    | _ => exact absurd h.1 (by simp [nmD])
def nmsB (lo hi : Int) (ds : List D) : Bool := decide (lo ≤ ds.length) && decide ((ds.length : Int) ≤ hi) && ds.all nmD && ascB ds
theorem v_is_names {S : Sto} {k : TK} {ds : List D} {lo hi : Int} (hp : ∀ d ∈ ds, pln d = true ∧ szD d = true) (hh : hi ≤ 1000) : Fis_names [.v (.tp k ds), .v (.int lo), .v (.int hi)] S = .ok (.v (.bl (nmsB lo hi ds))) S := by
  rw [eis_names]
  unfold Bis_names Gis_names nmsB
  have al : allA M00 (.lst (ds.map fun d => D.bl (nmD d))) = some (.bl (ds.all nmD)) := allA_map _ _
  have as : ds.all nmD = true → (ds.length : Int) ≤ hi → ∀ S, Fis_ascending [.v (.tp k ds)] S = .ok (.v (.bl (ascB ds))) S := fun h hl S => by
    obtain ⟨ws, e⟩ := names_str h
    subst e
    exact v_is_ascending (by rw [List.length_map] at hl; omega)
  generalize hA : ds.all nmD = A at al as
  by_cases h1 : lo ≤ ds.length
  · by_cases h2 : (ds.length : Int) ≤ hi
    · simp [isTy, h1, h2]
      rw [compV_map (fun d => .bl (nmD d)) ds (fun x hx => by
        refine ⟨_, rfl, rfl, ?_⟩
        simp [callV, v_is_name (hp x hx).1 (hp x hx).2])]
      simp only [calm_ok, compR_ok, Rs.bind_ok, rd1_some' rdW_lst, al, lfv_some]
      cases A with
      | false => simp
      | true => simp [callV, as rfl h2]
    · simp [isTy, h1, h2]
  · simp [isTy, h1]
end K82

namespace K82
open PySem PySem.Spec PyProof.Rows L2 Z
def negD : D → Bool | .int i => decide (i < 0) | _ => false
def neg2 : D → Bool | .tp _ [.int v, .int s] => decide (v < 0) || decide (s < 0) | _ => false
theorem prB_shape {d : D} (h : prB d = true) : ∃ k v s, d = .tp k [v, s] ∧ ((v = .non ∧ s = .int 0) ∨ ∃ i j, v = .int i ∧ s = .int j) := by
  cases d with
  | tp k ds =>
    match ds, h with
    | [], h => cases h
    | [a], h => cases h
    | [v, s], h =>
      refine ⟨k, v, s, rfl, ?_⟩
      unfold prB at h
      cases v with
      | non =>
        cases s with
        | int j =>
          have : j = 0 := by simpa [Z.isNon] using h
          exact .inl ⟨rfl, by rw [this]⟩
        | _ => simp [Z.isNon] at h
      | int i =>
        cases s with
        | int j => exact .inr ⟨i, j, rfl, rfl⟩
        | _ => simp [Z.isNon, Z.isInt] at h
      | _ => simp [Z.isNon, Z.isInt] at h
    | a :: b :: c :: r, h => cases h
  | _ => cases h
theorem any_map {α : Type} (f : α → Bool) : ∀ xs : List α, anyA M00 (.lst (xs.map fun x => D.bl (f x))) = some (.bl (xs.any f)) := by
  intro xs
  exact anyA_map _ _
theorem v_has_debts {S : Sto} {k1 k2 k3 : TK} {hs ts : List D} (hh : hs.all bndD = true) (ht : ts.all prB = true) : Fhas_debts [.v (.tp k1 [.tp k2 hs, .tp k3 ts])] S = .ok (.v (.bl (hs.any negD || ts.any neg2))) S := by
  have a1 := any_map negD hs
  have a2 := any_map neg2 ts
  have i0 : ∀ S, ixW S (.v (.tp k1 [.tp k2 hs, .tp k3 ts])) (.v (.int 0)) = some (.v (.tp k2 hs)) := fun S => ix_tp (i := 0) rfl
  have i1 : ∀ S, ixW S (.v (.tp k1 [.tp k2 hs, .tp k3 ts])) (.v (.int 1)) = some (.v (.tp k3 ts)) := fun S => ix_tp (i := 1) rfl
  rw [ehas_debts]
  unfold Bhas_debts Ghas_debts
  generalize hA : hs.any negD = A at a1
  generalize hB : ts.any neg2 = B at a2
  simp [i0]
  rw [compV_map (fun d => .bl (negD d)) hs (fun x hx => by
    refine ⟨_, rfl, rfl, ?_⟩
    have := List.all_eq_true.mp hh x hx
    cases x <;> first | (simp [bndD, Z.isNon, Z.isInt] at this; done) | simp [negD])]
  simp only [calm_ok, compR_ok, Rs.bind_ok, rd1_some' rdW_lst, a1, lfv_some]
  cases A with
  | true => simp
  | false =>
    simp [i1]
    rw [compV_map (fun d => .bl (neg2 d)) ts (fun x hx => by
      have h := List.all_eq_true.mp ht x hx
      obtain ⟨k, v, s, rfl, hv⟩ := prB_shape h
      rcases hv with ⟨rfl, rfl⟩ | ⟨i, j, rfl, rfl⟩
      · exact ⟨_, rfl, rfl, by simp [neg2]⟩
      · refine ⟨_, rfl, rfl, ?_⟩
        by_cases h1 : i < 0
        · simp [neg2, h1]
        · simp [neg2, h1])]
    simp only [calm_ok, compR_ok, Rs.bind_ok, rd1_some' rdW_lst, a2, lfv_some]
    simp
end K82

namespace K82
open PySem PySem.Spec PyProof.Rows L2 Z
theorem lay_pln {n : Nat} {d : D} (h : lay n d = true) : pln d = true := by
  cases d <;> first | rfl | (cases n <;> simp [lay] at h)
def inB (offs : List D) (a : D) : Bool := offs.any fun z => eqv z a
theorem in_ok {S : Sto} {k : TK} {offs : List D} {a : D} (ho : layL 59 offs = true) (ha : lay 59 a = true) : inW S (.v a) (.v (.tp k offs)) = some (inB offs a) := by
  have pa := lay_pln ha
  have e : plW (.v a) = some a := by cases a <;> first | rfl | (simp [pln] at pa)
  unfold inW
  rw [e]
  dsimp only
  rw [sqW_tp]
  exact if_pos (by unfold inOk; rw [ha, ho]; rfl)
theorem vne_ok {a b : D} (ha : lay 60 a = true) (hb : lay 60 b = true) : vne a b = some (.bl (!eqv a b)) := by
  unfold vne veqOk
  rw [if_pos (by rw [ha, hb]; simp)]
def legB (offs : List D) : D → Bool
  | .tp _ [a, b, f] => inB offs a && inB offs b && !eqv a b && Z.isNon (ffD f)
  | _ => false
theorem ffD_non {f : D} : (ffD f = .non) ↔ Z.isNon (ffD f) = true := by
  cases ffD f <;> simp [Z.isNon]
theorem v_is_leg3 {S : Sto} {k k2 : TK} {offs : List D} {a b f : D} (ho : layL 59 offs = true) (ha : lay 59 a = true) (hb : lay 59 b = true) (ha2 : lay 60 a = true) (hb2 : lay 60 b = true) (hf : fpl f = true) :
    F_is_leg [.v (.tp k offs), .v (.tp k2 [a, b, f])] S = .ok (.v (.bl (legB offs (.tp k2 [a, b, f])))) S := by
  have i0 : ∀ S, ixW S (.v (.tp k2 [a, b, f])) (.v (.int 0)) = some (.v a) := fun S => ix_tp (i := 0) rfl
  have i1 : ∀ S, ixW S (.v (.tp k2 [a, b, f])) (.v (.int 1)) = some (.v b) := fun S => ix_tp (i := 1) rfl
  have i2 : ∀ S, ixW S (.v (.tp k2 [a, b, f])) (.v (.int 2)) = some (.v f) := fun S => ix_tp (i := 2) rfl
  have n1 : ∀ S, inW S (.v a) (.v (.tp k offs)) = some (inB offs a) := fun S => in_ok ho ha
  have n2 : ∀ S, inW S (.v b) (.v (.tp k offs)) = some (inB offs b) := fun S => in_ok ho hb
  have ra : ∀ S, rdW S (.v a) = some a := fun S => rdW_pl (lay_pln ha)
  have rb : ∀ S, rdW S (.v b) = some b := fun S => rdW_pl (lay_pln hb)
  have nw : ∀ d : D, nonW (.v d) = Z.isNon d := fun d => by cases d <;> rfl
  have nn : Z.isNon D.non = true := rfl
  have rw3 : ∀ S, Fis_row [.v (.tp k2 [a, b, f]), .v (.int 3)] S = .ok (.v (.bl true)) S := fun S => by rw [v_is_row rfl]; rfl
  rw [e_is_leg]
  unfold B_is_leg G_is_leg legB
  cases hA : inB offs a with
  | false => simp [callV, rw3, i0, n1, hA]
  | true =>
    cases hB : inB offs b with
    | false => simp [callV, rw3, i0, i1, n1, n2, hA, hB]
    | true =>
      cases hE : eqv a b <;> simp [callV, rw3, i0, i1, i2, n1, n2, hA, hB, ra, rb, vne_ok ha2 hb2, hE, v_form_fault hf, nw, nn]
end K82

namespace K82
open PySem PySem.Spec PyProof.Rows L2 Z
/-- a value that may stand for a leg -/
structure Lgp (d : D) : Prop where
  p : pln d = true
  m : ∀ k a b f, d = .tp k [a, b, f] → lay 59 a = true ∧ lay 59 b = true ∧ lay 60 a = true ∧ lay 60 b = true ∧ fpl f = true
theorem v_is_leg {S : Sto} {k : TK} {offs : List D} {d : D} (ho : layL 59 offs = true) (h : Lgp d) : F_is_leg [.v (.tp k offs), .v d] S = .ok (.v (.bl (legB offs d))) S := by
  have no : ∀ d : D, pln d = true → rowB 3 d = false → F_is_leg [.v (.tp k offs), .v d] S = .ok (.v (.bl false)) S := by
    intro d hp hr
    have r : ∀ S, Fis_row [.v d, .v (.int 3)] S = .ok (.v (.bl false)) S := fun S => by rw [v_is_row hp, hr]
    rw [e_is_leg]
    unfold B_is_leg G_is_leg
    simp [callV, r]
  cases d with
  | tp k2 ds =>
    match ds, h with
    | [], h => exact no _ h.p rfl
    | [a], h => exact no _ h.p rfl
    | [a, b], h => exact no _ h.p rfl
    | [a, b, f], h =>
      obtain ⟨h1, h2, h3, h4, h5⟩ := h.m _ _ _ _ rfl
      exact v_is_leg3 ho h1 h2 h3 h4 h5
    | a :: b :: c :: e :: r, h =>
      refine no _ h.p ?_
      show decide ((((a :: b :: c :: e :: r).length : Nat) : Int) = 3) = false
      refine decide_eq_false ?_
      simp only [List.length_cons]
      omega
  | _ => exact no _ h.p rfl
end K82

namespace K82
open PySem PySem.Spec PyProof.Rows L2 Z
/-- not falling -/
def chB : List D → Bool
  | x :: y :: r => !ltD y x && chB (y :: r)
  | _ => true
theorem chB_range : ∀ ds : List D, ((List.range (ds.length - 1)).all fun i => match ds[i]?, ds[i + 1]? with | some x, some y => !ltD y x | _, _ => false) = chB ds
  | [] => rfl
  | [_] => rfl
  | x :: y :: r => by
    have ih := chB_range (y :: r)
    show ((List.range (r.length + 1)).all _) = _
    rw [List.range_succ_eq_map, List.all_cons, List.all_map]
    show (!ltD y x && _) = (!ltD y x && chB (y :: r))
    congr 1
end K82

namespace K82
open PySem PySem.Spec PyProof.Rows L2 Z
/-- what stands first in a leg -/
def ends2 : D → D | .tp .t ds => .tup (Z.cutD ds none (some 2)) | d => d
def legsB (offs ls : List D) : Bool := decide (ls.length ≤ 30) && ls.all (legB offs) && chB (ls.map ends2)
theorem v_le {x y : D} (h : vltOk x y = true) (hx : ∀ i, x ≠ .int i) : vle x y = some (.bl (!ltD y x)) := by
  unfold vle
  split
  · rename_i i j; exact absurd rfl (hx i)
  · exact if_pos h
theorem v_are_legs {S : Sto} {k k2 : TK} {offs ls : List D} (ho : layL 59 offs = true) (hl : ∀ d ∈ ls, Lgp d) (hp : ls.all (legB offs) = true → ∀ d ∈ ls, ∃ x y f, d = .tup [.str x, .str y, f]) :
    F_are_legs [.v (.tp k offs), .v (.tp k2 ls)] S = .ok (.v (.bl (legsB offs ls))) S := by
  have al : allA M00 (.lst (ls.map fun d => D.bl (legB offs d))) = some (.bl (ls.all (legB offs))) := allA_map _ _
  rw [e_are_legs]
  unfold B_are_legs G_are_legs legsB
  generalize hA : ls.all (legB offs) = A at al hp
  by_cases h1 : ls.length ≤ 30
  · have h1' : ¬ (30 : Int) < ls.length := by omega
    simp [cstV, h1, h1']
    rw [compV_map (fun d => .bl (legB offs d)) ls (fun x hx => by
      refine ⟨_, rfl, rfl, ?_⟩
      simp [callV, v_is_leg ho (hl x hx)])]
    simp only [calm_ok, compR_ok, Rs.bind_ok, rd1_some' rdW_lst, al, lfv_some]
    cases A with
    | false => simp
    | true =>
      have hq := hp rfl
      have ir : itW .rng1 [.v (.int ((ls.length : Int) - 1))] = some (rngD 0 (ls.length - 1)) := by
        have : ((ls.length : Int) - 1).toNat = ls.length - 1 := by omega
        rw [← this]
        exact if_pos ⟨by omega, by omega⟩
      simp
      rw [compV_map ends2 ls (fun x hx => by
        obtain ⟨a, b, f, rfl⟩ := hq x hx
        refine ⟨_, rfl, rfl, ?_⟩
        simp [vsl, ends2])]
      simp only [calm_ok, compR_ok, Rs.bind_ok, bindV_nm, setV2_s, setV2_0]
      simp [ir]
      rw [compV_map (fun d => match d with | .int i => .bl (match (ls.map ends2)[i.toNat]?, (ls.map ends2)[i.toNat + 1]? with | some x, some y => !ltD y x | _, _ => false) | d => d) (rngD 0 (ls.length - 1)) (fun x hx => by
        obtain ⟨i, hi, rfl⟩ := rngD_mem hx
        refine ⟨_, rfl, rfl, ?_⟩
        have h1 : i < ls.length := by omega
        have h2 : i + 1 < ls.length := by omega
        obtain ⟨a1, b1, f1, e1⟩ := hq ls[i] (List.getElem_mem h1)
        obtain ⟨a2, b2, f2, e2⟩ := hq ls[i + 1] (List.getElem_mem h2)
        have g1 : (ls.map ends2)[i]? = some (.tup [.str a1, .str b1]) := by rw [List.getElem?_map, List.getElem?_eq_getElem h1, e1]; rfl
        have g2 : (ls.map ends2)[i + 1]? = some (.tup [.str a2, .str b2]) := by rw [List.getElem?_map, List.getElem?_eq_getElem h2, e2]; rfl
        have e0 : (0 : Int) + (i : Int) = ((i : Nat) : Int) := by omega
        have x1 : ∀ S, ixW S (.v (.lst (ls.map ends2))) (.v (.int ((i : Nat) : Int))) = some (.v (.tup [.str a1, .str b1])) := fun S => ix_lst g1
        have x2 : ∀ S, ixW S (.v (.lst (ls.map ends2))) (.v (.int ((i : Int) + 1))) = some (.v (.tup [.str a2, .str b2])) := fun S => ix_lst (i := i + 1) g2
        have vl : vle (.tup [.str a1, .str b1]) (.tup [.str a2, .str b2]) = some (.bl (!ltD (.tup [.str a2, .str b2]) (.tup [.str a1, .str b1]))) := v_le rfl (fun i h => by cases h)
        rw [e0]
        simp only [setV2_s, setV2_0, evE_9, evE_16, evE_7, evE_4, evE_1, getV_0, getV_s, lft_some, Rs.bind_ok, x1, rd2_some' rdW_i rdW_i, bo_add, vadd_int, lfv_some, x2, co_le, rd2_some' rdW_tp rdW_tp, vl, Int.toNat_natCast, g1, g2])]
      have al2 : allA M00 (.lst ((rngD 0 (ls.length - 1)).map (fun d => match d with | .int i => D.bl (match (ls.map ends2)[i.toNat]?, (ls.map ends2)[i.toNat + 1]? with | some x, some y => !ltD y x | _, _ => false) | d => d))) = some (.bl (chB (ls.map ends2))) := by
        rw [rngD0, List.map_map, ← chB_range, List.length_map]
        exact allA_map _ _
      simp only [calm_ok, compR_ok, Rs.bind_ok, rd1_some' rdW_lst, al2, lfv_some, out_rt]
  · have h1' : (30 : Int) < ls.length := by omega
    simp [cstV, h1, h1']
end K82

namespace K82
open PySem PySem.Spec PyProof.Rows L2 Z
/-- below 0 somewhere -/
def debtB : D → Bool
  | .tp _ [.tp _ hs, .tp _ ts] => hs.any negD || ts.any neg2
  | _ => false
theorem ff_shape {f : D} (h : Z.isNon (ffD f) = true) : ∃ k1 k2 k3 hs ts, f = .tp k1 [.tp k2 hs, .tp k3 ts] ∧ hs.all bndD = true ∧ ts.all prB = true := by
  unfold ffD at h
  split at h
  · rename_i k1 k2 hs k3 ts
    refine ⟨_, _, _, _, _, rfl, ?_⟩
    unfold ff2 at h
    split at h
    · rename_i g1
      split at h
      · rename_i g2
        exact ⟨g1.2, g2.2.2⟩
      · cases h
    · cases h
  · cases h
theorem v_debts {S : Sto} {f : D} (h : Z.isNon (ffD f) = true) : Fhas_debts [.v f] S = .ok (.v (.bl (debtB f))) S := by
  obtain ⟨k1, k2, k3, hs, ts, rfl, h1, h2⟩ := ff_shape h
  exact v_has_debts h1 h2
end K82

namespace K82
open PySem PySem.Spec PyProof.Rows L2 Z
def legDebt : D → Bool | .tp _ [_, _, f] => debtB f | _ => false
/-- what network_fault tells of two tuples -/
def nfD (offs ls : List D) : D :=
  if nmsB 1 8 offs = true then (if legsB offs ls = true then (if ls.any legDebt = true then .str "values" else .non) else .str "legs") else .str "offices"
theorem v_nf {S : Sto} {k k1 k2 : TK} {offs ls : List D} (hp : ∀ d ∈ offs, pln d = true ∧ szD d = true) (ho : nmsB 1 8 offs = true → layL 59 offs = true ∧ (∀ d ∈ ls, Lgp d) ∧ (ls.all (legB offs) = true → ∀ d ∈ ls, ∃ x y f, d = .tup [.str x, .str y, f])) :
    Fnetwork_fault [.v (.tp k [.tp k1 offs, .tp k2 ls])] S = .ok (.v (nfD offs ls)) S := by
  have i0 : ∀ S, ixW S (.v (.tp k [.tp k1 offs, .tp k2 ls])) (.v (.int 0)) = some (.v (.tp k1 offs)) := fun S => ix_tp (i := 0) rfl
  have i1 : ∀ S, ixW S (.v (.tp k [.tp k1 offs, .tp k2 ls])) (.v (.int 1)) = some (.v (.tp k2 ls)) := fun S => ix_tp (i := 1) rfl
  have r2 : ∀ S, Fis_row [.v (.tp k [.tp k1 offs, .tp k2 ls]), .v (.int 2)] S = .ok (.v (.bl true)) S := fun S => by rw [v_is_row rfl]; rfl
  have nm : ∀ S, Fis_names [.v (.tp k1 offs), .v (.int 1), .v (.int 8)] S = .ok (.v (.bl (nmsB 1 8 offs))) S := fun S => v_is_names hp (by decide)
  rw [enetwork_fault]
  unfold Bnetwork_fault Gnetwork_fault nfD
  cases hN : nmsB 1 8 offs with
  | false => simp [callV, cstV, r2, i0, i1, isTy, nm, hN]
  | true =>
    obtain ⟨o1, o2, o3⟩ := ho hN
    have lg : ∀ S, F_are_legs [.v (.tp k1 offs), .v (.tp k2 ls)] S = .ok (.v (.bl (legsB offs ls))) S := fun S => v_are_legs o1 o2 o3
    cases hL : legsB offs ls with
    | false => simp [callV, cstV, r2, i0, i1, isTy, nm, hN, lg, hL]
    | true =>
      have all : ls.all (legB offs) = true := by
        unfold legsB at hL
        rw [Bool.and_eq_true, Bool.and_eq_true] at hL
        exact hL.1.2
      have a2 : anyA M00 (.lst (ls.map fun d => D.bl (legDebt d))) = some (.bl (ls.any legDebt)) := any_map _ _
      generalize ls.any legDebt = V at a2 ⊢
      simp [callV, cstV, r2, i0, i1, isTy, nm, hN, lg, hL]
      rw [compV_map (fun d => .bl (legDebt d)) ls (fun x hx => by
        obtain ⟨a, b, f, rfl⟩ := o3 all x hx
        have lb := List.all_eq_true.mp all _ hx
        have hf : Z.isNon (ffD f) = true := by
          unfold legB at lb
          simp only [Bool.and_eq_true] at lb
          exact lb.2
        have i2 : ∀ S, ixW S (.v (.tup [.str a, .str b, f])) (.v (.int 2)) = some (.v f) := fun S => ix_tp (i := 2) rfl
        refine ⟨_, rfl, rfl, ?_⟩
        simp [callV, i2, v_debts hf, legDebt])]
      simp only [calm_ok, compR_ok, Rs.bind_ok, rd1_some' rdW_lst, a2, lfv_some]
      cases V <;> simp
end K82

namespace K82
open PySem PySem.Spec PyProof.Rows L2 Z
/-- no pair of tuples -/
def formB : D → Bool
  | .tp _ [a, b] => !(isTp a && isTp b)
  | _ => true
theorem v_nf_form {S : Sto} {d : D} (h : pln d = true) (hm : pl1 d = true) (hf : formB d = true) : Fnetwork_fault [.v d] S = .ok (.v (.str "form")) S := by
  have no : ∀ d : D, pln d = true → rowB 2 d = false → Fnetwork_fault [.v d] S = .ok (.v (.str "form")) S := by
    intro d hp hr
    have r : ∀ S, Fis_row [.v d, .v (.int 2)] S = .ok (.v (.bl false)) S := fun S => by rw [v_is_row hp, hr]
    rw [enetwork_fault]
    unfold Bnetwork_fault Gnetwork_fault
    simp [callV, r]
  cases d with
  | tp k ds =>
    match ds, hm, hf with
    | [], _, _ => exact no _ rfl rfl
    | [a], _, _ => exact no _ rfl rfl
    | [a, b], hm, hf =>
      have ha : pln a = true := by unfold pl1 at hm; simp at hm; exact hm.1
      have hb : pln b = true := by unfold pl1 at hm; simp at hm; exact hm.2
      have i0 : ∀ S, ixW S (.v (.tp k [a, b])) (.v (.int 0)) = some (.v a) := fun S => ix_tp (i := 0) rfl
      have i1 : ∀ S, ixW S (.v (.tp k [a, b])) (.v (.int 1)) = some (.v b) := fun S => ix_tp (i := 1) rfl
      have r2 : ∀ S, Fis_row [.v (.tp k [a, b]), .v (.int 2)] S = .ok (.v (.bl true)) S := fun S => by rw [v_is_row rfl]; rfl
      have ra : ∀ S, rdW S (.v a) = some a := fun S => rdW_pl ha
      have rb : ∀ S, rdW S (.v b) = some b := fun S => rdW_pl hb
      have ty : ∀ z : D, pln z = true → isTy M00 z .ttup = some (isTp z) := fun z hz => by
        cases z <;> first | rfl | (simp [pln] at hz)
      rw [enetwork_fault]
      unfold Bnetwork_fault Gnetwork_fault
      cases qa : isTp a with
      | false => simp [callV, r2, i0, ra, ty a ha, qa]
      | true =>
        have qb : isTp b = false := by
          have hf : (!(isTp a && isTp b)) = true := hf
          rw [qa] at hf; simpa using hf
        simp [callV, r2, i0, i1, ra, rb, ty a ha, ty b hb, qa, qb]
    | a :: b :: c :: r, _, _ =>
      refine no _ rfl ?_
      show decide ((((a :: b :: c :: r).length : Nat) : Int) = 2) = false
      refine decide_eq_false ?_
      simp only [List.length_cons]
      omega
  | _ => exact no _ h rfl
end K82

/-! k82: the law's offices -/
namespace K82
open PySem PySem.Spec PyProof.Rows L2 Z
theorem nodup_le {α : Type} [DecidableEq α] : ∀ {a b : List α}, a.Nodup → (∀ x ∈ a, x ∈ b) → a.length ≤ b.length
  | [], b, _, _ => Nat.zero_le _
  | x :: r, b, n, h => by
    have hx : x ∈ b := h x (by simp)
    rw [List.nodup_cons] at n
    have := nodup_le (a := r) (b := b.erase x) n.2 fun y hy => by
      have : y ≠ x := fun e => n.1 (e ▸ hy)
      exact (List.mem_erase_of_ne this).mpr (h y (List.mem_cons_of_mem _ hy))
    rw [List.length_erase_of_mem hx] at this
    have l : 0 < b.length := List.length_pos_of_mem hx
    rw [List.length_cons]; omega
def qL : List Str := (tl abc).map fun c => "q" ++ ⟨#[c]⟩
theorem qL_len : qL.length = 26 := by decide +kernel
theorem qL_nd : qL.Nodup := by decide +kernel
theorem qL_low : ∀ x ∈ qL, lowS x = true := by decide +kernel
theorem low_ok {x : Str} (h : lowS x = true) : okS x := by
  refine okS_of fun c hc => ?_
  unfold lowS at h
  rw [Bool.and_eq_true] at h
  have := List.all_eq_true.mp (show (tl x).all _ = true from h.2) c hc
  rw [Bool.and_eq_true] at this
  have := of_decide_eq_true this.2
  omega
theorem low_len {x : Str} (h : lowS x = true) : x.length ≤ 12 := by
  unfold lowS at h
  simp only [Bool.and_eq_true, decide_eq_true_eq] at h
  exact h.1.2
theorem vadd_lst {a b : List D} (h : a.length + b.length ≤ sizeLine) : vadd (.lst a) (.lst b) = some (.lst (a ++ b)) := if_pos h
theorem vadd_tup {a b : List D} (h : a.length + b.length ≤ sizeLine) : vadd (.tup a) (.tup b) = some (.tup (a ++ b)) := if_pos h
theorem it_str {x : Str} (h : x.length ≤ sizeLine) : itW .seq [.v (.str x)] = some (charsD x) := if_pos h
def freeB (fs : List Str) : D → Bool | .str y => !decide (y ∈ fs) | _ => false
theorem any_str {fs : List Str} {y : Str} : ((fs.map D.str).any fun z => eqv z (.str y)) = decide (y ∈ fs) := by
  rw [List.any_map]
  induction fs with
  | nil => simp
  | cons x r ih =>
    rw [List.any_cons, ih]
    show ((x == y) || decide (y ∈ r)) = _
    by_cases e : x = y
    · subst e; simp
    · have e' : y ≠ x := fun z => e z.symm
      simp [e, e']
theorem nin_str {S : Sto} {i : Nat} {fs : List Str} {y : Str} (hf : ∀ x ∈ fs, okS x) (hy : okS y) (h : rdW S (.r i) = some (.lst (fs.map D.str))) : inW S (.v (.str y)) (.r i) = some (decide (y ∈ fs)) := by
  unfold inW
  rw [plW_str]
  dsimp only
  have : sqW S (.r i) = some (fs.map D.str) := by unfold sqW; rw [h]
  rw [this]
  dsimp only
  rw [if_pos (show inOk (.str y) (fs.map D.str) = true by
    unfold inOk
    rw [layL_str 59 fs hf, Bool.and_true]
    exact hy), any_str]
def bodyO : List Sx := [.asg (.nm 4) (.bin .add (.lst false [(.call 0 (.loc 0) [])]) (.comp false (.bin .add (.str "q") (.loc 5)) (.nm 5) .seq [(.str "abcdefghijklmnopqrstuvwxyz")] [] [("letter", 5)])), .expr (.mth .append (.loc 2) (.idx (.comp false (.loc 6) (.nm 6) .seq [(.loc 4)] [(.cmp .notin (.loc 6) (.loc 2))] [("name", 6)]) (.int 0)) [])]
def qf : D → D | .str z => .str ("q" ++ z) | d => d
theorem qf_map : (charsD abc).map qf = qL.map D.str := by
  unfold charsD qL
  rw [List.map_map, List.map_map]
  rfl
theorem SS_app {s : Stt} {J : Sto} {o : Option VO} : SS s (J ++ [o]) = SS s J ++ o :: [] := rfl
theorem SS_len {s : Stt} {J : Sto} : (SS s J).length = J.length + 1 := rfl
theorem turn_O (J : Sto) {w1 : W} {o3 o4 o5 o6 : Option W} (s : Stt) {fs : List Str} (hf : ∀ x ∈ fs, lowS x = true) (hl : fs.length < 20) : ∃ (y : Str) (s' : Stt) (o4' o5' o6' : Option W), y ∉ fs ∧ lowS y = true ∧
    evSs G_law_offices bodyO [some (.r 0), some w1, some (.r (J.length + 1)), o3, o4, o5, o6] (SS s (J ++ [some (.lst (fs.map D.str))])) = .ok (.nx [some (.r 0), some w1, some (.r (J.length + 1)), o3, o4', o5', o6']) (SS s' (J ++ [some (.lst ((fs ++ [y]).map D.str))])) := by
  obtain ⟨x, s1, x1, hx⟩ := v_law_name s (J ++ [some (.lst (fs.map D.str))])
  have fo : ∀ z ∈ fs, okS z := fun z hz => low_ok (hf z hz)
  have hal : ∀ z ∈ x :: qL, lowS z = true := fun z hz => by
    rcases List.mem_cons.mp hz with e | hz
    · rw [e]; exact x1
    · exact qL_low z hz
  obtain ⟨y, r, hy⟩ : ∃ y r, (x :: qL).filter (fun z => !decide (z ∈ fs)) = y :: r := by
    cases q : (x :: qL).filter (fun z => !decide (z ∈ fs)) with
    | cons y r => exact ⟨y, r, rfl⟩
    | nil =>
      have : ∀ z ∈ qL, z ∈ fs := fun z hz => by
        have := List.filter_eq_nil_iff.mp q z (List.mem_cons_of_mem _ hz)
        simpa using this
      have := nodup_le qL_nd this
      rw [qL_len] at this
      omega
  have ym : y ∈ (x :: qL).filter (fun z => !decide (z ∈ fs)) := by rw [hy]; simp
  obtain ⟨ym1, ym2⟩ := List.mem_filter.mp ym
  refine ⟨y, s1, some (.v (lns (x :: qL))), o5, o6, by simpa using ym2, hal y ym1, ?_⟩
  have cf : ∀ r, callV G_law_offices 0 r = r.bind fun ws S => if ws.length = 1 then F_law_name ws S else .no := fun r => by unfold G_law_offices; rfl
  have it : itW .seq [.v (.str "abcdefghijklmnopqrstuvwxyz")] = some (charsD abc) := it_str (x := abc) (by decide +kernel)
  have c1 : ∀ (en : WEn) (S : Sto) (G : GV), (∀ d, getV (setV2 en 5 d) 5 = some d) → compV (.nm 5) (evC G []) (evE G (.bin .add (.str "q") (.loc 5))) en (charsD abc) S = .ok (qL.map D.str) S := fun en S G he => by
    rw [compV_map qf (charsD abc) (fun d hd => by
      obtain ⟨c, hc, rfl⟩ := List.mem_map.mp hd
      refine ⟨_, rfl, rfl, ?_⟩
      have : vadd (.str "q") (.str ⟨#[c]⟩) = some (.str ("q" ++ ⟨#[c]⟩)) := vadd_str (by show _ + 1 ≤ _; decide +kernel)
      simp [he, this, qf]), qf_map]
  have ad : vadd (.lst [.str x]) (.lst (qL.map D.str)) = some (lns (x :: qL)) :=
    vadd_lst (a := [.str x]) (by rw [List.length_map, qL_len]; show 1 + 26 ≤ sizeLine; decide)
  have rd : ∀ s, rdW (SS s (J ++ [some (.lst (fs.map D.str))])) (.r (J.length + 1)) = some (.lst (fs.map D.str)) := fun s => by
    show (match getS _ _ with | some (.lst ds) => some (D.lst ds) | _ => none) = _
    rw [getS_SS]
  have c2 : ∀ (en : WEn) (s : Stt) (G : GV), (∀ d, getV (setV2 en 6 d) 6 = some d) → (∀ d, getV (setV2 en 6 d) 2 = some (.r (J.length + 1))) → compV (.nm 6) (evC G [.cmp .notin (.loc 6) (.loc 2)]) (evE G (.loc 6)) en ((x :: qL).map D.str) (SS s (J ++ [some (.lst (fs.map D.str))])) = .ok ((y :: r).map D.str) (SS s (J ++ [some (.lst (fs.map D.str))])) := fun en s G h1 h2 => by
    rw [compV_fm (freeB fs) (fun d => d) ((x :: qL).map D.str) (fun d hd => by
      obtain ⟨z, hz, rfl⟩ := List.mem_map.mp hd
      refine ⟨_, rfl, ?_, fun _ => ?_⟩
      · simp [h1, h2, nin_str fo (low_ok (hal z hz)) (rd s), freeB]
      · simp [h1])]
    congr 1
    rw [List.map_id', ← hy, List.filter_map]
    rfl
  have ix : ∀ S, ixW S (.v (.lst ((y :: r).map D.str))) (.v (.int 0)) = some (.v (.str y)) := fun S => ix_lst (i := 0) rfl
  have ap : Mt.append.wo (SS s1 (J ++ [some (.lst (fs.map D.str))])) (.r (J.length + 1)) [.v (.str y)] = .ok (.v .non) (SS s1 (J ++ [some (.lst ((fs ++ [y]).map D.str))])) := by
    rw [wo_append getS_SS (by rw [List.length_map]; have := sl1000; omega), setS_SS, List.map_append]; rfl
  have ty : tyW .append (SS s1 (J ++ [some (.lst (fs.map D.str))])) (.r (J.length + 1)) = true := tyW_app getS_SS
  unfold bodyO
  simp only [evSs_2, evSs_1, evS_1, evS_5, evE_5, evE_7, evE_4, evE_15, evE_19, evE_1, evE_23, evE_22, evE_16, evL_1, evL_2, getV_0, getV_s, lft_some, Rs.bind_ok, cf, List.length_cons, List.length_nil, Nat.zero_add, if_true, hx, plnW_cons, plnW_nil, sl_1, it, List.map_cons, List.map_nil, wipeV_nil, wipeV_cons, wipeV1_0, wipeV1_s]
  rw [c1 _ _ _ (fun d => rfl)]
  simp only [calm_ok, compR_ok, Rs.bind_ok, rd2_some' rdW_lst rdW_lst, bo_add, ad, lfv_some, bindV_nm, setV2_0, setV2_s, getV_0, getV_s, lft_some, ty, itW_lns]
  rw [c2 _ _ _ (fun d => rfl) (fun d => rfl)]
  simp only [calm_ok, compR_ok, Rs.bind_ok, ix, lft_some, ap]
theorem loop_O (J : Sto) {w1 : W} : ∀ (items : List D) (s : Stt) (fs : List Str) (o3 o4 o5 o6 : Option W), (∀ x ∈ fs, lowS x = true) → fs.Nodup → fs.length + items.length ≤ 20 → ∃ (fs' : List Str) (s' : Stt) (o3' o4' o5' o6' : Option W), (∀ x ∈ fs', lowS x = true) ∧ fs'.Nodup ∧ fs'.length = fs.length + items.length ∧
    turnsV (.nm 3) (evSs G_law_offices bodyO) items [some (.r 0), some w1, some (.r (J.length + 1)), o3, o4, o5, o6] (SS s (J ++ [some (.lst (fs.map D.str))])) = .ok (.nx [some (.r 0), some w1, some (.r (J.length + 1)), o3', o4', o5', o6']) (SS s' (J ++ [some (.lst (fs'.map D.str))]))
  | [], s, fs, o3, o4, o5, o6, h1, h2, _ => ⟨fs, s, o3, o4, o5, o6, h1, h2, rfl, rfl⟩
  | x :: r, s, fs, o3, o4, o5, o6, h1, h2, hl => by
    rw [List.length_cons] at hl
    obtain ⟨y, s1, p4, p5, p6, y1, y2, e⟩ := turn_O J (w1 := w1) (o3 := some (.v x)) (o4 := o4) (o5 := o5) (o6 := o6) s h1 (by omega)
    obtain ⟨fs', s', q3, q4, q5, q6, z1, z2, z3, e2⟩ := loop_O J (w1 := w1) r s1 (fs ++ [y]) (some (.v x)) p4 p5 p6 (fun z hz => by
      rcases List.mem_append.mp hz with hz | hz
      · exact h1 z hz
      · rw [List.mem_singleton.mp hz]; exact y2) (by
      rw [List.nodup_append]
      exact ⟨h2, by simp, fun a ha b hb => by rw [List.mem_singleton.mp hb]; exact fun e => y1 (e ▸ ha)⟩) (by rw [List.length_append]; simp; omega)
    refine ⟨fs', s', q3, q4, q5, q6, z1, z2, by rw [z3, List.length_append]; simp; omega, ?_⟩
    conv => lhs; unfold turnsV
    simp only [bindV_nm, setV2_0, setV2_s, e, Rs.bind_ok, e2]
theorem vsrt_str {fs : List Str} : vsrt (.lst (fs.map D.str)) = some (.lst (sortD (fs.map D.str))) := by
  unfold vsrt
  refine if_pos ?_
  unfold sortB likeB
  simp only [Bool.and_eq_true, Bool.or_eq_true, List.all_eq_true]
  refine ⟨⟨fun d hd e he => ?_, fun d hd => ?_⟩, .inr fun d hd => ?_⟩
  · obtain ⟨x, _, rfl⟩ := List.mem_map.mp hd
    obtain ⟨y, _, rfl⟩ := List.mem_map.mp he
    rfl
  · obtain ⟨x, _, rfl⟩ := List.mem_map.mp hd; rfl
  · obtain ⟨x, _, rfl⟩ := List.mem_map.mp hd; rfl
/-- offices in order -/
structure Off (ws : List Str) : Prop where
  low : ∀ x ∈ ws, lowS x = true
  asc : ascB (ws.map D.str) = true
  nd : ws.Nodup
theorem off_sort {fs : List Str} (h1 : ∀ x ∈ fs, lowS x = true) (h2 : fs.Nodup) : ∃ ws, Off ws ∧ ws.length = fs.length ∧ sortD (fs.map D.str) = ws.map D.str := by
  have hall : ∀ d ∈ sortD (fs.map D.str), ∃ x, lowS x = true ∧ d = D.str x := fun d hd => by
    obtain ⟨x, hx, rfl⟩ := List.mem_map.mp (sortD_mem.mp hd)
    exact ⟨x, h1 x hx, rfl⟩
  obtain ⟨ws, e, hw⟩ := pull (g := D.str) _ hall
  have nd : (fs.map D.str).Nodup := by
    refine List.Pairwise.map D.str (fun a b h e => h ?_) h2
    cases e; rfl
  have asc := sort_asc (ds := fs.map D.str) (fun d hd e he => by
    obtain ⟨x, _, rfl⟩ := List.mem_map.mp hd
    obtain ⟨y, _, rfl⟩ := List.mem_map.mp he
    rfl) (fun d hd e he a b => by
    obtain ⟨x, _, rfl⟩ := List.mem_map.mp hd
    obtain ⟨y, _, rfl⟩ := List.mem_map.mp he
    rw [tri_str a b]) nd
  refine ⟨ws, ⟨hw, by rw [e]; exact asc_of asc, ?_⟩, ?_, e.symm⟩
  · have n2 : (sortD (fs.map D.str)).Nodup := (List.mergeSort_perm _ leS).nodup_iff.mpr nd
    rw [← e] at n2
    exact (List.pairwise_map.mp n2).imp fun h e => h (by rw [e])
  · have := sortD_len (ds := fs.map D.str)
    rw [← e, List.length_map, List.length_map] at this
    exact this
theorem v_law_offices (s : Stt) (J : Sto) {n : Nat} (hn : n ≤ 20) : ∃ (ws : List Str) (s' : Stt) (K : Sto), Off ws ∧ ws.length = n ∧ F_law_offices [.r 0, .v (.int n)] (SS s J) = .ok (.v (.tup (ws.map D.str))) (SS s' (J ++ K)) := by
  rw [e_law_offices]
  have hB : B_law_offices = [.asg (.nm 2) (.lst true []), .fors (.nm 3) .rng1 [(.loc 1)] bodyO, .ret (.blt .tupT (.blt .srt (.loc 2) []) [])] := rfl
  obtain ⟨fs, s1, o3, o4, o5, o6, f1, f2, f3, e⟩ := loop_O J (w1 := .v (.int n)) (rngD 0 n) s [] none none none none (by simp) (by simp) (by rw [rng_len]; simpa using hn)
  rw [rng_len] at f3
  obtain ⟨ws, w1, w2, w3⟩ := off_sort f1 f2
  refine ⟨ws, s1, [some (.lst (fs.map D.str))], w1, by rw [w2, f3]; simp, ?_⟩
  have e' : turnsV (.nm 3) (evSs G_law_offices bodyO) (rngD 0 n) [some (.r 0), some (.v (.int n)), some (.r (J.length + 1)), none, none, none, none] (SS s J ++ [some (.lst [])]) = _ := e
  have it : itW .rng1 [.v (.int n)] = some (rngD 0 n) := it_rng (by omega) (by omega)
  have rd : rdW (SS s1 (J ++ [some (.lst (fs.map D.str))])) (.r (J.length + 1)) = some (.lst (fs.map D.str)) := by
    show (match getS _ _ with | some (.lst ds) => some (D.lst ds) | _ => none) = _
    rw [getS_SS]
  rw [hB]
  simp only [evSs_2, evSs_1, evS_1, evS_9, evS_6, evE_15, evE_20, evE_1, evL_1, evL_2, getV_0, getV_s, lft_some, Rs.bind_ok, plnW_nil, List.length_nil, sl_0, if_true, newW_eq, SS_len, bindV_nm, setV2_0, setV2_s, it, e', bt_srt, bt_tupT, rd1_some' rd, vsrt_str, lfv_some, rd1_some' rdW_lst, tup_lst, w3, out_rt]
end K82

/-! k82: legs put in order -/
namespace K82
open PySem PySem.Spec PyProof.Rows L2 Z
/-- a leg between texts -/
def legT (l : D) : Prop := ∃ x y f, okS x ∧ okS y ∧ l = .tup [.str x, .str y, f]
theorem legT_pair {l : D} (h : legT l) : pairT (ends2 l) := by
  obtain ⟨x, y, f, _, _, rfl⟩ := h
  exact ⟨x, y, rfl⟩
def inOrd (ls : List D) : List D := (sortD (uq (ls.map ends2))).flatMap fun p => ls.filter fun l => eqv (ends2 l) p
theorem filter_two {α : Type} (b : α → Bool) : ∀ l : List α, (l.filter b).length + (l.filter fun x => !b x).length = l.length
  | [] => rfl
  | x :: r => by
    have := filter_two b r
    cases q : b x with
    | true => simp [q]; omega
    | false => simp [q]; omega
theorem flat_cg {α β : Type} {f g : α → List β} : ∀ {ps : List α}, (∀ p ∈ ps, f p = g p) → ps.flatMap f = ps.flatMap g
  | [], _ => rfl
  | p :: ps, h => by
    rw [List.flatMap_cons, List.flatMap_cons, h p (by simp), flat_cg fun q hq => h q (List.mem_cons_of_mem _ hq)]
theorem flat_le {α β : Type} [DecidableEq β] (g : α → β) : ∀ (ps : List β) (ls : List α), ps.Nodup → (ps.flatMap fun p => ls.filter fun l => decide (g l = p)).length ≤ ls.length
  | [], ls, _ => by simp
  | p :: ps, ls, h => by
    rw [List.nodup_cons] at h
    have e : (ps.flatMap fun q => ls.filter fun l => decide (g l = q)) = (ps.flatMap fun q => (ls.filter fun l => !decide (g l = p)).filter fun l => decide (g l = q)) := by
      refine flat_cg fun q hq => ?_
      rw [List.filter_filter]
      refine List.filter_congr fun l _ => ?_
      by_cases e : g l = q
      · have : g l ≠ p := fun z => h.1 (by rw [← z, e]; exact hq)
        simp [e]
        exact fun z => h.1 (z ▸ hq)
      · simp [e]
    rw [List.flatMap_cons, List.length_append, e]
    have i := flat_le g ps (ls.filter fun l => !decide (g l = p)) h.2
    have t := filter_two (fun l => decide (g l = p)) ls
    omega
theorem map_pairs {ls : List D} (h : ∀ l ∈ ls, legT l) : ∀ d ∈ ls.map ends2, pairT d := fun d hd => by
  obtain ⟨l, hl, rfl⟩ := List.mem_map.mp hd
  exact legT_pair (h l hl)
theorem sorted_pairs {ls : List D} (h : ∀ l ∈ ls, legT l) : ∀ p ∈ sortD (uq (ls.map ends2)), pairT p := fun p hp =>
  map_pairs h p ((uq_mem (map_pairs h) p).mp (sortD_mem.mp hp))
noncomputable instance : DecidableEq D := fun a b => Classical.propDecidable (a = b)
theorem inOrd_len {ls : List D} (h : ∀ l ∈ ls, legT l) : (inOrd ls).length ≤ ls.length := by
  have e : inOrd ls = (sortD (uq (ls.map ends2))).flatMap fun p => ls.filter fun l => decide (ends2 l = p) := by
    unfold inOrd
    refine flat_cg fun p hp => List.filter_congr fun l hl => ?_
    have := eqv_pr (legT_pair (h l hl)) (sorted_pairs h p hp)
    by_cases e : ends2 l = p
    · rw [this.mpr e, decide_eq_true e]
    · rw [decide_eq_false e]
      cases q : eqv (ends2 l) p with
      | false => rfl
      | true => exact absurd (this.mp q) e
  rw [e]
  exact flat_le ends2 _ ls ((List.mergeSort_perm _ leS).nodup_iff.mpr (uq_nodup (map_pairs h)))
theorem inOrd_mem {ls : List D} {l : D} (h : l ∈ inOrd ls) : l ∈ ls := by
  obtain ⟨p, _, hl⟩ := List.mem_flatMap.mp h
  exact (List.mem_filter.mp hl).1
theorem chB_of : ∀ {ds : List D}, ds.Pairwise (fun x y => ltD y x = false) → chB ds = true
  | [], _ => rfl
  | [_], _ => rfl
  | x :: y :: r, h => by
    rw [List.pairwise_cons] at h
    show (!ltD y x && chB (y :: r)) = true
    rw [h.1 y (by simp), chB_of h.2]; rfl
theorem le_lt {d e : D} (hd : pairT d) (he : pairT e) (h : leS d e = true) : ltD e d = false := by
  unfold leS at h
  rw [lt_py _ _ (like_pair he hd)] at h
  simpa using h
theorem inOrd_ch {ls : List D} (h : ∀ l ∈ ls, legT l) : chB ((inOrd ls).map ends2) = true := by
  refine chB_of ?_
  rw [List.pairwise_map]
  unfold inOrd
  rw [List.pairwise_flatMap]
  have eq : ∀ p ∈ sortD (uq (ls.map ends2)), ∀ l ∈ ls.filter (fun l => eqv (ends2 l) p), ends2 l = p := fun p hp l hl => by
    obtain ⟨h1, h2⟩ := List.mem_filter.mp hl
    exact (eqv_pr (legT_pair (h l h1)) (sorted_pairs h p hp)).mp h2
  refine ⟨fun p hp => ?_, ?_⟩
  · refine List.Pairwise.imp_of_mem (R := fun _ _ => True) (fun {a b} ha hb _ => ?_) (List.pairwise_of_forall fun _ _ => trivial)
    rw [eq p hp a ha, eq p hp b hb]
    have := leS_total p p
    rw [Bool.or_self] at this
    exact le_lt (sorted_pairs h p hp) (sorted_pairs h p hp) this
  · have s := List.pairwise_mergeSort leS_trans leS_total (uq (ls.map ends2))
    refine List.Pairwise.imp_of_mem (fun {p q} hp hq hl => ?_) s
    intro a ha b hb
    rw [eq p hp a ha, eq q hq b hb]
    exact le_lt (sorted_pairs h p hp) (sorted_pairs h q hq) hl
def bodyI : List Sx := [.asg (.nm 1) (.bin .add (.loc 1) (.comp false (.loc 3) (.nm 3) .seq [(.loc 0)] [(.cmp .eq (.sli (.loc 3) [] [(.int 2)]) (.loc 2))] [("leg", 3)]))]
theorem ends2_lay {l : D} (h : legT l) : lay 60 (ends2 l) = true := by
  obtain ⟨x, y, f, hx, hy, rfl⟩ := h
  show (lay 59 (.str x) && (lay 59 (.str y) && true)) = true
  rw [show lay 59 (.str x) = true from hx, show lay 59 (.str y) = true from hy]; rfl
theorem loop_I {S : Sto} {ls : List D} (hl : ∀ l ∈ ls, legT l) (h64 : ls.length < 64) : ∀ (ps acc : List D) (o2 o3 : Option W), (∀ p ∈ ps, ∃ l ∈ ls, p = ends2 l) → acc.length + ps.length * 64 ≤ 10000 → ∃ o2' o3',
    turnsV (.nm 2) (evSs G_law_in_order bodyI) ps [some (.v (.lst ls)), some (.v (.lst acc)), o2, o3] S = .ok (.nx [some (.v (.lst ls)), some (.v (.lst (acc ++ ps.flatMap fun p => ls.filter fun l => eqv (ends2 l) p))), o2', o3']) S
  | [], acc, o2, o3, _, _ => ⟨o2, o3, by simp⟩
  | p :: ps, acc, o2, o3, hp, hc => by
    rw [List.length_cons] at hc
    have fl : (ls.filter fun l => eqv (ends2 l) p).length ≤ ls.length := List.length_filter_le _ _
    obtain ⟨o2', o3', e⟩ := loop_I (S := S) hl h64 ps (acc ++ ls.filter fun l => eqv (ends2 l) p) (some (.v p)) o3 (fun q hq => hp q (List.mem_cons_of_mem _ hq)) (by rw [List.length_append]; omega)
    obtain ⟨l0, m0, e0⟩ := hp p (by simp)
    have lp : lay 60 p = true := by rw [e0]; exact ends2_lay (hl l0 m0)
    refine ⟨o2', o3', ?_⟩
    have s0 := sl1000
    have sz : (10000 : Nat) ≤ sizeLine := by decide
    have ad : vadd (.lst acc) (.lst (ls.filter fun l => eqv (ends2 l) p)) = some (.lst (acc ++ ls.filter fun l => eqv (ends2 l) p)) := vadd_lst (by omega)
    conv => lhs; unfold turnsV
    have b : evSs G_law_in_order bodyI [some (.v (.lst ls)), some (.v (.lst acc)), some (.v p), o3] S = .ok (.nx [some (.v (.lst ls)), some (.v (.lst (acc ++ ls.filter fun l => eqv (ends2 l) p))), some (.v p), o3]) S := by
      unfold bodyI G_law_in_order
      simp only [evSs_2, evSs_1, evS_1, evE_7, evE_1, evE_23, evL_1, evL_2, getV_0, getV_s, lft_some, Rs.bind_ok, itW_lst, List.map_cons, List.map_nil, wipeV_nil, wipeV_cons, wipeV1_0, wipeV1_s]
      rw [compV_fm (fun l => eqv (ends2 l) p) (fun d => d) ls (fun l hm => by
        obtain ⟨x, y, f, hx, hy, rfl⟩ := hl l hm
        have ly := ends2_lay (hl _ hm)
        have rp : rdW S (.v p) = some p := rdW_pl (lay_pln lp)
        have ve : veq (.tup [.str x, .str y]) p = some (.bl (eqv (.tup [.str x, .str y]) p)) := if_pos (by
          unfold veqOk
          rw [show lay 60 (D.tup [.str x, .str y]) = true from ly, lp]; simp)
        have ec : Z.cutD [D.str x, D.str y, f] none (some 2) = [D.str x, D.str y] := rfl
        refine ⟨_, rfl, ?_, fun _ => rfl⟩
        simp [vsl, rp, ve, ends2, ec])]
      simp only [List.map_id', calm_ok, compR_ok, Rs.bind_ok, rd2_some' rdW_lst rdW_lst, bo_add, ad, lfv_some, bindV_nm, setV2_0, setV2_s]
    simp only [bindV_nm, setV2_0, setV2_s, b, Rs.bind_ok, e, List.flatMap_cons, List.append_assoc]
theorem v_law_in_order {S : Sto} {ls : List D} (hl : ∀ l ∈ ls, legT l) (h64 : ls.length < 64) : F_law_in_order [.v (.lst ls)] S = .ok (.v (.tup (inOrd ls))) S := by
  rw [e_law_in_order]
  have hB : B_law_in_order = [.asg (.nm 1) (.lst false []), .fors (.nm 2) .seq [(.srt2 (.comp false (.sli (.loc 3) [] [(.int 2)]) (.nm 3) .seq [(.loc 0)] [] [("leg", 3)]))] bodyI, .ret (.blt .tupT (.loc 1) [])] := rfl
  have sm : ∀ p ∈ sortD (uq (ls.map ends2)), ∃ l ∈ ls, p = ends2 l := fun p hp => by
    obtain ⟨l, h1, h2⟩ := List.mem_map.mp ((uq_mem (map_pairs hl) p).mp (sortD_mem.mp hp))
    exact ⟨l, h1, h2.symm⟩
  have ln : (sortD (uq (ls.map ends2))).length ≤ ls.length := by
    rw [sortD_len]
    exact Nat.le_trans (uq_len _) (by rw [List.length_map]; exact Nat.le_refl _)
  obtain ⟨o2, o3, e⟩ := loop_I (S := S) hl h64 (sortD (uq (ls.map ends2))) [] none none sm (by simp; omega)
  have s2 : vsrt2 (.lst (ls.map ends2)) = some (.lst (sortD (uq (ls.map ends2)))) := by
    unfold vsrt2
    refine if_pos ⟨?_, by rw [List.length_map]; exact h64⟩
    rw [List.all_eq_true]
    intro d hd
    obtain ⟨x, y, rfl⟩ := map_pairs hl d hd
    rfl
  rw [hB]
  simp only [evSs_2, evSs_1, evS_1, evS_9, evS_6, evE_15, evE_7s, evE_20, evE_1, evE_23, evL_1, evL_2, getV_0, getV_s, lft_some, Rs.bind_ok, plnW_nil, List.length_nil, sl_0, if_true, bindV_nm, setV2_0, setV2_s, itW_lst, List.map_cons, List.map_nil, wipeV_nil, wipeV_cons, wipeV1_0, wipeV1_s]
  rw [compV_map ends2 ls (fun l hm => by
    obtain ⟨x, y, f, hx, hy, rfl⟩ := hl l hm
    refine ⟨_, rfl, rfl, ?_⟩
    simp [vsl, ends2])]
  simp only [calm_ok, compR_ok, Rs.bind_ok, rd1_some' rdW_lst, s2, lfv_some, itW_lst, e, List.nil_append, evE_1, getV_0, getV_s, lft_some, bt_tupT, tup_lst, out_rt]
  rfl
end K82

/-! k82: the law's forms and networks -/
namespace K82
open PySem PySem.Spec PyProof.Rows L2 Z
theorem comp_dj {tg : Tg} {te : WF W} {G : GV} {en : WEn} {P : D → Prop} : ∀ (items : List D) (s : Stt) (J : Sto), (∀ x ∈ items, ∃ e1, bindV tg (.v x) en = some e1 ∧ ∀ s J, ∃ d s' K, P d ∧ te e1 (SS s J) = .ok (.v d) (SS s' (J ++ K))) →
    ∃ ds s' K, (∀ d ∈ ds, P d) ∧ ds.length = items.length ∧ compV tg (evC G []) te en items (SS s J) = .ok ds (SS s' (J ++ K))
  | [], s, J, _ => ⟨[], s, [], by simp, rfl, by rw [List.append_nil]; rfl⟩
  | x :: r, s, J, h => by
    obtain ⟨e1, b1, h1⟩ := h x (by simp)
    obtain ⟨d, s1, K1, p1, t1⟩ := h1 s J
    obtain ⟨ds, s2, K2, p2, l2, t2⟩ := comp_dj (te := te) (G := G) (P := P) r s1 (J ++ K1) fun z hz => h z (List.mem_cons_of_mem _ hz)
    refine ⟨d :: ds, s2, K1 ++ K2, ?_, by rw [List.length_cons, l2, List.length_cons], ?_⟩
    · intro z hz
      rcases List.mem_cons.mp hz with e | hz
      · rw [e]; exact p1
      · exact p2 z hz
    · unfold compV
      rw [b1]
      simp only [evC_1, Rs.bind_ok, t1, t2, List.append_assoc]
def okH : D → Bool | .non => true | .int i => decide (0 ≤ i) | _ => false
def okT : D → Bool | .tp .t [.int v, .int s] => decide (0 ≤ v) && decide (0 ≤ s) | .tp .t [.non, .int i] => decide (i = 0) | _ => false
/-- a right form -/
structure GdF (f : D) : Prop where
  h : ∃ hs ts, f = .tup [.tup hs, .tup ts] ∧ hs.all okH = true ∧ ts.all okT = true ∧ hs.length ≤ 10 ∧ 1 ≤ ts.length ∧ ts.length ≤ 10
theorem ix01 {S : Sto} {x y : D} {b : Bool} : ixW S (.v (.lst [x, y])) (.v (.int (if b = true then 1 else 0))) = some (.v (if b = true then y else x)) := by cases b <;> rfl
def bodyT : List Sx := [.asg (.nm 5) (.idx (.lst false [(.loc 3), (.call 0 (.loc 0) [(.int 4)])]) (.blt .int (.cmp .eq (.call 0 (.loc 0) [(.int 3)]) (.int 0)) [])), .expr (.mth .append (.loc 4) (.idx (.lst false [(.tup [(.call 0 (.loc 0) [(.int 31)]), (.loc 5)]), (.tup [.non, (.int 0)])]) (.blt .int (.cmp .eq (.call 0 (.loc 0) [(.int 5)]) (.int 4)) [])) [])]
theorem cdr {r : Rs (List W)} : callV G_law_leg_form 0 r = r.bind fun ws S => if ws.length = 2 then F_law_draw ws S else .no := by unfold G_law_leg_form; rfl
theorem turn_T (J : Sto) {o1 o2 o5 : Option W} {base : Int} (h0 : 0 ≤ base) (s : Stt) {ts : List D} (hl : ts.length < 20) : ∃ (d : D) (s' : Stt) (o5' : Option W), okT d = true ∧
    evSs G_law_leg_form bodyT [some (.r 0), o1, o2, some (.v (.int base)), some (.r (J.length + 1)), o5] (SS s (J ++ [some (.lst ts)])) = .ok (.nx [some (.r 0), o1, o2, some (.v (.int base)), some (.r (J.length + 1)), o5']) (SS s' (J ++ [some (.lst (ts ++ [d]))])) := by
  obtain ⟨a, s1, a1, a2, ha⟩ := v_draw s (J ++ [some (.lst ts)]) (lim := 4) (by omega) (by omega)
  obtain ⟨b, s2, b1, b2, hb⟩ := v_draw s1 (J ++ [some (.lst ts)]) (lim := 3) (by omega) (by omega)
  obtain ⟨c, s3, c1, c2, hc⟩ := v_draw s2 (J ++ [some (.lst ts)]) (lim := 31) (by omega) (by omega)
  obtain ⟨e, s4, e1, e2, he⟩ := v_draw s3 (J ++ [some (.lst ts)]) (lim := 5) (by omega) (by omega)
  obtain ⟨st, st0, hst⟩ : ∃ st : Int, 0 ≤ st ∧ ∀ S, ixW S (.v (.lst [.int base, .int a])) (.v (.int (if decide (b = 0) = true then 1 else 0))) = some (.v (.int st)) := by
    by_cases q : b = 0
    · exact ⟨a, a1, fun S => by rw [ix01, decide_eq_true q, if_pos rfl]⟩
    · exact ⟨base, h0, fun S => by rw [ix01, decide_eq_false q, if_neg (by simp)]⟩
  obtain ⟨d, d0, hd⟩ : ∃ d : D, okT d = true ∧ ∀ S, ixW S (.v (.lst [.tup [.int c, .int st], .tup [.non, .int 0]])) (.v (.int (if decide (e = 4) = true then 1 else 0))) = some (.v d) := by
    by_cases q : e = 4
    · exact ⟨.tup [.non, .int 0], rfl, fun S => by rw [ix01, decide_eq_true q, if_pos rfl]⟩
    · exact ⟨.tup [.int c, .int st], by simp [okT, c1, st0], fun S => by rw [ix01, decide_eq_false q, if_neg (by simp)]⟩
  refine ⟨d, s4, some (.v (.int st)), d0, ?_⟩
  have ap : Mt.append.wo (SS s4 (J ++ [some (.lst ts)])) (.r (J.length + 1)) [.v d] = .ok (.v .non) (SS s4 (J ++ [some (.lst (ts ++ [d]))])) := by
    rw [wo_append getS_SS (by have := sl1000; omega), setS_SS]
  have ty : tyW .append (SS s2 (J ++ [some (.lst ts)])) (.r (J.length + 1)) = true := tyW_app getS_SS
  unfold bodyT
  simp only [evSs_2, evSs_1, evS_1, evS_5, evE_2, evE_4, evE_9, evE_14, evE_15, evE_16, evE_19, evE_20, evE_1, evE_22, evL_1, evL_2, getV_0, getV_s, lft_some, Rs.bind_ok, cdr, List.length_cons, List.length_nil, Nat.zero_add, Nat.reduceAdd, if_true, ha, hb, hc, he, plnW_cons, plnW_nil, sl_2, co_eq, rd2_some' rdW_i rdW_i, veq_int, lfv_some, bt_int, rd1_some' rdW_bl, int_bl, hst, hd, ty, ap, bindV_nm, setV2_0, setV2_s]
theorem loop_T (J : Sto) {o1 : Option W} {base : Int} (h0 : 0 ≤ base) : ∀ (items : List D) (s : Stt) (ts : List D) (o2 o5 : Option W), ts.all okT = true → ts.length + items.length ≤ 20 → ∃ (ts' : List D) (s' : Stt) (o2' o5' : Option W), ts'.all okT = true ∧ ts'.length = ts.length + items.length ∧
    turnsV (.nm 2) (evSs G_law_leg_form bodyT) items [some (.r 0), o1, o2, some (.v (.int base)), some (.r (J.length + 1)), o5] (SS s (J ++ [some (.lst ts)])) = .ok (.nx [some (.r 0), o1, o2', some (.v (.int base)), some (.r (J.length + 1)), o5']) (SS s' (J ++ [some (.lst ts')]))
  | [], s, ts, o2, o5, h1, _ => ⟨ts, s, o2, o5, h1, rfl, rfl⟩
  | x :: r, s, ts, o2, o5, h1, hl => by
    rw [List.length_cons] at hl
    obtain ⟨d, s1, p5, d1, e⟩ := turn_T J (o1 := o1) (o2 := some (.v x)) (o5 := o5) h0 s (ts := ts) (by omega)
    obtain ⟨ts', s', q2, q5, z1, z2, e2⟩ := loop_T J (o1 := o1) h0 r s1 (ts ++ [d]) (some (.v x)) p5 (by rw [List.all_append, h1]; simp [d1]) (by rw [List.length_append]; simp; omega)
    refine ⟨ts', s', q2, q5, z1, by rw [z2, List.length_append]; simp; omega, ?_⟩
    conv => lhs; unfold turnsV
    simp only [bindV_nm, setV2_0, setV2_s, e, Rs.bind_ok, e2]
theorem ix1123 {S : Sto} {q : Int} (h0 : 0 ≤ q) (h : q < 4) : ∃ n : Nat, 1 ≤ n ∧ n ≤ 3 ∧ ixW S (.v (.lst [.int 1, .int 1, .int 2, .int 3])) (.v (.int q)) = some (.v (.int n)) := by
  obtain ⟨k, rfl⟩ : ∃ k : Nat, q = k := ⟨q.toNat, by omega⟩
  have : k = 0 ∨ k = 1 ∨ k = 2 ∨ k = 3 := by omega
  rcases this with rfl | rfl | rfl | rfl
  · exact ⟨1, by omega, by omega, rfl⟩
  · exact ⟨1, by omega, by omega, rfl⟩
  · exact ⟨2, by omega, by omega, rfl⟩
  · exact ⟨3, by omega, by omega, rfl⟩
theorem v_law_leg_form (s : Stt) (J : Sto) : ∃ (f : D) (s' : Stt) (K : Sto), GdF f ∧ F_law_leg_form [.r 0] (SS s J) = .ok (.v f) (SS s' (J ++ K)) := by
  rw [e_law_leg_form]
  have hB : B_law_leg_form = [.asg (.nm 1) (.comp false (.idx (.lst false [.non, (.call 0 (.loc 0) [(.int 31)])]) (.blt .int (.cmp .gt (.call 0 (.loc 0) [(.int 4)]) (.int 0)) [])) (.nm 2) .rng1 [(.call 0 (.loc 0) [(.int 4)])] [] [("k", 2)]), .asg (.nm 3) (.call 0 (.loc 0) [(.int 3)]), .asg (.nm 4) (.lst true []), .fors (.nm 2) .rng1 [(.idx (.lst false [(.int 1), (.int 1), (.int 2), (.int 3)]) (.call 0 (.loc 0) [(.int 4)]))] bodyT, .ret (.tup [(.blt .tupT (.loc 1) []), (.blt .tupT (.loc 4) [])])] := rfl
  obtain ⟨a, s1, a1, a2, ha⟩ := v_draw s J (lim := 4) (by omega) (by omega)
  obtain ⟨hs, s2, g1, g2, g3⟩ := comp_dr (G := G_law_leg_form) (tg := .nm 2) (te := evE G_law_leg_form (.idx (.lst false [.non, (.call 0 (.loc 0) [(.int 31)])]) (.blt .int (.cmp .gt (.call 0 (.loc 0) [(.int 4)]) (.int 0)) []))) (en := [some (.r 0), none, none, none, none, none]) (J := J) (P := fun d => okH d = true) (rngD 0 a.toNat) s1 (fun x hx => by
    refine ⟨_, rfl, fun s => ?_⟩
    obtain ⟨b, t1, b1, b2, hb⟩ := v_draw s J (lim := 31) (by omega) (by omega)
    obtain ⟨c, t2, c1, c2, hc⟩ := v_draw t1 J (lim := 4) (by omega) (by omega)
    obtain ⟨d, d0, hd⟩ : ∃ d : D, okH d = true ∧ ∀ S, ixW S (.v (.lst [.non, .int b])) (.v (.int (if decide (0 < c) = true then 1 else 0))) = some (.v d) := by
      by_cases q : 0 < c
      · exact ⟨.int b, by simp [okH, b1], fun S => by rw [ix01, decide_eq_true q, if_pos rfl]⟩
      · exact ⟨.non, rfl, fun S => by rw [ix01, decide_eq_false q, if_neg (by simp)]⟩
    refine ⟨d, t2, d0, ?_⟩
    simp only [evE_2, evE_4, evE_9, evE_15, evE_16, evE_19, evE_20, evE_1, evL_1, evL_2, getV_0, getV_s, setV2_0, setV2_s, lft_some, Rs.bind_ok, cdr, List.length_cons, List.length_nil, Nat.zero_add, Nat.reduceAdd, if_true, hb, hc, plnW_cons, plnW_nil, sl_2, co_gt, rd2_some' rdW_i rdW_i, vgt_int, lfv_some, bt_int, rd1_some' rdW_bl, int_bl, hd])
  obtain ⟨base, s3, b1, b2, hb⟩ := v_draw s2 J (lim := 3) (by omega) (by omega)
  obtain ⟨c, s4, c1, c2, hc⟩ := v_draw s3 (J ++ [some (.lst [])]) (lim := 4) (by omega) (by omega)
  obtain ⟨n, n1, n2, hn⟩ := ix1123 (S := SS s4 (J ++ [some (.lst [])])) c1 c2
  obtain ⟨ts, s5, o2, o5, t1, t2, ht⟩ := loop_T J (o1 := some (.v (.lst hs))) (base := base) b1 (rngD 0 n) s4 [] none none rfl (by rw [rng_len]; simp; omega)
  rw [rng_len] at t2 g2
  refine ⟨.tup [.tup hs, .tup ts], s5, [some (.lst ts)], ⟨hs, ts, rfl, List.all_eq_true.mpr g1, t1, by omega, by rw [t2]; simp; omega, by rw [t2]; simp; omega⟩, ?_⟩
  have ra : itW .rng1 [.v (.int a)] = some (rngD 0 a.toNat) := it_rng (by omega) (by omega)
  have rn : itW .rng1 [.v (.int n)] = some (rngD 0 n) := it_rng (by omega) (by omega)
  have hc' : F_law_draw [.r 0, .v (.int 4)] (SS s3 J ++ [some (.lst [])]) = _ := hc
  have rd : rdW (SS s5 (J ++ [some (.lst ts)])) (.r (J.length + 1)) = some (.lst ts) := by
    show (match getS _ _ with | some (.lst ds) => some (D.lst ds) | _ => none) = _
    rw [getS_SS]
  rw [hB]
  simp only [evSs_2, evSs_1, evS_1, evS_9, evS_6, evE_2, evE_4, evE_14, evE_15, evE_16, evE_19, evE_20, evE_1, evE_23, evL_1, evL_2, getV_0, getV_s, lft_some, Rs.bind_ok, cdr, List.length_cons, List.length_nil, Nat.zero_add, Nat.reduceAdd, if_true, ha, ra, List.map_cons, List.map_nil, wipeV_nil, wipeV_cons, wipeV1_0, wipeV1_s, g3, calm_ok, compR_ok, bindV_nm, setV2_0, setV2_s, hb, plnW_cons, plnW_nil, sl_0, sl_4, sl_2, newW_eq, SS_len, hc', hn, rn, ht, bt_tupT, rd1_some' rdW_lst, rd1_some' rd, tup_lst, lfv_some, out_rt]
end K82

/-! k82: the law's networks -/
namespace K82
open PySem PySem.Spec PyProof.Rows L2 Z
/-- a right leg -/
structure GLeg (ws : List Str) (l : D) : Prop where
  h : ∃ x y f, x ∈ ws ∧ y ∈ ws ∧ x ≠ y ∧ GdF f ∧ l = .tup [.str x, .str y, f]
theorem GLeg.t {ws : List Str} {l : D} (o : Off ws) (g : GLeg ws l) : legT l := by
  obtain ⟨x, y, f, h1, h2, _, _, rfl⟩ := g.h
  exact ⟨x, y, f, low_ok (o.low x h1), low_ok (o.low y h2), rfl⟩
structure GNet (ws : List Str) (ls : List D) (m : Nat) : Prop where
  off : Off ws
  l2 : 2 ≤ ws.length
  l8 : ws.length ≤ 8
  leg : ∀ l ∈ ls, GLeg ws l
  len : ls.length ≤ m
  ch : chB (ls.map ends2) = true
theorem nc0 {r : Rs (List W)} : callV G_law_network 0 r = r.bind fun ws S => if ws.length = 2 then F_law_offices ws S else .no := by unfold G_law_network; rfl
theorem nc1 {r : Rs (List W)} : callV G_law_network 1 r = r.bind fun ws S => if ws.length = 2 then F_law_draw ws S else .no := by unfold G_law_network; rfl
theorem nc2 {r : Rs (List W)} : callV G_law_network 2 r = r.bind fun ws S => if ws.length = 1 then F_law_leg_form ws S else .no := by unfold G_law_network; rfl
theorem nc3 {r : Rs (List W)} : callV G_law_network 3 r = r.bind fun ws S => if ws.length = 1 then F_law_in_order ws S else .no := by unfold G_law_network; rfl
def bodyN2 : List Sx := [.asg (.nm 7) (.call 1 (.loc 0) [(.blt .len (.loc 3) [])]), .asg (.nm 8) (.bin .mod (.blt .int (.bin .add (.bin .add (.loc 7) (.int 1)) (.call 1 (.loc 0) [(.bin .sub (.blt .len (.loc 3) []) (.int 1))])) []) (.blt .len (.loc 3) [])), .asg (.nm 9) (.idx (.loc 4) (.call 1 (.loc 0) [(.blt .len (.loc 4) [])])), .ifs (.cmp .eq (.call 1 (.loc 0) [(.int 3)]) (.int 0))
    [.asg (.nm 9) (.call 2 (.loc 0) [])]
    [], .expr (.mth .append (.loc 6) (.tup [(.idx (.loc 3) (.loc 7)), (.idx (.loc 3) (.loc 8)), (.loc 9)]) [])]
theorem SS_ap {s : Stt} {J : Sto} {o : Option VO} {K : Sto} : SS s (J ++ o :: K) = SS s J ++ o :: K := rfl
theorem app_mid {s : Stt} {J K : Sto} {ds : List D} {x : D} (h : ds.length < 1000) : Mt.append.wo (SS s (J ++ some (.lst ds) :: K)) (.r (J.length + 1)) [.v x] = .ok (.v .non) (SS s (J ++ some (.lst (ds ++ [x])) :: K)) := by
  rw [SS_ap, ← SS_len (s := s), wo_app_mid (by have := sl1000; omega)]; rfl
theorem ty_mid {s : Stt} {J K : Sto} {ds : List D} : tyW .append (SS s (J ++ some (.lst ds) :: K)) (.r (J.length + 1)) = true := by
  rw [SS_ap, ← SS_len (s := s)]; exact ty_app_mid
theorem fm_other {n : Int} {a b : Int} (hn : 2 ≤ n) (a0 : 0 ≤ a) (a1 : a < n) (b0 : 0 ≤ b) (b1 : b < n - 1) : 0 ≤ (a + 1 + b).fmod n ∧ (a + 1 + b).fmod n < n ∧ (a + 1 + b).fmod n ≠ a := by
  rw [Int.fmod_eq_emod_of_nonneg _ (by omega)]
  refine ⟨Int.emod_nonneg _ (by omega), Int.emod_lt_of_pos _ (by omega), ?_⟩
  by_cases h : a + 1 + b < n
  · rw [Int.emod_eq_of_lt (by omega) h]; omega
  · have e : (a + 1 + b) % n = (a + 1 + b - n) % n := by rw [Int.sub_emod_right]
    rw [e, Int.emod_eq_of_lt (by omega) (by omega)]; omega
theorem turn_N (J : Sto) {w1 w2 : W} {o5 o7 o8 o9 : Option W} {ws : List Str} {pool : List D} (o : Off ws) (h2 : 2 ≤ ws.length) (h8 : ws.length ≤ 8) (hp : ∀ d ∈ pool, GdF d) (hp1 : 1 ≤ pool.length) (hp2 : pool.length ≤ 100) (s : Stt) (K : Sto) {ls : List D} (hl : ls.length < 100) :
    ∃ (l : D) (s' : Stt) (K' : Sto) (o7' o8' o9' : Option W), GLeg ws l ∧
    evSs G_law_network bodyN2 [some (.r 0), some w1, some w2, some (.v (.tup (ws.map D.str))), some (.v (.lst pool)), o5, some (.r (J.length + 1)), o7, o8, o9] (SS s (J ++ some (.lst ls) :: K)) = .ok (.nx [some (.r 0), some w1, some w2, some (.v (.tup (ws.map D.str))), some (.v (.lst pool)), o5, some (.r (J.length + 1)), o7', o8', o9']) (SS s' (J ++ some (.lst (ls ++ [l])) :: K')) := by
  obtain ⟨a, s1, a1, a2, ha⟩ := v_draw s (J ++ some (.lst ls) :: K) (lim := ws.length) (by omega) (by omega)
  obtain ⟨b, s2, b1, b2, hb⟩ := v_draw s1 (J ++ some (.lst ls) :: K) (lim := (ws.length : Int) - 1) (by omega) (by omega)
  obtain ⟨c, s3, c1, c2, hc⟩ := v_draw s2 (J ++ some (.lst ls) :: K) (lim := pool.length) (by omega) (by omega)
  obtain ⟨d, s4, d1, d2, hd⟩ := v_draw s3 (J ++ some (.lst ls) :: K) (lim := 3) (by omega) (by omega)
  obtain ⟨g1, g2, g3⟩ := fm_other (n := ws.length) (by omega) a1 a2 b1 b2
  generalize hg : (a + 1 + b).fmod ws.length = g at g1 g2 g3
  obtain ⟨ka, rfl⟩ : ∃ k : Nat, a = k := ⟨a.toNat, by omega⟩
  obtain ⟨kg, rfl⟩ : ∃ k : Nat, g = k := ⟨g.toNat, by omega⟩
  obtain ⟨kc, rfl⟩ : ∃ k : Nat, c = k := ⟨c.toNat, by omega⟩
  have la : ka < ws.length := by omega
  have lg : kg < ws.length := by omega
  have lc : kc < pool.length := by omega
  have xa : ∀ S, ixW S (.v (.tup (ws.map D.str))) (.v (.int ((ka : Nat) : Int))) = some (.v (.str ws[ka])) := fun S => ix_tp (by rw [List.getElem?_map, List.getElem?_eq_getElem la]; rfl)
  have xg : ∀ S, ixW S (.v (.tup (ws.map D.str))) (.v (.int ((kg : Nat) : Int))) = some (.v (.str ws[kg])) := fun S => ix_tp (by rw [List.getElem?_map, List.getElem?_eq_getElem lg]; rfl)
  have xc : ∀ S, ixW S (.v (.lst pool)) (.v (.int ((kc : Nat) : Int))) = some (.v pool[kc]) := fun S => ix_lst (List.getElem?_eq_getElem lc)
  have md : vmod (.int ((ka : Nat) + 1 + b)) (.int ws.length) = some (.int ((kg : Nat) : Int)) := by
    show (if (ws.length : Int) ≠ 0 then some (D.int (((ka : Nat) + 1 + b : Int).fmod ws.length)) else none) = _
    rw [if_pos (by omega), hg]
  have hne : ws[ka] ≠ ws[kg] := fun e => by
    have := (List.getElem_inj o.nd).mp e
    omega
  have ln : ((ws.map D.str).length : Int) = ws.length := by rw [List.length_map]
  have key : ∃ (f : D) (s5 : Stt) (K' : Sto), GdF f ∧ evS G_law_network (.ifs (.cmp .eq (.call 1 (.loc 0) [(.int 3)]) (.int 0)) [.asg (.nm 9) (.call 2 (.loc 0) [])] []) [some (.r 0), some w1, some w2, some (.v (.tup (ws.map D.str))), some (.v (.lst pool)), o5, some (.r (J.length + 1)), some (.v (.int ((ka : Nat) : Int))), some (.v (.int ((kg : Nat) : Int))), some (.v pool[kc])] (SS s3 (J ++ some (.lst ls) :: K)) = .ok (.nx [some (.r 0), some w1, some w2, some (.v (.tup (ws.map D.str))), some (.v (.lst pool)), o5, some (.r (J.length + 1)), some (.v (.int ((ka : Nat) : Int))), some (.v (.int ((kg : Nat) : Int))), some (.v f)]) (SS s5 (J ++ some (.lst ls) :: K')) := by
    by_cases q : d = 0
    · subst q
      obtain ⟨f, s5, K', gf, hf⟩ := v_law_leg_form s4 (J ++ some (.lst ls) :: K)
      refine ⟨f, s5, K ++ K', gf, ?_⟩
      rw [List.append_assoc, List.cons_append] at hf
      simp only [evS_8, evT_1, evSs_2, evSs_1, evS_1, evE_4, evE_19, evE_1, evL_1, evL_2, getV_0, getV_s, lft_some, Rs.bind_ok, nc1, nc2, List.length_cons, List.length_nil, Nat.zero_add, Nat.reduceAdd, if_true, hd, co_eq, rd2_some' rdW_i rdW_i, veq_int, decide_true, hf, bindV_nm, setV2_0, setV2_s]
    · refine ⟨pool[kc], s4, K, hp _ (List.getElem_mem lc), ?_⟩
      simp only [evS_8, evT_1, evSs_2, evSs_1, evS_1, evE_4, evE_19, evE_1, evL_1, evL_2, getV_0, getV_s, lft_some, Rs.bind_ok, nc1, List.length_cons, List.length_nil, Nat.zero_add, Nat.reduceAdd, if_true, hd, co_eq, rd2_some' rdW_i rdW_i, veq_int, decide_eq_false q]
  obtain ⟨f, s5, K', gf, hk⟩ := key
  refine ⟨.tup [.str ws[ka], .str ws[kg], f], s5, K', some (.v (.int ((ka : Nat) : Int))), some (.v (.int ((kg : Nat) : Int))), some (.v f), ⟨_, _, f, List.getElem_mem la, List.getElem_mem lg, hne, gf, rfl⟩, ?_⟩
  unfold bodyN2
  rw [evSs_2, evS_1]
  simp only [evE_19, evE_20, evE_1, evL_1, evL_2, getV_0, getV_s, lft_some, Rs.bind_ok, bt_len, rd1_some' rdW_tp, lenA_tp', ln, lfv_some, nc1, List.length_cons, List.length_nil, Nat.zero_add, Nat.reduceAdd, if_true, ha, bindV_nm, setV2_0, setV2_s]
  rw [evSs_2, evS_1]
  simp only [evE_19, evE_20, evE_1, evE_4, evE_7, evL_1, evL_2, getV_0, getV_s, lft_some, Rs.bind_ok, bt_len, bt_int, rd1_some' rdW_tp, rd1_some' rdW_i, int_int, lenA_tp', ln, lfv_some, nc1, List.length_cons, List.length_nil, Nat.zero_add, Nat.reduceAdd, if_true, rd2_some' rdW_i rdW_i, bo_add, bo_sub, bo_mod, vadd_int, vsub_int, hb, md, bindV_nm, setV2_0, setV2_s]
  rw [evSs_2, evS_1]
  simp only [evE_16, evE_19, evE_20, evE_1, evL_1, evL_2, getV_0, getV_s, lft_some, Rs.bind_ok, bt_len, rd1_some' rdW_lst, lenA_lst', lfv_some, nc1, List.length_cons, List.length_nil, Nat.zero_add, Nat.reduceAdd, if_true, hc, xc, bindV_nm, setV2_0, setV2_s]
  rw [evSs_2, hk]
  simp only [Rs.bind_ok]
  rw [evSs_2, evS_5]
  simp only [evE_22, evE_14, evE_16, evE_1, evL_1, evL_2, getV_0, getV_s, lft_some, Rs.bind_ok, ty_mid, xa, xg, plnW_cons, plnW_nil, List.length_cons, List.length_nil, Nat.zero_add, Nat.reduceAdd, sl_3, if_true, app_mid (show ls.length < 1000 by omega), evSs_1]
theorem loop_N2 (J : Sto) {w1 w2 : W} {ws : List Str} {pool : List D} (o : Off ws) (h2 : 2 ≤ ws.length) (h8 : ws.length ≤ 8) (hp : ∀ d ∈ pool, GdF d) (hp1 : 1 ≤ pool.length) (hp2 : pool.length ≤ 100) : ∀ (items : List D) (s : Stt) (K : Sto) (ls : List D) (o5 o7 o8 o9 : Option W), (∀ l ∈ ls, GLeg ws l) → ls.length + items.length ≤ 100 →
    ∃ (ls' : List D) (s' : Stt) (K' : Sto) (o5' o7' o8' o9' : Option W), (∀ l ∈ ls', GLeg ws l) ∧ ls'.length = ls.length + items.length ∧
    turnsV (.nm 5) (evSs G_law_network bodyN2) items [some (.r 0), some w1, some w2, some (.v (.tup (ws.map D.str))), some (.v (.lst pool)), o5, some (.r (J.length + 1)), o7, o8, o9] (SS s (J ++ some (.lst ls) :: K)) = .ok (.nx [some (.r 0), some w1, some w2, some (.v (.tup (ws.map D.str))), some (.v (.lst pool)), o5', some (.r (J.length + 1)), o7', o8', o9']) (SS s' (J ++ some (.lst ls') :: K'))
  | [], s, K, ls, o5, o7, o8, o9, h1, _ => ⟨ls, s, K, o5, o7, o8, o9, h1, rfl, rfl⟩
  | x :: r, s, K, ls, o5, o7, o8, o9, h1, hl => by
    rw [List.length_cons] at hl
    obtain ⟨l, s1, K1, p7, p8, p9, g, e⟩ := turn_N J (w1 := w1) (w2 := w2) (o5 := some (.v x)) (o7 := o7) (o8 := o8) (o9 := o9) o h2 h8 hp hp1 hp2 s K (ls := ls) (by omega)
    obtain ⟨ls', s', K', q5, q7, q8, q9, z1, z2, e2⟩ := loop_N2 J (w1 := w1) (w2 := w2) o h2 h8 hp hp1 hp2 r s1 K1 (ls ++ [l]) (some (.v x)) p7 p8 p9 (fun z hz => by
      rcases List.mem_append.mp hz with hz | hz
      · exact h1 z hz
      · rw [List.mem_singleton.mp hz]; exact g) (by rw [List.length_append]; simp; omega)
    refine ⟨ls', s', K', q5, q7, q8, q9, z1, by rw [z2, List.length_append]; simp; omega, ?_⟩
    conv => lhs; unfold turnsV
    simp only [bindV_nm, setV2_0, setV2_s, e, Rs.bind_ok, e2]
theorem v_law_network (s : Stt) (J : Sto) {most many : Int} (m1 : 2 ≤ most) (m2 : most ≤ 8) (n1 : 0 ≤ many) (n2 : many ≤ 40) : ∃ (ws : List Str) (ls : List D) (s' : Stt) (K : Sto), GNet ws ls many.toNat ∧ F_law_network [.r 0, .v (.int most), .v (.int many)] (SS s J) = .ok (.v (.tup [.tup (ws.map D.str), .tup ls])) (SS s' (J ++ K)) := by
  rw [e_law_network]
  have hB : B_law_network = [.asg (.nm 3) (.call 0 (.loc 0) [(.bin .add (.int 2) (.call 1 (.loc 0) [(.bin .sub (.loc 1) (.int 1))]))]), .asg (.nm 4) (.comp false (.call 2 (.loc 0) []) (.nm 5) .rng1 [(.bin .add (.int 1) (.call 1 (.loc 0) [(.int 4)]))] [] [("k", 5)]), .asg (.nm 6) (.lst true []), .fors (.nm 5) .rng1 [(.call 1 (.loc 0) [(.bin .add (.loc 2) (.int 1))])] bodyN2, .fz 6, .ret (.tup [(.loc 3), (.call 3 (.loc 6) [])])] := rfl
  obtain ⟨a, s1, a1, a2, ha⟩ := v_draw s J (lim := most - 1) (by omega) (by omega)
  obtain ⟨n, hn⟩ : ∃ n : Nat, 2 + a = n := ⟨(2 + a).toNat, by omega⟩
  obtain ⟨ws, s2, K2, w1, w2, hw⟩ := v_law_offices s1 J (n := n) (by omega)
  obtain ⟨b, s3, b1, b2, hb⟩ := v_draw s2 (J ++ K2) (lim := 4) (by omega) (by omega)
  obtain ⟨pool, s4, K4, p1, p2, hp⟩ := comp_dj (G := G_law_network) (tg := .nm 5) (te := evE G_law_network (.call 2 (.loc 0) [])) (en := [some (.r 0), some (.v (.int most)), some (.v (.int many)), some (.v (.tup (ws.map D.str))), none, none, none, none, none, none]) (P := GdF) (rngD 0 (1 + b).toNat) s3 (J ++ K2) (fun x hx => by
    refine ⟨_, rfl, fun s J => ?_⟩
    obtain ⟨f, s', K, gf, hf⟩ := v_law_leg_form s J
    refine ⟨f, s', K, gf, ?_⟩
    simp only [evE_19, evE_1, evL_1, getV_0, getV_s, setV2_0, setV2_s, lft_some, Rs.bind_ok, nc2, List.length_cons, List.length_nil, Nat.zero_add, if_true, hf])
  rw [rng_len] at p2
  obtain ⟨c, s5, c1, c2, hc⟩ := v_draw s4 (J ++ K2 ++ K4 ++ [some (.lst [])]) (lim := many + 1) (by omega) (by omega)
  obtain ⟨ls, s6, K6, q5, q7, q8, q9, l1, l2, hl⟩ := loop_N2 (J ++ K2 ++ K4) (w1 := .v (.int most)) (w2 := .v (.int many)) (pool := pool) w1 (by omega) (by omega) p1 (by omega) (by omega) (rngD 0 c.toNat) s5 [] [] none none none none (by simp) (by rw [rng_len]; simp; omega)
  rw [rng_len] at l2
  have lt : ∀ l ∈ ls, legT l := fun l h => (l1 l h).t w1
  have sz : (rngD 0 c.toNat).length = c.toNat := rng_len _ _
  refine ⟨ws, inOrd ls, s6, K2 ++ K4 ++ none :: K6, ⟨w1, by omega, by omega, fun l h => l1 l (inOrd_mem h), ?_, inOrd_ch lt⟩, ?_⟩
  · have := inOrd_len lt
    have : ls.length = c.toNat := by rw [l2]; simp
    omega
  have rb : itW .rng1 [.v (.int (1 + b))] = some (rngD 0 (1 + b).toNat) := it_rng (by omega) (by omega)
  have rc : itW .rng1 [.v (.int c)] = some (rngD 0 c.toNat) := it_rng (by omega) (by omega)
  have hc' : F_law_draw [.r 0, .v (.int (many + 1))] (SS s4 (J ++ K2 ++ K4) ++ [some (.lst [])]) = _ := hc
  have io : ∀ S, F_law_in_order [.v (.lst ls)] S = .ok (.v (.tup (inOrd ls))) S := fun S => v_law_in_order lt (by rw [l2]; simp; omega)
  have fz : ∀ en, getV en 6 = some (.r ((J ++ K2 ++ K4).length + 1)) → fzV 6 en (SS s6 (J ++ K2 ++ K4 ++ some (.lst ls) :: K6)) = some (setV2 en 6 (.v (.lst ls)), SS s6 (J ++ K2 ++ K4 ++ none :: K6)) := fun en he => by
    unfold fzV
    rw [he]
    dsimp only
    rw [SS_ap, ← SS_len (s := s6), getS_mid]
    dsimp only
    rw [setS_mid]; rfl
  rw [hB]
  rw [evSs_2, evS_1]
  simp only [evE_4, evE_7, evE_19, evE_1, evL_1, evL_2, getV_0, getV_s, lft_some, Rs.bind_ok, nc0, nc1, List.length_cons, List.length_nil, Nat.zero_add, Nat.reduceAdd, if_true, rd2_some' rdW_i rdW_i, bo_add, bo_sub, vadd_int, vsub_int, lfv_some, ha, hn, hw, bindV_nm, setV2_0, setV2_s]
  rw [evSs_2, evS_1]
  simp only [evE_4, evE_7, evE_19, evE_23, evE_1, evL_1, evL_2, getV_0, getV_s, lft_some, Rs.bind_ok, nc1, List.length_cons, List.length_nil, Nat.zero_add, Nat.reduceAdd, if_true, rd2_some' rdW_i rdW_i, bo_add, vadd_int, lfv_some, hb, rb, List.map_cons, List.map_nil, wipeV_nil, wipeV_cons, wipeV1_0, wipeV1_s, hp, calm_ok, compR_ok, bindV_nm, setV2_0, setV2_s]
  rw [evSs_2, evS_1]
  simp only [evE_15, evL_1, Rs.bind_ok, plnW_nil, List.length_nil, sl_0, if_true, newW_eq, SS_len, bindV_nm, setV2_0, setV2_s]
  rw [evSs_2, evS_9]
  simp only [evE_4, evE_7, evE_19, evE_1, evL_1, evL_2, getV_0, getV_s, lft_some, Rs.bind_ok, nc1, List.length_cons, List.length_nil, Nat.zero_add, Nat.reduceAdd, if_true, rd2_some' rdW_i rdW_i, bo_add, vadd_int, lfv_some, hc', rc, hl]
  rw [evSs_2, evS_14, fz _ rfl]
  simp only [Rs.bind_ok, setV2_0, setV2_s, evSs_2, evSs_1, evS_6, evE_14, evE_19, evE_1, evL_1, evL_2, getV_0, getV_s, lft_some, nc3, List.length_cons, List.length_nil, Nat.zero_add, Nat.reduceAdd, if_true, io, plnW_cons, plnW_nil, sl_2, out_rt, List.append_assoc, List.cons_append]
end K82

/-! k82: what network_fault tells of networks -/
namespace K82
open PySem PySem.Spec PyProof.Rows L2 Z
theorem cutD_take {α : Type} {xs : List α} {k : Nat} (h : k ≤ xs.length) : Z.cutD xs none (some (k : Int)) = xs.take k := by
  unfold Z.cutD
  rw [HT.sIx_none, HT.sIx_nat, Nat.min_eq_left h]; rfl
theorem cutD_drop {α : Type} {xs : List α} {k : Nat} (h : k ≤ xs.length) : Z.cutD xs (some (k : Int)) none = xs.drop k := by
  unfold Z.cutD
  rw [HT.sIx_none, HT.sIx_nat, Nat.min_eq_left h]
  exact List.take_of_length_le (by rw [List.length_drop]; exact Nat.le_refl _)
theorem okH_b {hs : List D} (h : hs.all okH = true) : hs.all bndD = true ∧ hs.any negD = false ∧ hs.all pln = true := by
  rw [List.all_eq_true] at h
  refine ⟨List.all_eq_true.mpr fun d hd => ?_, List.any_eq_false.mpr fun d hd => ?_, List.all_eq_true.mpr fun d hd => ?_⟩
  all_goals
    have := h d hd
    cases d <;> simp [okH] at this <;> simp [bndD, negD, pln, Z.isNon, Z.isInt]
    try omega
theorem okT_sh {d : D} (h : okT d = true) : (∃ v s : Int, 0 ≤ v ∧ 0 ≤ s ∧ d = .tup [.int v, .int s]) ∨ d = .tup [.non, .int 0] := by
  unfold okT at h
  split at h
  · simp at h
    exact .inl ⟨_, _, h.1, h.2, rfl⟩
  · simp at h
    subst h
    exact .inr rfl
  · cases h
theorem okT_b {ts : List D} (h : ts.all okT = true) : ts.all prB = true ∧ ts.any neg2 = false ∧ ts.all (fun z => pln z && pl1 z) = true := by
  rw [List.all_eq_true] at h
  refine ⟨List.all_eq_true.mpr fun d hd => ?_, List.any_eq_false.mpr fun d hd => ?_, List.all_eq_true.mpr fun d hd => ?_⟩
  all_goals
    rcases okT_sh (h d hd) with ⟨v, s, hv, hs, rfl⟩ | rfl
    · simp [prB, neg2, pln, pl1, Z.isNon, Z.isInt]
      try omega
    · simp [prB, neg2, pln, pl1, Z.isNon, Z.isInt]
theorem gd_ff {f : D} (g : GdF f) : Z.isNon (ffD f) = true ∧ debtB f = false ∧ fpl f = true := by
  obtain ⟨hs, ts, rfl, h1, h2, h3, h4, h5⟩ := g.h
  obtain ⟨a1, a2, a3⟩ := okH_b h1
  obtain ⟨b1, b2, b3⟩ := okT_b h2
  refine ⟨?_, ?_, ?_⟩
  · show Z.isNon (ff2 hs ts) = true
    unfold ff2
    rw [if_pos ⟨by omega, a1⟩, if_pos ⟨h4, by omega, b1⟩]; rfl
  · show (hs.any negD || ts.any neg2) = false
    rw [a2, b2]; rfl
  · show (true && true && hs.all pln && ts.all _) = true
    rw [a3, b3]; rfl
/-- a value that may stand for a leg, tuples written -/
structure Lgk (d : D) : Prop where
  g : Lgp d
  t : ∀ k ds, d = .tp k ds → k = .t
theorem lgp3 {x y : Str} {f : D} (hx : okS x) (hy : okS y) (hf : fpl f = true) : Lgp (.tup [.str x, .str y, f]) := ⟨rfl, fun k a b g e => by
  cases e
  exact ⟨hx, hy, hx, hy, hf⟩⟩
theorem GLeg.k {ws : List Str} {l : D} (o : Off ws) (g : GLeg ws l) : Lgk l := by
  obtain ⟨x, y, f, h1, h2, _, gf, rfl⟩ := g.h
  exact ⟨lgp3 (low_ok (o.low x h1)) (low_ok (o.low y h2)) (gd_ff gf).2.2, fun k ds e => by cases e; rfl⟩
theorem in_ws {ws : List Str} {x : Str} : inB (ws.map D.str) (.str x) = decide (x ∈ ws) := any_str
theorem leg_str {ws : List Str} {x y : Str} {f : D} : legB (ws.map D.str) (.tup [.str x, .str y, f]) = (decide (x ∈ ws) && decide (y ∈ ws) && !decide (x = y) && Z.isNon (ffD f)) := by
  show (inB _ _ && inB _ _ && !(x == y) && _) = _
  rw [in_ws, in_ws]
  congr 2
theorem GLeg.b {ws : List Str} {l : D} (g : GLeg ws l) : legB (ws.map D.str) l = true ∧ legDebt l = false := by
  obtain ⟨x, y, f, h1, h2, h3, gf, rfl⟩ := g.h
  rw [leg_str, decide_eq_true h1, decide_eq_true h2, decide_eq_false h3, (gd_ff gf).1]
  exact ⟨rfl, (gd_ff gf).2.1⟩
theorem eqv_str {w : Str} {a : D} (h : eqv (.str w) a = true) : a = .str w := by
  cases a with
  | str x =>
    have : (w == x) = true := h
    rw [beq_iff_eq] at this
    rw [this]
  | _ => simp [eqv] at h
theorem inB_str {ws : List Str} {a : D} (h : inB (ws.map D.str) a = true) : ∃ x, a = .str x := by
  unfold inB at h
  rw [List.any_map, List.any_eq_true] at h
  obtain ⟨w, _, hw⟩ := h
  exact ⟨w, eqv_str hw⟩
theorem legB_shape {ws : List Str} {d : D} (g : Lgk d) (h : legB (ws.map D.str) d = true) : ∃ x y f, d = .tup [.str x, .str y, f] := by
  unfold legB at h
  split at h
  · rename_i k a b f
    have := g.t _ _ rfl
    subst this
    simp only [Bool.and_eq_true] at h
    obtain ⟨x, rfl⟩ := inB_str h.1.1.1
    obtain ⟨y, rfl⟩ := inB_str h.1.1.2
    exact ⟨x, y, f, rfl⟩
  · cases h
theorem off_nms {ws : List Str} (o : Off ws) (h1 : 1 ≤ ws.length) (h8 : ws.length ≤ 8) : nmsB 1 8 (ws.map D.str) = true := by
  unfold nmsB
  rw [o.asc, List.length_map, decide_eq_true (by omega), decide_eq_true (by omega)]
  simp only [Bool.and_true, Bool.true_and, List.all_map]
  rw [List.all_eq_true]
  intro x hx
  exact o.low x hx
theorem off_in {ws : List Str} (o : Off ws) : (∀ d ∈ ws.map D.str, pln d = true ∧ szD d = true) ∧ layL 59 (ws.map D.str) = true := by
  refine ⟨fun d hd => ?_, layL_str 59 ws fun x hx => low_ok (o.low x hx)⟩
  obtain ⟨x, hx, rfl⟩ := List.mem_map.mp hd
  have := low_len (o.low x hx)
  have := sl1000
  exact ⟨rfl, decide_eq_true (by omega)⟩
/-- what is told with right offices -/
def nfO (ws : List Str) (ls : List D) : D := if legsB (ws.map D.str) ls = true then (if ls.any legDebt = true then .str "values" else .non) else .str "legs"
theorem v_nfo {S : Sto} {ws : List Str} {ls : List D} (o : Off ws) (h1 : 1 ≤ ws.length) (h8 : ws.length ≤ 8) (hl : ∀ d ∈ ls, Lgk d) : Fnetwork_fault [.v (.tup [.tup (ws.map D.str), .tup ls])] S = .ok (.v (nfO ws ls)) S := by
  obtain ⟨i1, i2⟩ := off_in o
  rw [v_nf i1 (fun _ => ⟨i2, fun d hd => (hl d hd).g, fun ha d hd => legB_shape (hl d hd) (List.all_eq_true.mp ha d hd)⟩)]
  unfold nfD nfO
  rw [if_pos (off_nms o h1 h8)]
theorem nfO_bad {ws : List Str} {ls : List D} {d : D} (h : d ∈ ls) (hb : legB (ws.map D.str) d = false) : nfO ws ls = .str "legs" := by
  unfold nfO
  refine if_neg fun e => ?_
  unfold legsB at e
  simp only [Bool.and_eq_true] at e
  have := List.all_eq_true.mp e.1.2 d h
  rw [hb] at this; cases this
theorem nfO_ok {ws : List Str} {ls : List D} (hl : ls.length ≤ 30) (hb : ∀ d ∈ ls, legB (ws.map D.str) d = true) (hc : chB (ls.map ends2) = true) : nfO ws ls = if ls.any legDebt = true then .str "values" else .non := by
  unfold nfO
  refine if_pos ?_
  unfold legsB
  rw [decide_eq_true hl, List.all_eq_true.mpr hb, hc]; rfl
theorem nfO_none {ws : List Str} {ls : List D} (hl : ls.length ≤ 30) (hb : ∀ d ∈ ls, GLeg ws d) (hc : chB (ls.map ends2) = true) : nfO ws ls = .non := by
  rw [nfO_ok hl (fun d hd => (hb d hd).b.1) hc]
  refine if_neg ?_
  rw [List.any_eq_true]
  rintro ⟨d, hd, h⟩
  rw [(hb d hd).b.2] at h; cases h
/-! orders -/
theorem slt_irr (x : Str) : ltD (.str x) (.str x) = false := by
  show decide (x.cps.toList < x.cps.toList) = false
  exact decide_eq_false (List.lt_irrefl _)
theorem slt_trans {x y z : Str} (h1 : ltD (.str x) (.str y) = true) (h2 : ltD (.str y) (.str z) = true) : ltD (.str x) (.str z) = true := by
  have h1 : decide (x.cps.toList < y.cps.toList) = true := h1
  have h2 : decide (y.cps.toList < z.cps.toList) = true := h2
  show decide (x.cps.toList < z.cps.toList) = true
  exact decide_eq_true (List.lt_trans (of_decide_eq_true h1) (of_decide_eq_true h2))
theorem slt_asym {x y : Str} (h1 : ltD (.str x) (.str y) = true) : ltD (.str y) (.str x) = false := by
  cases h : ltD (.str y) (.str x) with
  | false => rfl
  | true =>
    have := slt_trans h1 h
    rw [slt_irr] at this; cases this
theorem asc_head {a : Str} : ∀ {r : List Str}, ascB ((a :: r).map D.str) = true → ∀ x ∈ r, ltD (.str a) (.str x) = true
  | [], _, x, hx => nomatch hx
  | b :: r, h, x, hx => by
    have h : (ltD (.str a) (.str b) && ascB ((b :: r).map D.str)) = true := h
    rw [Bool.and_eq_true] at h
    rcases List.mem_cons.mp hx with e | hx
    · rw [e]; exact h.1
    · exact slt_trans h.1 (asc_head h.2 x hx)
theorem lt_fst {x y x' y' : Str} (h : ltD (.str x) (.str x') = true) : ltD (.tup [.str x, .str y]) (.tup [.str x', .str y']) = true := by
  rw [lt_pair]
  have : x ≠ x' := fun e => by rw [e, slt_irr] at h; cases h
  rw [if_neg this, h]
theorem lt_fst_no {x y x' y' : Str} (h : ltD (.str x') (.str x) = true) : ltD (.tup [.str x, .str y]) (.tup [.str x', .str y']) = false := by
  rw [lt_pair]
  have : x ≠ x' := fun e => by rw [e, slt_irr] at h; cases h
  rw [if_neg this, slt_asym h]
theorem lt_same {x y : Str} : ltD (.tup [.str x, .str y]) (.tup [.str x, .str y]) = false := by
  rw [lt_pair, if_pos rfl, if_pos rfl]
/-- the least pair -/
theorem min_pair {a b : Str} {r : List Str} (o : Off (a :: b :: r)) {l : D} (g : GLeg (a :: b :: r) l) : ltD (ends2 l) (.tup [.str a, .str b]) = false := by
  obtain ⟨x, y, f, h1, h2, h3, _, rfl⟩ := g.h
  show ltD (.tup [.str x, .str y]) (.tup [.str a, .str b]) = false
  have ha := asc_head o.asc
  have hb : ascB ((b :: r).map D.str) = true := by
    have h : (ltD (.str a) (.str b) && ascB ((b :: r).map D.str)) = true := o.asc
    rw [Bool.and_eq_true] at h; exact h.2
  rcases List.mem_cons.mp h1 with e | h1
  · subst e
    rw [lt_pair, if_pos rfl]
    rcases List.mem_cons.mp h2 with e | h2
    · exact absurd e.symm h3
    · rcases List.mem_cons.mp h2 with e | h2
      · rw [if_pos e]
      · have := asc_head hb y h2
        have ne : y ≠ b := fun e => by rw [e, slt_irr] at this; cases this
        rw [if_neg ne, slt_asym this]
  · exact lt_fst_no (ha x h1)
theorem chB_cons {x : D} {ds : List D} (h : ∀ y ∈ ds, ltD y x = false) (hc : chB ds = true) : chB (x :: ds) = true := by
  cases ds with
  | nil => rfl
  | cons y r =>
    show (!ltD y x && chB (y :: r)) = true
    rw [h y (by simp), hc]; rfl
theorem chB_rep {x : D} (h : ltD x x = false) : ∀ n, chB (List.replicate n x) = true
  | 0 => rfl
  | n + 1 => by
    rw [List.replicate_succ]
    exact chB_cons (fun y hy => by rw [List.eq_of_mem_replicate hy, h]) (chB_rep h n)
end K82

/-! k82: what is wrong, drawn -/
namespace K82
open PySem PySem.Spec PyProof.Rows L2 Z
theorem pick {L : List D} {q : Int} (h0 : 0 ≤ q) (h : q < L.length) : ∃ d ∈ L, ∀ S, ixW S (.v (.lst L)) (.v (.int q)) = some (.v d) := by
  obtain ⟨k, rfl⟩ : ∃ k : Nat, q = k := ⟨q.toNat, by omega⟩
  have l : k < L.length := by omega
  exact ⟨L[k], List.getElem_mem l, fun S => ix_lst (List.getElem?_eq_getElem l)⟩
@[simp] theorem sl_9 : (9 : Nat) ≤ sizeLine := by decide
@[simp] theorem sl_7 : (7 : Nat) ≤ sizeLine := by decide
@[simp] theorem sl_10 : (10 : Nat) ≤ sizeLine := by decide
@[simp] theorem sl_13 : (13 : Nat) ≤ sizeLine := by decide
@[simp] theorem sl_15 : (15 : Nat) ≤ sizeLine := by decide
/-! offices -/
def badO (ds : List D) : Prop := nmsB 1 8 ds = false ∧ ∀ d ∈ ds, pln d = true ∧ szD d = true
def badOb : D → Bool | .tp .t ds => !nmsB 1 8 ds && ds.all fun d => pln d && szD d | _ => false
theorem badOb_ok {d : D} (h : badOb d = true) : ∃ ds, d = .tup ds ∧ badO ds := by
  unfold badOb at h
  split at h
  · rename_i ds
    rw [Bool.and_eq_true] at h
    refine ⟨ds, rfl, by simpa using h.1, fun d hd => ?_⟩
    have := List.all_eq_true.mp h.2 d hd
    rw [Bool.and_eq_true] at this
    exact this
  · cases h
def wO1 (a : Str) (r : List Str) : List D := [.tup [], .tup [.str "a", .str "b", .str "c", .str "d", .str "e", .str "f", .str "g", .str "h", .str "i"], .tup (.str a :: (r.map D.str ++ [.str a])), .tup [.str ""], .tup [.str "A"], .tup [.str "abcdefghijklm"], .tup [.int 1], .tup [.non], .tup [.str "a", .str "a"], .tup [.str "b", .str "a"]]
def wO2 : List D := [.tup [.str "caf_"], .tup [.str "a", .tup [.str "b"]], .tup [.bl true], .tup [.str "a b"], .tup [.str "a1"]]
theorem not_asc {a : Str} {r : List Str} : ascB (.str a :: (r.map D.str ++ [.str a])) = false := by
  cases h : ascB (.str a :: (r.map D.str ++ [.str a])) with
  | false => rfl
  | true =>
    have h2 : ascB ((a :: (r ++ [a])).map D.str) = true := by rw [List.map_cons, List.map_append]; exact h
    have := asc_head h2 a (by simp)
    rw [slt_irr] at this; cases this
theorem wO_bad {a : Str} {r : List Str} (o : Off (a :: r)) : ∀ d ∈ wO1 a r ++ wO2, ∃ ds, d = .tup ds ∧ badO ds := by
  intro d hd
  have fix : ∀ d ∈ ([.tup [], .tup [.str "a", .str "b", .str "c", .str "d", .str "e", .str "f", .str "g", .str "h", .str "i"], .tup [.str ""], .tup [.str "A"], .tup [.str "abcdefghijklm"], .tup [.int 1], .tup [.non], .tup [.str "a", .str "a"], .tup [.str "b", .str "a"], .tup [.str "caf_"], .tup [.str "a", .tup [.str "b"]], .tup [.bl true], .tup [.str "a b"], .tup [.str "a1"]] : List D), badOb d = true := List.all_eq_true.mp (by decide +kernel)
  by_cases e : d = .tup (.str a :: (r.map D.str ++ [.str a]))
  · refine ⟨_, e, ?_, fun z hz => ?_⟩
    · unfold nmsB
      rw [not_asc, Bool.and_false]
    · obtain ⟨x, hx, rfl⟩ : ∃ x ∈ a :: r, z = .str x := by
        rcases List.mem_cons.mp hz with e | hz
        · exact ⟨a, by simp, e⟩
        · rcases List.mem_append.mp hz with hz | hz
          · obtain ⟨x, hx, e⟩ := List.mem_map.mp hz
            exact ⟨x, List.mem_cons_of_mem _ hx, e.symm⟩
          · exact ⟨a, by simp, List.mem_singleton.mp hz⟩
      exact (off_in o).1 _ (List.mem_map.mpr ⟨x, hx, rfl⟩)
  · refine badOb_ok (fix d ?_)
    simp only [wO1, wO2, List.cons_append, List.nil_append, List.mem_cons, List.not_mem_nil, or_false] at hd ⊢
    rcases hd with h | h | h | h | h | h | h | h | h | h | h | h | h | h | h
    case inr.inr.inl => exact absurd h e
    all_goals simp [h]
theorem v_wrong_offices (s : Stt) (J : Sto) {a : Str} {r : List Str} {x : D} (o : Off (a :: r)) (h8 : r.length ≤ 8) : ∃ (ds : List D) (s' : Stt), badO ds ∧ F_law_wrong_offices [.r 0, .v (.tup [.tup ((a :: r).map D.str), x])] (SS s J) = .ok (.v (.tup ds)) (SS s' J) := by
  obtain ⟨q, s1, q1, q2, hq⟩ := v_draw s J (lim := 15) (by omega) (by omega)
  obtain ⟨d, dm, hd⟩ := pick (L := wO1 a r ++ wO2) q1 q2
  obtain ⟨ds, rfl, hb⟩ := wO_bad o d dm
  refine ⟨ds, s1, hb, ?_⟩
  have i0 : ∀ S, ixW S (.v (.tup [.tup ((a :: r).map D.str), x])) (.v (.int 0)) = some (.v (.tup ((a :: r).map D.str))) := fun S => ix_tp (i := 0) rfl
  have cf : ∀ r, callV G_law_wrong_offices 0 r = r.bind fun ws S => if ws.length = 2 then F_law_draw ws S else .no := fun r => by unfold G_law_wrong_offices; rfl
  have vs : vsl (.tup ((a :: r).map D.str)) none (some 1) = some (.tup [.str a]) := by
    show some (D.tup (Z.cutD _ none (some ((1 : Nat) : Int)))) = _
    rw [cutD_take (by simp)]; rfl
  have va : vadd (.tup ((a :: r).map D.str)) (.tup [.str a]) = some (.tup (.str a :: (r.map D.str ++ [.str a]))) :=
    vadd_tup (by rw [List.length_map, List.length_cons]; have := sl1000; show r.length + 1 + 1 ≤ _; omega)
  have vl : vadd (.lst (wO1 a r)) (.lst wO2) = some (.lst (wO1 a r ++ wO2)) := vadd_lst (show 10 + 5 ≤ sizeLine by decide)
  rw [e_law_wrong_offices]
  unfold B_law_wrong_offices
  rw [evSs_2, evS_1]
  simp only [evE_16, evE_1, evE_4, getV_0, getV_s, lft_some, Rs.bind_ok, i0, bindV_nm, setV2_0, setV2_s]
  rw [evSs_2, evS_1]
  simp only [evE_14, evE_5, evL_1, evL_2, Rs.bind_ok, plnW_cons, plnW_nil, List.length_cons, List.length_nil, Nat.zero_add, Nat.reduceAdd, sl_9, if_true, bindV_nm, setV2_0, setV2_s]
  rw [evSs_2, evS_1]
  simp only [evE_14, evE_15, evE_17, evE_7, evE_1, evE_2, evE_4, evE_5, evL_1, evL_2, evO_1, evO_2, getV_0, getV_s, lft_some, Rs.bind_ok, plnW_cons, plnW_nil, List.length_cons, List.length_nil, Nat.zero_add, Nat.reduceAdd, sl_0, sl_1, sl_2, sl_10, if_true, rd1_some' rdW_tp, vs, lfv_some, rd2_some' rdW_tp rdW_tp, bo_add, va, bindV_nm, setV2_0, setV2_s]
  rw [← wO1]
  rw [evSs_2, evS_1]
  simp only [evE_14, evE_15, evE_7, evE_1, evE_3, evE_4, evE_5, evL_1, evL_2, getV_0, getV_s, lft_some, Rs.bind_ok, plnW_cons, plnW_nil, List.length_cons, List.length_nil, Nat.zero_add, Nat.reduceAdd, sl_1, sl_2, sl_5, if_true]
  rw [← wO2]
  simp only [rd2_some' rdW_lst rdW_lst, bo_add, vl, lfv_some, Rs.bind_ok, bindV_nm, setV2_0, setV2_s, evSs_2, evS_6, evE_16, evE_19, evE_20, evE_1, evL_1, evL_2, getV_0, getV_s, lft_some, bt_len, rd1_some' rdW_lst, lenA_lst', cf, List.length_cons, List.length_nil, Nat.zero_add, Nat.reduceAdd, if_true]
  rw [show ((wO1 a r ++ wO2).length : Int) = 15 from rfl]
  simp only [hq, Rs.bind_ok, hd, lft_some, out_rt]
/-! a leg in another's place -/
theorem v_with_leg {S : Sto} {o l : D} {ls : List D} {k : Nat} (h : k < ls.length) (hl : ls.length ≤ 1000) : F_law_with_leg [.v (.tup [o, .tup ls]), .v (.int k), .v l] S = .ok (.v (.tup [o, .tup (ls.take k ++ [l] ++ ls.drop (k + 1))])) S := by
  have i0 : ∀ S, ixW S (.v (.tup [o, .tup ls])) (.v (.int 0)) = some (.v o) := fun S => ix_tp (i := 0) rfl
  have i1 : ∀ S, ixW S (.v (.tup [o, .tup ls])) (.v (.int 1)) = some (.v (.tup ls)) := fun S => ix_tp (i := 1) rfl
  have s1 : vsl (.tup ls) none (some (k : Int)) = some (.tup (ls.take k)) := by
    show some (D.tup (Z.cutD ls none (some (k : Int)))) = _
    rw [cutD_take (by omega)]
  have s2 : vsl (.tup ls) (some ((k : Int) + 1)) none = some (.tup (ls.drop (k + 1))) := by
    show some (D.tup (Z.cutD ls (some (((k + 1 : Nat)) : Int)) none)) = _
    rw [cutD_drop (by omega)]
  have s0 := sl1000
  have l1 := List.length_take_le k ls
  have l2 : (ls.drop (k + 1)).length ≤ ls.length := by rw [List.length_drop]; omega
  have a1 : vadd (.tup (ls.take k)) (.tup [l]) = some (.tup (ls.take k ++ [l])) := vadd_tup (by show _ + 1 ≤ _; omega)
  have sz : (3000 : Nat) ≤ sizeLine := by decide
  have a2 : vadd (.tup (ls.take k ++ [l])) (.tup (ls.drop (k + 1))) = some (.tup (ls.take k ++ [l] ++ ls.drop (k + 1))) := vadd_tup (by rw [List.length_append]; show _ + 1 + _ ≤ _; omega)
  rw [e_law_with_leg]
  unfold B_law_with_leg G_law_with_leg
  simp only [evSs_2, evSs_1, evS_1, evS_6, evE_14, evE_16, evE_17, evE_7, evE_1, evE_4, evL_1, evL_2, evO_1, evO_2, getV_0, getV_s, lft_some, Rs.bind_ok, i0, i1, bindV_nm, setV2_0, setV2_s, plnW_cons, plnW_nil, List.length_cons, List.length_nil, Nat.zero_add, Nat.reduceAdd, sl_1, sl_2, if_true, rd1_some' rdW_tp, s1, s2, lfv_some, rd2_some' rdW_tp rdW_tp, rd2_some' rdW_i rdW_i, bo_add, vadd_int, a1, a2, out_rt]
/-! debts -/
def dbL1 : List D := [.tup [.tup [.int (-1)], .tup [.tup [.int 0, .int 0]]], .tup [.tup [], .tup [.tup [.int (-1), .int 0]]], .tup [.tup [], .tup [.tup [.int 5, .int (-1)]]], .tup [.tup [.int 3, .non, .int (-7)], .tup [.tup [.non, .int 0]]]]
def dbL2 : List D := [.tup [.tup [.int 0, .int 0, .int (0 - 1000000000000000000000000000000)], .tup [.tup [.int 1, .int 1]]], .tup [.tup [], .tup [.tup [.int 1000000000000000000000000000000, .int (-1)]]], .tup [.tup [], .tup [.tup [.int 1, .int 0], .tup [.int (-2), .int 1]]]]
/-- a form with debts -/
structure DbF (f : D) : Prop where
  n : Z.isNon (ffD f) = true
  d : debtB f = true
  p : fpl f = true
theorem db_all : ∀ d ∈ dbL1 ++ dbL2, DbF d := fun d hd => by
  have h : (dbL1 ++ dbL2).all (fun d => Z.isNon (ffD d) && debtB d && fpl d) = true := by decide +kernel
  have := List.all_eq_true.mp h d hd
  simp only [Bool.and_eq_true] at this
  exact ⟨this.1.1, this.1.2, this.2⟩
theorem e30 : vpow (.int 10) (.int 30) = some (.int 1000000000000000000000000000000) := by simp [vpow]
theorem v_debtsL (s : Stt) (J : Sto) : ∃ (f : D) (s' : Stt), DbF f ∧ F_law_debts [.r 0] (SS s J) = .ok (.v f) (SS s' J) := by
  obtain ⟨q, s1, q1, q2, hq⟩ := v_draw s J (lim := 7) (by omega) (by omega)
  obtain ⟨d, dm, hd⟩ := pick (L := dbL1 ++ dbL2) q1 q2
  refine ⟨d, s1, db_all d dm, ?_⟩
  have cf : ∀ r, callV G_law_debts 0 r = r.bind fun ws S => if ws.length = 2 then F_law_draw ws S else .no := fun r => by unfold G_law_debts; rfl
  have vl : vadd (.lst dbL1) (.lst dbL2) = some (.lst (dbL1 ++ dbL2)) := vadd_lst (show 4 + 3 ≤ sizeLine by decide)
  rw [e_law_debts]
  unfold B_law_debts
  rw [evSs_2, evS_1]
  simp only [evE_14, evE_15, evE_8, evE_2, evE_4, evL_1, evL_2, Rs.bind_ok, rd1_some' rdW_i, vneg, lfv_some, plnW_cons, plnW_nil, List.length_cons, List.length_nil, Nat.zero_add, Nat.reduceAdd, sl_0, sl_1, sl_2, sl_3, sl_4, if_true, bindV_nm, setV2_0, setV2_s]
  rw [← dbL1]
  rw [evSs_2, evS_1]
  simp only [evE_14, evE_15, evE_7, evE_8, evE_1, evE_2, evE_4, evL_1, evL_2, getV_0, getV_s, lft_some, Rs.bind_ok, rd1_some' rdW_i, rd2_some' rdW_i rdW_i, vneg, bo_pow, bo_sub, e30, vsub_int, lfv_some, plnW_cons, plnW_nil, List.length_cons, List.length_nil, Nat.zero_add, Nat.reduceAdd, sl_0, sl_1, sl_2, sl_3, sl_4, if_true]
  rw [← dbL2]
  simp only [rd2_some' rdW_lst rdW_lst, bo_add, vl, lfv_some, Rs.bind_ok, bindV_nm, setV2_0, setV2_s, evSs_2, evS_6, evE_16, evE_19, evE_20, evE_1, evL_1, evL_2, getV_0, getV_s, lft_some, bt_len, rd1_some' rdW_lst, lenA_lst', cf, List.length_cons, List.length_nil, Nat.zero_add, Nat.reduceAdd, if_true]
  rw [show ((dbL1 ++ dbL2).length : Int) = 7 from rfl]
  simp only [hq, Rs.bind_ok, hd, lft_some, out_rt]
end K82

/-! k82: wrong forms, wrong legs, full networks, shapes -/
namespace K82
open PySem PySem.Spec PyProof.Rows L2 Z
def big1 : List D := (List.replicate 4001 [D.int 0]).flatten
def big2 : List D := (List.replicate 1001 [D.tup [.int 1, .int 0]]).flatten
theorem big1_len : big1.length = 4001 := by unfold big1; rw [PyProof.Rows.lm_len_rep_flat]; rfl
theorem big2_len : big2.length = 1001 := by unfold big2; rw [PyProof.Rows.lm_len_rep_flat]; rfl
theorem rep_mem {x d : D} {n : Nat} (h : d ∈ (List.replicate n [x]).flatten) : d = x := by
  obtain ⟨l, hl, hd⟩ := List.mem_flatten.mp h
  rw [List.eq_of_mem_replicate hl] at hd
  exact List.mem_singleton.mp hd
def one1 : D := .tup [.tup [.int 1, .int 0]]
def wf1 : List D := [.tup [.tup [], .tup []], .tup [.tup [.int 1], .tup [.tup [.non, .int 1]]], .tup [.tup [.bl true], .tup [.tup [.int 1, .int 0]]], .non, .tup [.tup [], .tup [.tup [.int 1, .bl true]]], .tup [.tup big1, .tup [.tup [.int 1, .int 0]]]]
def wf2 : List D := [.tup [.tup [], .tup big2], .tup [.tup [], .tup [.tup [.int 1, .int 0]], .tup []], .int 3, .tup [.tup [.int 1], .int 3], .tup [.tup [], .tup [.tup [.int 1]]], .tup [.tup [], .tup [.tup [.bl false, .int 0]]]]
/-- no form -/
structure BadF (f : D) : Prop where
  n : Z.isNon (ffD f) = false
  p : fpl f = true
theorem wf_bad : ∀ d ∈ wf1 ++ wf2, BadF d := fun d hd => by
  have fix : ∀ d ∈ ([.tup [.tup [], .tup []], .tup [.tup [.int 1], .tup [.tup [.non, .int 1]]], .tup [.tup [.bl true], .tup [.tup [.int 1, .int 0]]], .non, .tup [.tup [], .tup [.tup [.int 1, .bl true]]], .tup [.tup [], .tup [.tup [.int 1, .int 0]], .tup []], .int 3, .tup [.tup [.int 1], .int 3], .tup [.tup [], .tup [.tup [.int 1]]], .tup [.tup [], .tup [.tup [.bl false, .int 0]]]] : List D), (!Z.isNon (ffD d) && fpl d) = true := List.all_eq_true.mp (by decide +kernel)
  have use : ∀ d, (!Z.isNon (ffD d) && fpl d) = true → BadF d := fun d h => by
    rw [Bool.and_eq_true] at h
    exact ⟨by simpa using h.1, h.2⟩
  have b1 : BadF (.tup [.tup big1, .tup [.tup [.int 1, .int 0]]]) := by
    refine ⟨?_, ?_⟩
    · show Z.isNon (ff2 big1 _) = false
      unfold ff2
      rw [if_neg (by rw [big1_len]; omega)]; rfl
    · have : big1.all pln = true := List.all_eq_true.mpr fun d hd => by rw [rep_mem hd]; rfl
      show (true && true && big1.all pln && true) = true
      rw [this]; rfl
  have b2 : BadF (.tup [.tup [], .tup big2]) := by
    refine ⟨?_, ?_⟩
    · show Z.isNon (ff2 [] big2) = false
      unfold ff2
      rw [if_pos ⟨by simp, rfl⟩, if_neg (by rw [big2_len]; omega)]; rfl
    · have : big2.all (fun z => pln z && pl1 z) = true := List.all_eq_true.mpr fun d hd => by rw [rep_mem hd]; rfl
      show (true && true && ([] : List D).all pln && big2.all (fun z => pln z && pl1 z)) = true
      rw [this]; rfl
  simp only [wf1, wf2, List.cons_append, List.nil_append, List.mem_cons, List.not_mem_nil, or_false] at hd
  rcases hd with h | h | h | h | h | h | h | h | h | h | h | h
  case inr.inr.inr.inr.inr.inl => rw [h]; exact b1
  case inr.inr.inr.inr.inr.inr.inl => rw [h]; exact b2
  all_goals exact use d (fix d (by simp [h]))
theorem vmul_tup {a : List D} {k : Int} (h1 : a ≠ []) (h2 : 2 ≤ k) (h3 : a.length * k.toNat ≤ 1000000) : vmul (.tup a) (.int k) = some (.tup (List.replicate k.toNat a).flatten) := if_pos ⟨h1, h2, h3⟩
theorem vm1 : vmul (.tup [.int 0]) (.int 4001) = some (.tup big1) := vmul_tup (k := 4001) (by simp) (by omega) (by decide)
theorem vm2 : vmul (.tup [.tup [.int 1, .int 0]]) (.int 1001) = some (.tup big2) := vmul_tup (k := 1001) (by simp) (by omega) (by decide)
theorem v_wrong_form (s : Stt) (J : Sto) : ∃ (f : D) (s' : Stt), BadF f ∧ F_law_wrong_form [.r 0] (SS s J) = .ok (.v f) (SS s' J) := by
  obtain ⟨q, s1, q1, q2, hq⟩ := v_draw s J (lim := 12) (by omega) (by omega)
  obtain ⟨d, dm, hd⟩ := pick (L := wf1 ++ wf2) q1 q2
  refine ⟨d, s1, wf_bad d dm, ?_⟩
  have cf : ∀ r, callV G_law_wrong_form 0 r = r.bind fun ws S => if ws.length = 2 then F_law_draw ws S else .no := fun r => by unfold G_law_wrong_form; rfl
  have vl : vadd (.lst wf1) (.lst wf2) = some (.lst (wf1 ++ wf2)) := vadd_lst (show 6 + 6 ≤ sizeLine by decide)
  rw [e_law_wrong_form]
  unfold B_law_wrong_form
  rw [evSs_2, evS_1]
  simp only [evE_14, evE_15, evE_7, evE_8, evE_2, evE_3, evE_4, evL_1, evL_2, Rs.bind_ok, bo_mul, rd2_some' rdW_tp rdW_i, vm1, lfv_some, plnW_cons, plnW_nil, List.length_cons, List.length_nil, Nat.zero_add, Nat.reduceAdd, sl_0, sl_1, sl_2, sl_3, sl_6, if_true, bindV_nm, setV2_0, setV2_s]
  rw [← wf1]
  rw [evSs_2, evS_1]
  simp only [evE_14, evE_15, evE_7, evE_8, evE_1, evE_2, evE_3, evE_4, evL_1, evL_2, getV_0, getV_s, lft_some, Rs.bind_ok, bo_mul, rd2_some' rdW_tp rdW_i, vm2, lfv_some, plnW_cons, plnW_nil, List.length_cons, List.length_nil, Nat.zero_add, Nat.reduceAdd, sl_0, sl_1, sl_2, sl_3, sl_6, if_true]
  rw [← wf2]
  simp only [rd2_some' rdW_lst rdW_lst, bo_add, vl, lfv_some, Rs.bind_ok, bindV_nm, setV2_0, setV2_s, evSs_2, evS_6, evE_16, evE_19, evE_20, evE_1, evL_1, evL_2, getV_0, getV_s, lft_some, bt_len, rd1_some' rdW_lst, lenA_lst', cf, List.length_cons, List.length_nil, Nat.zero_add, Nat.reduceAdd, if_true]
  rw [show ((wf1 ++ wf2).length : Int) = 12 from rfl]
  simp only [hq, Rs.bind_ok, hd, lft_some, out_rt]
/-! legs -/
def fm0 : D := .tup [.tup [], .tup [.tup [.int 1, .int 0]]]
theorem fm0_gd : GdF fm0 := ⟨[], _, rfl, rfl, rfl, by simp, by simp, by simp⟩
/-- no leg -/
structure BadL (ws : List Str) (l : D) : Prop where
  n : legB (ws.map D.str) l = false
  k : Lgk l
def wl1 (a b : Str) : List D := [.non, .tup [], .tup [.str a, .str b], .tup [.str a, .str b, fm0, .int 1], .tup [.str a, .str a, fm0], .tup [.str a, .str "Zz", fm0], .tup [.str "", .str b, fm0], .int 3, .str "abc"]
def wl2 (a b : Str) (f : D) : List D := [.tup [.non, .str b, fm0], .tup [.tup [.str a], .str b, fm0], .tup [.str a, .int 1, fm0], .tup [.str a, .str b, f]]
theorem Lgk.of {ds : List D} (h : ∀ a b f, ds = [a, b, f] → lay 59 a = true ∧ lay 59 b = true ∧ lay 60 a = true ∧ lay 60 b = true ∧ fpl f = true) : Lgk (.tup ds) :=
  ⟨⟨rfl, fun k a b f e => by cases e; exact h a b f rfl⟩, fun k z e => by cases e; rfl⟩
theorem Lgk.no {d : D} (h : pln d = true) (h2 : ∀ k ds, d ≠ .tp k ds) : Lgk d := ⟨⟨h, fun k a b f e => absurd e (h2 _ _)⟩, fun k ds e => absurd e (h2 _ _)⟩
theorem wl_bad {a b : Str} {r : List Str} {f : D} (o : Off (a :: b :: r)) (hf : BadF f) : ∀ d ∈ wl1 a b ++ wl2 a b f, BadL (a :: b :: r) d := by
  have oa : okS a := low_ok (o.low a (by simp))
  have ob : okS b := low_ok (o.low b (by simp))
  have f0 := (gd_ff fm0_gd).2.2
  have np : ∀ {x : Str}, lowS x = false → x ∉ a :: b :: r := fun {x} h hm => by
    rw [o.low x hm] at h; cases h
  have ni : ∀ {d : D}, (∀ x, d ≠ .str x) → inB ((a :: b :: r).map D.str) d = false := fun {d} h => by
    cases q : inB ((a :: b :: r).map D.str) d with
    | false => rfl
    | true =>
      obtain ⟨x, e⟩ := inB_str q
      exact absurd e (h x)
  intro d hd
  simp only [wl1, wl2, List.cons_append, List.nil_append, List.mem_cons, List.not_mem_nil, or_false] at hd
  rcases hd with h | h | h | h | h | h | h | h | h | h | h | h | h <;> subst h
  · exact ⟨rfl, .no rfl fun _ _ e => by cases e⟩
  · exact ⟨rfl, .of fun _ _ _ e => by cases e⟩
  · exact ⟨rfl, .of fun _ _ _ e => by cases e⟩
  · exact ⟨rfl, .of fun _ _ _ e => by cases e⟩
  · exact ⟨by rw [leg_str]; simp, .of fun _ _ _ e => by cases e; exact ⟨oa, oa, oa, oa, f0⟩⟩
  · have z : okS ("Zz" : Str) := (by decide +kernel : PyData.strOk ("Zz" : Str) = true)
    exact ⟨by rw [leg_str, decide_eq_false (np (x := "Zz") (by decide +kernel))]; simp, .of fun _ _ _ e => by cases e; exact ⟨oa, z, oa, z, f0⟩⟩
  · have z : okS ("" : Str) := (by decide +kernel : PyData.strOk ("" : Str) = true)
    exact ⟨by rw [leg_str, decide_eq_false (np (x := "") (by decide +kernel))]; simp, .of fun _ _ _ e => by cases e; exact ⟨z, ob, z, ob, f0⟩⟩
  · exact ⟨rfl, .no rfl fun _ _ e => by cases e⟩
  · exact ⟨rfl, .no rfl fun _ _ e => by cases e⟩
  · refine ⟨?_, .of fun _ _ _ e => by cases e; exact ⟨rfl, ob, rfl, ob, f0⟩⟩
    show (inB _ .non && _ && _ && _) = false
    rw [ni (fun _ e => by cases e)]; rfl
  · have l1 : lay 59 (.tup [.str a]) = true := by
      show (lay 58 (.str a) && true) = true
      rw [show lay 58 (.str a) = true from oa]; rfl
    have l2 : lay 60 (.tup [.str a]) = true := by
      show (lay 59 (.str a) && true) = true
      rw [show lay 59 (.str a) = true from oa]; rfl
    refine ⟨?_, .of fun _ _ _ e => by cases e; exact ⟨l1, ob, l2, ob, f0⟩⟩
    show (inB _ (.tup [.str a]) && _ && _ && _) = false
    rw [ni (fun _ e => by cases e)]; rfl
  · refine ⟨?_, .of fun _ _ _ e => by cases e; exact ⟨oa, rfl, oa, rfl, f0⟩⟩
    show (inB _ _ && inB _ (.int 1) && _ && _) = false
    rw [ni (d := .int 1) (fun _ e => by cases e)]; simp
  · exact ⟨by rw [leg_str, hf.n]; simp, .of fun _ _ _ e => by cases e; exact ⟨oa, ob, oa, ob, hf.p⟩⟩
theorem v_wrong_leg (s : Stt) (J : Sto) {a b : Str} {r : List Str} {x : D} (o : Off (a :: b :: r)) : ∃ (l : D) (s' : Stt), BadL (a :: b :: r) l ∧ F_law_wrong_leg [.r 0, .v (.tup [.tup ((a :: b :: r).map D.str), x])] (SS s J) = .ok (.v l) (SS s' J) := by
  obtain ⟨f, s1, f1, hf⟩ := v_wrong_form s J
  obtain ⟨c, s2, c1, c2, hc⟩ := v_draw s1 J (lim := 13) (by omega) (by omega)
  obtain ⟨e, s3, e1, e2, he⟩ := v_draw s2 J (lim := 2) (by omega) (by omega)
  obtain ⟨q, q1, q2, hq⟩ : ∃ q : Int, 0 ≤ q ∧ q < 13 ∧ ∀ S, ixW S (.v (.lst [.int 12, .int c])) (.v (.int e)) = some (.v (.int q)) := by
    by_cases z : e = 0
    · exact ⟨12, by omega, by omega, fun S => by rw [ix2 e1 e2, if_pos z]⟩
    · exact ⟨c, c1, c2, fun S => by rw [ix2 e1 e2, if_neg z]⟩
  obtain ⟨d, dm, hd⟩ := pick (L := wl1 a b ++ wl2 a b f) q1 q2
  refine ⟨d, s3, wl_bad o f1 d dm, ?_⟩
  have cf0 : ∀ r, callV G_law_wrong_leg 0 r = r.bind fun ws S => if ws.length = 1 then F_law_wrong_form ws S else .no := fun r => by unfold G_law_wrong_leg; rfl
  have cf1 : ∀ r, callV G_law_wrong_leg 1 r = r.bind fun ws S => if ws.length = 2 then F_law_draw ws S else .no := fun r => by unfold G_law_wrong_leg; rfl
  have i0 : ∀ S, ixW S (.v (.tup [.tup ((a :: b :: r).map D.str), x])) (.v (.int 0)) = some (.v (.tup ((a :: b :: r).map D.str))) := fun S => ix_tp (i := 0) rfl
  have j0 : ∀ S, ixW S (.v (.tup ((a :: b :: r).map D.str))) (.v (.int 0)) = some (.v (.str a)) := fun S => ix_tp (i := 0) rfl
  have j1 : ∀ S, ixW S (.v (.tup ((a :: b :: r).map D.str))) (.v (.int 1)) = some (.v (.str b)) := fun S => ix_tp (i := 1) rfl
  have vl : vadd (.lst (wl1 a b)) (.lst (wl2 a b f)) = some (.lst (wl1 a b ++ wl2 a b f)) := vadd_lst (show 9 + 4 ≤ sizeLine by decide)
  rw [e_law_wrong_leg]
  unfold B_law_wrong_leg
  rw [evSs_2, evS_1]
  simp only [evE_16, evE_1, evE_4, getV_0, getV_s, lft_some, Rs.bind_ok, i0, j0, bindV_nm, setV2_0, setV2_s]
  rw [evSs_2, evS_1]
  simp only [evE_16, evE_1, evE_4, getV_0, getV_s, lft_some, Rs.bind_ok, i0, j1, bindV_nm, setV2_0, setV2_s]
  rw [evSs_2, evS_1]
  simp only [evE_14, evE_4, evL_1, evL_2, Rs.bind_ok, plnW_cons, plnW_nil, List.length_cons, List.length_nil, Nat.zero_add, Nat.reduceAdd, sl_0, sl_1, sl_2, if_true, bindV_nm, setV2_0, setV2_s]
  rw [← fm0]
  rw [evSs_2, evS_1]
  simp only [evE_14, evE_15, evE_1, evE_2, evE_4, evE_5, evL_1, evL_2, getV_0, getV_s, lft_some, Rs.bind_ok, plnW_cons, plnW_nil, List.length_cons, List.length_nil, Nat.zero_add, Nat.reduceAdd, sl_0, sl_1, sl_2, sl_3, sl_4, sl_9, if_true, bindV_nm, setV2_0, setV2_s]
  rw [← wl1]
  rw [evSs_2, evS_1]
  simp only [evE_14, evE_15, evE_7, evE_1, evE_2, evE_4, evE_5, evE_19, evL_1, evL_2, getV_0, getV_s, lft_some, Rs.bind_ok, cf0, hf, plnW_cons, plnW_nil, List.length_cons, List.length_nil, Nat.zero_add, Nat.reduceAdd, sl_0, sl_1, sl_2, sl_3, sl_4, sl_9, if_true]
  rw [← wl2]
  simp only [rd2_some' rdW_lst rdW_lst, bo_add, vl, lfv_some, Rs.bind_ok, bindV_nm, setV2_0, setV2_s, evSs_2, evS_6, evE_15, evE_16, evE_19, evE_1, evE_4, evL_1, evL_2, getV_0, getV_s, lft_some, cf1, List.length_cons, List.length_nil, Nat.zero_add, Nat.reduceAdd, if_true, hc, he, plnW_cons, plnW_nil, sl_2, hq, hd, out_rt]
/-! a full network -/
def ab8 : List Str := ["a", "b", "c", "d", "e", "f", "g", "h"]
def legF : D → D
  | .int k => .tup [.str (ab8.getD (k.toNat / 4) ""), .str (ab8.getD (k.toNat / 4 + 1) ""), fm0]
  | d => d
def full28 : List D := (rngD 0 28).map legF
theorem v_law_full {S : Sto} : F_law_full [.v (.int 28), .v fm0] S = .ok (.v (.tup [.tup (ab8.map D.str), .tup full28])) S := by
  have ir : itW .rng1 [.v (.int 28)] = some (rngD 0 28) := it_rng (j := 28) (by omega) (by omega)
  rw [e_law_full]
  unfold B_law_full G_law_full
  rw [evSs_2, evS_1]
  simp only [evE_14, evE_5, evL_1, evL_2, Rs.bind_ok, plnW_cons, plnW_nil, List.length_cons, List.length_nil, Nat.zero_add, Nat.reduceAdd, sl_8, if_true, bindV_nm, setV2_0, setV2_s]
  rw [evSs_2, evS_6]
  simp only [evE_14, evE_20, evE_23, evE_1, evL_1, evL_2, getV_0, getV_s, lft_some, Rs.bind_ok, ir, List.map_cons, List.map_nil, wipeV_nil, wipeV_cons, wipeV1_0, wipeV1_s]
  rw [compV_map legF (rngD 0 28) (fun x hx => by
    obtain ⟨i, hi, rfl⟩ := rngD_mem hx
    refine ⟨_, rfl, rfl, ?_⟩
    have e0 : (0 : Int) + (i : Int) = ((i : Nat) : Int) := by omega
    rw [e0]
    have hd : vfdv (.int (i : Int)) (.int 4) = some (.int ((i / 4 : Nat) : Int)) := by
      show (if (4 : Int) ≠ 0 ∧ (4 : Int).natAbs < 1073741824 then some (D.int ((i : Int).fdiv 4)) else none) = _
      rw [if_pos ⟨by omega, by decide⟩, Int.fdiv_eq_ediv_of_nonneg _ (by omega)]; rfl
    have h1 : i / 4 < 7 := by omega
    have ix : ∀ (j : Nat) S, j < 8 → ixW S (.v (.tup [.str "a", .str "b", .str "c", .str "d", .str "e", .str "f", .str "g", .str "h"])) (.v (.int (j : Int))) = some (.v (.str (ab8.getD j ""))) := fun j S hj => by
      have : j = 0 ∨ j = 1 ∨ j = 2 ∨ j = 3 ∨ j = 4 ∨ j = 5 ∨ j = 6 ∨ j = 7 := by omega
      rcases this with rfl | rfl | rfl | rfl | rfl | rfl | rfl | rfl <;> rfl
    have x1 : ∀ S, _ := fun S => ix (i / 4) S (by omega)
    have x2 : ∀ S, ixW S (.v (.tup [.str "a", .str "b", .str "c", .str "d", .str "e", .str "f", .str "g", .str "h"])) (.v (.int (((i / 4 : Nat) : Int) + 1))) = some (.v (.str (ab8.getD (i / 4 + 1) ""))) := fun S => ix (i / 4 + 1) S (by omega)
    simp only [evE_14, evE_16, evE_7, evE_1, evE_4, evL_1, evL_2, getV_0, getV_s, setV2_0, setV2_s, lft_some, Rs.bind_ok, rd2_some' rdW_i rdW_i, bo_fdv, bo_add, hd, vadd_int, lfv_some, x1, x2, plnW_cons, plnW_nil, List.length_cons, List.length_nil, Nat.zero_add, Nat.reduceAdd, sl_3, if_true, legF, Int.toNat_natCast])]
  simp only [calm_ok, compR_ok, Rs.bind_ok, bt_tupT, rd1_some' rdW_lst, tup_lst, lfv_some, plnW_cons, plnW_nil, List.length_cons, List.length_nil, Nat.zero_add, Nat.reduceAdd, sl_2, if_true, out_rt]
  rfl
theorem ab8_off : Off ab8 := ⟨by decide +kernel, by decide +kernel, by decide +kernel⟩
theorem full_none : Z.isNon (nfO ab8 full28) = true := by decide +kernel
theorem full_k : ∀ d ∈ full28, Lgk d := fun d hd => by
  obtain ⟨x, hx, rfl⟩ := List.mem_map.mp hd
  obtain ⟨i, hi, rfl⟩ := rngD_mem hx
  have ok : ∀ j : Nat, okS (ab8.getD j "") := fun j => by
    by_cases h : j < 8
    · have : ∀ j < 8, PyData.strOk (ab8.getD j "") = true := by decide +kernel
      exact this j h
    · have e : ab8[j]? = none := List.getElem?_eq_none (by show 8 ≤ j; omega)
      rw [List.getD_eq_getElem?_getD, e]
      exact (by decide +kernel : PyData.strOk ("" : Str) = true)
  exact .of fun _ _ _ e => by
    cases e
    exact ⟨ok _, ok _, ok _, ok _, (gd_ff fm0_gd).2.2⟩
theorem isNon_eq {d : D} (h : Z.isNon d = true) : d = .non := by cases d <;> first | rfl | cases h
theorem v_full_none {S : Sto} : Fnetwork_fault [.v (.tup [.tup (ab8.map D.str), .tup full28])] S = .ok (.v .non) S := by
  rw [v_nfo ab8_off (by decide) (by decide) full_k, isNon_eq full_none]
end K82

/-! k82: shapes -/
namespace K82
open PySem PySem.Spec PyProof.Rows L2 Z
def sh1 (O L : D) (j : Str) : List D := [.non, .str "ab", .tup [], .tup [O], .tup [O, L, .int 1], .tup [.str j, L], .tup [O, .non], .bl true]
def sh2 (O L : D) : List D := [.tup [.str "ab", L], .tup [O, .str "ab"], .tup [.int 3, .tup []], .tup [.non, .non], .int 7]
theorem sh_ok (os ls : List D) (j : Str) : ∀ d ∈ sh1 (.tup os) (.tup ls) j ++ sh2 (.tup os) (.tup ls), pln d = true ∧ pl1 d = true ∧ formB d = true := fun d hd => by
  have h : (sh1 (.tup os) (.tup ls) j ++ sh2 (.tup os) (.tup ls)).all (fun d => pln d && pl1 d && formB d) = true := rfl
  have := List.all_eq_true.mp h d hd
  simp only [Bool.and_eq_true] at this
  exact ⟨this.1.1, this.1.2, this.2⟩
theorem wo_joinT {S : Sto} {z : Str} {ys : List Str} (h : (ys.map (·.length)).sum + ys.length * z.length ≤ 16777216) : Mt.join.wo S (.v (.str z)) [.v (.tup (ys.map D.str))] = .ok (.v (.str (Txt.join z ys))) S := by
  unfold Mt.wo
  simp only [sqW_tp, strsOf_map]
  exact if_pos h
theorem sum_len {ws : List Str} (h : ∀ x ∈ ws, x.length ≤ 12) : (ws.map (·.length)).sum ≤ 12 * ws.length := by
  induction ws with
  | nil => simp
  | cons x r ih =>
    have := ih fun y hy => h y (List.mem_cons_of_mem _ hy)
    have := h x (by simp)
    simp only [List.map_cons, List.sum_cons, List.length_cons]
    omega
theorem v_shapes (s : Stt) (J : Sto) {ws : List Str} {ls : List D} {m : Nat} (g : GNet ws ls m) : ∃ s' : Stt, F_law_shapes_hold [.r 0, .v (.tup [.tup (ws.map D.str), .tup ls])] (SS s J) = .ok (.v (.bl true)) (SS s' J) := by
  obtain ⟨q, s1, q1, q2, hq⟩ := v_draw s J (lim := 13) (by omega) (by omega)
  obtain ⟨d, dm, hd⟩ := pick (L := sh1 (.tup (ws.map D.str)) (.tup ls) (Txt.join "+" ws) ++ sh2 (.tup (ws.map D.str)) (.tup ls)) q1 q2
  obtain ⟨d1, d2, d3⟩ := sh_ok _ _ _ d dm
  refine ⟨s1, ?_⟩
  have cf0 : ∀ r, callV G_law_shapes_hold 0 r = r.bind fun ws S => if ws.length = 1 then Fnetwork_fault ws S else .no := fun r => by unfold G_law_shapes_hold; rfl
  have cf1 : ∀ r, callV G_law_shapes_hold 1 r = r.bind fun ws S => if ws.length = 2 then F_law_draw ws S else .no := fun r => by unfold G_law_shapes_hold; rfl
  have jn : ∀ S, Mt.join.wo S (.v (.str "+")) [.v (.tup (ws.map D.str))] = .ok (.v (.str (Txt.join "+" ws))) S := fun S => wo_joinT (by
    have h1 := sum_len fun x hx => low_len (g.off.low x hx)
    have h2 := g.l8
    have h3 : ("+" : Str).length = 1 := by decide +kernel
    rw [h3]; omega)
  have a1 : vadd (.tup [.tup (ws.map D.str), .tup ls]) (.tup [.int 1]) = some (.tup [.tup (ws.map D.str), .tup ls, .int 1]) := vadd_tup (show 2 + 1 ≤ sizeLine by decide)
  have vl : vadd (.lst (sh1 (.tup (ws.map D.str)) (.tup ls) (Txt.join "+" ws))) (.lst (sh2 (.tup (ws.map D.str)) (.tup ls))) = some (.lst (sh1 (.tup (ws.map D.str)) (.tup ls) (Txt.join "+" ws) ++ sh2 (.tup (ws.map D.str)) (.tup ls))) := vadd_lst (show 8 + 5 ≤ sizeLine by decide)
  have nf : ∀ S, Fnetwork_fault [.v d] S = .ok (.v (.str "form")) S := fun S => v_nf_form d1 d2 d3
  rw [e_law_shapes_hold]
  unfold B_law_shapes_hold
  rw [evSs_2, evS_1]
  simp only [evE_1, getV_0, getV_s, lft_some, Rs.bind_ok, bindV_tp, setAllV_cons, setAllV_nil, setV2_0, setV2_s]
  rw [evSs_2, evS_1]
  simp only [evE_14, evE_15, evE_7, evE_22, evE_1, evE_2, evE_3, evE_4, evE_5, evL_1, evL_2, getV_0, getV_s, lft_some, Rs.bind_ok, tyW_join, jn, rd2_some' rdW_tp rdW_tp, bo_add, a1, lfv_some, plnW_cons, plnW_nil, List.length_cons, List.length_nil, Nat.zero_add, Nat.reduceAdd, sl_0, sl_1, sl_2, sl_8, if_true, bindV_nm, setV2_0, setV2_s]
  rw [← sh1]
  rw [evSs_2, evS_1]
  simp only [evE_14, evE_15, evE_7, evE_1, evE_2, evE_3, evE_4, evE_5, evL_1, evL_2, getV_0, getV_s, lft_some, Rs.bind_ok, plnW_cons, plnW_nil, List.length_cons, List.length_nil, Nat.zero_add, Nat.reduceAdd, sl_0, sl_1, sl_2, sl_5, if_true]
  rw [← sh2]
  simp only [rd2_some' rdW_lst rdW_lst, bo_add, vl, lfv_some, Rs.bind_ok, bindV_nm, setV2_0, setV2_s]
  have h13 : ((sh1 (.tup (ws.map D.str)) (.tup ls) (Txt.join "+" ws) ++ sh2 (.tup (ws.map D.str)) (.tup ls)).length : Int) = 13 := rfl
  generalize sh1 (.tup (ws.map D.str)) (.tup ls) (Txt.join "+" ws) ++ sh2 (.tup (ws.map D.str)) (.tup ls) = X at h13 hd ⊢
  simp only [evSs_2, evS_6, evE_9, evE_16, evE_19, evE_20, evE_1, evE_5, evL_1, evL_2, getV_0, getV_s, lft_some, Rs.bind_ok, bt_len, rd1_some' rdW_lst, lenA_lst', h13, lfv_some, cf0, cf1, List.length_cons, List.length_nil, Nat.zero_add, Nat.reduceAdd, if_true, hq, hd, nf, co_eq, rd2_some' rdW_str rdW_str, veq_str, decide_true, out_rt]
end K82

/-! k82: plain facts for the law's statements -/
namespace K82
open PySem PySem.Spec PyProof.Rows L2 Z
theorem lc0 (r : Rs (List W)) : callV Glaw 0 r = r.bind fun ws S => if ws.length = 1 then F_law_state ws S else .no := by unfold Glaw; rfl
theorem lc1 (r : Rs (List W)) : callV Glaw 1 r = r.bind fun ws S => if ws.length = 3 then F_law_network ws S else .no := by unfold Glaw; rfl
theorem lc2 (r : Rs (List W)) : callV Glaw 2 r = r.bind fun ws S => if ws.length = 1 then Fnetwork_fault ws S else .no := by unfold Glaw; rfl
theorem lc3 (r : Rs (List W)) : callV Glaw 3 r = r.bind fun ws S => if ws.length = 2 then F_law_shapes_hold ws S else .no := by unfold Glaw; rfl
theorem lc4 (r : Rs (List W)) : callV Glaw 4 r = r.bind fun ws S => if ws.length = 2 then F_law_wrong_offices ws S else .no := by unfold Glaw; rfl
theorem lc5 (r : Rs (List W)) : callV Glaw 5 r = r.bind fun ws S => if ws.length = 2 then F_law_draw ws S else .no := by unfold Glaw; rfl
theorem lc6 (r : Rs (List W)) : callV Glaw 6 r = r.bind fun ws S => if ws.length = 3 then F_law_with_leg ws S else .no := by unfold Glaw; rfl
theorem lc7 (r : Rs (List W)) : callV Glaw 7 r = r.bind fun ws S => if ws.length = 2 then F_law_wrong_leg ws S else .no := by unfold Glaw; rfl
theorem lc8 (r : Rs (List W)) : callV Glaw 8 r = r.bind fun ws S => if ws.length = 1 then F_law_debts ws S else .no := by unfold Glaw; rfl
theorem lc9 (r : Rs (List W)) : callV Glaw 9 r = r.bind fun ws S => if ws.length = 2 then F_law_full ws S else .no := by unfold Glaw; rfl
theorem v_law_state (ns : List Int) : F_law_state [.v (.flst (ns.map D.int))] [] = .ok (.r 0) (SS ⟨ns, 0, 0, 0, false, by decide⟩ []) := by
  rw [e_law_state]
  unfold B_law_state G_law_state
  have hl : lstW [] (.v (.flst (ns.map D.int))) = some (ns.map D.int) := rfl
  simp [hl]
  rfl
def bodyR : List Sx := [.ifs (.cmp .ne (.call 2 (.tup [(.call 4 (.loc 1) [(.loc 2)]), (.loc 5)]) []) (.str "offices"))
    [.ret (.bl false)]
    []]
theorem loop_R {a : Str} {r : List Str} {ls : List D} (o : Off (a :: r)) (h8 : r.length ≤ 8) {o0 o3 o4 o6 o7 o8 o9 oa ob oc od oe : Option W} (J : Sto) : ∀ (items : List D) (s : Stt) (o5 : Option W), (∀ d ∈ items, ∃ rs, d = .tup rs) → ∃ (s' : Stt) (o5' : Option W),
    turnsV (.nm 5) (evSs Glaw bodyR) items [o0, some (.r 0), some (.v (.tup [.tup ((a :: r).map D.str), .tup ls])), o3, o4, o5, o6, o7, o8, o9, oa, ob, oc, od, oe] (SS s J) = .ok (.nx [o0, some (.r 0), some (.v (.tup [.tup ((a :: r).map D.str), .tup ls])), o3, o4, o5', o6, o7, o8, o9, oa, ob, oc, od, oe]) (SS s' J)
  | [], s, o5, _ => ⟨s, o5, rfl⟩
  | d :: items, s, o5, h => by
    obtain ⟨rs, rfl⟩ := h d (by simp)
    obtain ⟨ds, s1, ⟨b1, b2⟩, hw⟩ := v_wrong_offices s J (x := .tup ls) o h8
    obtain ⟨s2, o5', e⟩ := loop_R o h8 (ls := ls) (o0 := o0) (o3 := o3) (o4 := o4) (o6 := o6) (o7 := o7) (o8 := o8) (o9 := o9) (oa := oa) (ob := ob) (oc := oc) (od := od) (oe := oe) J items s1 (some (.v (.tup rs))) fun z hz => h z (List.mem_cons_of_mem _ hz)
    refine ⟨s2, o5', ?_⟩
    have nf : ∀ S, Fnetwork_fault [.v (.tup [.tup ds, .tup rs])] S = .ok (.v (.str "offices")) S := fun S => by
      rw [v_nf b2 (fun z => by rw [b1] at z; cases z)]
      unfold nfD
      rw [if_neg (by rw [b1]; simp)]
    have b : evSs Glaw bodyR [o0, some (.r 0), some (.v (.tup [.tup ((a :: r).map D.str), .tup ls])), o3, o4, some (.v (.tup rs)), o6, o7, o8, o9, oa, ob, oc, od, oe] (SS s J) = .ok (.nx [o0, some (.r 0), some (.v (.tup [.tup ((a :: r).map D.str), .tup ls])), o3, o4, some (.v (.tup rs)), o6, o7, o8, o9, oa, ob, oc, od, oe]) (SS s1 J) := by
      unfold bodyR
      simp only [evSs_2, evSs_1, evS_8, evT_1, evE_14, evE_19, evE_1, evE_5, evL_1, evL_2, getV_0, getV_s, lft_some, Rs.bind_ok, lc2, lc4, List.length_cons, List.length_nil, Nat.zero_add, Nat.reduceAdd, if_true, hw, plnW_cons, plnW_nil, sl_2, nf, co_ne, rd2_some' rdW_str rdW_str, vne_str, decide_true, Bool.not_true]
    conv => lhs; unfold turnsV
    simp only [bindV_nm, setV2_0, setV2_s, b, Rs.bind_ok, e]
/-- one member exchanged -/
def exch (ls : List D) (k : Nat) (l : D) : List D := ls.take k ++ [l] ++ ls.drop (k + 1)
theorem exch_len {ls : List D} {k : Nat} {l : D} (h : k < ls.length) : (exch ls k l).length = ls.length := by
  unfold exch
  rw [List.length_append, List.length_append, List.length_take, List.length_drop]
  show _ + 1 + _ = _
  omega
theorem exch_get {ls : List D} {k j : Nat} {l : D} (h : k < ls.length) : (exch ls k l)[j]? = if j = k then some l else ls[j]? := by
  unfold exch
  by_cases e : j = k
  · subst e
    rw [if_pos rfl, List.append_assoc, List.getElem?_append_right (by rw [List.length_take]; omega), List.length_take, Nat.min_eq_left (by omega), Nat.sub_self]; rfl
  · rw [if_neg e]
    by_cases l1 : j < k
    · rw [List.append_assoc, List.getElem?_append_left (by rw [List.length_take]; omega), List.getElem?_take, if_pos l1]
    · rw [List.getElem?_append_right (by rw [List.length_append, List.length_take]; show _ + 1 ≤ _; omega), List.length_append, List.length_take, Nat.min_eq_left (by omega), List.getElem?_drop]
      congr 1
      show k + 1 + (j - (k + 1)) = j
      omega
theorem exch_mem {ls : List D} {k : Nat} {l d : D} (h : d ∈ exch ls k l) : d = l ∨ d ∈ ls := by
  unfold exch at h
  rcases List.mem_append.mp h with h | h
  · rcases List.mem_append.mp h with h | h
    · exact .inr (List.mem_of_mem_take h)
    · exact .inl (List.mem_singleton.mp h)
  · exact .inr (List.mem_of_mem_drop h)
theorem exch_in {ls : List D} {k : Nat} {l : D} : l ∈ exch ls k l := by
  unfold exch; simp
theorem exch_map {ls : List D} {k : Nat} {l : D} (h : k < ls.length) (e : ends2 l = ends2 ls[k]) : (exch ls k l).map ends2 = ls.map ends2 := by
  refine List.ext_getElem? fun j => ?_
  rw [List.getElem?_map, List.getElem?_map, exch_get h]
  by_cases z : j = k
  · subst z
    rw [if_pos rfl, List.getElem?_eq_getElem h]
    show some _ = some _
    rw [e]
  · rw [if_neg z]
theorem nfO_debt {ws : List Str} {ls : List D} {k : Nat} {x y : Str} {f fd : D} (h : k < ls.length) (hl : ls.length ≤ 30) (g : ∀ l ∈ ls, GLeg ws l) (hc : chB (ls.map ends2) = true) (e : ls[k] = .tup [.str x, .str y, f]) (hd : DbF fd) :
    nfO ws (exch ls k (.tup [.str x, .str y, fd])) = .str "values" := by
  have m : ends2 (.tup [.str x, .str y, fd]) = ends2 ls[k] := by rw [e]; rfl
  have gk := g _ (List.getElem_mem h)
  rw [e] at gk
  have lk : legB (ws.map D.str) (.tup [.str x, .str y, fd]) = true := by
    have := gk.b.1
    rw [leg_str] at this ⊢
    simp only [Bool.and_eq_true] at this ⊢
    exact ⟨this.1, hd.n⟩
  rw [nfO_ok (by rw [exch_len h]; exact hl) (fun d hm => by
    rcases exch_mem hm with e | hm
    · rw [e]; exact lk
    · exact (g d hm).b.1) (by rw [exch_map h m]; exact hc)]
  have an : (exch ls k (.tup [.str x, .str y, fd])).any legDebt = true := List.any_eq_true.mpr ⟨.tup [.str x, .str y, fd], exch_in, hd.d⟩
  rw [if_pos an]
theorem rep_flat {x : D} : ∀ n : Nat, (List.replicate n [x]).flatten = List.replicate n x
  | 0 => rfl
  | n + 1 => by rw [List.replicate_succ, List.flatten_cons, rep_flat n]; rfl
theorem first_leg {a b : Str} {r : List Str} (o : Off (a :: b :: r)) : GLeg (a :: b :: r) (.tup [.str a, .str b, fm0]) ∧ GLeg (a :: b :: r) (.tup [.str b, .str a, fm0]) := by
  have ne : a ≠ b := fun e => by
    have := o.nd
    rw [e, List.nodup_cons] at this
    exact this.1 (by simp)
  exact ⟨⟨a, b, fm0, by simp, by simp, ne, fm0_gd, rfl⟩, ⟨b, a, fm0, by simp, by simp, fun e => ne e.symm, fm0_gd, rfl⟩⟩
theorem off_one {a : Str} {r : List Str} (o : Off (a :: r)) : Off [a] := ⟨fun x hx => o.low x (by rw [List.mem_singleton.mp hx]; simp), rfl, by simp⟩
theorem back_leg {a b : Str} {r : List Str} (o : Off (a :: b :: r)) : nfO (a :: b :: r) [.tup [.str b, .str a, fm0], .tup [.str a, .str b, fm0]] = .str "legs" ∧ nfO (a :: b :: r) [.tup [.str a, .str b, fm0], .tup [.str a, .str b, fm0], .tup [.str b, .str a, fm0]] = .non := by
  have lt : ltD (.str a) (.str b) = true := asc_head o.asc b (by simp)
  obtain ⟨g1, g2⟩ := first_leg o
  refine ⟨?_, nfO_none (show 3 ≤ 30 by decide) (fun d hd => ?_) ?_⟩
  · unfold nfO
    refine if_neg fun h => ?_
    unfold legsB at h
    simp only [Bool.and_eq_true] at h
    have h := h.2
    have h : (!ltD (.tup [.str a, .str b]) (.tup [.str b, .str a]) && true) = true := h
    rw [lt_fst lt] at h; cases h
  · simp only [List.mem_cons, List.not_mem_nil, or_false] at hd
    rcases hd with h | h | h <;> subst h
    · exact g1
    · exact g1
    · exact g2
  · show (!ltD (.tup [.str a, .str b]) (.tup [.str a, .str b]) && (!ltD (.tup [.str b, .str a]) (.tup [.str a, .str b]) && true)) = true
    rw [lt_same, lt_fst_no lt]; rfl
theorem many_legs {a b : Str} {r : List Str} (o : Off (a :: b :: r)) {n : Nat} : nfO (a :: b :: r) (List.replicate n (.tup [.str a, .str b, fm0])) = if n ≤ 30 then .non else .str "legs" := by
  obtain ⟨g1, g2⟩ := first_leg o
  by_cases h : n ≤ 30
  · rw [if_pos h]
    refine nfO_none (by rw [List.length_replicate]; exact h) (fun d hd => by rw [List.eq_of_mem_replicate hd]; exact g1) ?_
    rw [List.map_replicate]
    exact chB_rep lt_same n
  · rw [if_neg h]
    unfold nfO
    refine if_neg fun z => ?_
    unfold legsB at z
    simp only [Bool.and_eq_true] at z
    have := of_decide_eq_true z.1.1
    rw [List.length_replicate] at this
    exact h this
end K82

/-! k82: the law -/
namespace K82
open PySem PySem.Spec PyProof.Rows L2 Z
theorem out_step {G : GV} {s : Sx} {r : List Sx} {en e1 : WEn} {S S1 : Sto} {x : Rs W} (h : evS G s en S = .ok (.nx e1) S1) (k : (evSs G r e1 S1).out = x) : (evSs G (s :: r) en S).out = x := by
  rw [evSs_2, h]; exact k
theorem v_law (ns : List Int) : ∃ S', Flaw [.v (.flst (ns.map D.int))] [] = .ok (.v (.bl true)) S' := by
  obtain ⟨ws, ls, s1, J, g, hnet⟩ := v_law_network ⟨ns, 0, 0, 0, false, by decide⟩ [] (most := 8) (many := 14) (by omega) (by omega) (by omega) (by omega)
  obtain ⟨a, b, r, rfl⟩ : ∃ a b r, ws = a :: b :: r := by
    match ws, g.l2 with
    | a :: b :: r, _ => exact ⟨a, b, r, rfl⟩
  have o := g.off
  have l8 := g.l8
  have ll : ls.length ≤ 14 := g.len
  simp only [List.length_cons] at l8
  rw [List.nil_append] at hnet
  have nfn : ∀ S, Fnetwork_fault [.v (.tup [.tup ((a :: b :: r).map D.str), .tup ls])] S = .ok (.v .non) S := fun S => by
    rw [v_nfo o (by simp) (by simpa using l8) (fun d hd => (g.leg d hd).k o), nfO_none (by omega) g.leg g.ch]
  obtain ⟨s2, hsh⟩ := v_shapes s1 J g
  obtain ⟨s3, o5, hR⟩ := loop_R (a := a) (r := b :: r) (ls := ls) o (by simpa using by omega) (o0 := some (.v (.flst (ns.map D.int)))) (o3 := some (.v (.tup ((a :: b :: r).map D.str)))) (o4 := some (.v (.tup ls))) (o6 := none) (o7 := none) (o8 := none) (o9 := none) (oa := none) (ob := none) (oc := none) (od := none) (oe := none) J [.tup ls, .tup [.int 3], .tup [.tup [.str a, .str a, .tup [.tup [.int (-1)], .tup [.tup [.int 0, .int 0]]]]]] s2 none (fun d hd => by
    simp only [List.mem_cons, List.not_mem_nil, or_false] at hd
    rcases hd with h | h | h
    · exact ⟨_, h⟩
    · exact ⟨_, h⟩
    · exact ⟨_, h⟩)
  -- longer
  obtain ⟨g1, g2⟩ := first_leg o
  have LL : (D.tup [.str a, .str b, fm0] :: ls).length = ls.length + 1 := rfl
  have gl : ∀ l ∈ D.tup [.str a, .str b, fm0] :: ls, GLeg (a :: b :: r) l := fun l hl => by
    rcases List.mem_cons.mp hl with e | hl
    · rw [e]; exact g1
    · exact g.leg l hl
  have gc : chB ((D.tup [.str a, .str b, fm0] :: ls).map ends2) = true := by
    rw [List.map_cons]
    refine chB_cons (fun y hy => ?_) g.ch
    obtain ⟨l, hl, rfl⟩ := List.mem_map.mp hy
    exact min_pair o (g.leg l hl)
  generalize hL : D.tup [.str a, .str b, fm0] :: ls = L at LL gl gc
  have hadd : vadd (.tup [.tup [.str a, .str b, fm0]]) (.tup ls) = some (.tup L) := by
    rw [← hL]
    exact vadd_tup (show 1 + ls.length ≤ sizeLine by have := sl1000; omega)
  obtain ⟨k0, s4, k1, k2, hk⟩ := v_draw s3 J (lim := L.length) (by omega) (by omega)
  obtain ⟨k, rfl⟩ : ∃ k : Nat, k0 = k := ⟨k0.toNat, by omega⟩
  have kl : k < L.length := by omega
  obtain ⟨wl, s5, hb, hwl⟩ := v_wrong_leg s4 J (x := .tup ls) o
  have hsp : ∀ S, F_law_with_leg [.v (.tup [.tup ((a :: b :: r).map D.str), .tup L]), .v (.int k), .v wl] S = .ok (.v (.tup [.tup ((a :: b :: r).map D.str), .tup (exch L k wl)])) S := fun S => v_with_leg kl (by omega)
  have nsp : ∀ S, Fnetwork_fault [.v (.tup [.tup ((a :: b :: r).map D.str), .tup (exch L k wl)])] S = .ok (.v (.str "legs")) S := fun S => by
    rw [v_nfo o (by simp) (by simpa using l8) (fun d hd => by
      rcases exch_mem hd with e | hd
      · rw [e]; exact hb.k
      · exact (gl d hd).k o), nfO_bad exch_in hb.n]
  obtain ⟨q0, s6, q1, q2, hq⟩ := v_draw s5 J (lim := L.length) (by omega) (by omega)
  obtain ⟨q, rfl⟩ : ∃ q : Nat, q0 = q := ⟨q0.toNat, by omega⟩
  have ql : q < L.length := by omega
  obtain ⟨fd, s7, hd1, hdb⟩ := v_debtsL s6 J
  obtain ⟨x, y, f, hx, hy, hne, hgf, eq⟩ := (gl _ (List.getElem_mem ql)).h
  have ixq : ∀ S, ixW S (.v (.tup L)) (.v (.int (q : Int))) = some (.v (.tup [.str x, .str y, f])) := fun S => ix_tp (by rw [List.getElem?_eq_getElem ql, eq])
  have how : ∀ S, F_law_with_leg [.v (.tup [.tup ((a :: b :: r).map D.str), .tup L]), .v (.int q), .v (.tup [.str x, .str y, fd])] S = .ok (.v (.tup [.tup ((a :: b :: r).map D.str), .tup (exch L q (.tup [.str x, .str y, fd]))])) S := fun S => v_with_leg ql (by omega)
  have kow : ∀ d ∈ exch L q (.tup [.str x, .str y, fd]), Lgk d := fun d hd => by
    rcases exch_mem hd with e | hd
    · rw [e]
      exact ⟨lgp3 (low_ok (o.low x hx)) (low_ok (o.low y hy)) hd1.p, fun k ds e => by cases e; rfl⟩
    · exact (gl d hd).k o
  have now : ∀ S, Fnetwork_fault [.v (.tup [.tup ((a :: b :: r).map D.str), .tup (exch L q (.tup [.str x, .str y, fd]))])] S = .ok (.v (.str "values")) S := fun S => by
    rw [v_nfo o (by simp) (by simpa using l8) kow, nfO_debt ql (by omega) gl gc eq hd1]
  have hol : (exch L q (.tup [.str x, .str y, fd])).length = L.length := exch_len ql
  have hso : ∀ S, F_law_with_leg [.v (.tup [.tup ((a :: b :: r).map D.str), .tup (exch L q (.tup [.str x, .str y, fd]))]), .v (.int k), .v wl] S = .ok (.v (.tup [.tup ((a :: b :: r).map D.str), .tup (exch (exch L q (.tup [.str x, .str y, fd])) k wl)])) S := fun S => v_with_leg (by omega) (by omega)
  have nso : ∀ S, Fnetwork_fault [.v (.tup [.tup ((a :: b :: r).map D.str), .tup (exch (exch L q (.tup [.str x, .str y, fd])) k wl)])] S = .ok (.v (.str "legs")) S := fun S => by
    rw [v_nfo o (by simp) (by simpa using l8) (fun d hd => by
      rcases exch_mem hd with e | hd
      · rw [e]; exact hb.k
      · exact kow d hd), nfO_bad exch_in hb.n]
  have ixs : ∀ S, ixW S (.v (.tup (exch L k wl))) (.v (.int (k : Int))) = some (.v wl) := fun S => ix_tp (by rw [exch_get kl, if_pos rfl])
  have p0 : ∀ {u v : D} S, ixW S (.v (.tup [u, v])) (.v (.int 0)) = some (.v u) := fun {u v} S => ix_tp (i := 0) rfl
  have p1 : ∀ {u v : D} S, ixW S (.v (.tup [u, v])) (.v (.int 1)) = some (.v v) := fun {u v} S => ix_tp (i := 1) rfl
  have t2 : ∀ {u v w : D} S, ixW S (.v (.tup [u, v, w])) (.v (.int 2)) = some (.v w) := fun {u v w} S => ix_tp (i := 2) rfl
  have w0 : ∀ S, ixW S (.v (.tup ((a :: b :: r).map D.str))) (.v (.int 0)) = some (.v (.str a)) := fun S => ix_tp (i := 0) rfl
  have w1 : ∀ S, ixW S (.v (.tup ((a :: b :: r).map D.str))) (.v (.int 1)) = some (.v (.str b)) := fun S => ix_tp (i := 1) rfl
  obtain ⟨bk1, bk2⟩ := back_leg o
  have kk : ∀ l ∈ [D.tup [.str b, .str a, fm0], .tup [.str a, .str b, fm0]], Lgk l := fun l hl => by
    simp only [List.mem_cons, List.not_mem_nil, or_false] at hl
    rcases hl with h | h <;> subst h
    · exact g2.k o
    · exact g1.k o
  have nb1 : ∀ S, Fnetwork_fault [.v (.tup [.tup ((a :: b :: r).map D.str), .tup [.tup [.str b, .str a, fm0], .tup [.str a, .str b, fm0]]])] S = .ok (.v (.str "legs")) S := fun S => by
    rw [v_nfo o (by simp) (by simpa using l8) kk, bk1]
  have nb2 : ∀ S, Fnetwork_fault [.v (.tup [.tup ((a :: b :: r).map D.str), .tup [.tup [.str a, .str b, fm0], .tup [.str a, .str b, fm0], .tup [.str b, .str a, fm0]]])] S = .ok (.v .non) S := fun S => by
    rw [v_nfo o (by simp) (by simpa using l8) (fun l hl => by
      simp only [List.mem_cons, List.not_mem_nil, or_false] at hl
      rcases hl with h | h | h <;> subst h
      · exact g1.k o
      · exact g1.k o
      · exact g2.k o), bk2]
  obtain ⟨c, s8, c1, c2, hc⟩ := v_draw s7 J (lim := 3) (by omega) (by omega)
  have n1 : ∀ S, Fnetwork_fault [.v (.tup [.tup [.str a], .tup []])] S = .ok (.v .non) S := fun S => by
    have := v_nfo (S := S) (ws := [a]) (ls := []) (off_one o) (by simp) (by simp) (by simp)
    rw [nfO_none (by simp) (by simp) rfl] at this
    exact this
  have vs1 : vsl (.tup ((a :: b :: r).map D.str)) none (some 1) = some (.tup [.str a]) := by
    show some (D.tup (Z.cutD _ none (some ((1 : Nat) : Int)))) = _
    rw [cutD_take (by simp)]; rfl
  obtain ⟨n, hn⟩ : ∃ n : Nat, 29 + c = n := ⟨(29 + c).toNat, by omega⟩
  have vm : vmul (.tup [.tup [.str a, .str b, fm0]]) (.int (n : Int)) = some (.tup (List.replicate n (.tup [.str a, .str b, fm0]))) := by
    rw [vmul_tup (by simp) (by omega) (by simp; omega), Int.toNat_natCast, rep_flat]
  have nm : ∀ S, Fnetwork_fault [.v (.tup [.tup ((a :: b :: r).map D.str), .tup (List.replicate n (.tup [.str a, .str b, fm0]))])] S = .ok (.v (if n ≤ 30 then .non else .str "legs")) S := fun S => by
    rw [v_nfo o (by simp) (by simpa using l8) (fun l hl => by rw [List.eq_of_mem_replicate hl]; exact g1.k o), many_legs o]
  have mn : minA M00 (.int (n : Int)) (.int 28) = some (.int 28) := by
    show some (D.int (if (28 : Int) < (n : Int) then 28 else (n : Int))) = _
    rw [if_pos (by omega)]
  have vs2 : vsl (.tup [.str x, .str y, f]) none (some 2) = some (.tup [.str x, .str y]) := rfl
  have va2 : vadd (.tup [.str x, .str y]) (.tup [fd]) = some (.tup [.str x, .str y, fd]) := vadd_tup (show 2 + 1 ≤ sizeLine by decide)
  have lst := v_law_state ns
  refine ⟨SS s8 J, ?_⟩
  rw [elaw]
  unfold Blaw
  refine out_step (by rw [evS_1]; simp only [evE_19, evE_1, evL_1, getV_0, getV_s, lft_some, Rs.bind_ok, lc0, List.length_cons, List.length_nil, Nat.zero_add, if_true, lst, bindV_nm, setV2_0, setV2_s]; rfl) ?_
  refine out_step (by rw [evS_1]; simp only [evE_19, evE_1, evE_4, evL_1, evL_2, getV_0, getV_s, lft_some, Rs.bind_ok, lc1, List.length_cons, List.length_nil, Nat.zero_add, Nat.reduceAdd, if_true, hnet, bindV_nm, setV2_0, setV2_s]; rfl) ?_
  refine out_step (by rw [evS_8]; simp only [evT_3, evB_2, evB_4, evT_1, evT_4, evT_11, evE_2, evE_19, evE_1, evL_1, evL_2, getV_0, getV_s, lft_some, Rs.bind_ok, lc2, lc3, List.length_cons, List.length_nil, Nat.zero_add, Nat.reduceAdd, if_true, nfn, co_isn, nonW_non, Bool.not_true, hsh, truV_ok, truW_bl, evSs_1]; rfl) ?_
  refine out_step (by rw [evS_1]; simp only [evE_1, getV_0, getV_s, lft_some, Rs.bind_ok, bindV_tp, setAllV_cons, setAllV_nil, setV2_0, setV2_s]; rfl) ?_
  refine out_step (by rw [← bodyR, evS_9]; simp only [evE_14, evE_15, evE_16, evE_8, evE_1, evE_4, evL_1, evL_2, getV_0, getV_s, lft_some, Rs.bind_ok, rd1_some' rdW_i, vneg, lfv_some, w0, plnW_cons, plnW_nil, List.length_cons, List.length_nil, Nat.zero_add, Nat.reduceAdd, sl_1, sl_2, sl_3, if_true, itW_lst, hR]; rfl) ?_
  refine out_step (by rw [evS_1]; simp only [evE_14, evE_16, evE_1, evE_4, evL_1, evL_2, getV_0, getV_s, lft_some, Rs.bind_ok, w0, w1, plnW_cons, plnW_nil, List.length_cons, List.length_nil, Nat.zero_add, Nat.reduceAdd, sl_0, sl_1, sl_2, sl_3, if_true, bindV_nm, setV2_0, setV2_s]; rfl) ?_
  rw [← fm0]
  refine out_step (by rw [evS_1]; simp only [evE_14, evE_7, evE_1, evL_1, evL_2, getV_0, getV_s, lft_some, Rs.bind_ok, rd2_some' rdW_tp rdW_tp, bo_add, hadd, lfv_some, plnW_cons, plnW_nil, List.length_cons, List.length_nil, Nat.zero_add, Nat.reduceAdd, sl_1, sl_2, if_true, bindV_nm, setV2_0, setV2_s]; rfl) ?_
  refine out_step (by rw [evS_1]; simp only [evE_16, evE_19, evE_20, evE_1, evE_4, evL_1, evL_2, getV_0, getV_s, lft_some, Rs.bind_ok, p1, bt_len, rd1_some' rdW_tp, lenA_tp', lfv_some, lc5, List.length_cons, List.length_nil, Nat.zero_add, Nat.reduceAdd, if_true, hk, bindV_nm, setV2_0, setV2_s]; rfl) ?_
  refine out_step (by rw [evS_1]; simp only [evE_19, evE_1, evL_1, evL_2, getV_0, getV_s, lft_some, Rs.bind_ok, lc6, lc7, List.length_cons, List.length_nil, Nat.zero_add, Nat.reduceAdd, if_true, hwl, hsp, bindV_nm, setV2_0, setV2_s]; rfl) ?_
  refine out_step (by rw [evS_8]; simp only [evT_1, evE_5, evE_19, evE_1, evL_1, getV_0, getV_s, lft_some, Rs.bind_ok, lc2, List.length_cons, List.length_nil, Nat.zero_add, if_true, nsp, co_ne, rd2_some' rdW_str rdW_str, vne_str, decide_true, Bool.not_true, evSs_1]; rfl) ?_
  refine out_step (by rw [evS_1]; simp only [evE_16, evE_19, evE_20, evE_1, evE_4, evL_1, evL_2, getV_0, getV_s, lft_some, Rs.bind_ok, p1, bt_len, rd1_some' rdW_tp, lenA_tp', lfv_some, lc5, List.length_cons, List.length_nil, Nat.zero_add, Nat.reduceAdd, if_true, hq, bindV_nm, setV2_0, setV2_s]; rfl) ?_
  refine out_step (by rw [evS_1]; simp only [evE_7, evE_14, evE_16, evE_17, evE_19, evE_1, evE_4, evL_1, evL_2, evO_1, evO_2, getV_0, getV_s, lft_some, Rs.bind_ok, p1, ixq, rd1_some' rdW_tp, vs2, lfv_some, lc6, lc8, List.length_cons, List.length_nil, Nat.zero_add, Nat.reduceAdd, if_true, hdb, plnW_cons, plnW_nil, sl_1, rd2_some' rdW_tp rdW_tp, bo_add, va2, how, bindV_nm, setV2_0, setV2_s]; rfl) ?_
  refine out_step (by rw [evS_8]; simp only [evT_1, evE_5, evE_19, evE_1, evL_1, getV_0, getV_s, lft_some, Rs.bind_ok, lc2, List.length_cons, List.length_nil, Nat.zero_add, if_true, now, co_ne, rd2_some' rdW_str rdW_str, vne_str, decide_true, Bool.not_true, evSs_1]; rfl) ?_
  have h13 : ∀ en, en = [some (W.v (.flst (ns.map D.int))), some (.r 0), some (.v (.tup [.tup ((a :: b :: r).map D.str), .tup ls])), some (.v (.tup ((a :: b :: r).map D.str))), some (.v (.tup ls)), o5, some (.v (.tup [.str a, .str b, fm0])), some (.v (.tup [.tup ((a :: b :: r).map D.str), .tup L])), some (.v (.int (k : Int))), some (.v (.tup [.tup ((a :: b :: r).map D.str), .tup (exch L k wl)])), some (.v (.int (q : Int))), some (.v (.tup [.tup ((a :: b :: r).map D.str), .tup (exch L q (.tup [.str x, .str y, fd]))])), none, none, none] → evT Glaw (.bol true [(.cmp .ne (.loc 10) (.loc 8)), (.cmp .ne (.call 2 (.call 6 (.loc 11) [(.loc 8), (.idx (.idx (.loc 9) (.int 1)) (.loc 8))]) []) (.str "legs"))]) en (SS s7 J) = .ok false (SS s7 J) := fun en he => by
    subst he
    by_cases e : (q : Int) = (k : Int)
    · simp only [evT_3, evB_3, evT_1, evE_1, getV_0, getV_s, lft_some, Rs.bind_ok, co_ne, rd2_some' rdW_i rdW_i, vne_int, decide_eq_true e, Bool.not_true]
    · simp only [evT_3, evB_2, evB_3, evT_1, evE_1, evE_4, evE_5, evE_16, evE_19, evL_1, evL_2, getV_0, getV_s, lft_some, Rs.bind_ok, co_ne, rd2_some' rdW_i rdW_i, vne_int, decide_eq_false e, Bool.not_false, p1, ixs, lc2, lc6, List.length_cons, List.length_nil, Nat.zero_add, Nat.reduceAdd, if_true, hso, nso, rd2_some' rdW_str rdW_str, vne_str, decide_true, Bool.not_true]
  refine out_step (by rw [evS_8, h13 _ rfl]; simp only [Rs.bind_ok, evSs_1]; rfl) ?_
  refine out_step (by rw [evS_1]; simp only [evE_14, evE_16, evE_1, evE_4, evL_1, evL_2, getV_0, getV_s, lft_some, Rs.bind_ok, w0, w1, t2, plnW_cons, plnW_nil, List.length_cons, List.length_nil, Nat.zero_add, Nat.reduceAdd, sl_3, if_true, bindV_nm, setV2_0, setV2_s]; rfl) ?_
  refine out_step (by rw [evS_8]; simp only [evT_3, evB_2, evB_4, evT_1, evE_2, evE_5, evE_14, evE_19, evE_1, evL_1, evL_2, getV_0, getV_s, lft_some, Rs.bind_ok, plnW_cons, plnW_nil, lc2, List.length_cons, List.length_nil, Nat.zero_add, Nat.reduceAdd, sl_2, sl_3, if_true, nb1, nb2, co_ne, co_isn, nonW_non, rd2_some' rdW_str rdW_str, vne_str, decide_true, Bool.not_true, evSs_1]; rfl) ?_
  refine out_step (by rw [evS_1]; simp only [evE_7, evE_19, evE_1, evE_4, evL_1, evL_2, getV_0, getV_s, lft_some, Rs.bind_ok, lc5, List.length_cons, List.length_nil, Nat.zero_add, Nat.reduceAdd, if_true, hc, rd2_some' rdW_i rdW_i, bo_add, vadd_int, hn, lfv_some, bindV_nm, setV2_0, setV2_s]; rfl) ?_
  refine out_step (by rw [evS_8]; simp only [evT_3, evB_2, evB_4, evT_1, evE_2, evE_4, evE_14, evE_16, evE_17, evE_19, evE_20, evE_1, evL_1, evL_2, evO_1, evO_2, getV_0, getV_s, lft_some, Rs.bind_ok, bt_min2, rd2_some' rdW_i rdW_i, mn, lfv_some, t2, plnW_cons, plnW_nil, lc2, lc9, List.length_cons, List.length_nil, Nat.zero_add, Nat.reduceAdd, sl_0, sl_2, if_true, v_law_full, v_full_none, rd1_some' rdW_tp, vs1, n1, co_isn, nonW_non, Bool.not_true, evSs_1]; rfl) ?_
  refine out_step (by rw [evS_1]; simp only [evE_14, evE_7, evE_1, evL_1, evL_2, getV_0, getV_s, lft_some, Rs.bind_ok, rd2_some' rdW_tp rdW_i, bo_mul, vm, lfv_some, plnW_cons, plnW_nil, List.length_cons, List.length_nil, Nat.zero_add, Nat.reduceAdd, sl_1, sl_2, if_true, bindV_nm, setV2_0, setV2_s]; rfl) ?_
  have z0 : ∀ S, ixW S (.v (.lst [.non, .str "legs"])) (.v (.int 0)) = some (.v .non) := fun S => ix_lst (i := 0) rfl
  have z1 : ∀ S, ixW S (.v (.lst [.non, .str "legs"])) (.v (.int 1)) = some (.v (.str "legs")) := fun S => ix_lst (i := 1) rfl
  rw [evSs_2, evS_6]
  by_cases h30 : n ≤ 30
  · have e1 : decide ((30 : Int) < (n : Int)) = false := decide_eq_false (by omega)
    rw [if_pos h30] at nm
    have vnn : veq .non .non = some (.bl true) := rfl
    simp only [evE_11, evV_2, evV_3, evE_2, evE_4, evE_5, evE_9, evE_15, evE_16, evE_19, evE_20, evE_1, evL_1, evL_2, getV_0, getV_s, lft_some, Rs.bind_ok, lc2, List.length_cons, List.length_nil, Nat.zero_add, Nat.reduceAdd, if_true, nm, nfn, plnW_cons, plnW_nil, sl_2, co_gt, co_eq, co_is, rd2_some' rdW_i rdW_i, vgt_int, e1, lfv_some, bt_int, rd1_some' rdW_bl, int_bl, if_neg Bool.false_ne_true, z0, rd2_some' rdW_non rdW_non, vnn, blW_bl, nonW_non, out_rt]
  · have e1 : decide ((30 : Int) < (n : Int)) = true := decide_eq_true (by omega)
    rw [if_neg h30] at nm
    simp only [evE_11, evV_2, evV_3, evE_2, evE_4, evE_5, evE_9, evE_15, evE_16, evE_19, evE_20, evE_1, evL_1, evL_2, getV_0, getV_s, lft_some, Rs.bind_ok, lc2, List.length_cons, List.length_nil, Nat.zero_add, Nat.reduceAdd, if_true, nm, nfn, plnW_cons, plnW_nil, sl_2, co_gt, co_eq, co_is, rd2_some' rdW_i rdW_i, vgt_int, e1, lfv_some, bt_int, rd1_some' rdW_bl, int_bl, if_true, z1, rd2_some' rdW_str rdW_str, veq_str, decide_true, blW_bl, nonW_non, out_rt]
theorem lawHolds (ns : List Int) (h : ns.length ≤ 63) : spV Flaw [.flst (ns.map D.int)] M00 (fun v _ => v = .bl true) noX := by
  obtain ⟨S', h⟩ := v_law ns
  exact lawV h
end K82

namespace K82
open PySem PySem.Spec PyProof.Rows L2 Z

structure FA (K : PySem.W.Frag) : Prop where
  dis_integer : DF K "is_integer" sis_integer
  dis_row : DF K "is_row" sis_row
  dis_name : DF K "is_name" sis_name
  dis_ascending : DF K "is_ascending" sis_ascending
  dis_names : DF K "is_names" sis_names
  dis_bound : DF K "is_bound" sis_bound
  d_is_pair : DF K "_is_pair" s_is_pair
  dform_fault : DF K "form_fault" sform_fault
  d_is_leg : DF K "_is_leg" s_is_leg
  d_are_legs : DF K "_are_legs" s_are_legs
  dhas_debts : DF K "has_debts" shas_debts
  dnetwork_fault : DF K "network_fault" snetwork_fault
  d_law_state : DF K "_law_state" s_law_state
  d_law_draw : DF K "_law_draw" s_law_draw
  d_law_name : DF K "_law_name" s_law_name
  d_law_offices : DF K "_law_offices" s_law_offices
  d_law_in_order : DF K "_law_in_order" s_law_in_order
  d_law_leg_form : DF K "_law_leg_form" s_law_leg_form
  d_law_network : DF K "_law_network" s_law_network
  d_law_with_leg : DF K "_law_with_leg" s_law_with_leg
  d_law_wrong_offices : DF K "_law_wrong_offices" s_law_wrong_offices
  d_law_wrong_form : DF K "_law_wrong_form" s_law_wrong_form
  d_law_wrong_leg : DF K "_law_wrong_leg" s_law_wrong_leg
  d_law_debts : DF K "_law_debts" s_law_debts
  d_law_full : DF K "_law_full" s_law_full
  d_law_shapes_hold : DF K "_law_shapes_hold" s_law_shapes_hold
  dlaw : DF K "law" slaw
  cMAX_HEAD : DC K "MAX_HEAD" (D.int 4000)
  cMAX_LEGS : DC K "MAX_LEGS" (D.int 30)
  cMAX_OFFICES : DC K "MAX_OFFICES" (D.int 8)
  cMAX_PERIOD : DC K "MAX_PERIOD" (D.int 1000)
  ball : DB K "all"
  bany : DB K "any"
  bbool : DB K "bool"
  bint : DB K "int"
  bisinstance : DB K "isinstance"
  blen : DB K "len"
  blist : DB K "list"
  bmin : DB K "min"
  brange : DB K "range"
  bset : DB K "set"
  bsorted : DB K "sorted"
  bstr : DB K "str"
  btuple : DB K "tuple"
section
variable {P : Program} {w : World} {K : PySem.W.Frag} {mg : Str → Option Value} {base h : Heap}
theorem ois_integer : scopeOk Nis_integer ["value"] (defScope sis_integer) = true := by decide +kernel
theorem tis_integer : chkSs (gtOf Gis_integer) Nis_integer (defScope sis_integer) Bis_integer (defBody sis_integer) = true := by decide +kernel
theorem cis_integer (X : K.In h) (g : h.Ns mainGlobals mg) (A : FA K) : Cal P w K mg base (XRof K) 1 "is_integer" 1 (spV Fis_integer) :=
  cal_mk (G := gtOf Gis_integer) X g A.dis_integer ois_integer rfl (fun _ _ _ _ _ _ us hl => match us, hl with | [_], _ => rfl) .nil .nil (.cons (A.bisinstance) (.cons (A.bint) (.cons (A.bbool) .nil))) (fun z => absurd z (by decide +kernel)) tis_integer (fun ds M Q E _ h => pV Gis_integer 1 Bis_integer ds M Q E h)
theorem ois_row : scopeOk Nis_row ["value", "size"] (defScope sis_row) = true := by decide +kernel
theorem tis_row : chkSs (gtOf Gis_row) Nis_row (defScope sis_row) Bis_row (defBody sis_row) = true := by decide +kernel
theorem cis_row (X : K.In h) (g : h.Ns mainGlobals mg) (A : FA K) : Cal P w K mg base (XRof K) 1 "is_row" 2 (spV Fis_row) :=
  cal_mk (G := gtOf Gis_row) X g A.dis_row ois_row rfl (fun _ _ _ _ _ _ us hl => match us, hl with | [_, _], _ => rfl) .nil .nil (.cons (A.bisinstance) (.cons (A.btuple) (.cons (A.blen) .nil))) (fun z => absurd z (by decide +kernel)) tis_row (fun ds M Q E _ h => pV Gis_row 2 Bis_row ds M Q E h)
theorem ois_name : scopeOk Nis_name ["value"] (defScope sis_name) = true := by decide +kernel
theorem tis_name : chkSs (gtOf Gis_name) Nis_name (defScope sis_name) Bis_name (defBody sis_name) = true := by decide +kernel
theorem cis_name (X : K.In h) (g : h.Ns mainGlobals mg) (A : FA K) : Cal P w K mg base (XRof K) 1 "is_name" 1 (spV Fis_name) :=
  cal_mk (G := gtOf Gis_name) X g A.dis_name ois_name rfl (fun _ _ _ _ _ _ us hl => match us, hl with | [_], _ => rfl) .nil .nil (.cons (A.bisinstance) (.cons (A.bstr) (.cons (A.blen) (.cons (A.ball) .nil)))) (fun z => absurd z (by decide +kernel)) tis_name (fun ds M Q E _ h => pV Gis_name 2 Bis_name ds M Q E h)
theorem ois_ascending : scopeOk Nis_ascending ["row"] (defScope sis_ascending) = true := by decide +kernel
theorem tis_ascending : chkSs (gtOf Gis_ascending) Nis_ascending (defScope sis_ascending) Bis_ascending (defBody sis_ascending) = true := by decide +kernel
theorem cis_ascending (X : K.In h) (g : h.Ns mainGlobals mg) (A : FA K) : Cal P w K mg base (XRof K) 1 "is_ascending" 1 (spV Fis_ascending) :=
  cal_mk (G := gtOf Gis_ascending) X g A.dis_ascending ois_ascending rfl (fun _ _ _ _ _ _ us hl => match us, hl with | [_], _ => rfl) .nil .nil (.cons (A.ball) (.cons (A.brange) (.cons (A.blen) .nil))) (fun z => absurd z (by decide +kernel)) tis_ascending (fun ds M Q E _ h => pV Gis_ascending 2 Bis_ascending ds M Q E h)
theorem ois_names : scopeOk Nis_names ["value", "least", "most"] (defScope sis_names) = true := by decide +kernel
theorem tis_names : chkSs (gtOf Gis_names) Nis_names (defScope sis_names) Bis_names (defBody sis_names) = true := by decide +kernel
theorem cis_names (X : K.In h) (g : h.Ns mainGlobals mg) (A : FA K) : Cal P w K mg base (XRof K) 2 "is_names" 3 (spV Fis_names) :=
  cal_mk (G := gtOf Gis_names) X g A.dis_names ois_names rfl (fun _ _ _ _ _ _ us hl => match us, hl with | [_, _, _], _ => rfl) (.cons ((cis_name X g A).mono (by decide)) (.cons ((cis_ascending X g A).mono (by decide)) .nil)) .nil (.cons (A.bisinstance) (.cons (A.btuple) (.cons (A.blen) (.cons (A.ball) .nil)))) (fun z => absurd z (by decide +kernel)) tis_names (fun ds M Q E _ h => pV Gis_names 4 Bis_names ds M Q E h)
theorem ois_bound : scopeOk Nis_bound ["value"] (defScope sis_bound) = true := by decide +kernel
theorem tis_bound : chkSs (gtOf Gis_bound) Nis_bound (defScope sis_bound) Bis_bound (defBody sis_bound) = true := by decide +kernel
theorem cis_bound (X : K.In h) (g : h.Ns mainGlobals mg) (A : FA K) : Cal P w K mg base (XRof K) 2 "is_bound" 1 (spV Fis_bound) :=
  cal_mk (G := gtOf Gis_bound) X g A.dis_bound ois_bound rfl (fun _ _ _ _ _ _ us hl => match us, hl with | [_], _ => rfl) (.cons ((cis_integer X g A).mono (by decide)) .nil) .nil .nil (fun z => absurd z (by decide +kernel)) tis_bound (fun ds M Q E _ h => pV Gis_bound 1 Bis_bound ds M Q E h)
theorem o_is_pair : scopeOk N_is_pair ["pair"] (defScope s_is_pair) = true := by decide +kernel
theorem t_is_pair : chkSs (gtOf G_is_pair) N_is_pair (defScope s_is_pair) B_is_pair (defBody s_is_pair) = true := by decide +kernel
theorem c_is_pair (X : K.In h) (g : h.Ns mainGlobals mg) (A : FA K) : Cal P w K mg base (XRof K) 2 "_is_pair" 1 (spV F_is_pair) :=
  cal_mk (G := gtOf G_is_pair) X g A.d_is_pair o_is_pair rfl (fun _ _ _ _ _ _ us hl => match us, hl with | [_], _ => rfl) (.cons ((cis_integer X g A).mono (by decide)) .nil) .nil (.cons (A.bisinstance) (.cons (A.btuple) (.cons (A.blen) .nil))) (fun z => absurd z (by decide +kernel)) t_is_pair (fun ds M Q E _ h => pV G_is_pair 3 B_is_pair ds M Q E h)
theorem oform_fault : scopeOk Nform_fault ["form"] (defScope sform_fault) = true := by decide +kernel
theorem tform_fault : chkSs (gtOf Gform_fault) Nform_fault (defScope sform_fault) Bform_fault (defBody sform_fault) = true := by decide +kernel
theorem cform_fault (X : K.In h) (g : h.Ns mainGlobals mg) (A : FA K) : Cal P w K mg base (XRof K) 3 "form_fault" 1 (spV Fform_fault) :=
  cal_mk (G := gtOf Gform_fault) X g A.dform_fault oform_fault rfl (fun _ _ _ _ _ _ us hl => match us, hl with | [_], _ => rfl) (.cons ((cis_bound X g A).mono (by decide)) (.cons ((c_is_pair X g A).mono (by decide)) .nil)) (.cons (A.cMAX_HEAD) (.cons (A.cMAX_PERIOD) .nil)) (.cons (A.bisinstance) (.cons (A.btuple) (.cons (A.blen) (.cons (A.ball) .nil)))) (fun z => absurd z (by decide +kernel)) tform_fault (fun ds M Q E _ h => pV Gform_fault 5 Bform_fault ds M Q E h)
theorem o_is_leg : scopeOk N_is_leg ["offices", "leg"] (defScope s_is_leg) = true := by decide +kernel
theorem t_is_leg : chkSs (gtOf G_is_leg) N_is_leg (defScope s_is_leg) B_is_leg (defBody s_is_leg) = true := by decide +kernel
theorem c_is_leg (X : K.In h) (g : h.Ns mainGlobals mg) (A : FA K) : Cal P w K mg base (XRof K) 4 "_is_leg" 2 (spV F_is_leg) :=
  cal_mk (G := gtOf G_is_leg) X g A.d_is_leg o_is_leg rfl (fun _ _ _ _ _ _ us hl => match us, hl with | [_, _], _ => rfl) (.cons ((cis_row X g A).mono (by decide)) (.cons ((cform_fault X g A).mono (by decide)) .nil)) .nil .nil (fun z => absurd z (by decide +kernel)) t_is_leg (fun ds M Q E _ h => pV G_is_leg 2 B_is_leg ds M Q E h)
theorem o_are_legs : scopeOk N_are_legs ["offices", "legs"] (defScope s_are_legs) = true := by decide +kernel
theorem t_are_legs : chkSs (gtOf G_are_legs) N_are_legs (defScope s_are_legs) B_are_legs (defBody s_are_legs) = true := by decide +kernel
theorem c_are_legs (X : K.In h) (g : h.Ns mainGlobals mg) (A : FA K) : Cal P w K mg base (XRof K) 5 "_are_legs" 2 (spV F_are_legs) :=
  cal_mk (G := gtOf G_are_legs) X g A.d_are_legs o_are_legs rfl (fun _ _ _ _ _ _ us hl => match us, hl with | [_, _], _ => rfl) (.cons ((c_is_leg X g A).mono (by decide)) .nil) (.cons (A.cMAX_LEGS) .nil) (.cons (A.blen) (.cons (A.ball) (.cons (A.brange) .nil))) (fun z => absurd z (by decide +kernel)) t_are_legs (fun ds M Q E _ h => pV G_are_legs 5 B_are_legs ds M Q E h)
theorem ohas_debts : scopeOk Nhas_debts ["form"] (defScope shas_debts) = true := by decide +kernel
theorem thas_debts : chkSs (gtOf Ghas_debts) Nhas_debts (defScope shas_debts) Bhas_debts (defBody shas_debts) = true := by decide +kernel
theorem chas_debts (X : K.In h) (g : h.Ns mainGlobals mg) (A : FA K) : Cal P w K mg base (XRof K) 1 "has_debts" 1 (spV Fhas_debts) :=
  cal_mk (G := gtOf Ghas_debts) X g A.dhas_debts ohas_debts rfl (fun _ _ _ _ _ _ us hl => match us, hl with | [_], _ => rfl) .nil .nil (.cons (A.bany) .nil) (fun z => absurd z (by decide +kernel)) thas_debts (fun ds M Q E _ h => pV Ghas_debts 3 Bhas_debts ds M Q E h)
theorem onetwork_fault : scopeOk Nnetwork_fault ["network"] (defScope snetwork_fault) = true := by decide +kernel
theorem tnetwork_fault : chkSs (gtOf Gnetwork_fault) Nnetwork_fault (defScope snetwork_fault) Bnetwork_fault (defBody snetwork_fault) = true := by decide +kernel
theorem cnetwork_fault (X : K.In h) (g : h.Ns mainGlobals mg) (A : FA K) : Cal P w K mg base (XRof K) 6 "network_fault" 1 (spV Fnetwork_fault) :=
  cal_mk (G := gtOf Gnetwork_fault) X g A.dnetwork_fault onetwork_fault rfl (fun _ _ _ _ _ _ us hl => match us, hl with | [_], _ => rfl) (.cons ((cis_row X g A).mono (by decide)) (.cons ((cis_names X g A).mono (by decide)) (.cons ((c_are_legs X g A).mono (by decide)) (.cons ((chas_debts X g A).mono (by decide)) .nil)))) (.cons (A.cMAX_OFFICES) .nil) (.cons (A.bisinstance) (.cons (A.btuple) (.cons (A.bany) .nil))) (fun z => absurd z (by decide +kernel)) tnetwork_fault (fun ds M Q E _ h => pV Gnetwork_fault 4 Bnetwork_fault ds M Q E h)
theorem o_law_state : scopeOk N_law_state ["script"] (defScope s_law_state) = true := by decide +kernel
theorem t_law_state : chkSs (gtOf G_law_state) N_law_state (defScope s_law_state) B_law_state (defBody s_law_state) = true := by decide +kernel
theorem c_law_state (X : K.In h) (g : h.Ns mainGlobals mg) (A : FA K) : Cal P w K mg base (XRof K) 1 "_law_state" 1 (spV F_law_state) :=
  cal_mk (G := gtOf G_law_state) X g A.d_law_state o_law_state rfl (fun _ _ _ _ _ _ us hl => match us, hl with | [_], _ => rfl) .nil .nil (.cons (A.blist) .nil) (fun z => absurd z (by decide +kernel)) t_law_state (fun ds M Q E _ h => pV G_law_state 1 B_law_state ds M Q E h)
theorem o_law_draw : scopeOk N_law_draw ["state", "limit"] (defScope s_law_draw) = true := by decide +kernel
theorem t_law_draw : chkSs (gtOf G_law_draw) N_law_draw (defScope s_law_draw) B_law_draw (defBody s_law_draw) = true := by decide +kernel
theorem c_law_draw (X : K.In h) (g : h.Ns mainGlobals mg) (A : FA K) : Cal P w K mg base (XRof K) 1 "_law_draw" 2 (spV F_law_draw) :=
  cal_mk (G := gtOf G_law_draw) X g A.d_law_draw o_law_draw rfl (fun _ _ _ _ _ _ us hl => match us, hl with | [_, _], _ => rfl) .nil .nil (.cons (A.blen) (.cons (A.bint) .nil)) (fun z => absurd z (by decide +kernel)) t_law_draw (fun ds M Q E _ h => pV G_law_draw 5 B_law_draw ds M Q E h)
theorem o_law_name : scopeOk N_law_name ["state"] (defScope s_law_name) = true := by decide +kernel
theorem t_law_name : chkSs (gtOf G_law_name) N_law_name (defScope s_law_name) B_law_name (defBody s_law_name) = true := by decide +kernel
theorem c_law_name (X : K.In h) (g : h.Ns mainGlobals mg) (A : FA K) : Cal P w K mg base (XRof K) 2 "_law_name" 1 (spV F_law_name) :=
  cal_mk (G := gtOf G_law_name) X g A.d_law_name o_law_name rfl (fun _ _ _ _ _ _ us hl => match us, hl with | [_], _ => rfl) (.cons ((c_law_draw X g A).mono (by decide)) .nil) .nil (.cons (A.brange) .nil) (fun z => absurd z (by decide +kernel)) t_law_name (fun ds M Q E _ h => pV G_law_name 5 B_law_name ds M Q E h)
theorem o_law_offices : scopeOk N_law_offices ["state", "count"] (defScope s_law_offices) = true := by decide +kernel
theorem t_law_offices : chkSs (gtOf G_law_offices) N_law_offices (defScope s_law_offices) B_law_offices (defBody s_law_offices) = true := by decide +kernel
theorem c_law_offices (X : K.In h) (g : h.Ns mainGlobals mg) (A : FA K) : Cal P w K mg base (XRof K) 3 "_law_offices" 2 (spV F_law_offices) :=
  cal_mk (G := gtOf G_law_offices) X g A.d_law_offices o_law_offices rfl (fun _ _ _ _ _ _ us hl => match us, hl with | [_, _], _ => rfl) (.cons ((c_law_name X g A).mono (by decide)) .nil) .nil (.cons (A.brange) (.cons (A.btuple) (.cons (A.bsorted) .nil))) (fun z => absurd z (by decide +kernel)) t_law_offices (fun ds M Q E _ h => pV G_law_offices 7 B_law_offices ds M Q E h)
theorem o_law_in_order : scopeOk N_law_in_order ["legs"] (defScope s_law_in_order) = true := by decide +kernel
theorem t_law_in_order : chkSs (gtOf G_law_in_order) N_law_in_order (defScope s_law_in_order) B_law_in_order (defBody s_law_in_order) = true := by decide +kernel
theorem c_law_in_order (X : K.In h) (g : h.Ns mainGlobals mg) (A : FA K) : Cal P w K mg base (XRof K) 1 "_law_in_order" 1 (spV F_law_in_order) :=
  cal_mk (G := gtOf G_law_in_order) X g A.d_law_in_order o_law_in_order rfl (fun _ _ _ _ _ _ us hl => match us, hl with | [_], _ => rfl) .nil .nil (.cons (A.bsorted) (.cons (A.bset) (.cons (A.btuple) .nil))) (fun z => absurd z (by decide +kernel)) t_law_in_order (fun ds M Q E _ h => pV G_law_in_order 4 B_law_in_order ds M Q E h)
theorem o_law_leg_form : scopeOk N_law_leg_form ["state"] (defScope s_law_leg_form) = true := by decide +kernel
theorem t_law_leg_form : chkSs (gtOf G_law_leg_form) N_law_leg_form (defScope s_law_leg_form) B_law_leg_form (defBody s_law_leg_form) = true := by decide +kernel
theorem c_law_leg_form (X : K.In h) (g : h.Ns mainGlobals mg) (A : FA K) : Cal P w K mg base (XRof K) 2 "_law_leg_form" 1 (spV F_law_leg_form) :=
  cal_mk (G := gtOf G_law_leg_form) X g A.d_law_leg_form o_law_leg_form rfl (fun _ _ _ _ _ _ us hl => match us, hl with | [_], _ => rfl) (.cons ((c_law_draw X g A).mono (by decide)) .nil) .nil (.cons (A.brange) (.cons (A.bint) (.cons (A.btuple) .nil))) (fun z => absurd z (by decide +kernel)) t_law_leg_form (fun ds M Q E _ h => pV G_law_leg_form 6 B_law_leg_form ds M Q E h)
theorem o_law_network : scopeOk N_law_network ["state", "most", "many"] (defScope s_law_network) = true := by decide +kernel
theorem t_law_network : chkSs (gtOf G_law_network) N_law_network (defScope s_law_network) B_law_network (defBody s_law_network) = true := by decide +kernel
theorem c_law_network (X : K.In h) (g : h.Ns mainGlobals mg) (A : FA K) : Cal P w K mg base (XRof K) 4 "_law_network" 3 (spV F_law_network) :=
  cal_mk (G := gtOf G_law_network) X g A.d_law_network o_law_network rfl (fun _ _ _ _ _ _ us hl => match us, hl with | [_, _, _], _ => rfl) (.cons ((c_law_offices X g A).mono (by decide)) (.cons ((c_law_draw X g A).mono (by decide)) (.cons ((c_law_leg_form X g A).mono (by decide)) (.cons ((c_law_in_order X g A).mono (by decide)) .nil)))) .nil (.cons (A.brange) (.cons (A.blen) (.cons (A.bint) .nil))) (fun z => absurd z (by decide +kernel)) t_law_network (fun ds M Q E _ h => pV G_law_network 10 B_law_network ds M Q E h)
theorem o_law_with_leg : scopeOk N_law_with_leg ["network", "at", "leg"] (defScope s_law_with_leg) = true := by decide +kernel
theorem t_law_with_leg : chkSs (gtOf G_law_with_leg) N_law_with_leg (defScope s_law_with_leg) B_law_with_leg (defBody s_law_with_leg) = true := by decide +kernel
theorem c_law_with_leg (X : K.In h) (g : h.Ns mainGlobals mg) (A : FA K) : Cal P w K mg base (XRof K) 1 "_law_with_leg" 3 (spV F_law_with_leg) :=
  cal_mk (G := gtOf G_law_with_leg) X g A.d_law_with_leg o_law_with_leg rfl (fun _ _ _ _ _ _ us hl => match us, hl with | [_, _, _], _ => rfl) .nil .nil .nil (fun z => absurd z (by decide +kernel)) t_law_with_leg (fun ds M Q E _ h => pV G_law_with_leg 4 B_law_with_leg ds M Q E h)
theorem o_law_wrong_offices : scopeOk N_law_wrong_offices ["state", "network"] (defScope s_law_wrong_offices) = true := by decide +kernel
theorem t_law_wrong_offices : chkSs (gtOf G_law_wrong_offices) N_law_wrong_offices (defScope s_law_wrong_offices) B_law_wrong_offices (defBody s_law_wrong_offices) = true := by decide +kernel
theorem c_law_wrong_offices (X : K.In h) (g : h.Ns mainGlobals mg) (A : FA K) : Cal P w K mg base (XRof K) 2 "_law_wrong_offices" 2 (spV F_law_wrong_offices) :=
  cal_mk (G := gtOf G_law_wrong_offices) X g A.d_law_wrong_offices o_law_wrong_offices rfl (fun _ _ _ _ _ _ us hl => match us, hl with | [_, _], _ => rfl) (.cons ((c_law_draw X g A).mono (by decide)) .nil) .nil (.cons (A.blen) .nil) (fun z => absurd z (by decide +kernel)) t_law_wrong_offices (fun ds M Q E _ h => pV G_law_wrong_offices 5 B_law_wrong_offices ds M Q E h)
theorem o_law_wrong_form : scopeOk N_law_wrong_form ["state"] (defScope s_law_wrong_form) = true := by decide +kernel
theorem t_law_wrong_form : chkSs (gtOf G_law_wrong_form) N_law_wrong_form (defScope s_law_wrong_form) B_law_wrong_form (defBody s_law_wrong_form) = true := by decide +kernel
theorem c_law_wrong_form (X : K.In h) (g : h.Ns mainGlobals mg) (A : FA K) : Cal P w K mg base (XRof K) 2 "_law_wrong_form" 1 (spV F_law_wrong_form) :=
  cal_mk (G := gtOf G_law_wrong_form) X g A.d_law_wrong_form o_law_wrong_form rfl (fun _ _ _ _ _ _ us hl => match us, hl with | [_], _ => rfl) (.cons ((c_law_draw X g A).mono (by decide)) .nil) .nil (.cons (A.blen) .nil) (fun z => absurd z (by decide +kernel)) t_law_wrong_form (fun ds M Q E _ h => pV G_law_wrong_form 2 B_law_wrong_form ds M Q E h)
theorem o_law_wrong_leg : scopeOk N_law_wrong_leg ["state", "network"] (defScope s_law_wrong_leg) = true := by decide +kernel
theorem t_law_wrong_leg : chkSs (gtOf G_law_wrong_leg) N_law_wrong_leg (defScope s_law_wrong_leg) B_law_wrong_leg (defBody s_law_wrong_leg) = true := by decide +kernel
theorem c_law_wrong_leg (X : K.In h) (g : h.Ns mainGlobals mg) (A : FA K) : Cal P w K mg base (XRof K) 3 "_law_wrong_leg" 2 (spV F_law_wrong_leg) :=
  cal_mk (G := gtOf G_law_wrong_leg) X g A.d_law_wrong_leg o_law_wrong_leg rfl (fun _ _ _ _ _ _ us hl => match us, hl with | [_, _], _ => rfl) (.cons ((c_law_wrong_form X g A).mono (by decide)) (.cons ((c_law_draw X g A).mono (by decide)) .nil)) .nil .nil (fun z => absurd z (by decide +kernel)) t_law_wrong_leg (fun ds M Q E _ h => pV G_law_wrong_leg 6 B_law_wrong_leg ds M Q E h)
theorem o_law_debts : scopeOk N_law_debts ["state"] (defScope s_law_debts) = true := by decide +kernel
theorem t_law_debts : chkSs (gtOf G_law_debts) N_law_debts (defScope s_law_debts) B_law_debts (defBody s_law_debts) = true := by decide +kernel
theorem c_law_debts (X : K.In h) (g : h.Ns mainGlobals mg) (A : FA K) : Cal P w K mg base (XRof K) 2 "_law_debts" 1 (spV F_law_debts) :=
  cal_mk (G := gtOf G_law_debts) X g A.d_law_debts o_law_debts rfl (fun _ _ _ _ _ _ us hl => match us, hl with | [_], _ => rfl) (.cons ((c_law_draw X g A).mono (by decide)) .nil) .nil (.cons (A.blen) .nil) (fun z => absurd z (by decide +kernel)) t_law_debts (fun ds M Q E _ h => pV G_law_debts 2 B_law_debts ds M Q E h)
theorem o_law_full : scopeOk N_law_full ["count", "form"] (defScope s_law_full) = true := by decide +kernel
theorem t_law_full : chkSs (gtOf G_law_full) N_law_full (defScope s_law_full) B_law_full (defBody s_law_full) = true := by decide +kernel
theorem c_law_full (X : K.In h) (g : h.Ns mainGlobals mg) (A : FA K) : Cal P w K mg base (XRof K) 1 "_law_full" 2 (spV F_law_full) :=
  cal_mk (G := gtOf G_law_full) X g A.d_law_full o_law_full rfl (fun _ _ _ _ _ _ us hl => match us, hl with | [_, _], _ => rfl) .nil .nil (.cons (A.btuple) (.cons (A.brange) .nil)) (fun z => absurd z (by decide +kernel)) t_law_full (fun ds M Q E _ h => pV G_law_full 4 B_law_full ds M Q E h)
theorem o_law_shapes_hold : scopeOk N_law_shapes_hold ["state", "network"] (defScope s_law_shapes_hold) = true := by decide +kernel
theorem t_law_shapes_hold : chkSs (gtOf G_law_shapes_hold) N_law_shapes_hold (defScope s_law_shapes_hold) B_law_shapes_hold (defBody s_law_shapes_hold) = true := by decide +kernel
theorem c_law_shapes_hold (X : K.In h) (g : h.Ns mainGlobals mg) (A : FA K) : Cal P w K mg base (XRof K) 7 "_law_shapes_hold" 2 (spV F_law_shapes_hold) :=
  cal_mk (G := gtOf G_law_shapes_hold) X g A.d_law_shapes_hold o_law_shapes_hold rfl (fun _ _ _ _ _ _ us hl => match us, hl with | [_, _], _ => rfl) (.cons ((cnetwork_fault X g A).mono (by decide)) (.cons ((c_law_draw X g A).mono (by decide)) .nil)) .nil (.cons (A.blen) .nil) (fun z => absurd z (by decide +kernel)) t_law_shapes_hold (fun ds M Q E _ h => pV G_law_shapes_hold 5 B_law_shapes_hold ds M Q E h)
theorem olaw : scopeOk Nlaw ["script"] (defScope slaw) = true := by decide +kernel
theorem tlaw : chkSs (gtOf Glaw) Nlaw (defScope slaw) Blaw (defBody slaw) = true := by decide +kernel
theorem claw (X : K.In h) (g : h.Ns mainGlobals mg) (A : FA K) {f : Addr} {fd : FuncData} (F : Fun K "law" "law" slaw f fd) : FnOk P w K mg base (L2.CX P w) 8 f fd ["script"] (liftSp K (XRof K) 1 (spV Flaw)) :=
  law_mk (G := gtOf Glaw) X g F olaw rfl (.cons ((c_law_state X g A).mono (by decide)) (.cons ((c_law_network X g A).mono (by decide)) (.cons ((cnetwork_fault X g A).mono (by decide)) (.cons ((c_law_shapes_hold X g A).mono (by decide)) (.cons ((c_law_wrong_offices X g A).mono (by decide)) (.cons ((c_law_draw X g A).mono (by decide)) (.cons ((c_law_with_leg X g A).mono (by decide)) (.cons ((c_law_wrong_leg X g A).mono (by decide)) (.cons ((c_law_debts X g A).mono (by decide)) (.cons ((c_law_full X g A).mono (by decide)) .nil)))))))))) .nil (.cons (A.blen) (.cons (A.bmin) (.cons (A.bint) .nil))) (fun z => absurd z (by decide +kernel)) tlaw (fun ds M Q E _ h => pV Glaw 15 Blaw ds M Q E h)
end
theorem law_end2 {FAx : PySem.W.Frag → Prop} {l : PySem.W.OpenLaw} {n k : Nat} {q : Program} {loose : List Str} {XP : (Str → Option Value) → Heap → Prop} {YP : World → Heap → Prop} {d : DefRec} {K : Params → PySem.W.Frag} {sp : Sp3} {st : Stmt}
    (hd : d.name = "law") (hn : l.most = some n) (hn2 : n ≤ sizeLine) (hdf : d.params.defaults = []) (hr : Room k callerA) (hY : ∀ (w : World) (h : Heap), YP w h → (K w.params).In h)
    (hb : ∀ (s : Shared) (u kV doc pm : Value) (an : Option Addr) (cdv ct : Value), BindsTo s (PySem.W.fnOf "law" "law" (defArgs st) (defBody st) (defScope st) .none kV doc pm an cdv ct) ⟨[u], []⟩ [("script", u)])
    (dd : ∀ K, FAx K → DF K "law" st)
    (C : ∀ (w : World) (mg : Str → Option Value) (base h : Heap), (K w.params).In h → h.Ns mainGlobals mg → FAx (K w.params) → ∀ f fd, Fun (K w.params) "law" "law" st f fd → FnOk l.prog w (K w.params) mg base (L2.CX l.prog w) k f fd ["script"] (liftSp (K w.params) (XRof (K w.params)) 1 sp))
    (hsp : ∀ ns : List Int, ns.length ≤ n → sp [.flst (ns.map D.int)] M00 (fun v _ => v = .bl true) noX) (A : ∀ w : World, FAx (K w.params)) : PySem.W.WalkO q loose XP YP l.row.toRowW d [] (fun f vs => PySem.call f vs) :=
  law_end (XR := fun w => XRof (K w.params)) hd hn hn2 hdf hr hY hb (fun w => dd _ (A w)) (fun w mg base h KX G f fd F => C w mg base h KX G (A w) f fd F) hsp
end K82
open PySem PySem.W PyProof.Rows
set_option maxHeartbeats 0 in
theorem PySem.Challenge.cw_letterways_k82_faults_of_networks_holds : PySem.Challenge.rw_letterways_k82_faults_of_networks.Holds :=
  by
  w_on; o_law; k_head; (case hw => w_witness2)
  k_fill
  refine' K82.law_end2 (FAx := K82.FA) (l := PySem.Challenge.rw_letterways_k82_faults_of_networks) (n := 63) (k := 8) (sp := Z.spV K82.Flaw) (st := K82.slaw) rfl rfl (by decide) rfl ⟨rfl, by decide, by decide⟩ (fun w h Y => PySem.W.kIn_of Y) (fun _ _ _ _ _ _ _ _ => .of_eq rfl) (fun _ A => A.dlaw) (fun w mg base h KX G A f fd F => K82.claw KX G A F) (fun ns hl => K82.lawHolds ns hl) ?A
  case A =>
    intro w
    refine' K82.FA.mk ?dis_integer ?dis_row ?dis_name ?dis_ascending ?dis_names ?dis_bound ?d_is_pair ?dform_fault ?d_is_leg ?d_are_legs ?dhas_debts ?dnetwork_fault ?d_law_state ?d_law_draw ?d_law_name ?d_law_offices ?d_law_in_order ?d_law_leg_form ?d_law_network ?d_law_with_leg ?d_law_wrong_offices ?d_law_wrong_form ?d_law_wrong_leg ?d_law_debts ?d_law_full ?d_law_shapes_hold ?dlaw ?cMAX_HEAD ?cMAX_LEGS ?cMAX_OFFICES ?cMAX_PERIOD ?ball ?bany ?bbool ?bint ?bisinstance ?blen ?blist ?bmin ?brange ?bset ?bsorted ?bstr ?btuple
    case dis_integer => (refine' Z.DF.mk ?a ?l ?c ?k; (case a => k_is); (case l => k_is); (case c => k_is); (case k => k_is))
    case dis_row => (refine' Z.DF.mk ?a ?l ?c ?k; (case a => k_is); (case l => k_is); (case c => k_is); (case k => k_is))
    case dis_name => (refine' Z.DF.mk ?a ?l ?c ?k; (case a => k_is); (case l => k_is); (case c => k_is); (case k => k_is))
    case dis_ascending => (refine' Z.DF.mk ?a ?l ?c ?k; (case a => k_is); (case l => k_is); (case c => k_is); (case k => k_is))
    case dis_names => (refine' Z.DF.mk ?a ?l ?c ?k; (case a => k_is); (case l => k_is); (case c => k_is); (case k => k_is))
    case dis_bound => (refine' Z.DF.mk ?a ?l ?c ?k; (case a => k_is); (case l => k_is); (case c => k_is); (case k => k_is))
    case d_is_pair => (refine' Z.DF.mk ?a ?l ?c ?k; (case a => k_is); (case l => k_is); (case c => k_is); (case k => k_is))
    case dform_fault => (refine' Z.DF.mk ?a ?l ?c ?k; (case a => k_is); (case l => k_is); (case c => k_is); (case k => k_is))
    case d_is_leg => (refine' Z.DF.mk ?a ?l ?c ?k; (case a => k_is); (case l => k_is); (case c => k_is); (case k => k_is))
    case d_are_legs => (refine' Z.DF.mk ?a ?l ?c ?k; (case a => k_is); (case l => k_is); (case c => k_is); (case k => k_is))
    case dhas_debts => (refine' Z.DF.mk ?a ?l ?c ?k; (case a => k_is); (case l => k_is); (case c => k_is); (case k => k_is))
    case dnetwork_fault => (refine' Z.DF.mk ?a ?l ?c ?k; (case a => k_is); (case l => k_is); (case c => k_is); (case k => k_is))
    case d_law_state => (refine' Z.DF.mk ?a ?l ?c ?k; (case a => k_is); (case l => k_is); (case c => k_is); (case k => k_is))
    case d_law_draw => (refine' Z.DF.mk ?a ?l ?c ?k; (case a => k_is); (case l => k_is); (case c => k_is); (case k => k_is))
    case d_law_name => (refine' Z.DF.mk ?a ?l ?c ?k; (case a => k_is); (case l => k_is); (case c => k_is); (case k => k_is))
    case d_law_offices => (refine' Z.DF.mk ?a ?l ?c ?k; (case a => k_is); (case l => k_is); (case c => k_is); (case k => k_is))
    case d_law_in_order => (refine' Z.DF.mk ?a ?l ?c ?k; (case a => k_is); (case l => k_is); (case c => k_is); (case k => k_is))
    case d_law_leg_form => (refine' Z.DF.mk ?a ?l ?c ?k; (case a => k_is); (case l => k_is); (case c => k_is); (case k => k_is))
    case d_law_network => (refine' Z.DF.mk ?a ?l ?c ?k; (case a => k_is); (case l => k_is); (case c => k_is); (case k => k_is))
    case d_law_with_leg => (refine' Z.DF.mk ?a ?l ?c ?k; (case a => k_is); (case l => k_is); (case c => k_is); (case k => k_is))
    case d_law_wrong_offices => (refine' Z.DF.mk ?a ?l ?c ?k; (case a => k_is); (case l => k_is); (case c => k_is); (case k => k_is))
    case d_law_wrong_form => (refine' Z.DF.mk ?a ?l ?c ?k; (case a => k_is); (case l => k_is); (case c => k_is); (case k => k_is))
    case d_law_wrong_leg => (refine' Z.DF.mk ?a ?l ?c ?k; (case a => k_is); (case l => k_is); (case c => k_is); (case k => k_is))
    case d_law_debts => (refine' Z.DF.mk ?a ?l ?c ?k; (case a => k_is); (case l => k_is); (case c => k_is); (case k => k_is))
    case d_law_full => (refine' Z.DF.mk ?a ?l ?c ?k; (case a => k_is); (case l => k_is); (case c => k_is); (case k => k_is))
    case d_law_shapes_hold => (refine' Z.DF.mk ?a ?l ?c ?k; (case a => k_is); (case l => k_is); (case c => k_is); (case k => k_is))
    case dlaw => (refine' Z.DF.mk ?a ?l ?c ?k; (case a => k_is); (case l => k_is); (case c => k_is); (case k => k_is))
    case cMAX_HEAD => (refine' Z.DC.int ?h ?r; (case h => k_is); (case r => exact ⟨_, rfl⟩))
    case cMAX_LEGS => (refine' Z.DC.int ?h ?r; (case h => k_is); (case r => exact ⟨_, rfl⟩))
    case cMAX_OFFICES => (refine' Z.DC.int ?h ?r; (case h => k_is); (case r => exact ⟨_, rfl⟩))
    case cMAX_PERIOD => (refine' Z.DC.int ?h ?r; (case h => k_is); (case r => exact ⟨_, rfl⟩))
    case ball => (show PySem.W.nsIn _ _ _ = some none; k_is)
    case bany => (show PySem.W.nsIn _ _ _ = some none; k_is)
    case bbool => (show PySem.W.nsIn _ _ _ = some none; k_is)
    case bint => (show PySem.W.nsIn _ _ _ = some none; k_is)
    case bisinstance => (show PySem.W.nsIn _ _ _ = some none; k_is)
    case blen => (show PySem.W.nsIn _ _ _ = some none; k_is)
    case blist => (show PySem.W.nsIn _ _ _ = some none; k_is)
    case bmin => (show PySem.W.nsIn _ _ _ = some none; k_is)
    case brange => (show PySem.W.nsIn _ _ _ = some none; k_is)
    case bset => (show PySem.W.nsIn _ _ _ = some none; k_is)
    case bsorted => (show PySem.W.nsIn _ _ _ = some none; k_is)
    case bstr => (show PySem.W.nsIn _ _ _ = some none; k_is)
    case btuple => (show PySem.W.nsIn _ _ _ = some none; k_is)

