import PyProof.Rows.All
import HandS.ForMost
import HandS.ForExc
import HandS.TupAny
import HandS.TupMul
import HandS.IsInst
import HandS.Deep
import HandS.Wide
import HandS.Style
import KE.DataCmp
import KE.SortCalls
import HandS.Conv
import HandS.More
import HandS.Small
import HandS.SetKeys
import HandS.Strs
import PySem.Challenge.RW_letterways_k93_faults_and_moves_of_despa
set_option Elab.async false
set_option linter.all false
set_option maxRecDepth 100000
set_option maxHeartbeats 2000000
namespace Z
open PySem PySem.Spec PyProof.Rows L2

/-- how a tuple stands: made and tracked; of the written part; made and known to its object -/
inductive TK where
  | t | s | k
  deriving DecidableEq, Inhabited
/-- data: tuples and frozen lists and dicts by their content, mutable things by their address -/
inductive D where
  | non
  | bl (b : Bool)
  | int (i : Int)
  | str (x : Str)
  | ref (a : Addr)
  | tp (k : TK) (ds : List D)
  | lst (ds : List D)
  | flst (ds : List D)
  | dK (ks : List Key) (ds : List D)
  | dT (ks : List (List Key)) (ds : List D)
  deriving Inhabited
abbrev D.tup (ds : List D) : D := .tp .t ds
/-- a mutable thing -/
inductive MO where
  | lst (ds : List D)
  | dK (kvs : List (Key × D))
  | dT (kvs : List (List Key × D))
  | ins (C : Addr) (fs : List (Str × D))
abbrev MH := Addr → Option MO
def up (M : MH) (a : Addr) (o : MO) : MH := fun b => if b = a then some o else M b
def er (M : MH) (a : Addr) : MH := fun b => if b = a then none else M b
@[simp] theorem up_same {M : MH} {a : Addr} {o : MO} : up M a o a = some o := by unfold up; rw [if_pos rfl]
theorem up_ne {M : MH} {a b : Addr} {o : MO} (h : b ≠ a) : up M a o b = M b := by unfold up; rw [if_neg h]
@[simp] theorem up_up {M : MH} {a : Addr} {o u : MO} : up (up M a o) a u = up M a u := by
  funext b; unfold up; split <;> rfl
theorem er_up {M : MH} {a : Addr} {o : MO} (h : M a = none) : er (up M a o) a = M := by
  funext b; unfold er up
  by_cases e : b = a
  · rw [if_pos e, e, h]
  · rw [if_neg e, if_neg e]

section
variable (K : PySem.W.Frag)
/-- a tuple, a list of the written part -/
def StT (a : Addr) (xs : List V) : Prop :=
  ∃ (o : Obj) (its : Array Value) (n : Nat), K.lookup a = some o ∧ o.cls = .type "tuple" ∧ o.data = .seq its n ∧ its.size ≤ sizeLine ∧ Vals xs its.toList
def TupR (M : MH) (H : Hp) (a : Addr) (vs : List V) : TK → Prop
  | .t => M a = none ∧ H a = some (.tup vs)
  | .s => StT K a vs
  | .k => ∃ o, M a = none ∧ H a = some (.frz o (.tup vs)) ∧ o.dict = none
/-- a list that stays: the script's, or one of the written part -/
def FlR (M : MH) (H : Hp) (a : Addr) (vs : List V) : Prop :=
  (∃ o, M a = none ∧ H a = some (.frz o (.lst vs))) ∨
    ∃ (o : Obj) (its : Array Value) (n : Nat), K.lookup a = some o ∧ o.cls = .type "list" ∧ o.dict = none ∧ o.data = .seq its n ∧ its.size ≤ sizeLine ∧ Vals vs its.toList
mutual
def Rp (M : MH) (H : Hp) : D → V → Prop
  | .non, v => v = .non
  | .bl b, v => v = .bl b
  | .int i, v => v = .int i
  | .str x, v => v = .str x
  | .ref a, v => v = .ref a
  | .tp k ds, v => ∃ a vs, v = .ref a ∧ TupR K M H a vs k ∧ RpL M H ds vs
  | .lst ds, v => ∃ a vs, v = .ref a ∧ M a = none ∧ H a = some (.lst vs) ∧ RpL M H ds vs
  | .flst ds, v => ∃ a vs, v = .ref a ∧ FlR K M H a vs ∧ RpL M H ds vs
  | .dK ks ds, v => ∃ a vs, v = .ref a ∧ M a = none ∧ H a = some (.dK (ks.zip vs)) ∧ ks.length = ds.length ∧ RpL M H ds vs
  | .dT ks ds, v => ∃ a vs, v = .ref a ∧ M a = none ∧ H a = some (.dT (ks.zip vs)) ∧ ks.length = ds.length ∧ RpL M H ds vs
def RpL (M : MH) (H : Hp) : List D → List V → Prop
  | [], vs => vs = []
  | d :: ds, vs => ∃ v r, vs = v :: r ∧ Rp M H d v ∧ RpL M H ds r
end
/-- nothing that stands unmarked is touched -/
def Ev (M : MH) (H : Hp) (M' : MH) (H' : Hp) : Prop := ∀ a o, H a = some o → M a = none → H' a = some o ∧ M' a = none
theorem Ev.refl (M : MH) (H : Hp) : Ev M H M H := fun _ _ h m => ⟨h, m⟩
theorem Ev.trans {M M1 M2 : MH} {H H1 H2 : Hp} (a : Ev M H M1 H1) (b : Ev M1 H1 M2 H2) : Ev M H M2 H2 := fun c o h m =>
  let ⟨h1, m1⟩ := a c o h m
  b c o h1 m1
variable {K}
theorem TupR.ev {M M' : MH} {H H' : Hp} (e : Ev M H M' H') {a : Addr} {vs : List V} {k : TK} (r : TupR K M H a vs k) : TupR K M' H' a vs k := by
  cases k with
  | t =>
    obtain ⟨g1, g2⟩ := e a _ r.2 r.1
    exact ⟨g2, g1⟩
  | s => exact r
  | k =>
    obtain ⟨o, h1, h2, h3⟩ := r
    obtain ⟨g1, g2⟩ := e a _ h2 h1
    exact ⟨o, g2, g1, h3⟩
theorem FlR.ev {M M' : MH} {H H' : Hp} (e : Ev M H M' H') {a : Addr} {vs : List V} (r : FlR K M H a vs) : FlR K M' H' a vs := by
  rcases r with ⟨o, h1, h2⟩ | r
  · obtain ⟨g1, g2⟩ := e a _ h2 h1
    exact .inl ⟨o, g2, g1⟩
  · exact .inr r
theorem FlR.sq {M : MH} {H : Hp} {a : Addr} {vs : List V} (r : FlR K M H a vs) : SqL K H a vs := by
  rcases r with ⟨o, h1, h2⟩ | r
  · exact .inl (.inr ⟨o, h2⟩)
  · exact .inr r
theorem TupR.sq {M : MH} {H : Hp} {a : Addr} {vs : List V} {k : TK} (r : TupR K M H a vs k) : SqT K H a vs := by
  cases k with
  | t => exact .inl (.inl r.2)
  | s => exact .inr r
  | k =>
    obtain ⟨o, h1, h2, h3⟩ := r
    exact .inl (.inr ⟨o, h2⟩)
mutual
theorem Rp.ev {M M' : MH} {H H' : Hp} (e : Ev M H M' H') : ∀ (d : D) (v : V), Rp K M H d v → Rp K M' H' d v
  | .non, _, h => h
  | .bl _, _, h => h
  | .int _, _, h => h
  | .str _, _, h => h
  | .ref _, _, h => h
  | .tp k ds, v, h => by
    obtain ⟨a, vs, h1, h2, h3⟩ := h
    exact ⟨a, vs, h1, h2.ev e, RpL.ev e ds vs h3⟩
  | .lst ds, v, h => by
    obtain ⟨a, vs, h1, h2, h3, h4⟩ := h
    obtain ⟨g1, g2⟩ := e a _ h3 h2
    exact ⟨a, vs, h1, g2, g1, RpL.ev e ds vs h4⟩
  | .flst ds, v, h => by
    obtain ⟨a, vs, h1, h2, h3⟩ := h
    exact ⟨a, vs, h1, h2.ev e, RpL.ev e ds vs h3⟩
  | .dK ks ds, v, h => by
    obtain ⟨a, vs, h1, h2, h3, h4, h5⟩ := h
    obtain ⟨g1, g2⟩ := e a _ h3 h2
    exact ⟨a, vs, h1, g2, g1, h4, RpL.ev e ds vs h5⟩
  | .dT ks ds, v, h => by
    obtain ⟨a, vs, h1, h2, h3, h4, h5⟩ := h
    obtain ⟨g1, g2⟩ := e a _ h3 h2
    exact ⟨a, vs, h1, g2, g1, h4, RpL.ev e ds vs h5⟩
theorem RpL.ev {M M' : MH} {H H' : Hp} (e : Ev M H M' H') : ∀ (ds : List D) (vs : List V), RpL K M H ds vs → RpL K M' H' ds vs
  | [], _, h => h
  | d :: ds, vs, h => by
    obtain ⟨v, r, h1, h2, h3⟩ := h
    exact ⟨v, r, h1, Rp.ev e d v h2, RpL.ev e ds r h3⟩
end
theorem RpL.length {M : MH} {H : Hp} : ∀ {ds : List D} {vs : List V}, RpL K M H ds vs → vs.length = ds.length
  | [], _, h => by
    have h : _ = [] := h
    subst h; rfl
  | d :: ds, vs, h => by
    obtain ⟨v, r, h1, h2, h3⟩ := h
    subst h1
    simp only [List.length_cons, RpL.length h3]
theorem RpL.get {M : MH} {H : Hp} : ∀ {ds : List D} {vs : List V} {i : Nat} {d : D}, RpL K M H ds vs → ds[i]? = some d → ∃ v, vs[i]? = some v ∧ Rp K M H d v
  | [], _, _, _, _, e => by simp at e
  | d :: ds, vs, 0, d', h, e => by
    obtain ⟨v, r, h1, h2, h3⟩ := h
    subst h1
    have e' : d = d' := by simpa using e
    subst e'
    exact ⟨v, rfl, h2⟩
  | d :: ds, vs, i + 1, d', h, e => by
    obtain ⟨v, r, h1, h2, h3⟩ := h
    subst h1
    obtain ⟨w, e1, e2⟩ := RpL.get (i := i) h3 (by simpa using e)
    exact ⟨w, by simpa using e1, e2⟩
theorem RpL.get' {M : MH} {H : Hp} {ds : List D} {vs : List V} {i : Nat} {v : V} (h : RpL K M H ds vs) (e : vs[i]? = some v) : ∃ d, ds[i]? = some d ∧ Rp K M H d v := by
  have hl := h.length
  obtain ⟨h1, h2⟩ := List.getElem?_eq_some_iff.mp e
  have h3 : i < ds.length := by omega
  obtain ⟨w, e1, e2⟩ := h.get (List.getElem?_eq_getElem h3)
  rw [e] at e1
  cases e1
  exact ⟨_, List.getElem?_eq_getElem h3, e2⟩
theorem RpL.append {M : MH} {H : Hp} : ∀ {ds es : List D} {vs ws : List V}, RpL K M H ds vs → RpL K M H es ws → RpL K M H (ds ++ es) (vs ++ ws)
  | [], _, _, _, h, g => by
    have h : _ = [] := h
    subst h; exact g
  | d :: ds, es, vs, ws, h, g => by
    obtain ⟨v, r, h1, h2, h3⟩ := h
    subst h1
    exact ⟨v, r ++ ws, rfl, h2, RpL.append h3 g⟩
theorem RpL.take {M : MH} {H : Hp} : ∀ (n : Nat) {ds : List D} {vs : List V}, RpL K M H ds vs → RpL K M H (ds.take n) (vs.take n)
  | 0, _, _, _ => by simp [RpL]
  | n + 1, [], _, h => by
    have h : _ = [] := h
    subst h; simp [RpL]
  | n + 1, d :: ds, vs, h => by
    obtain ⟨v, r, h1, h2, h3⟩ := h
    subst h1
    exact ⟨v, r.take n, rfl, h2, RpL.take n h3⟩
theorem RpL.drop {M : MH} {H : Hp} : ∀ (n : Nat) {ds : List D} {vs : List V}, RpL K M H ds vs → RpL K M H (ds.drop n) (vs.drop n)
  | 0, _, _, h => h
  | n + 1, [], _, h => by
    have h : _ = [] := h
    subst h; simp [RpL]
  | n + 1, d :: ds, vs, h => by
    obtain ⟨v, r, h1, h2, h3⟩ := h
    subst h1
    exact RpL.drop n h3
theorem RpL.set {M : MH} {H : Hp} {d : D} {v : V} (hd : Rp K M H d v) : ∀ (i : Nat) {ds : List D} {vs : List V}, RpL K M H ds vs → RpL K M H (ds.set i d) (vs.set i v)
  | _, [], _, h => by
    have h : _ = [] := h
    subst h; simp [RpL]
  | 0, d' :: ds, vs, h => by
    obtain ⟨w, r, h1, h2, h3⟩ := h
    subst h1
    exact ⟨v, r, rfl, hd, h3⟩
  | i + 1, d' :: ds, vs, h => by
    obtain ⟨w, r, h1, h2, h3⟩ := h
    subst h1
    exact ⟨w, r.set i v, rfl, h2, RpL.set hd i h3⟩
theorem RpL.reverse {M : MH} {H : Hp} : ∀ {ds : List D} {vs : List V}, RpL K M H ds vs → RpL K M H ds.reverse vs.reverse
  | [], _, h => by
    have h : _ = [] := h
    subst h; exact rfl
  | d :: ds, vs, h => by
    obtain ⟨w, r, h1, h2, h3⟩ := h
    subst h1
    rw [List.reverse_cons, List.reverse_cons]
    exact RpL.append (RpL.reverse h3) ⟨w, [], rfl, h2, rfl⟩
theorem RpL.one {M : MH} {H : Hp} {d : D} {v : V} (h : Rp K M H d v) : RpL K M H [d] [v] := ⟨v, [], rfl, h, rfl⟩
end
end Z

namespace Z
open PySem PySem.Spec PyProof.Rows L2

section
variable (K : PySem.W.Frag)
def OR (M : MH) (H : Hp) (a : Addr) : MO → Prop
  | .lst ds => ∃ vs, H a = some (.lst vs) ∧ RpL K M H ds vs
  | .dK kvs => ∃ vs, H a = some (.dK ((kvs.map (·.1)).zip vs)) ∧ RpL K M H (kvs.map (·.2)) vs
  | .dT kvs => ∃ vs, H a = some (.dT ((kvs.map (·.1)).zip vs)) ∧ RpL K M H (kvs.map (·.2)) vs
  | .ins C fs => ∃ dx vs, H a = some (.ins C dx ((fs.map (·.1)).zip vs)) ∧ RpL K M H (fs.map (·.2)) vs
def RM (M : MH) (H : Hp) : Prop := ∀ a o, M a = some o → OR K M H a o
variable {K}
theorem OR.has {M : MH} {H : Hp} {a : Addr} {o : MO} (h : OR K M H a o) : ∃ u, H a = some u := by
  cases o with
  | lst ds => obtain ⟨vs, h, _⟩ := h; exact ⟨_, h⟩
  | dK ds => obtain ⟨vs, h, _⟩ := h; exact ⟨_, h⟩
  | dT ds => obtain ⟨vs, h, _⟩ := h; exact ⟨_, h⟩
  | ins C fs => obtain ⟨dx, vs, h, _⟩ := h; exact ⟨_, h⟩
theorem OR.ev {M M' : MH} {H H' : Hp} (e : Ev M H M' H') {a : Addr} {o : MO} (he : H' a = H a) (h : OR K M H a o) : OR K M' H' a o := by
  cases o with
  | lst ds => obtain ⟨vs, h, r⟩ := h; exact ⟨vs, he.trans h, RpL.ev e _ _ r⟩
  | dK ds => obtain ⟨vs, h, r⟩ := h; exact ⟨vs, he.trans h, RpL.ev e _ _ r⟩
  | dT ds => obtain ⟨vs, h, r⟩ := h; exact ⟨vs, he.trans h, RpL.ev e _ _ r⟩
  | ins C fs => obtain ⟨dx, vs, h, r⟩ := h; exact ⟨dx, vs, he.trans h, RpL.ev e _ _ r⟩
theorem RM.free {M : MH} {H : Hp} (h : RM K M H) {p : Addr} (e : H p = none) : M p = none := by
  cases q : M p with
  | none => rfl
  | some o =>
    obtain ⟨u, z⟩ := (h p o q).has
    rw [e] at z; cases z
/-- a new thing, unmarked -/
theorem Ev.new {M : MH} {H : Hp} {p : Addr} {u : HO} (e : H p = none) : Ev M H M (upd H p u) := fun a o h m =>
  ⟨by rw [upd_ne (ne_of_none h e)]; exact h, m⟩
theorem RM.new {M : MH} {H : Hp} {p : Addr} {u : HO} (h : RM K M H) (e : H p = none) : RM K M (upd H p u) := fun a o q => by
  obtain ⟨v, z⟩ := (h a o q).has
  exact (h a o q).ev (Ev.new e) (by rw [upd_ne (ne_of_none z e)])
/-- a new thing, marked -/
theorem Ev.newM {M : MH} {H : Hp} {p : Addr} {u : HO} {o : MO} (e : H p = none) : Ev M H (up M p o) (upd H p u) := fun a w h m =>
  ⟨by rw [upd_ne (ne_of_none h e)]; exact h, by rw [up_ne (ne_of_none h e)]; exact m⟩
theorem RM.newM {M : MH} {H : Hp} {p : Addr} {u : HO} {o : MO} (h : RM K M H) (e : H p = none) (n : OR K (up M p o) (upd H p u) p o) : RM K (up M p o) (upd H p u) := fun a w q => by
  by_cases z : a = p
  · subst z
    rw [up_same] at q
    cases q
    exact n
  · rw [up_ne z] at q
    exact (h a w q).ev (Ev.newM e) (upd_ne z)
/-- a marked thing is written -/
theorem Ev.wr {M : MH} {H : Hp} {p : Addr} {u : HO} {o o' : MO} (e : M p = some o') : Ev M H (up M p o) (upd H p u) := fun a w h m => by
  have z : a ≠ p := fun z => by subst z; rw [e] at m; cases m
  exact ⟨by rw [upd_ne z]; exact h, by rw [up_ne z]; exact m⟩
theorem RM.wr {M : MH} {H : Hp} {p : Addr} {u : HO} {o o' : MO} (h : RM K M H) (e : M p = some o') (n : OR K (up M p o) (upd H p u) p o) : RM K (up M p o) (upd H p u) := fun a w q => by
  by_cases z : a = p
  · subst z
    rw [up_same] at q
    cases q
    exact n
  · rw [up_ne z] at q
    exact (h a w q).ev (Ev.wr e) (upd_ne z)
/-- a marked thing is forgotten -/
def Sub (M' M : MH) : Prop := ∀ a o, M' a = some o → M a = some o
theorem Sub.refl (M : MH) : Sub M M := fun _ _ h => h
theorem Sub.trans {A B C : MH} (h : Sub A B) (g : Sub B C) : Sub A C := fun a o q => g a o (h a o q)
theorem Ev.sub {M M' : MH} {H : Hp} (s : Sub M' M) : Ev M H M' H := fun a o h m => ⟨h, by
  cases q : M' a with
  | none => rfl
  | some w => rw [s a w q] at m; cases m⟩
theorem RM.sub {M M' : MH} {H : Hp} (h : RM K M H) (s : Sub M' M) : RM K M' H := fun a o q => (h a o (s a o q)).ev (Ev.sub s) rfl
theorem er_none {M : MH} {p : Addr} : er M p p = none := by unfold er; rw [if_pos rfl]
theorem Sub.er {M : MH} {p : Addr} : Sub (er M p) M := fun a o q => by
  unfold Z.er at q
  by_cases z : a = p
  · rw [if_pos z] at q; cases q
  · rw [if_neg z] at q; exact q
theorem Sub.up {M : MH} {p : Addr} {o : MO} (h : M p = .none) : Sub M (up M p o) := fun a w q => by
  rw [up_ne (fun z => by subst z; rw [h] at q; cases q)]; exact q
end

/-! ### slots -/
abbrev En := List (Option D)
def getE : En → Nat → Option D
  | [], _ => none
  | x :: _, 0 => x
  | _ :: r, n + 1 => getE r n
def setE : En → Nat → D → En
  | [], _, _ => []
  | _ :: r, 0, d => some d :: r
  | x :: r, n + 1, d => x :: setE r n d
def wipeE1 : En → Nat → En
  | [], _ => []
  | _ :: r, 0 => none :: r
  | x :: r, n + 1 => x :: wipeE1 r n
def wipeE : En → List Nat → En
  | e, [] => e
  | e, v :: vs => wipeE1 (wipeE e vs) v
theorem getE_eq : ∀ (e : En) (i : Nat), getE e i = (e[i]?).join
  | [], i => by simp [getE]
  | x :: r, 0 => by cases x <;> simp [getE]
  | x :: r, n + 1 => by
    show getE r n = _
    rw [getE_eq r n]; simp
theorem setE_eq : ∀ (e : En) (i : Nat) (d : D), setE e i d = e.set i (some d)
  | [], i, d => by simp [setE]
  | x :: r, 0, d => by simp [setE]
  | x :: r, n + 1, d => by
    show x :: setE r n d = _
    rw [setE_eq r n d]; simp
theorem wipeE1_eq : ∀ (e : En) (i : Nat), wipeE1 e i = e.set i none
  | [], i => by simp [wipeE1]
  | x :: r, 0 => by simp [wipeE1]
  | x :: r, n + 1 => by
    show x :: wipeE1 r n = _
    rw [wipeE1_eq r n]; simp
section
variable (K : PySem.W.Frag)
structure RS (M : MH) (H : Hp) (e : En) (σ : L2.St) : Prop where
  len : e.length = σ.length
  get : ∀ i d, getE e i = some d → ∃ v, σ[i]? = some (some v) ∧ Rp K M H d v
variable {K}
theorem RS.ev {M M' : MH} {H H' : Hp} (v : Ev M H M' H') {e : En} {σ : L2.St} (r : RS K M H e σ) : RS K M' H' e σ :=
  ⟨r.len, fun i d h => let ⟨w, h1, h2⟩ := r.get i d h; ⟨w, h1, Rp.ev v d w h2⟩⟩
theorem RS.set {M : MH} {H : Hp} {e : En} {σ : L2.St} (r : RS K M H e σ) (i : Nat) {d : D} {v : V} (h : Rp K M H d v) : RS K M H (setE e i d) (σ.set i (some v)) := by
  refine ⟨by rw [setE_eq, List.length_set, List.length_set]; exact r.len, fun j d' hj => ?_⟩
  rw [getE_eq, setE_eq] at hj
  by_cases z : j = i
  · subst z
    by_cases hl : j < e.length
    · rw [List.getElem?_set_self hl] at hj
      have hj : d = d' := by simpa using hj
      subst hj
      exact ⟨v, List.getElem?_set_self (by rw [← r.len]; exact hl), h⟩
    · rw [List.getElem?_eq_none (by rw [List.length_set]; omega)] at hj
      cases hj
  · rw [List.getElem?_set_ne (Ne.symm z)] at hj
    obtain ⟨w, h1, h2⟩ := r.get j d' (by rw [getE_eq]; exact hj)
    exact ⟨w, by rw [List.getElem?_set_ne (Ne.symm z)]; exact h1, h2⟩
theorem RS.wipe1 {M : MH} {H : Hp} {e : En} {σ : L2.St} (r : RS K M H e σ) (i : Nat) : RS K M H (wipeE1 e i) (σ.set i none) := by
  refine ⟨by rw [wipeE1_eq, List.length_set, List.length_set]; exact r.len, fun j d' hj => ?_⟩
  rw [getE_eq, wipeE1_eq] at hj
  by_cases z : j = i
  · subst z
    by_cases hl : j < e.length
    · rw [List.getElem?_set_self hl] at hj
      cases hj
    · rw [List.getElem?_eq_none (by rw [List.length_set]; omega)] at hj
      cases hj
  · rw [List.getElem?_set_ne (Ne.symm z)] at hj
    obtain ⟨w, h1, h2⟩ := r.get j d' (by rw [getE_eq]; exact hj)
    exact ⟨w, by rw [List.getElem?_set_ne (Ne.symm z)]; exact h1, h2⟩
theorem RS.wipe {M : MH} {H : Hp} {e : En} {σ : L2.St} (r : RS K M H e σ) : ∀ vs : List Nat, RS K M H (wipeE e vs) (wipe σ vs)
  | [] => r
  | v :: vs => (RS.wipe r vs).wipe1 v
end

/-! ### lifted readings -/
abbrev Q3 := D → MH → Prop
abbrev T3 := En → MH → Q3 → Prop
abbrev TB3 := En → MH → (Bool → MH → Prop) → Prop
abbrev TL3 := En → MH → (List D → MH → Prop) → Prop
abbrev O1 := D → MH → Q3 → Prop
abbrev O2 := D → D → MH → Q3 → Prop
abbrev OL := List D → MH → Q3 → Prop
section
variable (K : PySem.W.Frag) (M0 : MH) (H0 : Hp)
/-- what is wanted of data is what is wanted of values -/
def Cv (M : MH) (H : Hp) (Q3 : Q3) (Q : VK) : Prop := ∀ d M' v H', Q3 d M' → Rp K M' H' d v → RM K M' H' → Ev M H M' H' → Q v H'
def CvB (M : MH) (H : Hp) (Q3 : Bool → MH → Prop) (Q : Bool → Hp → Prop) : Prop := ∀ b M' H', Q3 b M' → RM K M' H' → Ev M H M' H' → Q b H'
def CvL (M : MH) (H : Hp) (Q3 : List D → MH → Prop) (Q : List V → Hp → Prop) : Prop := ∀ ds M' vs H', Q3 ds M' → RpL K M' H' ds vs → RM K M' H' → Ev M H M' H' → Q vs H'
def LE (t : T3) : TE := fun σ H Q => ∃ e M Q3, RS K M H e σ ∧ RM K M H ∧ Ev M0 H0 M H ∧ t e M Q3 ∧ Cv K M H Q3 Q
def LT (t : TB3) : TT := fun σ H Q => ∃ e M Q3, RS K M H e σ ∧ RM K M H ∧ Ev M0 H0 M H ∧ t e M Q3 ∧ CvB K M H Q3 Q
def LA (t : TL3) : TA := fun σ H Q => ∃ e M Q3, RS K M H e σ ∧ RM K M H ∧ Ev M0 H0 M H ∧ t e M Q3 ∧ CvL K M H Q3 Q
def LO1 (o : O1) : V → Hp → VK → Prop := fun x H Q => ∃ d M Q3, Rp K M H d x ∧ RM K M H ∧ o d M Q3 ∧ Cv K M H Q3 Q
def LO2 (o : O2) : R2 := fun x y H Q => ∃ d1 d2 M Q3, Rp K M H d1 x ∧ Rp K M H d2 y ∧ RM K M H ∧ o d1 d2 M Q3 ∧ Cv K M H Q3 Q
def LOL (o : OL) : List V → Hp → VK → Prop := fun xs H Q => ∃ ds M Q3, RpL K M H ds xs ∧ RM K M H ∧ o ds M Q3 ∧ Cv K M H Q3 Q
variable {K M0 H0}
theorem Cv.from {M M1 : MH} {H H1 : Hp} {Q3 : Q3} {Q : VK} (c : Cv K M H Q3 Q) (e : Ev M H M1 H1) : Cv K M1 H1 Q3 Q := fun d M' v H' q r m e' => c d M' v H' q r m (e.trans e')
theorem CvB.from {M M1 : MH} {H H1 : Hp} {Q3 : Bool → MH → Prop} {Q : Bool → Hp → Prop} (c : CvB K M H Q3 Q) (e : Ev M H M1 H1) : CvB K M1 H1 Q3 Q := fun d M' H' q m e' => c d M' H' q m (e.trans e')
theorem CvL.from {M M1 : MH} {H H1 : Hp} {Q3 : List D → MH → Prop} {Q : List V → Hp → Prop} (c : CvL K M H Q3 Q) (e : Ev M H M1 H1) : CvL K M1 H1 Q3 Q := fun d M' v H' q r m e' => c d M' v H' q r m (e.trans e')
theorem Cv.now {M : MH} {H : Hp} {Q3 : Q3} {Q : VK} (c : Cv K M H Q3 Q) {d : D} {v : V} (m : RM K M H) (q : Q3 d M) (r : Rp K M H d v) : Q v H := c d M v H q r m (Ev.refl M H)
theorem _root_.L2.PE.imp {X : Cx} {e : Expr} {t t' : TE} (h : PE X e t) (f : ∀ σ H Q, t' σ H Q → t σ H Q) : PE X e t' := ⟨fun pins s σ H Q I q => h.run pins s σ H Q I (f _ _ _ q)⟩
theorem _root_.L2.PT.imp {X : Cx} {e : Expr} {t t' : TT} (h : PT X e t) (f : ∀ σ H Q, t' σ H Q → t σ H Q) : PT X e t' := ⟨fun pins s σ H Q I q => h.run pins s σ H Q I (f _ _ _ q)⟩
theorem _root_.L2.PW.imp {X : Cx} {e : Expr} {t t' : TT} (h : PW X e t) (f : ∀ σ H Q, t' σ H Q → t σ H Q) : PW X e t' := ⟨fun w pins s σ H Q I q => h.run w pins s σ H Q I (f _ _ _ q)⟩
theorem _root_.L2.PA.imp {X : Cx} {es : List Expr} {t t' : TA} (h : PA X es t) (f : ∀ σ H Q, t' σ H Q → t σ H Q) : PA X es t' := ⟨fun pos pins s σ H Q I q => h.run pos pins s σ H Q I (f _ _ _ q)⟩
theorem _root_.L2.PS.imp {X : Cx} {st : Stmt} {t t' : TS} (h : PS X st t) (f : ∀ D σ H, t' D σ H → t D σ H) : PS X st t' := ⟨fun pins s σ H D I q => h.run pins s σ H D I (f _ _ _ q)⟩
theorem _root_.L2.PSs.imp {X : Cx} {st : List Stmt} {t t' : TS} (h : PSs X st t) (f : ∀ D σ H, t' D σ H → t D σ H) : PSs X st t' := ⟨fun pins s σ H D I q => h.run pins s σ H D I (f _ _ _ q)⟩
theorem _root_.L2.PI.imp {X : Cx} {tg it : Expr} {t t' : TI} (h : PI X tg it t) (f : ∀ σ H R, t' σ H R → t σ H R) : PI X tg it t' := ⟨fun pins s σ H R I q => h.run pins s σ H R I (f _ _ _ q)⟩
theorem oimp {X : Cx} {f : Value → Value → Sem Value} {r r' : R2} (h : OpR X f r) (g : ∀ x y H Q, r' x y H Q → r x y H Q) : OpR X f r' := fun pins s σ H x y v u Q I rx ry q => h pins s σ H x y v u Q I rx ry (g _ _ _ _ q)
theorem uimp {X : Cx} {f : Value → Sem Value} {r r' : V → Hp → VK → Prop} (h : UnR X f r) (g : ∀ x H Q, r' x H Q → r x H Q) : UnR X f r' := fun pins s σ H x v Q I rx q => h pins s σ H x v Q I rx (g _ _ _ q)
theorem cimp {X : Cx} {f : Value} {r r' : List V → Hp → VK → Prop} (h : CallR X f r) (g : ∀ x H Q, r' x H Q → r x H Q) : CallR X f r' := fun pins s σ H x v Q I rx q => h pins s σ H x v Q I rx (g _ _ _ q)

/-! #### sequencing -/
/-- one part, then something -/
theorem LE.then {t : T3} {σ : L2.St} {e : En} {M : MH} {H : Hp} {P : Q3} {Q : VK} (rs : RS K M H e σ) (rm : RM K M H) (ev : Ev M0 H0 M H) (h : t e M P)
    (f : ∀ d M1 v H1, P d M1 → Rp K M1 H1 d v → RS K M1 H1 e σ → RM K M1 H1 → Ev M0 H0 M1 H1 → Ev M H M1 H1 → Q v H1) : LE K M0 H0 t σ H Q :=
  ⟨e, M, P, rs, rm, ev, h, fun d M1 v H1 q r m e1 => f d M1 v H1 q r (rs.ev e1) m (ev.trans e1) e1⟩
theorem LT.then {t : TB3} {σ : L2.St} {e : En} {M : MH} {H : Hp} {P : Bool → MH → Prop} {Q : Bool → Hp → Prop} (rs : RS K M H e σ) (rm : RM K M H) (ev : Ev M0 H0 M H) (h : t e M P)
    (f : ∀ d M1 H1, P d M1 → RS K M1 H1 e σ → RM K M1 H1 → Ev M0 H0 M1 H1 → Ev M H M1 H1 → Q d H1) : LT K M0 H0 t σ H Q :=
  ⟨e, M, P, rs, rm, ev, h, fun d M1 H1 q m e1 => f d M1 H1 q (rs.ev e1) m (ev.trans e1) e1⟩
theorem LA.then {t : TL3} {σ : L2.St} {e : En} {M : MH} {H : Hp} {P : List D → MH → Prop} {Q : List V → Hp → Prop} (rs : RS K M H e σ) (rm : RM K M H) (ev : Ev M0 H0 M H) (h : t e M P)
    (f : ∀ d M1 v H1, P d M1 → RpL K M1 H1 d v → RS K M1 H1 e σ → RM K M1 H1 → Ev M0 H0 M1 H1 → Ev M H M1 H1 → Q v H1) : LA K M0 H0 t σ H Q :=
  ⟨e, M, P, rs, rm, ev, h, fun d M1 v H1 q r m e1 => f d M1 v H1 q r (rs.ev e1) m (ev.trans e1) e1⟩

/-! #### names, constants -/
def loc3 (i : Nat) : T3 := fun e M Q => match getE e i with | some d => Q d M | none => False
def con3 (d : D) : T3 := fun _ M Q => Q d M
section
variable {X : Cx}
theorem z_loc {e : Expr} {i : Nat} (h : PE X e (tVar i)) : PE X e (LE K M0 H0 (loc3 i)) := h.imp fun σ H Q ⟨en, M, P, rs, rm, ev, t, c⟩ => by
  unfold loc3 at t
  cases q : getE en i with
  | none => rw [q] at t; exact t.elim
  | some d =>
    rw [q] at t
    obtain ⟨v, h1, h2⟩ := rs.get i d q
    exact ⟨v, h1, c.now rm t h2⟩
theorem z_con {e : Expr} {d : D} {v : V} (h : PE X e (tC v)) (r : ∀ M H, Rp K M H d v) : PE X e (LE K M0 H0 (con3 d)) := h.imp fun σ H Q ⟨en, M, P, rs, rm, ev, t, c⟩ => c.now rm t (r M H)
/-! #### operators -/
def op2 (o : O2) (ta tb : T3) : T3 := fun e M Q => ta e M fun x M1 => tb e M1 fun y M2 => o x y M2 Q
def op1 (o : O1) (ta : T3) : T3 := fun e M Q => ta e M fun x M1 => o x M1 Q
theorem lo2 {o : O2} {ta tb : T3} {σ : L2.St} {H : Hp} {Q : VK} (h : LE K M0 H0 (op2 o ta tb) σ H Q) : tOp (LO2 K o) (LE K M0 H0 ta) (LE K M0 H0 tb) σ H Q := by
  obtain ⟨en, M, P, rs, rm, ev, t, c⟩ := h
  exact LE.then rs rm ev t fun x M1 v1 H1 t1 r1 rs1 rm1 ev1 e1 => LE.then rs1 rm1 ev1 t1 fun y M2 v2 H2 t2 r2 rs2 rm2 ev2 e2 =>
    ⟨x, y, M2, P, Rp.ev e2 _ _ r1, r2, rm2, t2, c.from (e1.trans e2)⟩
theorem lo1 {o : O1} {ta : T3} {σ : L2.St} {H : Hp} {Q : VK} (h : LE K M0 H0 (op1 o ta) σ H Q) : tUn (LO1 K o) (LE K M0 H0 ta) σ H Q := by
  obtain ⟨en, M, P, rs, rm, ev, t, c⟩ := h
  exact LE.then rs rm ev t fun x M1 v1 H1 t1 r1 rs1 rm1 ev1 e1 => ⟨x, M1, P, r1, rm1, t1, c.from e1⟩
variable {a b : Expr} {ta tb : T3} {pos : Pos}
theorem z_op {op : Operator} {o : O2} (ho : OpR X (binaryOp op) (LO2 K o)) (ha : PE X a (LE K M0 H0 ta)) (hb : PE X b (LE K M0 H0 tb)) : PE X (.BinOp a op b pos) (LE K M0 H0 (op2 o ta tb)) :=
  (pe_op ho ha hb).imp fun _ _ _ h => lo2 h
theorem z_un {op : UnaryOp} {o : O1} (ho : UnR X (unaryOp op) (LO1 K o)) (ha : PE X a (LE K M0 H0 ta)) : PE X (.UnaryOp op a pos) (LE K M0 H0 (op1 o ta)) :=
  (pe_un ho ha).imp fun _ _ _ h => lo1 h
theorem z_cmp {op : CmpOp} {o : O2} (ho : OpR X (compareOp op) (LO2 K o)) (ha : PE X a (LE K M0 H0 ta)) (hb : PE X b (LE K M0 H0 tb)) (hm : behindInMarks op b = false) : PE X (.Compare a [op] [b] pos) (LE K M0 H0 (op2 o ta tb)) :=
  (pe_cmpR ho ha hb hm).imp fun _ _ _ h => lo2 h
/-- a value that is a bool, as a test -/
def tst (t : T3) : TB3 := fun e M Q => t e M fun d M1 => match d with | .bl b => Q b M1 | _ => False
theorem lt_of {t : T3} {σ : L2.St} {H : Hp} {Q : Bool → Hp → Prop} (h : LT K M0 H0 (tst t) σ H Q) : LE K M0 H0 t σ H fun x H1 => ∃ k, x = .bl k ∧ Q k H1 := by
  obtain ⟨en, M, P, rs, rm, ev, t, c⟩ := h
  refine LE.then rs rm ev t fun x M1 v1 H1 t1 r1 rs1 rm1 ev1 e1 => ?_
  cases x with
  | bl b => exact ⟨b, r1, c b M1 H1 t1 rm1 e1⟩
  | _ => exact t1.elim
theorem z_tcmp {op : CmpOp} {o : O2} (ho : OpR X (compareOp op) (LO2 K o)) (ha : PE X a (LE K M0 H0 ta)) (hb : PE X b (LE K M0 H0 tb)) (hm : behindInMarks op b = false) : PT X (.Compare a [op] [b] pos) (LT K M0 H0 (tst (op2 o ta tb))) :=
  (pt_cmpR ho ha hb hm).imp fun _ _ _ h => by
    have h := lt_of h
    obtain ⟨en, M, P, rs, rm, ev, t, c⟩ := h
    exact lo2 ⟨en, M, P, rs, rm, ev, t, c⟩
/-! #### a op1 b op2 c -/
def chain3 (o o' : O2) (ta tb tc : T3) : T3 := fun e M Q => ta e M fun x M1 => tb e M1 fun y M2 => o x y M2 fun z M3 => match z with
  | .bl true => tc e M3 fun w M4 => o' y w M4 Q
  | .bl false => Q (.bl false) M3
  | _ => False
theorem lchain {o o' : O2} {ta tb tc : T3} {σ : L2.St} {H : Hp} {Q : VK} (h : LE K M0 H0 (chain3 o o' ta tb tc) σ H Q) : tChain (LO2 K o) (LO2 K o') (LE K M0 H0 ta) (LE K M0 H0 tb) (LE K M0 H0 tc) σ H Q := by
  obtain ⟨en, M, P, rs, rm, ev, t, c⟩ := h
  refine LE.then rs rm ev t fun x M1 v1 H1 t1 r1 rs1 rm1 ev1 e1 => LE.then rs1 rm1 ev1 t1 fun y M2 v2 H2 t2 r2 rs2 rm2 ev2 e2 => ?_
  refine ⟨x, y, M2, _, Rp.ev e2 _ _ r1, r2, rm2, t2, fun z M3 v3 H3 t3 r3 rm3 e3 => ?_⟩
  cases z with
  | bl k =>
    refine ⟨k, r3, ?_⟩
    cases k with
    | true =>
      rw [if_pos rfl]
      exact LE.then (rs2.ev e3) rm3 (ev2.trans e3) t3 fun w M4 v4 H4 t4 r4 rs4 rm4 ev4 e4 => ⟨y, w, M4, P, Rp.ev (e3.trans e4) _ _ r2, r4, rm4, t4, c.from (e1.trans (e2.trans (e3.trans e4)))⟩
    | false =>
      rw [if_neg Bool.false_ne_true]
      exact c (.bl false) M3 _ H3 t3 rfl rm3 (e1.trans (e2.trans e3))
  | _ => exact t3.elim
theorem z_chain {op op' : CmpOp} {o o' : O2} {tc : T3} {c : Expr} (ho : OpR X (compareOp op) (LO2 K o)) (ho' : OpR X (compareOp op') (LO2 K o')) (ha : PE X a (LE K M0 H0 ta)) (hb : PE X b (LE K M0 H0 tb)) (hc : PE X c (LE K M0 H0 tc))
    (hm : lastMarks [op, op'] [b, c] = false) : PE X (.Compare a [op, op'] [b, c] pos) (LE K M0 H0 (chain3 o o' ta tb tc)) := (pe_chain ho ho' ha hb hc hm).imp fun _ _ _ h => lchain h
theorem z_tchain {op op' : CmpOp} {o o' : O2} {tc : T3} {c : Expr} (ho : OpR X (compareOp op) (LO2 K o)) (ho' : OpR X (compareOp op') (LO2 K o')) (ha : PE X a (LE K M0 H0 ta)) (hb : PE X b (LE K M0 H0 tb)) (hc : PE X c (LE K M0 H0 tc))
    (hm : lastMarks [op, op'] [b, c] = false) : PT X (.Compare a [op, op'] [b, c] pos) (LT K M0 H0 (tst (chain3 o o' ta tb tc))) := (pt_chain ho ho' ha hb hc hm).imp fun _ _ _ h => lchain (lt_of h)

/-! #### and, or, not, if as values of any kind come later; here as tests and as bools -/
def and3 (t u : TB3) : TB3 := fun e M Q => t e M fun b M1 => match b with | true => u e M1 Q | false => Q false M1
def or3 (t u : TB3) : TB3 := fun e M Q => t e M fun b M1 => match b with | true => Q true M1 | false => u e M1 Q
def not3 (t : TB3) : TB3 := fun e M Q => t e M fun b M1 => Q (!b) M1
def ite3 (t : TB3) (a b : T3) : T3 := fun e M Q => t e M fun c M1 => match c with | true => a e M1 Q | false => b e M1 Q
def andV3 (t u : T3) : T3 := fun e M Q => t e M fun d M1 => match d with | .bl true => u e M1 Q | .bl false => Q (.bl false) M1 | _ => False
def orV3 (t u : T3) : T3 := fun e M Q => t e M fun d M1 => match d with | .bl true => Q (.bl true) M1 | .bl false => u e M1 Q | _ => False
def notV3 (t : T3) : T3 := fun e M Q => t e M fun d M1 => match d with | .bl b => Q (.bl (!b)) M1 | _ => False
variable {tA tB : TB3} {rest : List Expr}
theorem z_wand (ha : PT X a (LT K M0 H0 tA)) (hb : PW X (.BoolOp .And (b :: rest) pos) (LT K M0 H0 tB)) : PW X (.BoolOp .And (a :: b :: rest) pos) (LT K M0 H0 (and3 tA tB)) :=
  (pw_and ha hb).imp fun σ H Q ⟨en, M, P, rs, rm, ev, t, c⟩ => LT.then rs rm ev t fun d M1 H1 t1 rs1 rm1 ev1 e1 => by
    cases d with
    | true => rw [if_pos rfl]; exact ⟨en, M1, P, rs1, rm1, ev1, t1, c.from e1⟩
    | false => rw [if_neg Bool.false_ne_true]; exact c false M1 H1 t1 rm1 e1
theorem z_wor (ha : PT X a (LT K M0 H0 tA)) (hb : PW X (.BoolOp .Or (b :: rest) pos) (LT K M0 H0 tB)) : PW X (.BoolOp .Or (a :: b :: rest) pos) (LT K M0 H0 (or3 tA tB)) :=
  (pw_or ha hb).imp fun σ H Q ⟨en, M, P, rs, rm, ev, t, c⟩ => LT.then rs rm ev t fun d M1 H1 t1 rs1 rm1 ev1 e1 => by
    cases d with
    | true => rw [if_pos rfl]; exact c true M1 H1 t1 rm1 e1
    | false => rw [if_neg Bool.false_ne_true]; exact ⟨en, M1, P, rs1, rm1, ev1, t1, c.from e1⟩
theorem z_wand1 (ha : PT X a (LT K M0 H0 tA)) : PW X (.BoolOp .And [a] pos) (LT K M0 H0 tA) := pw_and1 ha
theorem z_wor1 (ha : PT X a (LT K M0 H0 tA)) : PW X (.BoolOp .Or [a] pos) (LT K M0 H0 tA) := pw_or1 ha
theorem z_not (ha : PT X a (LT K M0 H0 tA)) : PT X (.UnaryOp .Not a pos) (LT K M0 H0 (not3 tA)) :=
  (pt_not ha).imp fun σ H Q ⟨en, M, P, rs, rm, ev, t, c⟩ => LT.then rs rm ev t fun d M1 H1 t1 rs1 rm1 ev1 e1 => c (!d) M1 H1 t1 rm1 e1
theorem z_ite {c : Expr} (hc : PT X c (LT K M0 H0 tA)) (ha : PE X a (LE K M0 H0 ta)) (hb : PE X b (LE K M0 H0 tb)) : PE X (.IfExp c a b pos) (LE K M0 H0 (ite3 tA ta tb)) :=
  (pe_ifExp hc ha hb).imp fun σ H Q ⟨en, M, P, rs, rm, ev, t, c⟩ => LT.then rs rm ev t fun d M1 H1 t1 rs1 rm1 ev1 e1 => by
    cases d with
    | true => rw [if_pos rfl]; exact ⟨en, M1, P, rs1, rm1, ev1, t1, c.from e1⟩
    | false => rw [if_neg Bool.false_ne_true]; exact ⟨en, M1, P, rs1, rm1, ev1, t1, c.from e1⟩
theorem z_vand (ha : PE X a (LE K M0 H0 ta)) (hb : PE X (.BoolOp .And (b :: rest) pos) (LE K M0 H0 tb)) : PE X (.BoolOp .And (a :: b :: rest) pos) (LE K M0 H0 (andV3 ta tb)) :=
  (pe_and ha hb).imp fun σ H Q ⟨en, M, P, rs, rm, ev, t, c⟩ => LE.then rs rm ev t fun d M1 v1 H1 t1 r1 rs1 rm1 ev1 e1 => by
    cases d with
    | bl k =>
      refine ⟨k, r1, ?_⟩
      cases k with
      | true => rw [if_pos rfl]; exact ⟨en, M1, P, rs1, rm1, ev1, t1, c.from e1⟩
      | false => rw [if_neg Bool.false_ne_true]; exact c (.bl false) M1 _ H1 t1 rfl rm1 e1
    | _ => exact t1.elim
theorem z_vor (ha : PE X a (LE K M0 H0 ta)) (hb : PE X (.BoolOp .Or (b :: rest) pos) (LE K M0 H0 tb)) : PE X (.BoolOp .Or (a :: b :: rest) pos) (LE K M0 H0 (orV3 ta tb)) :=
  (pe_or ha hb).imp fun σ H Q ⟨en, M, P, rs, rm, ev, t, c⟩ => LE.then rs rm ev t fun d M1 v1 H1 t1 r1 rs1 rm1 ev1 e1 => by
    cases d with
    | bl k =>
      refine ⟨k, r1, ?_⟩
      cases k with
      | true => rw [if_pos rfl]; exact c (.bl true) M1 _ H1 t1 rfl rm1 e1
      | false => rw [if_neg Bool.false_ne_true]; exact ⟨en, M1, P, rs1, rm1, ev1, t1, c.from e1⟩
    | _ => exact t1.elim
theorem z_vnot (ha : PE X a (LE K M0 H0 ta)) : PE X (.UnaryOp .Not a pos) (LE K M0 H0 (notV3 ta)) :=
  (pe_not ha).imp fun σ H Q ⟨en, M, P, rs, rm, ev, t, c⟩ => LE.then rs rm ev t fun d M1 v1 H1 t1 r1 rs1 rm1 ev1 e1 => by
    cases d with
    | bl k => exact ⟨k, r1, c (.bl (!k)) M1 _ H1 t1 rfl rm1 e1⟩
    | _ => exact t1.elim
/-! #### argument lists, displays -/
def nil3 : TL3 := fun _ M Q => Q [] M
def cons3 (t : T3) (u : TL3) : TL3 := fun e M Q => t e M fun d M1 => u e M1 fun ds M2 => Q (d :: ds) M2
variable {es : List Expr} {tl : TL3}
theorem z_nil : PA X [] (LA K M0 H0 nil3) := pa_nil.imp fun σ H Q ⟨en, M, P, rs, rm, ev, t, c⟩ => c [] M [] H t rfl rm (Ev.refl _ _)
theorem z_cons (ha : PE X a (LE K M0 H0 ta)) (hr : PA X es (LA K M0 H0 tl)) (hs : starEach (a :: es) X.env = (false, eval a X.env) :: starEach es X.env) : PA X (a :: es) (LA K M0 H0 (cons3 ta tl)) :=
  (pa_cons ha hr hs).imp fun σ H Q ⟨en, M, P, rs, rm, ev, t, c⟩ => LE.then rs rm ev t fun d M1 v1 H1 t1 r1 rs1 rm1 ev1 e1 =>
    LA.then rs1 rm1 ev1 t1 fun ds M2 vs H2 t2 r2 rs2 rm2 ev2 e2 => c (d :: ds) M2 (v1 :: vs) H2 t2 ⟨v1, vs, rfl, Rp.ev e2 _ _ r1, r2⟩ rm2 (e1.trans e2)
def tup3 (t : TL3) : T3 := fun e M Q => t e M fun ds M1 => ds.length ≤ sizeLine ∧ Q (.tup ds) M1
def lst3 (t : TL3) : T3 := fun e M Q => t e M fun ds M1 => ds.length ≤ sizeLine ∧ Q (.lst ds) M1
def lstM3 (t : TL3) : T3 := fun e M Q => t e M fun ds M1 => ds.length ≤ sizeLine ∧ ∀ p, M1 p = none → Q (.ref p) (up M1 p (.lst ds))
theorem Rp.tupNew {M : MH} {H : Hp} {p : Addr} {ds : List D} {vs : List V} (rm : RM K M H) (hp : H p = none) (r : RpL K M H ds vs) : Rp K M (upd H p (.tup vs)) (.tup ds) (.ref p) :=
  ⟨p, vs, rfl, ⟨rm.free hp, upd_same⟩, RpL.ev (Ev.new hp) _ _ r⟩
theorem Rp.lstNew {M : MH} {H : Hp} {p : Addr} {ds : List D} {vs : List V} (rm : RM K M H) (hp : H p = none) (r : RpL K M H ds vs) : Rp K M (upd H p (.lst vs)) (.lst ds) (.ref p) :=
  ⟨p, vs, rfl, rm.free hp, upd_same, RpL.ev (Ev.new hp) _ _ r⟩
theorem RM.lstNew {M : MH} {H : Hp} {p : Addr} {ds : List D} {vs : List V} (rm : RM K M H) (hp : H p = none) (r : RpL K M H ds vs) : RM K (up M p (.lst ds)) (upd H p (.lst vs)) :=
  rm.newM hp ⟨vs, upd_same, RpL.ev (Ev.newM hp) _ _ r⟩
theorem z_tup {k : Nat} (h : PA X es (LA K M0 H0 tl)) : PE X (.Tuple es k pos) (LE K M0 H0 (tup3 tl)) :=
  (pe_tup h).imp fun σ H Q ⟨en, M, P, rs, rm, ev, t, c⟩ => LA.then rs rm ev t fun ds M1 vs H1 ⟨hl, t1⟩ r1 rs1 rm1 ev1 e1 =>
    ⟨by rw [r1.length]; exact hl, fun p hp => c (.tup ds) M1 (.ref p) _ t1 (Rp.tupNew rm1 hp r1) (rm1.new hp) (e1.trans (Ev.new hp))⟩
theorem z_lst (h : PA X es (LA K M0 H0 tl)) : PE X (.List es pos) (LE K M0 H0 (lst3 tl)) :=
  (pe_lst h).imp fun σ H Q ⟨en, M, P, rs, rm, ev, t, c⟩ => LA.then rs rm ev t fun ds M1 vs H1 ⟨hl, t1⟩ r1 rs1 rm1 ev1 e1 =>
    ⟨by rw [r1.length]; exact hl, fun p hp => c (.lst ds) M1 (.ref p) _ t1 (Rp.lstNew rm1 hp r1) (rm1.new hp) (e1.trans (Ev.new hp))⟩
theorem z_lstM (h : PA X es (LA K M0 H0 tl)) : PE X (.List es pos) (LE K M0 H0 (lstM3 tl)) :=
  (pe_lst h).imp fun σ H Q ⟨en, M, P, rs, rm, ev, t, c⟩ => LA.then rs rm ev t fun ds M1 vs H1 ⟨hl, t1⟩ r1 rs1 rm1 ev1 e1 =>
    ⟨by rw [r1.length]; exact hl, fun p hp => c (.ref p) _ (.ref p) _ (t1 p (rm1.free hp)) rfl (rm1.lstNew hp r1) (e1.trans (Ev.newM hp))⟩
end
end
end Z

namespace Z
open PySem PySem.Spec PyProof.Rows L2

/-! ### reading -/
def asT : D → Option (List D)
  | .tp _ ds => some ds
  | _ => none
def asL (M : MH) : D → Option (List D)
  | .lst ds => some ds
  | .flst ds => some ds
  | .ref a => match M a with | some (.lst ds) => some ds | _ => none
  | _ => none
/-- a list that may be anything but the script -/
def exL (M : MH) : D → Option (List D)
  | .lst ds => some ds
  | .ref a => match M a with | some (.lst ds) => some ds | _ => none
  | _ => none
/-- a tracked list by its content -/
def rdL (M : MH) : D → D
  | .ref a => match M a with | some (.lst ds) => .lst ds | _ => .ref a
  | d => d
mutual
def toPy : D → PyData
  | .non => .none
  | .bl b => .bool b
  | .int i => .int i
  | .str x => .str x
  | .tp _ ds => .tuple (toPyL ds)
  | .lst ds => .list (toPyL ds)
  | .flst _ => .dict []
  | .ref _ => .dict []
  | .dK _ _ => .dict []
  | .dT _ _ => .dict []
def toPyL : List D → List PyData
  | [] => []
  | d :: ds => toPy d :: toPyL ds
end
mutual
/-- ==, by data -/
def eqv : D → D → Bool
  | .non, .non => true
  | .bl a, .bl b => a == b
  | .bl a, .int j => (if a then 1 else 0) == j
  | .int i, .bl b => i == (if b then 1 else 0)
  | .int i, .int j => i == j
  | .str x, .str y => x == y
  | .tp _ xs, .tp _ ys => eqvL xs ys
  | .lst xs, .lst ys => eqvL xs ys
  | _, _ => false
def eqvL : List D → List D → Bool
  | [], [] => true
  | x :: xs, y :: ys => eqv x y && eqvL xs ys
  | _, _ => false
end
mutual
theorem eqv_py : ∀ x y : D, eqv x y = PyData.eqv (toPy x) (toPy y)
  | .tp _ xs, y => by cases y <;> simp only [eqv, toPy, PyData.eqv] <;> exact eqvL_py xs _
  | .lst xs, y => by cases y <;> simp only [eqv, toPy, PyData.eqv] <;> exact eqvL_py xs _
  | .non, y => by cases y <;> simp only [eqv, toPy, PyData.eqv]
  | .bl _, y => by cases y <;> simp only [eqv, toPy, PyData.eqv]
  | .int _, y => by cases y <;> simp only [eqv, toPy, PyData.eqv]
  | .str _, y => by cases y <;> simp only [eqv, toPy, PyData.eqv]
  | .ref _, y => by cases y <;> simp only [eqv, toPy, PyData.eqv]
  | .flst _, y => by cases y <;> simp only [eqv, toPy, PyData.eqv]
  | .dK _ _, y => by cases y <;> simp only [eqv, toPy, PyData.eqv]
  | .dT _ _, y => by cases y <;> simp only [eqv, toPy, PyData.eqv]
theorem eqvL_py : ∀ xs ys : List D, eqvL xs ys = PyData.eqvAll (toPyL xs) (toPyL ys)
  | [], [] => by simp only [eqvL, toPyL, PyData.eqvAll]
  | [], _ :: _ => by simp only [eqvL, toPyL, PyData.eqvAll]
  | _ :: _, [] => by simp only [eqvL, toPyL, PyData.eqvAll]
  | x :: xs, y :: ys => by simp only [eqvL, toPyL, PyData.eqvAll, eqv_py x y, eqvL_py xs ys]
end
mutual
/-- plain data of a depth below n whose texts are texts -/
def lay : Nat → D → Bool
  | _, .non => true
  | _, .bl _ => true
  | _, .int _ => true
  | _, .str x => PyData.strOk x
  | n + 1, .tp _ ds => layL n ds
  | n + 1, .lst ds => layL n ds
  | _, _ => false
def layL : Nat → List D → Bool
  | _, [] => true
  | n, d :: ds => lay n d && layL n ds
end
theorem layL_all (n : Nat) : ∀ ds : List D, layL n ds = ds.all (lay n)
  | [] => by simp [layL]
  | d :: ds => by rw [layL, layL_all n ds]; simp
mutual
theorem lay_py : ∀ (n : Nat) (d : D), lay n d = true → (toPy d).canLay0 = true ∧ (toPy d).depth ≤ n
  | _, .non, _ => by simp [toPy, PyData.canLay0, PyData.depth]
  | _, .bl _, _ => by simp [toPy, PyData.canLay0, PyData.depth]
  | _, .int _, _ => by simp [toPy, PyData.canLay0, PyData.depth]
  | n, .str x, h => by
    have h' : PyData.strOk x = true := by cases n <;> simpa [lay] using h
    simp [toPy, PyData.canLay0, PyData.depth, h']
  | n + 1, .tp _ ds, h => by
    obtain ⟨h1, h2⟩ := layL_py n ds (by simpa [lay] using h)
    simp only [toPy, PyData.canLay0, PyData.depth]
    exact ⟨h1, by omega⟩
  | n + 1, .lst ds, h => by
    obtain ⟨h1, h2⟩ := layL_py n ds (by simpa [lay] using h)
    simp only [toPy, PyData.canLay0, PyData.depth]
    exact ⟨h1, by omega⟩
  | 0, .tp _ _, h => by simp [lay] at h
  | 0, .lst _, h => by simp [lay] at h
  | n, .ref _, h => by cases n <;> simp [lay] at h
  | n, .flst _, h => by cases n <;> simp [lay] at h
  | n, .dK _ _, h => by cases n <;> simp [lay] at h
  | n, .dT _ _, h => by cases n <;> simp [lay] at h
theorem layL_py : ∀ (n : Nat) (ds : List D), layL n ds = true → PyData.canLayAll0 (toPyL ds) = true ∧ PyData.depthAll (toPyL ds) ≤ n
  | _, [], _ => by simp [toPyL, PyData.canLayAll0, PyData.depthAll]
  | n, d :: ds, h => by
    rw [layL, Bool.and_eq_true] at h
    obtain ⟨h1, h2⟩ := lay_py n d h.1
    obtain ⟨g1, g2⟩ := layL_py n ds h.2
    simp only [toPyL, PyData.canLayAll0, PyData.depthAll, h1, g1, Bool.and_self, true_and]
    omega
end
mutual
/-- plain data of a depth at most n -/
def pd : Nat → D → Bool
  | _, .non => true
  | _, .bl _ => true
  | _, .int _ => true
  | _, .str _ => true
  | n + 1, .tp _ ds => pdL n ds
  | n + 1, .lst ds => pdL n ds
  | _, _ => false
def pdL : Nat → List D → Bool
  | _, [] => true
  | n, d :: ds => pd n d && pdL n ds
end
mutual
theorem pd_lay : ∀ (n : Nat) (d : D), lay n d = true → pd n d = true
  | n, .non, _ => by cases n <;> rfl
  | n, .bl _, _ => by cases n <;> rfl
  | n, .int _, _ => by cases n <;> rfl
  | n, .str _, _ => by cases n <;> rfl
  | n + 1, .tp _ ds, h => by
    simp only [lay] at h
    simp only [pd]
    exact pdL_lay n ds h
  | n + 1, .lst ds, h => by
    simp only [lay] at h
    simp only [pd]
    exact pdL_lay n ds h
  | 0, .tp _ _, h => by simp [lay] at h
  | 0, .lst _, h => by simp [lay] at h
  | n, .flst _, h => by cases n <;> simp [lay] at h
  | n, .ref _, h => by cases n <;> simp [lay] at h
  | n, .dK _ _, h => by cases n <;> simp [lay] at h
  | n, .dT _ _, h => by cases n <;> simp [lay] at h
theorem pdL_lay : ∀ (n : Nat) (ds : List D), layL n ds = true → pdL n ds = true
  | _, [], _ => rfl
  | n, d :: ds, h => by
    rw [layL, Bool.and_eq_true] at h
    rw [pdL, pd_lay n d h.1, pdL_lay n ds h.2]; rfl
end
mutual
theorem pd_depth : ∀ (n : Nat) (d : D), pd n d = true → (toPy d).depth ≤ n
  | n, .non, _ => by simp [toPy, PyData.depth]
  | n, .bl _, _ => by simp [toPy, PyData.depth]
  | n, .int _, _ => by simp [toPy, PyData.depth]
  | n, .str _, _ => by simp [toPy, PyData.depth]
  | n + 1, .tp _ ds, h => by
    have := pdL_depth n ds (by simpa [pd] using h)
    simp only [toPy, PyData.depth]; omega
  | n + 1, .lst ds, h => by
    have := pdL_depth n ds (by simpa [pd] using h)
    simp only [toPy, PyData.depth]; omega
  | 0, .tp _ _, h => by simp [pd] at h
  | 0, .lst _, h => by simp [pd] at h
  | n, .flst _, h => by cases n <;> simp [pd] at h
  | n, .ref _, h => by cases n <;> simp [pd] at h
  | n, .dK _ _, h => by cases n <;> simp [pd] at h
  | n, .dT _ _, h => by cases n <;> simp [pd] at h
theorem pdL_depth : ∀ (n : Nat) (ds : List D), pdL n ds = true → PyData.depthAll (toPyL ds) ≤ n
  | _, [], _ => by simp [toPyL, PyData.depthAll]
  | n, d :: ds, h => by
    rw [pdL, Bool.and_eq_true] at h
    have h1 := pd_depth n d h.1
    have h2 := pdL_depth n ds h.2
    simp only [toPyL, PyData.depthAll]; omega
end
theorem shaped_of_lay {d : D} (h : lay 60 d = true) : SeqAt.shaped (toPy d) = true := by
  obtain ⟨h1, h2⟩ := lay_py 60 d h
  unfold SeqAt.shaped
  rw [h1, decide_eq_true (by omega)]; rfl
/-! ### order -/
mutual
def ltD : D → D → Bool
  | .bl a, .bl b => decide (b2i a < b2i b)
  | .int i, .int j => decide (i < j)
  | .str x, .str y => decide (x.cps.toList < y.cps.toList)
  | .tp _ xs, .tp _ ys => ltL xs ys
  | .lst xs, .lst ys => ltL xs ys
  | _, _ => false
def ltL : List D → List D → Bool
  | x :: xs, y :: ys => if eqv x y = true then ltL xs ys else ltD x y
  | [], _ :: _ => true
  | _, _ => false
end
mutual
def likeD : D → D → Bool
  | .non, .non => true
  | .bl _, .bl _ => true
  | .int _, .int _ => true
  | .str _, .str _ => true
  | .tp _ xs, .tp _ ys => likeL xs ys
  | .lst xs, .lst ys => likeL xs ys
  | _, _ => false
def likeL : List D → List D → Bool
  | x :: xs, y :: ys => likeD x y && likeL xs ys
  | _, _ => true
end
mutual
theorem like_py : ∀ x y : D, likeD x y = true → PySem.W.alike (toPy x) (toPy y) = true
  | .tp _ xs, y, h => by cases y <;> simp only [likeD, Bool.false_eq_true] at h <;> simp only [toPy, PySem.W.alike] <;> exact likeL_py xs _ h
  | .lst xs, y, h => by cases y <;> simp only [likeD, Bool.false_eq_true] at h <;> simp only [toPy, PySem.W.alike] <;> exact likeL_py xs _ h
  | .non, y, h => by cases y <;> simp only [likeD, Bool.false_eq_true] at h <;> simp only [toPy, PySem.W.alike]
  | .bl _, y, h => by cases y <;> simp only [likeD, Bool.false_eq_true] at h <;> simp only [toPy, PySem.W.alike]
  | .int _, y, h => by cases y <;> simp only [likeD, Bool.false_eq_true] at h <;> simp only [toPy, PySem.W.alike]
  | .str _, y, h => by cases y <;> simp only [likeD, Bool.false_eq_true] at h <;> simp only [toPy, PySem.W.alike]
  | .ref _, y, h => by cases y <;> simp only [likeD, Bool.false_eq_true] at h
  | .flst _, y, h => by cases y <;> simp only [likeD, Bool.false_eq_true] at h
  | .dK _ _, y, h => by cases y <;> simp only [likeD, Bool.false_eq_true] at h
  | .dT _ _, y, h => by cases y <;> simp only [likeD, Bool.false_eq_true] at h
theorem likeL_py : ∀ xs ys : List D, likeL xs ys = true → PySem.W.alikeAll (toPyL xs) (toPyL ys) = true
  | [], ys, _ => by cases ys <;> simp only [toPyL, PySem.W.alikeAll]
  | _ :: _, [], _ => by simp only [toPyL, PySem.W.alikeAll]
  | x :: xs, y :: ys, h => by
    rw [likeL, Bool.and_eq_true] at h
    simp only [toPyL, PySem.W.alikeAll, like_py x y h.1, likeL_py xs ys h.2, Bool.and_self]
end
mutual
theorem lt_py : ∀ x y : D, likeD x y = true → PySem.W.dataLt (toPy x) (toPy y) = ltD x y
  | .tp _ xs, y, h => by cases y <;> simp only [likeD, Bool.false_eq_true] at h <;> simp only [toPy, PySem.W.dataLt_tuple, ltD] <;> exact ltL_py xs _ h
  | .lst xs, y, h => by cases y <;> simp only [likeD, Bool.false_eq_true] at h <;> simp only [toPy, PySem.W.dataLt_list, ltD] <;> exact ltL_py xs _ h
  | .non, y, h => by cases y <;> simp only [likeD, Bool.false_eq_true] at h <;> simp only [toPy, ltD] <;> rfl
  | .bl _, y, h => by cases y <;> simp only [likeD, Bool.false_eq_true] at h <;> simp only [toPy, ltD, PySem.W.dataLt_bool]
  | .int _, y, h => by cases y <;> simp only [likeD, Bool.false_eq_true] at h <;> simp only [toPy, ltD, PySem.W.dataLt_int]
  | .str _, y, h => by cases y <;> simp only [likeD, Bool.false_eq_true] at h <;> simp only [toPy, ltD, PySem.W.dataLt_str]
  | .ref _, y, h => by cases y <;> simp only [likeD, Bool.false_eq_true] at h
  | .flst _, y, h => by cases y <;> simp only [likeD, Bool.false_eq_true] at h
  | .dK _ _, y, h => by cases y <;> simp only [likeD, Bool.false_eq_true] at h
  | .dT _ _, y, h => by cases y <;> simp only [likeD, Bool.false_eq_true] at h
theorem ltL_py : ∀ xs ys : List D, likeL xs ys = true → PyProof.Rows.lexLt itemOrd (PySem.W.keyToksAll (toPyL xs)) (PySem.W.keyToksAll (toPyL ys)) = ltL xs ys
  | [], [], _ => by simp only [toPyL, ltL]; decide +kernel
  | [], y :: ys, _ => by
    simp only [toPyL, ltL]
    rw [PySem.W.toks_all_cons]
    show PyProof.Rows.lexLt itemOrd [Sum.inl 0] (Sum.inl 1 :: _) = true
    rfl
  | _ :: _, [], _ => by
    simp only [toPyL, ltL]
    rw [PySem.W.toks_all_cons]
    rfl
  | x :: xs, y :: ys, h => by
    rw [likeL, Bool.and_eq_true] at h
    have hl := like_py x y h.1
    simp only [toPyL, ltL]
    by_cases e : eqv x y = true
    · rw [if_pos e, PySem.W.dataLt_all_yes hl (by rw [← eqv_py]; exact e)]
      exact ltL_py xs ys h.2
    · rw [if_neg e, PySem.W.dataLt_all_no hl (by rw [← eqv_py]; simpa using e)]
      exact lt_py x y h.1
end
section
variable {K : PySem.W.Frag} {M : MH} {H : Hp}
theorem asT_sq {d : D} {ds : List D} {v : V} (e : asT d = some ds) (r : Rp K M H d v) : ∃ a vs, v = .ref a ∧ SqT K H a vs ∧ RpL K M H ds vs := by
  cases d with
  | tp k es =>
    have e : es = ds := by simpa [asT] using e
    subst e
    obtain ⟨a, vs, h1, h2, h3⟩ := r
    exact ⟨a, vs, h1, h2.sq, h3⟩
  | _ => simp [asT] at e
theorem asL_sq {d : D} {ds : List D} {v : V} (m : RM K M H) (e : asL M d = some ds) (r : Rp K M H d v) : ∃ a vs, v = .ref a ∧ SqL K H a vs ∧ RpL K M H ds vs := by
  cases d with
  | lst es =>
    have e : es = ds := by simpa [asL] using e
    subst e
    obtain ⟨a, vs, h1, h2, h3, h4⟩ := r
    exact ⟨a, vs, h1, .inl (.inl h3), h4⟩
  | flst es =>
    have e : es = ds := by simpa [asL] using e
    subst e
    obtain ⟨a, vs, h1, h2, h3⟩ := r
    exact ⟨a, vs, h1, h2.sq, h3⟩
  | ref a =>
    have r : v = .ref a := r
    dsimp only [asL] at e
    cases q : M a with
    | none => rw [q] at e; cases e
    | some o =>
      rw [q] at e
      cases o with
      | lst es =>
        have e : es = ds := by simpa using e
        subst e
        obtain ⟨vs, h1, h2⟩ := m a _ q
        exact ⟨a, vs, r, .inl (.inl h1), h2⟩
      | _ => cases e
  | _ => simp [asL] at e
theorem exL_sq {d : D} {ds : List D} {v : V} (m : RM K M H) (e : exL M d = some ds) (r : Rp K M H d v) : ∃ a vs, v = .ref a ∧ H a = some (.lst vs) ∧ RpL K M H ds vs := by
  cases d with
  | lst es =>
    have e : es = ds := by simpa [exL] using e
    subst e
    obtain ⟨a, vs, h1, h2, h3, h4⟩ := r
    exact ⟨a, vs, h1, h3, h4⟩
  | ref a =>
    have r : v = .ref a := r
    dsimp only [exL] at e
    cases q : M a with
    | none => rw [q] at e; cases e
    | some o =>
      rw [q] at e
      cases o with
      | lst es =>
        have e : es = ds := by simpa using e
        subst e
        obtain ⟨vs, h1, h2⟩ := m a _ q
        exact ⟨a, vs, r, h1, h2⟩
      | _ => cases e
  | _ => simp [exL] at e
mutual
theorem Rp.dp : ∀ (n : Nat) (d : D) (v : V), Rp K M H d v → pd n d = true → Dp K H v (toPy d)
  | _, .non, v, r, _ => by
    have r : v = .non := r
    subst r; exact .non
  | _, .bl b, v, r, _ => by
    have r : v = .bl b := r
    subst r; exact .bl b
  | _, .int i, v, r, _ => by
    have r : v = .int i := r
    subst r; exact .int i
  | _, .str x, v, r, _ => by
    have r : v = .str x := r
    subst r; exact .str x
  | n + 1, .tp _ ds, v, r, h => by
    obtain ⟨a, vs, h1, h2, h3⟩ := r
    subst h1
    exact .tup h2.sq (RpL.dp n ds vs h3 h)
  | n + 1, .lst ds, v, r, h => by
    obtain ⟨a, vs, h1, h2, h3, h4⟩ := r
    subst h1
    exact .lst (.inl (.inl h3)) (RpL.dp n ds vs h4 h)
  | 0, .tp _ _, v, r, h => by simp [pd] at h
  | 0, .lst _, v, r, h => by simp [pd] at h
  | n, .flst _, v, r, h => by cases n <;> simp [pd] at h
  | n, .ref _, v, r, h => by cases n <;> simp [pd] at h
  | n, .dK _ _, v, r, h => by cases n <;> simp [pd] at h
  | n, .dT _ _, v, r, h => by cases n <;> simp [pd] at h
theorem RpL.dp : ∀ (n : Nat) (ds : List D) (vs : List V), RpL K M H ds vs → pdL n ds = true → DpAll K H vs (toPyL ds)
  | _, [], vs, r, _ => by
    have r : vs = [] := r
    subst r; exact .nil
  | n, d :: ds, vs, r, h => by
    obtain ⟨v, w, h1, h2, h3⟩ := r
    subst h1
    rw [pdL, Bool.and_eq_true] at h
    exact .cons (Rp.dp n d v h2 h.1) (RpL.dp n ds w h3 h.2)
end
theorem rdL_rp {d : D} {v : V} (m : RM K M H) (r : Rp K M H d v) : (∃ ds, asL M d = some ds ∧ rdL M d = .lst ds) ∨ rdL M d = d := by
  cases d with
  | ref a =>
    dsimp only [rdL, asL]
    cases q : M a with
    | none => exact .inr rfl
    | some o =>
      cases o with
      | lst es => exact .inl ⟨es, rfl, rfl⟩
      | _ => exact .inr rfl
  | _ => exact .inr rfl
theorem rdL_dp {n : Nat} {d : D} {v : V} (m : RM K M H) (r : Rp K M H d v) (h : pd n (rdL M d) = true) : Dp K H v (toPy (rdL M d)) := by
  rcases rdL_rp m r with ⟨ds, e1, e2⟩ | e
  · obtain ⟨a, vs, h1, h2, h3⟩ := asL_sq m e1 r
    rw [e2] at h ⊢
    subst h1
    cases n with
    | zero => simp [pd] at h
    | succ n => exact .lst h2 (RpL.dp n ds vs h3 h)
  · rw [e] at h ⊢
    exact Rp.dp n d v r h
end
end Z

namespace Z
open PySem PySem.Spec PyProof.Rows L2

/-! ### arithmetic -/
def add3 : O2 := fun x y M Q => match x, y with
  | .int i, .int j => Q (.int (i + j)) M
  | .str a, .str b => a.length + b.length ≤ sizeLine ∧ Q (.str (a ++ b)) M
  | .tup a, .tup b => a.length + b.length ≤ sizeLine ∧ Q (.tup (a ++ b)) M
  | x, y => match exL M x, exL M y with
    | some a, some b => a.length + b.length ≤ sizeLine ∧ Q (.lst (a ++ b)) M
    | _, _ => False
def sub3 : O2 := fun x y M Q => match x, y with
  | .int i, .int j => Q (.int (i - j)) M
  | _, _ => False
def WideOk (i j : Int) : Prop := IntMulOk i j
def mul3 : O2 := fun x y M Q => match x, y with
  | .int i, .int j => WideOk i j ∧ Q (.int (i * j)) M
  | .tup a, .int k => a ≠ [] ∧ 2 ≤ k ∧ k ≤ 1000 ∧ a.length ≤ 1000 ∧ Q (.tup (List.replicate k.toNat a).flatten) M
  | x, .int k => match exL M x with
    | some a => -(2 ^ 63) ≤ k ∧ k < 2 ^ 63 ∧ a.length * k.toNat ≤ sizeLine ∧ Q (.lst (List.replicate k.toNat a).flatten) M
    | none => False
  | _, _ => False
def fdv3 : O2 := fun x y M Q => match x, y with
  | .int i, .int j => (j ≠ 0 ∧ j.natAbs < 1073741824) ∧ Q (.int (i.fdiv j)) M
  | _, _ => False
def mod3 : O2 := fun x y M Q => match x, y with
  | .int i, .int j => j ≠ 0 ∧ Q (.int (i.fmod j)) M
  | _, _ => False
def pow3 : O2 := fun x y M Q => match x, y with
  | .int i, .int j => (0 ≤ j ∧ j ≤ 1000000 ∧ i.natAbs < 2 ^ 64) ∧ Q (.int (i ^ j.toNat)) M
  | _, _ => False
def neg3 : O1 := fun x M Q => match x with
  | .int i => Q (.int (-i)) M
  | _ => False
theorem rp_int {K : PySem.W.Frag} {M : MH} {H : Hp} {i : Int} {v : V} (h : Rp K M H (.int i) v) : v = .int i := h
theorem rp_str {K : PySem.W.Frag} {M : MH} {H : Hp} {x : Str} {v : V} (h : Rp K M H (.str x) v) : v = .str x := h
theorem rp_bl {K : PySem.W.Frag} {M : MH} {H : Hp} {b : Bool} {v : V} (h : Rp K M H (.bl b) v) : v = .bl b := h
section
variable {X : Cx}
theorem zo_sub : OpR X (binaryOp .Sub) (LO2 X.K sub3) := oimp op_sub fun x y H Q ⟨d1, d2, M, Q3, r1, r2, rm, o, c⟩ => by
  unfold sub3 at o
  split at o
  · exact ⟨_, _, r1, r2, c.now rm o rfl⟩
  · exact o.elim
theorem zo_fdv : OpR X (binaryOp .FloorDiv) (LO2 X.K fdv3) := oimp op_fdivN fun x y H Q ⟨d1, d2, M, Q3, r1, r2, rm, o, c⟩ => by
  unfold fdv3 at o
  split at o
  · exact ⟨_, _, r1, r2, o.1, c.now rm o.2 rfl⟩
  · exact o.elim
theorem zo_mod : OpR X (binaryOp .Mod) (LO2 X.K mod3) := oimp op_modN fun x y H Q ⟨d1, d2, M, Q3, r1, r2, rm, o, c⟩ => by
  unfold mod3 at o
  split at o
  · exact ⟨_, _, r1, r2, o.1, c.now rm o.2 rfl⟩
  · exact o.elim
theorem zo_pow : OpR X (binaryOp .Pow) (LO2 X.K pow3) := oimp op_pow fun x y H Q ⟨d1, d2, M, Q3, r1, r2, rm, o, c⟩ => by
  unfold pow3 at o
  split at o
  · exact ⟨_, _, r1, r2, o.1, c.now rm o.2 rfl⟩
  · exact o.elim
theorem zo_neg : UnR X (unaryOp .USub) (LO1 X.K neg3) := uimp un_neg fun x H Q ⟨d1, M, Q3, r1, rm, o, c⟩ => by
  unfold neg3 at o
  split at o
  · exact ⟨_, r1, c.now rm o rfl⟩
  · exact o.elim
theorem op_mulOk : OpR X (binaryOp .Mult) (rI IntMulOk fun i j => .int (i * j)) := opI fun _ _ _ _ _ _ _ hc q => mul_int q hc
theorem or2 {f : Value → Value → Sem Value} {r r' : R2} (h : OpR X f r) (h' : OpR X f r') : OpR X f (fun x y H Q => r x y H Q ∨ r' x y H Q) := OpR.or h h'
theorem zo_add : OpR X (binaryOp .Add) (LO2 X.K add3) := oimp (or2 op_add (or2 op_add_str (or2 op_catA op_cat))) fun x y H Q ⟨d1, d2, M, Q3, r1, r2, rm, o, c⟩ => by
  unfold add3 at o
  split at o
  · exact .inl ⟨_, _, r1, r2, c.now rm o rfl⟩
  · exact .inr (.inl ⟨_, _, r1, r2, o.1, c.now rm o.2 rfl⟩)
  · rename_i a b
    obtain ⟨p, vs, h1, ⟨h2, h3⟩, h4⟩ := r1
    obtain ⟨q, ws, g1, ⟨g2, g3⟩, g4⟩ := r2
    obtain ⟨o1, o2⟩ := o
    refine .inr (.inr (.inl ⟨p, q, vs, ws, h1, g1, .inl (.inl h3), .inl (.inl g3), by rw [h4.length, g4.length]; exact o1, fun e => ?_, fun _ e => ?_, fun _ _ l hl => ?_⟩))
    · have ea : a = [] := by
        have := h4.length
        rw [e] at this
        exact List.eq_nil_of_length_eq_zero this.symm
      subst ea
      exact c.now rm o2 ⟨q, ws, rfl, ⟨g2, g3⟩, g4⟩
    · have eb : b = [] := by
        have := g4.length
        rw [e] at this
        exact List.eq_nil_of_length_eq_zero this.symm
      subst eb
      rw [List.append_nil] at o2
      exact c.now rm o2 ⟨p, vs, rfl, ⟨h2, h3⟩, h4⟩
    · exact c _ M _ _ o2 (Rp.tupNew rm hl (h4.append g4)) (rm.new hl) (Ev.new hl)
  · split at o
    · rename_i a b e1 e2
      obtain ⟨p, vs, h1, h3, h4⟩ := exL_sq rm e1 r1
      obtain ⟨q, ws, g1, g3, g4⟩ := exL_sq rm e2 r2
      exact .inr (.inr (.inr ⟨p, q, vs, ws, h1, g1, h3, g3, by rw [h4.length, g4.length]; exact o.1, fun l hl => c _ M _ _ o.2 (Rp.lstNew rm hl (h4.append g4)) (rm.new hl) (Ev.new hl)⟩))
    · exact o.elim
theorem RpL.rep {K : PySem.W.Frag} {M : MH} {H : Hp} {ds : List D} {vs : List V} (h : RpL K M H ds vs) : ∀ n : Nat, RpL K M H (List.replicate n ds).flatten (List.replicate n vs).flatten
  | 0 => rfl
  | n + 1 => by
    rw [List.replicate_succ, List.replicate_succ, List.flatten_cons, List.flatten_cons]
    exact h.append (RpL.rep h n)
theorem zo_mul : OpR X (binaryOp .Mult) (LO2 X.K mul3) := oimp (or2 op_mulOk (or2 op_repT op_rep)) fun x y H Q ⟨d1, d2, M, Q3, r1, r2, rm, o, c⟩ => by
  unfold mul3 at o
  split at o
  · exact .inl ⟨_, _, r1, r2, o.1, c.now rm o.2 rfl⟩
  · rename_i a k
    obtain ⟨p, vs, h1, ⟨h2, h3⟩, h4⟩ := r1
    obtain ⟨o1, o2, o3, o4, o5⟩ := o
    refine .inr (.inl ⟨p, k, vs, h1, r2, .inl (.inl h3), fun e => o1 ?_, o2, o3, by rw [h4.length]; exact o4, fun l hl => c _ M _ _ o5 (Rp.tupNew rm hl (h4.rep _)) (rm.new hl) (Ev.new hl)⟩)
    have := h4.length
    rw [e] at this
    exact List.eq_nil_of_length_eq_zero this.symm
  · split at o
    · rename_i e1
      obtain ⟨p, vs, h1, h3, h4⟩ := exL_sq rm e1 r1
      exact .inr (.inr ⟨p, _, vs, h1, r2, h3, o.1, o.2.1, by rw [h4.length]; exact o.2.2.1, fun l hl => c _ M _ _ o.2.2.2 (Rp.lstNew rm hl (h4.rep _)) (rm.new hl) (Ev.new hl)⟩)
    · exact o.elim
  · exact o.elim
end

/-! ### == and != -/
/-- scalars that are compared at sight -/
def sc2 : D → D → Bool
  | .non, .non => true | .non, .int _ => true | .int _, .non => true | .non, .bl _ => true | .bl _, .non => true | .non, .str _ => true | .str _, .non => true
  | .int _, .int _ => true | .bl _, .bl _ => true | .str _, .str _ => true
  | .int _, .str _ => true | .str _, .int _ => true | .bl _, .str _ => true | .str _, .bl _ => true
  | _, _ => false
def eqOk (M : MH) (x y : D) : Bool := sc2 x y || (lay 60 (rdL M x) && lay 60 (rdL M y))
def eq3 : O2 := fun x y M Q => eqOk M x y = true ∧ Q (.bl (eqv (rdL M x) (rdL M y))) M
def ne3 : O2 := fun x y M Q => eqOk M x y = true ∧ Q (.bl (!eqv (rdL M x) (rdL M y))) M
section
variable {X : Cx}
theorem sc2_scal {K : PySem.W.Frag} {M : MH} {H : Hp} {x y : D} {v w : V} (h : sc2 x y = true) (rx : Rp K M H x v) (ry : Rp K M H y w) : scal v w = true ∧ decide (v = w) = eqv (rdL M x) (rdL M y) := by
  cases x <;> cases y <;> first
    | (exact absurd h Bool.false_ne_true)
    | (have rx := show v = _ from rx
       have ry := show w = _ from ry
       subst rx; subst ry
       refine ⟨rfl, ?_⟩
       simp only [eqv, rdL]
       first | exact dec_int | exact dec_bl | exact dec_str | simp)
theorem zo_eq (hu : X.A.units + 64 < cLine) : OpR X (compareOp .Eq) (LO2 X.K eq3) := oimp (or2 op_eq (op_eqD hu)) fun x y H Q ⟨d1, d2, M, Q3, r1, r2, rm, o, c⟩ => by
  obtain ⟨h, o⟩ := o
  unfold eqOk at h
  rw [Bool.or_eq_true] at h
  rcases h with h | h
  · obtain ⟨h1, h2⟩ := sc2_scal h r1 r2
    exact .inl ⟨h1, c.now rm o (by rw [h2]; rfl)⟩
  · rw [Bool.and_eq_true] at h
    refine .inr ⟨_, _, rdL_dp rm r1 (pd_lay _ _ h.1), rdL_dp rm r2 (pd_lay _ _ h.2), shaped_of_lay h.1, shaped_of_lay h.2, c.now rm o ?_⟩
    rw [eqv_py]; rfl
theorem zo_ne (hu : X.A.units + 64 < cLine) : OpR X (compareOp .NotEq) (LO2 X.K ne3) := oimp (or2 op_ne (op_neD hu)) fun x y H Q ⟨d1, d2, M, Q3, r1, r2, rm, o, c⟩ => by
  obtain ⟨h, o⟩ := o
  unfold eqOk at h
  rw [Bool.or_eq_true] at h
  rcases h with h | h
  · obtain ⟨h1, h2⟩ := sc2_scal h r1 r2
    exact .inl ⟨h1, c.now rm o (by rw [h2]; rfl)⟩
  · rw [Bool.and_eq_true] at h
    refine .inr ⟨_, _, rdL_dp rm r1 (pd_lay _ _ h.1), rdL_dp rm r2 (pd_lay _ _ h.2), shaped_of_lay h.1, shaped_of_lay h.2, c.now rm o ?_⟩
    rw [eqv_py]; rfl
end
/-! ### < <= > >= -/
def notNon : D → Bool
  | .non => false
  | _ => true
def ltOk (M : MH) (x y : D) : Bool := likeD (rdL M x) (rdL M y) && notNon (rdL M x) && pd 60 (rdL M x) && pd 60 (rdL M y)
def lt3 : O2 := fun x y M Q => match x, y with
  | .int i, .int j => Q (.bl (decide (i < j))) M
  | x, y => ltOk M x y = true ∧ Q (.bl (ltD (rdL M x) (rdL M y))) M
def le3 : O2 := fun x y M Q => match x, y with
  | .int i, .int j => Q (.bl (decide (i ≤ j))) M
  | x, y => ltOk M x y = true ∧ Q (.bl (!ltD (rdL M y) (rdL M x))) M
def gt3 : O2 := fun x y M Q => match x, y with
  | .int i, .int j => Q (.bl (decide (j < i))) M
  | x, y => ltOk M x y = true ∧ Q (.bl (ltD (rdL M y) (rdL M x))) M
def ge3 : O2 := fun x y M Q => match x, y with
  | .int i, .int j => Q (.bl (decide (j ≤ i))) M
  | x, y => ltOk M x y = true ∧ Q (.bl (!ltD (rdL M x) (rdL M y))) M
section
variable {X : Cx}
/-- an order's operator on data -/
theorem op_ord {op : CmpOp} {g : PyData → PyData → Bool}
    (rule : ∀ (s : Shared) (da db : PyData) (a b : Value) (as bs : List Addr) (Q : Value → Shared → Prop), Reads s.heap a da as → Reads s.heap b db bs → PySem.W.alike da db = true → da ≠ .none → X.A.units + min da.depth db.depth < cLine → Q (.bool (g da db)) s → wpAny (model X.prog X.w) X.A (compareOp op a b) Q X.xe s) :
    OpR X (compareOp op) (fun x y H Q => ∃ da db, Dp X.K H x da ∧ Dp X.K H y db ∧ PySem.W.alike da db = true ∧ da ≠ .none ∧ X.A.units + min da.depth db.depth < cLine ∧ Q (.bl (g da db)) H) := by
  intro pins s σ H x y v u Q I rx ry ⟨da, db, h1, h2, h3, h4, h5, q⟩
  obtain ⟨as, g1⟩ := Dp.reads I da x v h1 rx
  obtain ⟨bs, g2⟩ := Dp.reads I db y u h2 ry
  exact rule s da db v u as bs _ g1 g2 h3 h4 h5 ⟨.bl _, H, I, rfl, q⟩
theorem ltOk_parts {M : MH} {H : Hp} {x y : D} {v w : V} (hu : X.A.units + 64 < cLine) (rm : RM X.K M H) (h : ltOk M x y = true) (rx : Rp X.K M H x v) (ry : Rp X.K M H y w) :
    Dp X.K H v (toPy (rdL M x)) ∧ Dp X.K H w (toPy (rdL M y)) ∧ PySem.W.alike (toPy (rdL M x)) (toPy (rdL M y)) = true ∧ toPy (rdL M x) ≠ .none ∧ X.A.units + min (toPy (rdL M x)).depth (toPy (rdL M y)).depth < cLine ∧ likeD (rdL M x) (rdL M y) = true := by
  unfold ltOk at h
  simp only [Bool.and_eq_true] at h
  obtain ⟨⟨⟨h1, h2⟩, h3⟩, h4⟩ := h
  refine ⟨rdL_dp rm rx h3, rdL_dp rm ry h4, like_py _ _ h1, fun e => ?_, ?_, h1⟩
  · revert h2 e
    cases rdL M x <;> simp [notNon, toPy]
  · have := pd_depth _ _ h3
    omega
mutual
theorem like_comm : ∀ x y : D, likeD x y = likeD y x
  | .tp _ xs, y => by cases y <;> simp only [likeD] <;> exact likeL_comm xs _
  | .lst xs, y => by cases y <;> simp only [likeD] <;> exact likeL_comm xs _
  | .non, y => by cases y <;> simp only [likeD]
  | .bl _, y => by cases y <;> simp only [likeD]
  | .int _, y => by cases y <;> simp only [likeD]
  | .str _, y => by cases y <;> simp only [likeD]
  | .ref _, y => by cases y <;> simp only [likeD]
  | .flst _, y => by cases y <;> simp only [likeD]
  | .dK _ _, y => by cases y <;> simp only [likeD]
  | .dT _ _, y => by cases y <;> simp only [likeD]
theorem likeL_comm : ∀ xs ys : List D, likeL xs ys = likeL ys xs
  | [], [] => rfl
  | [], _ :: _ => by simp only [likeL]
  | _ :: _, [] => by simp only [likeL]
  | x :: xs, y :: ys => by simp only [likeL, like_comm x y, likeL_comm xs ys]
end
theorem zo_lt (hu : X.A.units + 64 < cLine) : OpR X (compareOp .Lt) (LO2 X.K lt3) := oimp (or2 op_lt (op_ord fun s da db a b as bs Q => PySem.W.lt_data)) fun x y H Q ⟨d1, d2, M, Q3, r1, r2, rm, o, c⟩ => by
  unfold lt3 at o
  split at o
  · exact .inl ⟨_, _, r1, r2, c.now rm o rfl⟩
  · obtain ⟨h1, h2, h3, h4, h5, h6⟩ := ltOk_parts hu rm o.1 r1 r2
    exact .inr ⟨_, _, h1, h2, h3, h4, h5, c.now rm o.2 (by rw [lt_py _ _ h6]; rfl)⟩
theorem zo_le (hu : X.A.units + 64 < cLine) : OpR X (compareOp .LtE) (LO2 X.K le3) := oimp (or2 op_le (op_ord fun s da db a b as bs Q => PySem.W.le_data)) fun x y H Q ⟨d1, d2, M, Q3, r1, r2, rm, o, c⟩ => by
  unfold le3 at o
  split at o
  · exact .inl ⟨_, _, r1, r2, c.now rm o rfl⟩
  · obtain ⟨h1, h2, h3, h4, h5, h6⟩ := ltOk_parts hu rm o.1 r1 r2
    exact .inr ⟨_, _, h1, h2, h3, h4, h5, c.now rm o.2 (by rw [lt_py _ _ (by rw [like_comm]; exact h6)]; rfl)⟩
theorem zo_gt (hu : X.A.units + 64 < cLine) : OpR X (compareOp .Gt) (LO2 X.K gt3) := oimp (or2 op_gt (op_ord (g := fun a b => PySem.W.dataLt b a) fun s da db a b as bs Q => PySem.W.gt_data)) fun x y H Q ⟨d1, d2, M, Q3, r1, r2, rm, o, c⟩ => by
  unfold gt3 at o
  split at o
  · exact .inl ⟨_, _, r1, r2, c.now rm o rfl⟩
  · obtain ⟨h1, h2, h3, h4, h5, h6⟩ := ltOk_parts hu rm o.1 r1 r2
    exact .inr ⟨_, _, h1, h2, h3, h4, h5, c.now rm o.2 (by rw [lt_py _ _ (by rw [like_comm]; exact h6)]; rfl)⟩
theorem zo_ge (hu : X.A.units + 64 < cLine) : OpR X (compareOp .GtE) (LO2 X.K ge3) := oimp (or2 op_ge (op_ord (g := fun a b => !PySem.W.dataLt a b) fun s da db a b as bs Q => PySem.W.ge_data)) fun x y H Q ⟨d1, d2, M, Q3, r1, r2, rm, o, c⟩ => by
  unfold ge3 at o
  split at o
  · exact .inl ⟨_, _, r1, r2, c.now rm o rfl⟩
  · obtain ⟨h1, h2, h3, h4, h5, h6⟩ := ltOk_parts hu rm o.1 r1 r2
    exact .inr ⟨_, _, h1, h2, h3, h4, h5, c.now rm o.2 (by rw [lt_py _ _ h6]; rfl)⟩
end
/-! ### is None -/
def isNon : D → Bool
  | .non => true
  | _ => false
def isN3 : O2 := fun x y M Q => match y with | .non => Q (.bl (isNon x)) M | _ => False
def notN3 : O2 := fun x y M Q => match y with | .non => Q (.bl (!isNon x)) M | _ => False
theorem isNon_v {K : PySem.W.Frag} {M : MH} {H : Hp} {d : D} {v : V} (r : Rp K M H d v) : decide (v = .non) = isNon d := by
  cases d with
  | non =>
    have r := show v = _ from r
    subst r; rfl
  | bl _ =>
    have r := show v = _ from r
    subst r; rfl
  | int _ =>
    have r := show v = _ from r
    subst r; rfl
  | str _ =>
    have r := show v = _ from r
    subst r; rfl
  | ref _ =>
    have r := show v = _ from r
    subst r; rfl
  | tp _ _ => obtain ⟨a, vs, h, _⟩ := r; subst h; rfl
  | lst _ => obtain ⟨a, vs, h, _⟩ := r; subst h; rfl
  | flst _ => obtain ⟨a, vs, h, _⟩ := r; subst h; rfl
  | dK _ _ => obtain ⟨a, vs, h, _⟩ := r; subst h; rfl
  | dT _ _ => obtain ⟨a, vs, h, _⟩ := r; subst h; rfl
section
variable {X : Cx}
theorem zo_isN : OpR X (compareOp .Is) (LO2 X.K isN3) := oimp op_isN fun x y H Q ⟨d1, d2, M, Q3, r1, r2, rm, o, c⟩ => by
  unfold isN3 at o
  split at o
  · exact ⟨r2, c.now rm o (by rw [isNon_v r1]; rfl)⟩
  · exact o.elim
theorem zo_notN : OpR X (compareOp .IsNot) (LO2 X.K notN3) := oimp op_notN fun x y H Q ⟨d1, d2, M, Q3, r1, r2, rm, o, c⟩ => by
  unfold notN3 at o
  split at o
  · exact ⟨r2, c.now rm o (by rw [isNon_v r1]; rfl)⟩
  · exact o.elim
end
/-! ### dicts, by look-up -/
def asK (M : MH) : D → Option (List (Key × D))
  | .dK ks ds => some (ks.zip ds)
  | .ref a => match M a with | some (.dK kvs) => some kvs | _ => none
  | _ => none
def asD (M : MH) : D → Option (List (List Key × D))
  | .dT ks ds => some (ks.zip ds)
  | .ref a => match M a with | some (.dT kvs) => some kvs | _ => none
  | _ => none
def keyK : D → Option Key
  | .int i => some (.inl i)
  | .str x => some (.inr x)
  | _ => none
def keysK : List D → Option (List Key)
  | [] => some []
  | d :: ds => match keyK d, keysK ds with | some k, some ks => some (k :: ks) | _, _ => none
def keyT : D → Option (List Key)
  | .tup ds => keysK ds
  | _ => none
section
variable {κ : Type} [DecidableEq κ]
def valD (kvs : List (κ × D)) (k : κ) : Option D := (kvs.find? fun kv => decide (kv.1 = k)).map (·.2)
def putD (kvs : List (κ × D)) (k : κ) (v : D) : List (κ × D) :=
  if (kvs.any fun kv => decide (kv.1 = k)) = true then kvs.map (fun kv => if kv.1 = k then (kv.1, v) else kv) else kvs ++ [(k, v)]
theorem valD_nil {k : κ} : valD ([] : List (κ × D)) k = none := rfl
theorem valD_pos {p : κ × D} {r : List (κ × D)} {k : κ} (e : p.1 = k) : valD (p :: r) k = some p.2 := by simp [valD, List.find?_cons, e]
theorem valD_neg {p : κ × D} {r : List (κ × D)} {k : κ} (e : ¬ p.1 = k) : valD (p :: r) k = valD r k := by simp [valD, List.find?_cons, e]
end
section
variable {K : PySem.W.Frag} {M : MH} {H : Hp} {κ : Type} [DecidableEq κ]
/-- a dict's pairs over its values -/
theorem val_rp {k : κ} : ∀ {kvs : List (κ × D)} {vs : List V}, RpL K M H (kvs.map (·.2)) vs → (valD kvs k = none ∧ valV ((kvs.map (·.1)).zip vs) k = none) ∨ ∃ d v, valD kvs k = some d ∧ valV ((kvs.map (·.1)).zip vs) k = some v ∧ Rp K M H d v
  | [], vs, h => .inl ⟨rfl, by simp [valV_nil]⟩
  | p :: r, vs, h => by
    obtain ⟨v, w, h1, h2, h3⟩ := h
    subst h1
    rw [List.map_cons, List.zip_cons_cons]
    by_cases e : p.1 = k
    · exact .inr ⟨p.2, v, valD_pos e, valV_pos (p := (p.1, v)) e, h2⟩
    · rw [valD_neg e, valV_neg (p := (p.1, v)) e]
      exact val_rp h3
theorem put_rp {k : κ} {d : D} {v : V} (hd : Rp K M H d v) {kvs : List (κ × D)} {vs : List V} (h : RpL K M H (kvs.map (·.2)) vs) :
    ∃ ws, putK ((kvs.map (·.1)).zip vs) k v = ((putD kvs k d).map (·.1)).zip ws ∧ RpL K M H ((putD kvs k d).map (·.2)) ws := by
  have any : ∀ {kvs : List (κ × D)} {vs : List V}, RpL K M H (kvs.map (·.2)) vs → (((kvs.map (·.1)).zip vs).any fun kv => decide (kv.1 = k)) = kvs.any fun kv => decide (kv.1 = k) := by
    intro kvs
    induction kvs with
    | nil => intro vs h; simp
    | cons p r ih =>
      intro vs h
      obtain ⟨u, w, h1, h2, h3⟩ := h
      subst h1
      rw [List.map_cons, List.zip_cons_cons, List.any_cons, List.any_cons, ih h3]
  have mp : ∀ {kvs : List (κ × D)} {vs : List V}, RpL K M H (kvs.map (·.2)) vs → ∃ ws, (((kvs.map (·.1)).zip vs).map fun kv => if kv.1 = k then (kv.1, v) else kv) = ((kvs.map fun kv => if kv.1 = k then (kv.1, d) else kv).map (·.1)).zip ws ∧ RpL K M H ((kvs.map fun kv => if kv.1 = k then (kv.1, d) else kv).map (·.2)) ws := by
    intro kvs
    induction kvs with
    | nil =>
      intro vs h
      have h : vs = [] := h
      subst h
      exact ⟨[], rfl, rfl⟩
    | cons p r ih =>
      intro vs h
      obtain ⟨u, w, h1, h2, h3⟩ := h
      subst h1
      obtain ⟨ws, e1, e2⟩ := ih h3
      by_cases e : p.1 = k
      · refine ⟨v :: ws, ?_, ?_⟩
        · simp only [List.map_cons, List.zip_cons_cons, if_pos e, e1]
        · simp only [List.map_cons, if_pos e]
          exact ⟨v, ws, rfl, hd, e2⟩
      · refine ⟨u :: ws, ?_, ?_⟩
        · simp only [List.map_cons, List.zip_cons_cons, if_neg e, e1]
        · simp only [List.map_cons, if_neg e]
          exact ⟨u, ws, rfl, h2, e2⟩
  unfold putK putD
  rw [any h]
  by_cases a : (kvs.any fun kv => decide (kv.1 = k)) = true
  · rw [if_pos a, if_pos a]
    exact mp h
  · rw [if_neg a, if_neg a]
    refine ⟨vs ++ [v], ?_, ?_⟩
    · rw [List.map_append, List.map_cons, List.map_nil, List.zip_append (by rw [h.length]; simp)]
      rfl
    · rw [List.map_append]
      exact h.append (RpL.one hd)
theorem keyK_v {d : D} {k : Key} {v : V} (e : keyK d = some k) (r : Rp K M H d v) : v = kV k := by
  cases d with
  | int i =>
    have e : Sum.inl i = k := by simpa [keyK] using e
    subst e
    exact r
  | str x =>
    have e : Sum.inr x = k := by simpa [keyK] using e
    subst e
    exact r
  | _ => simp [keyK] at e
theorem keysK_v : ∀ {ds : List D} {ks : List Key} {vs : List V}, keysK ds = some ks → RpL K M H ds vs → vs = ks.map kV
  | [], ks, vs, e, r => by
    have e : [] = ks := by simpa [keysK] using e
    subst e
    exact r
  | d :: ds, ks, vs, e, r => by
    obtain ⟨v, w, h1, h2, h3⟩ := r
    subst h1
    unfold keysK at e
    split at e
    · rename_i k ks' e1 e2
      have e : k :: ks' = ks := by simpa using e
      subst e
      rw [keyK_v e1 h2, keysK_v e2 h3]; rfl
    · cases e
theorem asK_h {d : D} {kvs : List (Key × D)} {v : V} (m : RM K M H) (e : asK M d = some kvs) (r : Rp K M H d v) : ∃ a vs, v = .ref a ∧ H a = some (.dK ((kvs.map (·.1)).zip vs)) ∧ RpL K M H (kvs.map (·.2)) vs := by
  cases d with
  | dK ks ds =>
    have e : ks.zip ds = kvs := by simpa [asK] using e
    subst e
    obtain ⟨a, vs, h1, h2, h3, h4, h5⟩ := r
    refine ⟨a, vs, h1, ?_, ?_⟩
    · rw [List.map_fst_zip (Nat.le_of_eq h4)]; exact h3
    · rw [List.map_snd_zip (Nat.le_of_eq h4.symm)]; exact h5
  | ref a =>
    dsimp only [asK] at e
    cases q : M a with
    | none => rw [q] at e; cases e
    | some o =>
      rw [q] at e
      cases o with
      | dK kvs' =>
        have e : kvs' = kvs := by simpa using e
        subst e
        obtain ⟨vs, h1, h2⟩ := m a _ q
        exact ⟨a, vs, r, h1, h2⟩
      | _ => cases e
  | _ => simp [asK] at e
theorem asD_h {d : D} {kvs : List (List Key × D)} {v : V} (m : RM K M H) (e : asD M d = some kvs) (r : Rp K M H d v) : ∃ a vs, v = .ref a ∧ H a = some (.dT ((kvs.map (·.1)).zip vs)) ∧ RpL K M H (kvs.map (·.2)) vs := by
  cases d with
  | dT ks ds =>
    have e : ks.zip ds = kvs := by simpa [asD] using e
    subst e
    obtain ⟨a, vs, h1, h2, h3, h4, h5⟩ := r
    refine ⟨a, vs, h1, ?_, ?_⟩
    · rw [List.map_fst_zip (Nat.le_of_eq h4)]; exact h3
    · rw [List.map_snd_zip (Nat.le_of_eq h4.symm)]; exact h5
  | ref a =>
    dsimp only [asD] at e
    cases q : M a with
    | none => rw [q] at e; cases e
    | some o =>
      rw [q] at e
      cases o with
      | dT kvs' =>
        have e : kvs' = kvs := by simpa using e
        subst e
        obtain ⟨vs, h1, h2⟩ := m a _ q
        exact ⟨a, vs, r, h1, h2⟩
      | _ => cases e
  | _ => simp [asD] at e
end
/-- what a dict holds at a key: none where it is no dict or the key no key -/
def dfind (M : MH) (x y : D) : Option (Option D) :=
  match asK M x, keyK y with
  | some kvs, some k => some (valD kvs k)
  | _, _ => match asD M x, keyT y with
    | some kvs, some k => some (valD kvs k)
    | _, _ => none
theorem dfind_h {K : PySem.W.Frag} {M : MH} {H : Hp} {x y : D} {v w : V} {o : Option D} (m : RM K M H) (e : dfind M x y = some o) (rx : Rp K M H x v) (ry : Rp K M H y w) :
    ∃ a r, v = .ref a ∧ DGet H a w r ∧ ((o = none ∧ r = none) ∨ ∃ d u, o = some d ∧ r = some u ∧ Rp K M H d u) := by
  unfold dfind at e
  split at e
  · rename_i kvs k e1 e2
    obtain ⟨a, vs, h1, h2, h3⟩ := asK_h m e1 rx
    have hk := keyK_v e2 ry
    subst hk
    refine ⟨a, _, h1, DGet.k h2, ?_⟩
    have e : valD kvs k = o := by simpa using e
    subst e
    rcases val_rp (k := k) h3 with ⟨g1, g2⟩ | ⟨d, u, g1, g2, g3⟩
    · exact .inl ⟨g1, g2⟩
    · exact .inr ⟨d, u, g1, g2, g3⟩
  · split at e
    · rename_i kvs k e1 e2
      obtain ⟨a, vs, h1, h2, h3⟩ := asD_h m e1 rx
      have e : valD kvs k = o := by simpa using e
      subst e
      cases y with
      | tp tk es =>
        cases tk with
        | s => simp [keyT] at e2
        | k => simp [keyT] at e2
        | t =>
        obtain ⟨b, ws, g1, ⟨g2, g3⟩, g4⟩ := ry
        have hk := keysK_v e2 g4
        subst hk g1
        refine ⟨a, _, h1, DGet.t h2 g3, ?_⟩
        rcases val_rp (k := k) h3 with ⟨g1, g2⟩ | ⟨d, u, g1, g2, g3⟩
        · exact .inl ⟨g1, g2⟩
        · exact .inr ⟨d, u, g1, g2, g3⟩
      | _ => simp [keyT] at e2
    · cases e
/-! ### in, not in -/
def seqM (M : MH) (d : D) : Option (List D) := match asT d with | some ds => some ds | none => asL M d
def inOk (x : D) (ds : List D) : Bool := lay 59 x && layL 59 ds
def inAns (M : MH) (x y : D) : Option Bool :=
  match y with
  | .str z => match x with | .str i => some (!(Builtin.Str.occurrences z i 0 z.length 1).isEmpty) | _ => none
  | y => match seqM M y with
    | some ds => if inOk x ds = true then some (ds.any fun z => eqv z x) else none
    | none => match dfind M y x with
      | some o => some o.isSome
      | none => none
def in3 : O2 := fun x y M Q => match inAns M x y with | some b => Q (.bl b) M | none => False
def nin3 : O2 := fun x y M Q => match inAns M x y with | some b => Q (.bl (!b)) M | none => False
section
variable {X : Cx}
theorem toPyL_get : ∀ {ds : List D} {j : Nat} {z : PyData}, (toPyL ds)[j]? = some z → ∃ d, ds[j]? = some d ∧ toPy d = z
  | [], j, z, h => by simp [toPyL] at h
  | d :: ds, 0, z, h => ⟨d, rfl, by simpa [toPyL] using h⟩
  | d :: ds, j + 1, z, h => by
    obtain ⟨e, h1, h2⟩ := toPyL_get (ds := ds) (j := j) (z := z) (by simpa [toPyL] using h)
    exact ⟨e, by simpa using h1, h2⟩
noncomputable def rowF (us : List Value) (ds : List D) (x : D) (y : Value) : Bool := @decide (∃ (i : Nat) (d : D), us[i]? = some y ∧ ds[i]? = some d ∧ eqv d x = true) (Classical.propDecidable _)
theorem rowF_t {us : List Value} {ds : List D} {x : D} {y : Value} (e : ∃ (i : Nat) (d : D), us[i]? = some y ∧ ds[i]? = some d ∧ eqv d x = true) : rowF us ds x y = true := @decide_eq_true _ (Classical.propDecidable _) e
theorem rowF_f {us : List Value} {ds : List D} {x : D} {y : Value} (e : ¬ ∃ (i : Nat) (d : D), us[i]? = some y ∧ ds[i]? = some d ∧ eqv d x = true) : rowF us ds x y = false := @decide_eq_false _ (Classical.propDecidable _) e
theorem of_rowF {us : List Value} {ds : List D} {x : D} {y : Value} (e : rowF us ds x y = true) : ∃ (i : Nat) (d : D), us[i]? = some y ∧ ds[i]? = some d ∧ eqv d x = true := @of_decide_eq_true _ (Classical.propDecidable _) e
/-- == of a datum and one of a row's items -/
theorem row_eqAt {pins : List (Addr × Obj)} {σ : L2.St} {H : Hp} {M : MH} {s : Shared} (hu : X.A.units + 64 < cLine) (I : Inv X pins σ H s) {x : D} {v : V} {u : Value} (hx : lay 59 x = true) (rx : Rp X.K M H x v) (rv : RelV v u) :
    ∀ {ds : List D} {vs : List V} {us : List Value}, layL 59 ds = true → RpL X.K M H ds vs → Vals vs us → ∃ e : Value → Bool, (∀ y ∈ us, SeqAt.EqAt X.A.in1 s y u (e y)) ∧ us.any e = ds.any fun z => eqv z x := by
  obtain ⟨as, rd⟩ := Dp.reads I _ v u (Rp.dp 59 x v rx (pd_lay _ _ hx)) rv
  have cx := lay_py 59 x hx
  -- the answer by value: read the data back
  have one : ∀ (d : D) (w : V) (y : Value), lay 59 d = true → Rp X.K M H d w → RelV w y → SeqAt.EqAt X.A.in1 s y u (eqv d x) := fun d w y h r q => by
    obtain ⟨bs, rb⟩ := Dp.reads I _ w y (Rp.dp 59 d w r (pd_lay _ _ h)) q
    have cd := lay_py 59 d h
    rw [eqv_py]
    exact SeqAt.eqAt_reads _ _ X.A.in1 s y u _ _ rb rd cd.1 cx.1 (by
      show X.A.units + 1 + _ < cLine
      omega)
  intro ds vs us hl hr hv
  refine ⟨rowF us ds x, fun y hy => ?_, ?_⟩
  · by_cases e : ∃ (i : Nat) (d : D), us[i]? = some y ∧ ds[i]? = some d ∧ eqv d x = true
    · obtain ⟨i, d, h1, h2, h3⟩ := id e
      rw [rowF_t e]
      obtain ⟨w, g1, g2⟩ := hr.get h2
      obtain ⟨y', g3, g4⟩ := hv.get g1
      rw [h1] at g3
      cases g3
      rw [← h3]
      refine one d w y ?_ g2 g4
      rw [layL_all, List.all_eq_true] at hl
      exact hl d (List.mem_of_getElem? h2)
    · rw [rowF_f e]
      obtain ⟨i, hi⟩ := List.getElem?_of_mem hy
      have hil : i < ds.length := by
        have h1 := hv.length
        have h2 := hr.length
        have h3 := (List.getElem?_eq_some_iff.mp hi).1
        omega
      have h2 : ds[i]? = some ds[i] := List.getElem?_eq_getElem hil
      obtain ⟨w, g1, g2⟩ := hr.get h2
      obtain ⟨y', g3, g4⟩ := hv.get g1
      rw [hi] at g3
      cases g3
      have nf : eqv ds[i] x = false := by
        cases q : eqv ds[i] x with
        | false => rfl
        | true => exact (e ⟨i, _, hi, h2, q⟩).elim
      rw [← nf]
      refine one _ w y ?_ g2 g4
      rw [layL_all, List.all_eq_true] at hl
      exact hl _ (List.mem_of_getElem? h2)
  · have len : us.length = ds.length := by rw [← hv.length, hr.length]
    rw [Bool.eq_iff_iff, List.any_eq_true, List.any_eq_true]
    constructor
    · rintro ⟨y, hy, h⟩
      obtain ⟨i, d, h1, h2, h3⟩ := of_rowF h
      exact ⟨d, List.mem_of_getElem? h2, h3⟩
    · rintro ⟨d, hd, h⟩
      obtain ⟨i, hi⟩ := List.getElem?_of_mem hd
      have hil : i < us.length := by
        have := (List.getElem?_eq_some_iff.mp hi).1
        omega
      exact ⟨us[i], List.getElem_mem hil, rowF_t ⟨i, d, List.getElem?_eq_getElem hil, hi, h⟩⟩
theorem seqM_sq {K : PySem.W.Frag} {M : MH} {H : Hp} {d : D} {ds : List D} {v : V} (m : RM K M H) (e : seqM M d = some ds) (r : Rp K M H d v) : ∃ a vs, v = .ref a ∧ (SqL K H a vs ∨ SqT K H a vs) ∧ RpL K M H ds vs := by
  unfold seqM at e
  split at e
  · rename_i ds' e1
    cases e
    obtain ⟨a, vs, h1, h2, h3⟩ := asT_sq e1 r
    exact ⟨a, vs, h1, .inr h2, h3⟩
  · obtain ⟨a, vs, h1, h2, h3⟩ := asL_sq m e r
    exact ⟨a, vs, h1, .inl h2, h3⟩
theorem zo_in (hu : X.A.units + 64 < cLine) : OpR X (compareOp .In) (LO2 X.K in3) := by
  intro pins s σ H x y v u Q I rx ry ⟨d1, d2, M, Q3, r1, r2, rm, o, c⟩
  unfold in3 at o
  split at o
  · rename_i b e
    unfold inAns at e
    split at e
    · rename_i z
      split at e
      · rename_i i
        obtain rfl := Option.some.inj e
        obtain ⟨t, rfl⟩ := rp_str r1 ▸ rx
        obtain ⟨t', rfl⟩ := rp_str r2 ▸ ry
        exact in_str (fin_bl I (c.now rm o rfl) (by simp))
      · cases e
    · split at e
      · rename_i ds e2
        split at e
        · rename_i hok
          obtain rfl := Option.some.inj e
          unfold inOk at hok
          rw [Bool.and_eq_true] at hok
          obtain ⟨a, vs, h1, h2, h3⟩ := seqM_sq rm e2 r2
          subst h1
          cases ry
          rcases h2 with h2 | h2
          · obtain ⟨its, rv, pl, hz⟩ := I.list h2
            obtain ⟨f, g1, g2⟩ := row_eqAt hu I hok.1 r1 rx hok.2 h3 rv
            refine SeqAt.in_listAt f pl.isList (fun w hw => g1 w (by simpa using hw)) ⟨.bl _, H, I, rfl, ?_⟩
            rw [show its.toArray.any f = its.any f by simp, g2]
            exact c.now rm o rfl
          · obtain ⟨its, rv, pl, hz⟩ := I.tuple h2
            obtain ⟨f, g1, g2⟩ := row_eqAt hu I hok.1 r1 rx hok.2 h3 rv
            refine SeqAt.in_tupleAt f pl (fun w hw => g1 w (by simpa using hw)) ⟨.bl _, H, I, rfl, ?_⟩
            rw [show its.toArray.any f = its.any f by simp, g2]
            exact c.now rm o rfl
        · cases e
      · split at e
        · rename_i ov e3
          have e : ov.isSome = b := by simpa using e
          subst e
          obtain ⟨a, r, h1, h2, h3⟩ := dfind_h rm e3 r2 r1
          subst h1
          cases ry
          have hs : r.isSome = ov.isSome := by
            rcases h3 with ⟨g1, g2⟩ | ⟨d, u', g1, g2, _⟩ <;> rw [g1, g2] <;> rfl
          exact d_in (by omega) I h2 rx fun s' I' => ⟨.bl _, H, I', rfl, by rw [hs]; exact c.now rm o rfl⟩
        · cases e
  · exact o.elim
theorem zo_nin (hu : X.A.units + 64 < cLine) : OpR X (compareOp .NotIn) (LO2 X.K nin3) := by
  intro pins s σ H x y v u Q I rx ry ⟨d1, d2, M, Q3, r1, r2, rm, o, c⟩
  unfold nin3 at o
  split at o
  · rename_i b e
    unfold inAns at e
    split at e
    · rename_i z
      split at e
      · rename_i i
        obtain rfl := Option.some.inj e
        obtain ⟨t, rfl⟩ := rp_str r1 ▸ rx
        obtain ⟨t', rfl⟩ := rp_str r2 ▸ ry
        exact notIn_str (fin_bl I (c.now rm o rfl) (by simp))
      · cases e
    · split at e
      · rename_i ds e2
        split at e
        · rename_i hok
          obtain rfl := Option.some.inj e
          unfold inOk at hok
          rw [Bool.and_eq_true] at hok
          obtain ⟨a, vs, h1, h2, h3⟩ := seqM_sq rm e2 r2
          subst h1
          cases ry
          rcases h2 with h2 | h2
          · obtain ⟨its, rv, pl, hz⟩ := I.list h2
            obtain ⟨f, g1, g2⟩ := row_eqAt hu I hok.1 r1 rx hok.2 h3 rv
            refine SeqAt.notIn_listAt f pl.isList (fun w hw => g1 w (by simpa using hw)) ⟨.bl _, H, I, rfl, ?_⟩
            rw [show its.toArray.any f = its.any f by simp, g2]
            exact c.now rm o rfl
          · obtain ⟨its, rv, pl, hz⟩ := I.tuple h2
            obtain ⟨f, g1, g2⟩ := row_eqAt hu I hok.1 r1 rx hok.2 h3 rv
            refine SeqAt.notIn_tupleAt f pl (fun w hw => g1 w (by simpa using hw)) ⟨.bl _, H, I, rfl, ?_⟩
            rw [show its.toArray.any f = its.any f by simp, g2]
            exact c.now rm o rfl
        · cases e
      · split at e
        · rename_i ov e3
          have e : ov.isSome = b := by simpa using e
          subst e
          obtain ⟨a, r, h1, h2, h3⟩ := dfind_h rm e3 r2 r1
          subst h1
          cases ry
          have hs : r.isSome = ov.isSome := by
            rcases h3 with ⟨g1, g2⟩ | ⟨d, u', g1, g2, _⟩ <;> rw [g1, g2] <;> rfl
          exact d_notIn (by omega) I h2 rx fun s' I' => ⟨.bl _, H, I', rfl, by rw [hs]; exact c.now rm o rfl⟩
        · cases e
  · exact o.elim
end
/-! ### subscripts -/
def ixAns (M : MH) (x y : D) : Option D := match y with
  | .int i => match x with
    | .str z => if z.length ≤ sizeLine then (match atI z.cps.toList i with | some c => some (.str ⟨#[c]⟩) | none => none) else none
    | x => match seqM M x with
      | some ds => atI ds i
      | none => (dfind M x (.int i)).join
  | y => (dfind M x y).join
def ix3 : O2 := fun x y M Q => match ixAns M x y with | some d => Q d M | none => False
theorem atI_rp {K : PySem.W.Frag} {M : MH} {H : Hp} {ds : List D} {vs : List V} {i : Int} {d : D} (r : RpL K M H ds vs) (e : atI ds i = some d) : ∃ v, atI vs i = some v ∧ Rp K M H d v := by
  unfold atI at e ⊢
  rw [r.length]
  cases q : ixN ds.length i with
  | none => rw [q] at e; cases e
  | some j =>
    rw [q] at e
    obtain ⟨v, h1, h2⟩ := r.get (show ds[j]? = some d from e)
    exact ⟨v, h1, h2⟩
section
variable {X : Cx}
theorem ix_dict (hu : X.A.units + 1 < cLine) : IxR X (fun x y H Q => ∃ a v, x = .ref a ∧ DGet H a y (some v) ∧ Q v H) := by
  intro value slice pins s σ H x y v u Q I rx ry ⟨a, w, e, g, q⟩ hs
  subst e
  cases rx
  exact tail_any (dict_typeIs I g) PySem.F.slot_dict_getitem.lookup (d_getItem hu I g ry fun w' s3 I3 rw' => ⟨w, H, I3, rw', q⟩) hs
theorem iximp {r r' : R2} (h : IxR X r) (g : ∀ x y H Q, r' x y H Q → r x y H Q) : IxR X r' := fun va sl pins s σ H x y v u Q I rx ry q hs => h va sl pins s σ H x y v u Q I rx ry (g _ _ _ _ q) hs
theorem zi_ix (hu : X.A.units + 64 < cLine) : IxR X (LO2 X.K ix3) := iximp (IxR.or ix_seq (ix_dict (by omega))) fun x y H Q ⟨d1, d2, M, Q3, r1, r2, rm, o, c⟩ => by
  unfold ix3 at o
  split at o
  · rename_i d e
    have dic : ∀ {y' : D}, Rp X.K M H y' y → (dfind M d1 y').join = some d → (∃ a v, x = .ref a ∧ DGet H a y (some v) ∧ Q v H) := fun {y'} ry e => by
      cases q : dfind M d1 y' with
      | none => rw [q] at e; cases e
      | some o' =>
        rw [q] at e
        have e : o' = some d := e
        subst e
        obtain ⟨a, r, h1, h2, h3⟩ := dfind_h rm q r1 ry
        rcases h3 with ⟨g, _⟩ | ⟨d', v, g1, g2, g3⟩
        · cases g
        · cases g1
          subst g2
          exact ⟨a, v, h1, h2, c.now rm o g3⟩
    unfold ixAns at e
    split at e
    · rename_i i
      split at e
      · rename_i z
        split at e
        · rename_i hz
          split at e
          · rename_i ch ec
            obtain rfl := Option.some.inj e
            exact .inl (.inr (.inr ⟨_, _, _, r1, r2, hz, ec, c.now rm o rfl⟩))
          · cases e
        · cases e
      · split at e
        · rename_i ds e1
          obtain ⟨a, vs, h1, h2, h3⟩ := seqM_sq rm e1 r1
          obtain ⟨v, g1, g2⟩ := atI_rp h3 e
          rcases h2 with h2 | h2
          · exact .inl (.inl ⟨a, vs, i, v, h1, r2, h2, g1, c.now rm o g2⟩)
          · exact .inl (.inr (.inl ⟨a, vs, i, v, h1, r2, h2, g1, c.now rm o g2⟩))
        · exact .inr (dic r2 e)
    · exact .inr (dic r2 e)
  · exact o.elim
theorem z_ix {K : PySem.W.Frag} {M0 : MH} {H0 : Hp} {o : O2} {a b : Expr} {ta tb : T3} {pos : Pos} (hr : IxR X (LO2 K o)) (ha : PE X a (LE K M0 H0 ta)) (hb : PE X b (LE K M0 H0 tb)) (hs : PlainIx b) : PE X (.Subscript a b pos) (LE K M0 H0 (op2 o ta tb)) :=
  (pe_ix hr ha hb hs).imp fun _ _ _ h => lo2 h
end
end Z

namespace Z
open PySem PySem.Spec PyProof.Rows L2
def c1 (o : O1) : OL := fun ds M Q => match ds with
  | [d] => o d M Q
  | _ => False
def c2 (o : O2) : OL := fun ds M Q => match ds with
  | [d, e] => o d e M Q
  | _ => False
def ofO (f : MH → D → Option D) : O1 := fun d M Q => match f M d with | some r => Q r M | none => False
def ofO2 (f : MH → D → D → Option D) : O2 := fun d e M Q => match f M d e with | some r => Q r M | none => False
section
variable {K : PySem.W.Frag}
theorem lol1 {o : O1} {xs : List V} {H : Hp} {Q : VK} (h : LOL K (c1 o) xs H Q) : ∃ x, xs = [x] ∧ LO1 K o x H Q := by
  obtain ⟨ds, M, Q3, r, rm, o', c⟩ := h
  unfold c1 at o'
  split at o'
  · obtain ⟨x, y, h1, h2, h3⟩ := r
    have h3 : y = [] := h3
    subst h3
    exact ⟨x, h1, _, M, Q3, h2, rm, o', c⟩
  · exact o'.elim
theorem lol2 {o : O2} {xs : List V} {H : Hp} {Q : VK} (h : LOL K (c2 o) xs H Q) : ∃ x y, xs = [x, y] ∧ LO2 K o x y H Q := by
  obtain ⟨ds, M, Q3, r, rm, o', c⟩ := h
  unfold c2 at o'
  split at o'
  · obtain ⟨x, y, h1, h2, h3⟩ := r
    obtain ⟨x', y', g1, g2, g3⟩ := h3
    have g3 : y' = [] := g3
    subst g3 g1
    exact ⟨x, x', h1, _, _, M, Q3, h2, g2, rm, o', c⟩
  · exact o'.elim
theorem lo1f {f : MH → D → Option D} {x : V} {H : Hp} {Q : VK} (h : LO1 K (ofO f) x H Q) : ∃ d M Q3 r, Rp K M H d x ∧ RM K M H ∧ f M d = some r ∧ Q3 r M ∧ Cv K M H Q3 Q := by
  obtain ⟨d, M, Q3, r, rm, o, c⟩ := h
  unfold ofO at o
  split at o
  · rename_i z e
    exact ⟨d, M, Q3, z, r, rm, e, o, c⟩
  · exact o.elim
end
/-! ### len, int, abs, min, max of two -/
def lenA (M : MH) (d : D) : Option D := match d with
  | .str x => if x.length ≤ sizeLine then some (.int x.length) else none
  | d => match seqM M d with
    | some ds => some (.int ds.length)
    | none => none
def intA (_ : MH) : D → Option D
  | .int i => some (.int i)
  | .bl k => some (.int (if k then 1 else 0))
  | _ => none
def absA (_ : MH) : D → Option D
  | .int i => some (.int (if i < 0 then -i else i))
  | _ => none
def maxA (_ : MH) : D → D → Option D
  | .int i, .int j => some (.int (if j > i then j else i))
  | _, _ => none
def minA (_ : MH) : D → D → Option D
  | .int i, .int j => some (.int (if j < i then j else i))
  | _, _ => none
section
variable {X : Cx}
theorem zc_len : CallR X (.builtin "len") (LOL X.K (c1 (ofO lenA))) := cimp call_len fun xs H Q h => by
  obtain ⟨x, rfl, h'⟩ := lol1 h
  obtain ⟨d, M, Q3, r, r1, rm, e, q, c⟩ := lo1f h'
  unfold lenA at e
  split at e
  · split at e
    · rename_i z hz
      obtain rfl := Option.some.inj e
      have r1 := rp_str r1
      subst r1
      exact ⟨_, z.length, rfl, ⟨hz, rfl⟩, c.now rm q rfl⟩
    · cases e
  · split at e
    · rename_i ds e2
      obtain rfl := Option.some.inj e
      obtain ⟨a, vs, h1, h2, h3⟩ := seqM_sq rm e2 r1
      subst h1
      refine ⟨_, ds.length, rfl, ?_, c.now rm q rfl⟩
      rw [← h3.length]
      rcases h2 with h2 | h2
      · exact .inl ⟨vs, h2, rfl⟩
      · exact .inr ⟨vs, h2, rfl⟩
    · cases e
theorem zc_int : CallR X (.type "int") (LOL X.K (c1 (ofO intA))) := cimp call_int1 fun xs H Q h => by
  obtain ⟨x, rfl, h'⟩ := lol1 h
  obtain ⟨d, M, Q3, r, r1, rm, e, q, c⟩ := lo1f h'
  unfold intA at e
  split at e
  · obtain rfl := Option.some.inj e
    have r1 := rp_int r1
    subst r1
    exact .inl ⟨_, rfl, c.now rm q rfl⟩
  · obtain rfl := Option.some.inj e
    have r1 := rp_bl r1
    subst r1
    exact .inr ⟨_, rfl, c.now rm q rfl⟩
  · cases e
theorem zc_abs : CallR X (.builtin "abs") (LOL X.K (c1 (ofO absA))) := cimp call_abs fun xs H Q h => by
  obtain ⟨x, rfl, h'⟩ := lol1 h
  obtain ⟨d, M, Q3, r, r1, rm, e, q, c⟩ := lo1f h'
  unfold absA at e
  split at e
  · obtain rfl := Option.some.inj e
    have r1 := rp_int r1
    subst r1
    exact ⟨_, rfl, c.now rm q rfl⟩
  · cases e
theorem zc_max2 (hc : X.calm = true) : CallR X (.builtin "max") (LOL X.K (c2 (ofO2 maxA))) := cimp (call_max2 hc) fun xs H Q h => by
  obtain ⟨x, y, rfl, d, e, M, Q3, r1, r2, rm, o, c⟩ := lol2 h
  unfold ofO2 at o
  split at o
  · rename_i z q
    unfold maxA at q
    split at q
    · obtain rfl := Option.some.inj q
      have r1 := rp_int r1
      have r2 := rp_int r2
      subst r1 r2
      exact ⟨_, _, rfl, c.now rm o rfl⟩
    · cases q
  · exact o.elim
theorem zc_min2 (hc : X.calm = true) : CallR X (.builtin "min") (LOL X.K (c2 (ofO2 minA))) := cimp (call_min2 hc) fun xs H Q h => by
  obtain ⟨x, y, rfl, d, e, M, Q3, r1, r2, rm, o, c⟩ := lol2 h
  unfold ofO2 at o
  split at o
  · rename_i z q
    unfold minA at q
    split at q
    · obtain rfl := Option.some.inj q
      have r1 := rp_int r1
      have r2 := rp_int r2
      subst r1 r2
      exact ⟨_, _, rfl, c.now rm o rfl⟩
    · cases q
  · exact o.elim
end
/-! ### sum, all, any of a list -/
def intsOf : List D → Option (List Int)
  | [] => some []
  | .int i :: r => match intsOf r with | some l => some (i :: l) | none => none
  | _ => none
def blsOf : List D → Option (List Bool)
  | [] => some []
  | .bl i :: r => match blsOf r with | some l => some (i :: l) | none => none
  | _ => none
theorem intsOf_eq : ∀ {ds : List D} {ns : List Int}, intsOf ds = some ns → ds = ns.map D.int
  | [], ns, h => by
    have h : [] = ns := by simpa [intsOf] using h
    subst h; rfl
  | d :: ds, ns, h => by
    cases d with
    | int i =>
      dsimp only [intsOf] at h
      split at h
      · rename_i l e
        obtain rfl := Option.some.inj h
        rw [intsOf_eq e]; rfl
      · cases h
    | _ => simp [intsOf] at h
theorem blsOf_eq : ∀ {ds : List D} {ns : List Bool}, blsOf ds = some ns → ds = ns.map D.bl
  | [], ns, h => by
    have h : [] = ns := by simpa [blsOf] using h
    subst h; rfl
  | d :: ds, ns, h => by
    cases d with
    | bl i =>
      dsimp only [blsOf] at h
      split at h
      · rename_i l e
        obtain rfl := Option.some.inj h
        rw [blsOf_eq e]; rfl
      · cases h
    | _ => simp [blsOf] at h
@[simp] theorem intsOf_map (ns : List Int) : intsOf (ns.map D.int) = some ns := by
  induction ns with
  | nil => rfl
  | cons a r ih => simp only [List.map_cons, intsOf, ih]
@[simp] theorem blsOf_map (ns : List Bool) : blsOf (ns.map D.bl) = some ns := by
  induction ns with
  | nil => rfl
  | cons a r ih => simp only [List.map_cons, blsOf, ih]
theorem ints_v {K : PySem.W.Frag} {M : MH} {H : Hp} : ∀ {ns : List Int} {vs : List V}, RpL K M H (ns.map D.int) vs → vs = ns.map V.int
  | [], vs, h => h
  | n :: ns, vs, h => by
    obtain ⟨v, r, h1, h2, h3⟩ := h
    subst h1
    rw [rp_int h2, ints_v h3]; rfl
theorem bls_v {K : PySem.W.Frag} {M : MH} {H : Hp} : ∀ {ns : List Bool} {vs : List V}, RpL K M H (ns.map D.bl) vs → vs = ns.map V.bl
  | [], vs, h => h
  | n :: ns, vs, h => by
    obtain ⟨v, r, h1, h2, h3⟩ := h
    subst h1
    rw [rp_bl h2, bls_v h3]; rfl
def sumA (M : MH) (d : D) : Option D := match asL M d with
  | some ds => match intsOf ds with | some ns => some (.int ns.sum) | none => none
  | none => none
def allA (M : MH) (d : D) : Option D := match asL M d with
  | some ds => match blsOf ds with | some bs => some (.bl (bs.all id)) | none => none
  | none => none
def anyA (M : MH) (d : D) : Option D := match asL M d with
  | some ds => match blsOf ds with | some bs => some (.bl (bs.any id)) | none => none
  | none => none
/-- the least one of some ints; the greatest one -/
def leastI : Int → List Int → Int
  | m, [] => m
  | m, x :: r => leastI (if x < m then x else m) r
def mostI : Int → List Int → Int
  | m, [] => m
  | m, x :: r => mostI (if x > m then x else m) r
theorem leastI_mem : ∀ (r : List Int) (m : Int), leastI m r ∈ m :: r ∧ ∀ y ∈ m :: r, leastI m r ≤ y
  | [], m => by simp [leastI]
  | x :: r, m => by
    unfold leastI
    obtain ⟨h1, h2⟩ := leastI_mem r (if x < m then x else m)
    by_cases e : x < m
    · rw [if_pos e] at h1 h2 ⊢
      refine ⟨by simp only [List.mem_cons] at h1 ⊢; rcases h1 with h | h <;> simp [h], fun y hy => ?_⟩
      simp only [List.mem_cons] at hy
      have hx := h2 x (by simp)
      rcases hy with hy | hy | hy
      · omega
      · omega
      · exact h2 y (by simp [hy])
    · rw [if_neg e] at h1 h2 ⊢
      refine ⟨by simp only [List.mem_cons] at h1 ⊢; rcases h1 with h | h <;> simp [h], fun y hy => ?_⟩
      simp only [List.mem_cons] at hy
      have hx := h2 m (by simp)
      rcases hy with hy | hy | hy
      · omega
      · omega
      · exact h2 y (by simp [hy])
theorem mostI_mem : ∀ (r : List Int) (m : Int), mostI m r ∈ m :: r ∧ ∀ y ∈ m :: r, y ≤ mostI m r
  | [], m => by simp [mostI]
  | x :: r, m => by
    unfold mostI
    obtain ⟨h1, h2⟩ := mostI_mem r (if x > m then x else m)
    by_cases e : x > m
    · rw [if_pos e] at h1 h2 ⊢
      refine ⟨by simp only [List.mem_cons] at h1 ⊢; rcases h1 with h | h <;> simp [h], fun y hy => ?_⟩
      simp only [List.mem_cons] at hy
      have hx := h2 x (by simp)
      rcases hy with hy | hy | hy
      · omega
      · omega
      · exact h2 y (by simp [hy])
    · rw [if_neg e] at h1 h2 ⊢
      refine ⟨by simp only [List.mem_cons] at h1 ⊢; rcases h1 with h | h <;> simp [h], fun y hy => ?_⟩
      simp only [List.mem_cons] at hy
      have hx := h2 m (by simp)
      rcases hy with hy | hy | hy
      · omega
      · omega
      · exact h2 y (by simp [hy])
def minL (M : MH) (d : D) : Option D := match asL M d with
  | some ds => match intsOf ds with | some (n :: ns) => some (.int (leastI n ns)) | _ => none
  | none => none
def maxL (M : MH) (d : D) : Option D := match asL M d with
  | some ds => match intsOf ds with | some (n :: ns) => some (.int (mostI n ns)) | _ => none
  | none => none
section
variable {X : Cx}
theorem asL_ints {M : MH} {H : Hp} {d : D} {v : V} {ds : List D} {ns : List Int} (rm : RM X.K M H) (e1 : asL M d = some ds) (e2 : intsOf ds = some ns) (r : Rp X.K M H d v) : ∃ a, v = .ref a ∧ SqL X.K H a (ns.map V.int) := by
  obtain ⟨a, vs, h1, h2, h3⟩ := asL_sq rm e1 r
  rw [intsOf_eq e2] at h3
  rw [ints_v h3] at h2
  exact ⟨a, h1, h2⟩
theorem asL_bls {M : MH} {H : Hp} {d : D} {v : V} {ds : List D} {ns : List Bool} (rm : RM X.K M H) (e1 : asL M d = some ds) (e2 : blsOf ds = some ns) (r : Rp X.K M H d v) : ∃ a, v = .ref a ∧ SqL X.K H a (ns.map V.bl) := by
  obtain ⟨a, vs, h1, h2, h3⟩ := asL_sq rm e1 r
  rw [blsOf_eq e2] at h3
  rw [bls_v h3] at h2
  exact ⟨a, h1, h2⟩
theorem zc_sum (hc : X.calm = true) : CallR X (.builtin "sum") (LOL X.K (c1 (ofO sumA))) := cimp (cr_sum hc) fun xs H Q h => by
  obtain ⟨x, rfl, h'⟩ := lol1 h
  obtain ⟨d, M, Q3, r, r1, rm, e, q, c⟩ := lo1f h'
  unfold sumA at e
  split at e
  · split at e
    · obtain rfl := Option.some.inj e
      rename_i e1 _ _ e2
      obtain ⟨a, h1, h2⟩ := asL_ints rm e1 e2 r1
      subst h1
      exact ⟨a, _, rfl, h2, c.now rm q rfl⟩
    · cases e
  · cases e
theorem zc_all (hc : X.calm = true) : CallR X (.builtin "all") (LOL X.K (c1 (ofO allA))) := cimp (cr_all hc) fun xs H Q h => by
  obtain ⟨x, rfl, h'⟩ := lol1 h
  obtain ⟨d, M, Q3, r, r1, rm, e, q, c⟩ := lo1f h'
  unfold allA at e
  split at e
  · split at e
    · obtain rfl := Option.some.inj e
      rename_i e1 _ _ e2
      obtain ⟨a, h1, h2⟩ := asL_bls rm e1 e2 r1
      subst h1
      exact ⟨a, _, rfl, h2, c.now rm q rfl⟩
    · cases e
  · cases e
theorem zc_any (hc : X.calm = true) : CallR X (.builtin "any") (LOL X.K (c1 (ofO anyA))) := cimp (cr_any hc) fun xs H Q h => by
  obtain ⟨x, rfl, h'⟩ := lol1 h
  obtain ⟨d, M, Q3, r, r1, rm, e, q, c⟩ := lo1f h'
  unfold anyA at e
  split at e
  · split at e
    · obtain rfl := Option.some.inj e
      rename_i e1 _ _ e2
      obtain ⟨a, h1, h2⟩ := asL_bls rm e1 e2 r1
      subst h1
      exact ⟨a, _, rfl, h2, c.now rm q rfl⟩
    · cases e
  · cases e
theorem zc_minL (hc : X.calm = true) : CallR X (.builtin "min") (LOL X.K (c1 (ofO minL))) := cimp (cr_min hc) fun xs H Q h => by
  obtain ⟨x, rfl, h'⟩ := lol1 h
  obtain ⟨d, M, Q3, r, r1, rm, e, q, c⟩ := lo1f h'
  unfold minL at e
  split at e
  · split at e
    · obtain rfl := Option.some.inj e
      rename_i e1 _ _ _ e2
      obtain ⟨a, h1, h2⟩ := asL_ints rm e1 e2 r1
      subst h1
      rename_i n ns
      refine ⟨a, _, rfl, h2, by simp, fun m hm hl => ?_⟩
      obtain ⟨g1, g2⟩ := leastI_mem ns n
      have e1 := hl _ g1
      have e2 := g2 _ hm
      have e3 : m = leastI n ns := by omega
      rw [e3]
      exact c.now rm q rfl
    · cases e
  · cases e
theorem zc_maxL (hc : X.calm = true) : CallR X (.builtin "max") (LOL X.K (c1 (ofO maxL))) := cimp (cr_max hc) fun xs H Q h => by
  obtain ⟨x, rfl, h'⟩ := lol1 h
  obtain ⟨d, M, Q3, r, r1, rm, e, q, c⟩ := lo1f h'
  unfold maxL at e
  split at e
  · split at e
    · obtain rfl := Option.some.inj e
      rename_i e1 _ _ _ e2
      obtain ⟨a, h1, h2⟩ := asL_ints rm e1 e2 r1
      subst h1
      rename_i n ns
      refine ⟨a, _, rfl, h2, by simp, fun m hm hl => ?_⟩
      obtain ⟨g1, g2⟩ := mostI_mem ns n
      have e1 := hl _ g1
      have e2 := g2 _ hm
      have e3 : m = mostI n ns := by omega
      rw [e3]
      exact c.now rm q rfl
    · cases e
  · cases e
end
/-! ### tuple(x), list(x) -/
/-- a list that is made, to be changed or not -/
def resL (m : Bool) (ds : List D) (M : MH) (Q : Q3) : Prop := match m with
  | false => Q (.lst ds) M
  | true => ∀ p, M p = none → Q (.ref p) (up M p (.lst ds))
theorem resL_cv {K : PySem.W.Frag} {m : Bool} {ds : List D} {M : MH} {H : Hp} {vs : List V} {Q3 : Q3} {Q : VK} {p : Addr} (h : resL m ds M Q3) (rm : RM K M H) (r : RpL K M H ds vs) (hp : H p = none) (c : Cv K M H Q3 Q) : Q (.ref p) (upd H p (.lst vs)) := by
  cases m with
  | false => exact c _ M _ _ h (Rp.lstNew rm hp r) (rm.new hp) (Ev.new hp)
  | true => exact c _ _ _ _ (h p (rm.free hp)) rfl (rm.lstNew hp r) (Ev.newM hp)
def tupA (k : TK) : O1 := fun d M Q => match k, d with
  | .t, .tp k ds => Q (.tp k ds) M
  | .t, d => match asL M d with | some ds => Q (.tup ds) M | none => False
  | .k, d => match asL M d with | some ds => Q (.tp .k ds) M | none => False
  | .s, _ => False
def kD : Key → D
  | .inl i => .int i
  | .inr x => .str x
def lstA (m : Bool) : O1 := fun d M Q => match seqM M d with
  | some ds => resL m ds M Q
  | none => match asD M d with
    | some kvs => resL m (kvs.map fun kv => D.tup (kv.1.map kD)) M Q
    | none => match asK M d with
      | some kvs => resL m (kvs.map fun kv => kD kv.1) M Q
      | none => False
section
variable {X : Cx}
/-- tuple(a list): the tuple is known to its object -/
theorem call_tuple_k : CallR X (.type "tuple") (fun xs H Q => ∃ p ys, xs = [.ref p] ∧ SqL X.K H p ys ∧ ∀ l o, H l = none → o.dict = none → Q (.ref l) (upd H l (.frz o (.tup ys)))) := by
  intro pins s σ H xs us Q I r ⟨p, ys, e, hq, q⟩
  subst e
  obtain ⟨u, rfl, rx⟩ := vals1 r
  cases rx
  obtain ⟨its, r', pl, hz⟩ := I.list hq
  refine call_tuple_list pl.isList (fun h' kp => ?_) (by have := r'.length; simp only [List.size_toArray]; omega)
  have J : Inv X pins σ H { s with heap := h' } := I.kept (t' := s.toks) kp
  have J2 : Inv X pins σ (upd H h'.objs.size (.frz { cls := .type "tuple", data := .seq its.toArray } (.tup ys))) { s with heap := h'.push { cls := .type "tuple", data := .seq its.toArray } } :=
    J.laid (t' := s.toks) (fun b o e => Heap.get?_push_of_some _ e) (Nat.le_refl _) ⟨Heap.get?_push_size _ rfl, hz, its, r', IsTup.new _ _⟩
  exact ⟨.ref h'.objs.size, _, J2, rfl, q _ _ (J.hok.fresh (Nat.le_refl _)) rfl⟩
theorem zc_tup (k : TK) : CallR X (.type "tuple") (LOL X.K (c1 (tupA k))) := cimp (CallR.or call_tuple_of call_tuple_k) fun xs H Q h => by
  obtain ⟨x, rfl, d, M, Q3, r1, rm, o, c⟩ := lol1 h
  unfold tupA at o
  split at o
  · obtain ⟨a, vs, h1, h2, h3⟩ := r1
    subst h1
    exact .inl ⟨a, vs, rfl, .inr ⟨h2.sq, c.now rm o ⟨a, vs, rfl, h2, h3⟩⟩⟩
  · split at o
    · rename_i e1
      obtain ⟨a, vs, h1, h2, h3⟩ := asL_sq rm e1 r1
      subst h1
      exact .inl ⟨a, vs, rfl, .inl ⟨h2, fun l hl => c _ M _ _ o (Rp.tupNew rm hl h3) (rm.new hl) (Ev.new hl)⟩⟩
    · exact o.elim
  · split at o
    · rename_i e1
      obtain ⟨a, vs, h1, h2, h3⟩ := asL_sq rm e1 r1
      subst h1
      exact .inr ⟨a, vs, rfl, h2, fun l ob hl hd => c _ M _ _ o ⟨l, vs, rfl, ⟨ob, rm.free hl, upd_same, hd⟩, RpL.ev (Ev.new hl) _ _ h3⟩ (rm.new hl) (Ev.new hl)⟩
    · exact o.elim
  · exact o.elim
theorem kD_rp {K : PySem.W.Frag} {M : MH} {H : Hp} : ∀ k : Key, Rp K M H (kD k) (kV k)
  | .inl i => rfl
  | .inr x => rfl
theorem kDs_rp {K : PySem.W.Frag} {M : MH} {H : Hp} : ∀ ks : List Key, RpL K M H (ks.map kD) (ks.map kV)
  | [] => rfl
  | k :: r => ⟨_, _, rfl, kD_rp k, kDs_rp r⟩
theorem keys_rp {K : PySem.W.Frag} {M : MH} {H : Hp} (rm : RM K M H) : ∀ {ps : List (List Key × V)} {bs : List Addr} {kvs : List (List Key × D)}, IsKeys H ps bs → ps.map (·.1) = kvs.map (·.1) → RpL K M H (kvs.map fun kv => D.tup (kv.1.map kD)) (bs.map V.ref)
  | [], bs, kvs, h, e => by
    cases h
    have : kvs = [] := by simpa using e.symm
    subst this; rfl
  | p :: ps, bs, [], h, e => by simp at e
  | p :: ps, bs, kv :: kvs, h, e => by
    rw [List.map_cons, List.map_cons] at e
    obtain ⟨e1, e2⟩ := List.cons.inj e
    cases h with
    | cons h1 h2 =>
      rename_i b bs'
      refine ⟨.ref b, bs'.map V.ref, rfl, ⟨b, _, rfl, ⟨?_, h1⟩, by rw [e1]; exact kDs_rp _⟩, keys_rp rm h2 e2⟩
      cases q : M b with
      | none => rfl
      | some o =>
        exfalso
        have z := rm b o q
        cases o with
        | lst ds => obtain ⟨vs, z, _⟩ := z; rw [h1] at z; cases z
        | dK ds => obtain ⟨vs, z, _⟩ := z; rw [h1] at z; cases z
        | dT ds => obtain ⟨vs, z, _⟩ := z; rw [h1] at z; cases z
        | ins C fs => obtain ⟨dx, vs, z, _⟩ := z; rw [h1] at z; cases z
theorem keysK_rp {K : PySem.W.Frag} {M : MH} {H : Hp} : ∀ {ps : List (Key × V)} {kvs : List (Key × D)}, ps.map (·.1) = kvs.map (·.1) → RpL K M H (kvs.map fun kv => kD kv.1) (ps.map fun kv => kV kv.1)
  | [], kvs, e => by
    have : kvs = [] := by simpa using e.symm
    subst this; rfl
  | p :: ps, [], e => by simp at e
  | p :: ps, kv :: kvs, e => by
    rw [List.map_cons, List.map_cons] at e
    obtain ⟨e1, e2⟩ := List.cons.inj e
    refine ⟨_, _, rfl, ?_, keysK_rp e2⟩
    show Rp K M H (kD kv.1) (kV p.1)
    rw [e1]; exact kD_rp _
theorem zc_lst (hcalm : X.calm = true) (m : Bool) : CallR X (.type "list") (LOL X.K (c1 (lstA m))) := cimp (CallR.or call_list_of (CallR.or (call_list_dT hcalm) (call_listD hcalm))) fun xs H Q h => by
  obtain ⟨x, rfl, d, M, Q3, r1, rm, o, c⟩ := lol1 h
  unfold lstA at o
  split at o
  · rename_i e1
    obtain ⟨a, vs, h1, h2, h3⟩ := seqM_sq rm e1 r1
    subst h1
    exact .inl ⟨a, vs, rfl, h2, fun l hl => resL_cv o rm h3 hl c⟩
  · split at o
    · rename_i kvs e1
      obtain ⟨a, vs, h1, h2, h3⟩ := asD_h rm e1 r1
      subst h1
      have hl : (kvs.map (·.1)).length = vs.length := by rw [h3.length]; simp
      exact .inr (.inl ⟨a, _, rfl, .inl h2, fun p bs hp hk => resL_cv o rm (keys_rp rm hk (by rw [List.map_fst_zip (Nat.le_of_eq hl)])) hp c⟩)
    · split at o
      · rename_i kvs e1
        obtain ⟨a, vs, h1, h2, h3⟩ := asK_h rm e1 r1
        subst h1
        have hl : (kvs.map (·.1)).length = vs.length := by rw [h3.length]; simp
        exact .inr (.inr ⟨a, _, rfl, .inl h2, fun p hp => resL_cv o rm (keysK_rp (by rw [List.map_fst_zip (Nat.le_of_eq hl)])) hp c⟩)
      · exact o.elim
end
/-! ### sorted(a list) -/
def leS (a b : D) : Bool := !PySem.W.dataLt (toPy b) (toPy a)
def sortD (ds : List D) : List D := ds.mergeSort leS
def sortOk (ds : List D) : Prop := (∀ d ∈ ds, ∀ e ∈ ds, likeD d e = true) ∧ (∀ d ∈ ds, pd 60 d = true) ∧ ((∀ d ∈ ds, ∃ k x r, d = .tp k (x :: r)) ∨ ∀ d ∈ ds, d ≠ .non ∧ ∀ k xs, d ≠ .tp k xs)
def srtA : O1 := fun d M Q => match asL M d with
  | some ds => sortOk ds ∧ Q (.lst (sortD ds)) M
  | none => False
section
variable {X : Cx}
theorem toPy_mem : ∀ {ds : List D} {z : PyData}, z ∈ ds.map toPy → ∃ d ∈ ds, toPy d = z := fun h => by
  obtain ⟨d, h1, h2⟩ := List.mem_map.mp h
  exact ⟨d, h1, h2⟩
theorem each_rp {M : MH} {H : Hp} : ∀ {ds : List D} {vs : List V} {us : List Value}, RpL X.K M H ds vs → Vals vs us → PySem.W.EachIs (fun (u : Value) (d : D) => ∃ v, RelV v u ∧ Rp X.K M H d v) us ds
  | [], vs, us, h, r => by
    have h : vs = [] := h
    subst h
    cases r
    exact .nil
  | d :: ds, vs, us, h, r => by
    obtain ⟨v, w, h1, h2, h3⟩ := h
    subst h1
    cases r with
    | cons r1 r2 => exact .cons ⟨v, r1, h2⟩ (each_rp h3 r2)
theorem of_each {M : MH} {H : Hp} : ∀ {ds : List D} {us : List Value}, PySem.W.EachIs (fun (u : Value) (d : D) => ∃ v, RelV v u ∧ Rp X.K M H d v) us ds → ∃ vs, RpL X.K M H ds vs ∧ Vals vs us
  | _, _, .nil => ⟨[], rfl, .nil⟩
  | d :: ds, u :: us, .cons h t => by
    obtain ⟨v, h1, h2⟩ := h
    obtain ⟨vs, g1, g2⟩ := of_each t
    exact ⟨v :: vs, ⟨v, vs, rfl, h2, g1⟩, .cons h1 g2⟩
theorem each_map {α β γ : Type} {R : α → γ → Prop} (f : β → γ) : ∀ {as : List α} {bs : List β}, PySem.W.EachIs (fun a b => R a (f b)) as bs → PySem.W.EachIs R as (bs.map f)
  | _, _, .nil => .nil
  | _, _, .cons h t => .cons h (each_map f t)
theorem each_and {α β : Type} {R : α → β → Prop} {P : β → Prop} : ∀ {as : List α} {bs : List β}, PySem.W.EachIs R as bs → (∀ b ∈ bs, P b) → PySem.W.EachIs (fun a b => R a b ∧ P b) as bs
  | _, _, .nil, _ => .nil
  | _, _, .cons h t, p => .cons ⟨h, p _ (by simp)⟩ (each_and t fun b hb => p b (by simp [hb]))
theorem reads_of {pins : List (Addr × Obj)} {σ : L2.St} {H : Hp} {s : Shared} {M : MH} (I : Inv X pins σ H s) {d : D} {u : Value} (h : (∃ v, RelV v u ∧ Rp X.K M H d v) ∧ pd 60 d = true) : ∃ as, Reads s.heap u (toPy d) as := by
  obtain ⟨⟨v, h1, h2⟩, h3⟩ := h
  exact Dp.reads I _ v u (Rp.dp 60 d v h2 h3) h1
theorem zc_srt (hu : X.A.units + 100 < cLine) : CallR X (.builtin "sorted") (LOL X.K (c1 srtA)) := by
  intro pins s σ H xs us Q I r h
  obtain ⟨x, rfl, d, M, Q3, r1, rm, o, c⟩ := lol1 h
  unfold srtA at o
  split at o
  · rename_i ds e1
    obtain ⟨⟨k1, k2, k3⟩, o⟩ := o
    obtain ⟨a, vs, h1, h2, h3⟩ := asL_sq rm e1 r1
    subst h1
    obtain ⟨its, rv, pl, hz⟩ := I.list h2
    rw [Vals.ref1 r]
    have each := each_rp h3 rv
    -- the state in which it is sorted
    have keep : ∀ b ob, s.heap.get? b = some ob → (PySem.W.sortingHeap (PySem.W.copyHeap s.heap its) (s.heap.objs.size + 1) its).get? b = some ob := fun b ob e => PySem.W.sorting_copy_old e
    have I2 : Inv X pins σ H { s with heap := PySem.W.sortingHeap (PySem.W.copyHeap s.heap its) (s.heap.objs.size + 1) its } := I.kept (t' := s.toks) keep
    have hal : PySem.W.AllAlike (ds.map toPy) := fun z hz z' hz' => by
      obtain ⟨d1, g1, rfl⟩ := toPy_mem hz
      obtain ⟨d2, g2, rfl⟩ := toPy_mem hz'
      exact like_py _ _ (k1 d1 g1 d2 g2)
    have er := each_map (R := fun (u : Value) (p : PyData) => ∃ as, Reads (PySem.W.sortingHeap (PySem.W.copyHeap s.heap its) (s.heap.objs.size + 1) its) u p as) toPy ((each_and each k2).mono fun u d h => reads_of I2 h)
    have S := PySem.W.SortsAt.data (prog := X.prog) (w := X.w) (A := X.A.in1.in1) (s := { s with heap := PySem.W.sortingHeap (PySem.W.copyHeap s.heap its) (s.heap.objs.size + 1) its }) er hal (by
      rcases k3 with k3 | k3
      · refine .inl fun z hz => ?_
        obtain ⟨d1, g1, rfl⟩ := toPy_mem hz
        obtain ⟨k, x, r, rfl⟩ := k3 d1 g1
        exact ⟨toPy x, toPyL r, by simp [toPy, toPyL]⟩
      · refine .inr fun z hz => ?_
        obtain ⟨d1, g1, rfl⟩ := toPy_mem hz
        obtain ⟨n1, n2⟩ := k3 d1 g1
        refine ⟨fun e => n1 ?_, fun xs e => ?_⟩
        · cases d1 <;> simp [toPy] at e
          rfl
        · cases d1 with
          | tp k es => exact n2 k es rfl
          | _ => simp [toPy] at e) (fun z hz => by
        obtain ⟨d1, g1, rfl⟩ := toPy_mem hz
        have := pd_depth 60 d1 (k2 d1 g1)
        show X.A.units + 1 + 1 + _ < cLine
        omega)
    have hlen := rv.length
    refine PySem.W.sorted_vals pl.isList S (by omega) ?_
    have out := PySem.W.sortVals_each (κ := PySem.W.dataKind (PySem.W.sortingHeap (PySem.W.copyHeap s.heap its) (s.heap.objs.size + 1) its) (ds.map toPy)) (rev := false) (fun d => PySem.W.keyToks (toPy d)) each
      ((each_and (each_and each k2) (P := fun d => d ∈ ds) fun b hb => hb).mono fun u d h => by
        obtain ⟨as, rd⟩ := reads_of I2 h.1
        exact PySem.W.dataKind_some hal (List.mem_map.mpr ⟨d, h.2, rfl⟩) rd)
    obtain ⟨ws, w1, w2⟩ := of_each out
    obtain ⟨ep, he'⟩ := PyProof.Rows.sortedAll_at s.heap its (PySem.W.sortVals (PySem.W.dataKind (PySem.W.sortingHeap (PySem.W.copyHeap s.heap its) (s.heap.objs.size + 1) its) (ds.map toPy)) false its its).toArray
    have wl : ws.length ≤ sizeLine := by
      rw [w1.length, (List.mergeSort_perm _ _).length_eq, ← h3.length]; exact hz
    have hf : H (s.heap.objs.size + 1) = none := I.hok.fresh (Nat.le_succ _)
    refine ⟨.ref _, upd H (s.heap.objs.size + 1) (.lst ws), I.laid (t' := s.toks) (fun _ _ => PyProof.Rows.sortedAll_old) (Nat.le_succ _) ⟨wl, _, ep, w2, he'⟩, rfl, ?_⟩
    exact c _ M _ _ o (Rp.lstNew rm hf w1) (rm.new hf) (Ev.new hf)
  · exact o.elim
end
/-! ### isinstance -/
inductive Ty where
  | tint | tbool | tstr | ttup | tlst
  deriving DecidableEq
def Ty.name : Ty → String
  | .tint => "int" | .tbool => "bool" | .tstr => "str" | .ttup => "tuple" | .tlst => "list"
def isTy (M : MH) (d : D) (T : Ty) : Option Bool := match d with
  | .non => some false
  | .bl _ => some (decide (T = .tbool ∨ T = .tint))
  | .int _ => some (decide (T = .tint))
  | .str _ => some (decide (T = .tstr))
  | .tp _ _ => some (decide (T = .ttup))
  | d => match asL M d with
    | some _ => some (decide (T = .tlst))
    | none => none
def isi3 (T : Ty) : O1 := fun d M Q => match isTy M d T with | some b => Q (.bl b) M | none => False
section
variable {X : Cx}
theorem kit_all : ∀ T : Ty, kitB "NoneType" T.name = some false ∧ kitB "bool" T.name = some (decide (T = .tbool ∨ T = .tint)) ∧ kitB "int" T.name = some (decide (T = .tint)) ∧ kitB "str" T.name = some (decide (T = .tstr)) ∧ kitB "tuple" T.name = some (decide (T = .ttup)) ∧ kitB "list" T.name = some (decide (T = .tlst)) := by
  intro T
  cases T <;> decide +kernel
theorem z_isi {K : PySem.W.Frag} {M0 : MH} {H0 : Hp} (hK : X.K = K) {T : Ty} {e : Expr} {te : T3} {p p2 pos : Pos} {tn : Str} (hg : Gl X "isinstance") (hm : X.mg "isinstance" = none) (hgT : Gl X tn) (hmT : X.mg tn = none) (hT : bootBuiltins tn = some (.type T.name)) (hn : tn ≠ "__name__") (hd : (tn == ("__debug__" : Str)) = false)
    (he : PE X e (LE K M0 H0 te)) (hs : starEach [e, .Name tn p2] X.env = [(false, eval e X.env), (false, eval (.Name tn p2) X.env)]) (hp1 : starEach [.Name tn p2] X.env = [(false, eval (.Name tn p2) X.env)]) : PE X (.Call (.Name "isinstance" p) [e, .Name tn p2] [] pos) (LE K M0 H0 (op1 (isi3 T) te)) := by
  subst hK
  have ha : PA X [e, .Name tn p2] (tCons (LE X.K M0 H0 te) (tCons (tC (.ty T.name)) tNil)) := pa_cons he (pa_cons (pe_bltn hgT hmT hT rfl hn hd) pa_nil) (by rw [hs, hp1])
  refine (pe_callB call_isi hg hm (by decide +kernel) ha (by decide) (by decide) (by rw [hs, hp1]) (by rw [hp1]; rfl)).imp fun σ H Q ⟨en, M, P, rs, rm, ev, t, c⟩ => ?_
  refine LE.then rs rm ev t fun d M1 v1 H1 t1 r1 rs1 rm1 ev1 e1 => ?_
  unfold isi3 at t1
  split at t1
  · rename_i b q
    refine ⟨v1, .ty T.name, ?_⟩
    obtain ⟨k1, k2, k3, k4, k5, k6⟩ := kit_all T
    have fin : ∀ {t : String} {b' : Bool}, kitB t T.name = some b' → b = b' → TyX X.K H1 v1 (.type t) → ∃ (t u : Value) (b : Bool), [v1, V.ty T.name] = [v1, .ty T.name] ∧ ClsV (.ty T.name) u ∧ TyX X.K H1 v1 t ∧ PySem.W.kitOne X.K t u = some b ∧ Q (.bl b) H1 := fun {t b'} k e z =>
      ⟨.type t, .type T.name, b', rfl, .ty _, z, kit_ty k, by rw [← e]; exact c _ M1 _ H1 t1 rfl rm1 e1⟩
    have lst : ∀ {ds : List D}, asL M1 d = some ds → TyX X.K H1 v1 (.type "list") := fun {ds} e => by
      obtain ⟨a, vs, h1, h2, h3⟩ := asL_sq rm1 e r1
      subst h1
      rcases h2 with (h2 | ⟨ob, h2⟩) | ⟨o, its, n, h2, h4, _⟩
      · exact .base (.lst h2)
      · exact .base (.frz h2)
      · exact .kList h2 h4
    unfold isTy at q
    split at q
    · have q := Option.some.inj q
      have r1 := show v1 = _ from r1
      subst r1
      exact fin k1 q.symm (.base .non)
    · have q := Option.some.inj q
      have r1 := show v1 = _ from r1
      subst r1
      exact fin k2 q.symm (.base (.bl _))
    · have q := Option.some.inj q
      have r1 := show v1 = _ from r1
      subst r1
      exact fin k3 q.symm (.base (.int _))
    · have q := Option.some.inj q
      have r1 := show v1 = _ from r1
      subst r1
      exact fin k4 q.symm (.base (.str _))
    · have q := Option.some.inj q
      rename_i k _ _
      obtain ⟨a, vs, h1, h2, h3⟩ := r1
      subst h1
      refine fin k5 q.symm ?_
      cases k with
      | t => exact .base (.tup h2.2)
      | s =>
        obtain ⟨o, its, n, g1, g2, _⟩ := h2
        exact .kTuple g1 g2
      | k =>
        obtain ⟨o, g1, g2, _⟩ := h2
        exact .fTuple g2
    · split at q
      · rename_i e2
        have q := Option.some.inj q
        exact fin k6 q.symm (lst e2)
      · cases q
  · exact t1.elim
end
/-! ### a call of a built-in by its name -/
section
variable {X : Cx} {K : PySem.W.Frag} {M0 : MH} {H0 : Hp}
def opL (o : OL) (t : TL3) : T3 := fun e M Q => t e M fun ds M1 => o ds M1 Q
theorem z_callB {id : String} {o : OL} {x : Str} {e : Expr} {es : List Expr} {t : TL3} {p pos : Pos} (hc : CallR X (.builtin id) (LOL K o)) (hg : Gl X x) (hm : X.mg x = none) (hv : bootBuiltins x = some (.builtin id)) (ha : PA X (e :: es) (LA K M0 H0 t))
    (hn : x ≠ "__name__") (hdb : (x == ("__debug__" : Str)) = false) (he : starEach (e :: es) X.env = (false, eval e X.env) :: starEach es X.env) (hpl : (backTo pos (starEach es X.env)).any (·.1) = false) : PE X (.Call (.Name x p) (e :: es) [] pos) (LE K M0 H0 (opL o t)) :=
  (pe_callB hc hg hm hv ha hn hdb he hpl).imp fun σ H Q ⟨en, M, P, rs, rm, ev, t', c⟩ => LA.then rs rm ev t' fun ds M1 vs H1 t1 r1 rs1 rm1 ev1 e1 => ⟨ds, M1, P, r1, rm1, t1, c.from e1⟩
theorem z_callTy {T : String} {o : OL} {x : Str} {e : Expr} {es : List Expr} {t : TL3} {p pos : Pos} (hc : CallR X (.type T) (LOL K o)) (hg : Gl X x) (hm : X.mg x = none) (hv : bootBuiltins x = some (.type T)) (ha : PA X (e :: es) (LA K M0 H0 t))
    (hn : x ≠ "__name__") (hdb : (x == ("__debug__" : Str)) = false) (he : starEach (e :: es) X.env = (false, eval e X.env) :: starEach es X.env) (hpl : (backTo pos (starEach es X.env)).any (·.1) = false) : PE X (.Call (.Name x p) (e :: es) [] pos) (LE K M0 H0 (opL o t)) :=
  (pe_callTy hc hg hm hv ha hn hdb he hpl).imp fun σ H Q ⟨en, M, P, rs, rm, ev, t', c⟩ => LA.then rs rm ev t' fun ds M1 vs H1 t1 r1 rs1 rm1 ev1 e1 => ⟨ds, M1, P, r1, rm1, t1, c.from e1⟩
end
end Z

namespace Z
open PySem PySem.Spec PyProof.Rows L2

structure Ends3 where
  nx : En → MH → Prop
  rt : Q3
  bk : En → MH → Prop
  ct : En → MH → Prop
abbrev TS3 := Ends3 → En → MH → Prop
section
variable (K : PySem.W.Frag) (M0 : MH) (H0 : Hp)
def CvE (M : MH) (H : Hp) (q : En → MH → Prop) (Q : L2.St → Hp → Prop) : Prop := ∀ e' M' σ' H', q e' M' → RS K M' H' e' σ' → RM K M' H' → Ev M H M' H' → Q σ' H'
structure CvS (M : MH) (H : Hp) (D3 : Ends3) (D : Ends) : Prop where
  nx : CvE K M H D3.nx D.nx
  rt : Cv K M H D3.rt D.rt
  bk : CvE K M H D3.bk D.bk
  ct : CvE K M H D3.ct D.ct
def LS (t : TS3) : TS := fun D σ H => ∃ e M D3, RS K M H e σ ∧ RM K M H ∧ Ev M0 H0 M H ∧ t D3 e M ∧ CvS K M H D3 D
variable {K M0 H0}
theorem CvE.from {M M1 : MH} {H H1 : Hp} {q : En → MH → Prop} {Q : L2.St → Hp → Prop} (c : CvE K M H q Q) (e : Ev M H M1 H1) : CvE K M1 H1 q Q := fun e' M' σ' H' h r m e2 => c e' M' σ' H' h r m (e.trans e2)
theorem CvS.from {M M1 : MH} {H H1 : Hp} {D3 : Ends3} {D : Ends} (c : CvS K M H D3 D) (e : Ev M H M1 H1) : CvS K M1 H1 D3 D := ⟨c.nx.from e, c.rt.from e, c.bk.from e, c.ct.from e⟩
section
variable {X : Cx} {st : Stmt} {rest : List Stmt} {t u : TS3} {e : Expr} {te : T3} {pos : Pos}
def next3 : TS3 := fun D e M => D.nx e M
def seq3 (t u : TS3) : TS3 := fun D e M => t { D with nx := u D } e M
theorem z_snil : PSs X [] (LS K M0 H0 next3) := pss_nil.imp fun D σ H ⟨e, M, D3, rs, rm, ev, t, c⟩ => c.nx e M σ H t rs rm (Ev.refl _ _)
theorem z_scons (h1 : PS X st (LS K M0 H0 t)) (h2 : PSs X rest (LS K M0 H0 u)) : PSs X (st :: rest) (LS K M0 H0 (seq3 t u)) :=
  (pss_cons h1 h2).imp fun D σ H ⟨e, M, D3, rs, rm, ev, t, c⟩ => ⟨e, M, { D3 with nx := u D3 }, rs, rm, ev, t,
    ⟨fun e' M' σ' H' h r m e2 => ⟨e', M', D3, r, m, ev.trans e2, h, c.from e2⟩, c.rt, c.bk, c.ct⟩⟩
/-- a step in the proof alone -/
theorem z_ghost {g : TS3} (h : PSs X rest (LS K M0 H0 t)) (f : ∀ D e M σ H, RS K M H e σ → RM K M H → g D e M → ∃ e' M', RS K M' H e' σ ∧ RM K M' H ∧ Ev M H M' H ∧ t D e' M') : PSs X rest (LS K M0 H0 g) :=
  h.imp fun D σ H ⟨e, M, D3, rs, rm, ev, q, c⟩ => by
    obtain ⟨e', M', rs', rm', ev', q'⟩ := f D3 e M σ H rs rm q
    exact ⟨e', M', D3, rs', rm', ev.trans ev', q', c.from ev'⟩
def brk3 : TS3 := fun D e M => D.bk e M
def cnt3 : TS3 := fun D e M => D.ct e M
theorem z_pass : PS X (.Pass pos) (LS K M0 H0 next3) := ps_pass.imp fun D σ H ⟨e, M, D3, rs, rm, ev, t, c⟩ => c.nx e M σ H t rs rm (Ev.refl _ _)
theorem z_break : PS X (.Break pos) (LS K M0 H0 brk3) := ps_break.imp fun D σ H ⟨e, M, D3, rs, rm, ev, t, c⟩ => c.bk e M σ H t rs rm (Ev.refl _ _)
theorem z_cont : PS X (.Continue pos) (LS K M0 H0 cnt3) := ps_continue.imp fun D σ H ⟨e, M, D3, rs, rm, ev, t, c⟩ => c.ct e M σ H t rs rm (Ev.refl _ _)
def drop3 (te : T3) : TS3 := fun D e M => te e M fun _ M1 => D.nx e M1
theorem z_expr (he : PE X e (LE K M0 H0 te)) (hs : swapsWith e none pos.line X.env = pure false) : PS X (.Expr e pos) (LS K M0 H0 (drop3 te)) :=
  (ps_expr he hs).imp fun D σ H ⟨en, M, D3, rs, rm, ev, t, c⟩ => LE.then rs rm ev t fun d M1 v1 H1 t1 r1 rs1 rm1 ev1 e1 => c.nx en M1 σ H1 t1 rs1 rm1 e1
def ret3 (te : T3) : TS3 := fun D e M => te e M D.rt
theorem z_ret (he : PE X e (LE K M0 H0 te)) : PS X (.Return (some e) pos) (LS K M0 H0 (ret3 te)) :=
  (ps_ret he).imp fun D σ H ⟨en, M, D3, rs, rm, ev, t, c⟩ => ⟨en, M, D3.rt, rs, rm, ev, t, c.rt⟩
def retN3 : TS3 := fun D _ M => D.rt .non M
theorem z_retN : PS X (.Return none pos) (LS K M0 H0 retN3) := ps_retN.imp fun D σ H ⟨en, M, D3, rs, rm, ev, t, c⟩ => c.rt.now rm t rfl
def if3 (c : TB3) (t u : TS3) : TS3 := fun D e M => c e M fun b M1 => match b with | true => t D e M1 | false => u D e M1
theorem z_if {c : Expr} {a b : List Stmt} {tc : TB3} (hc : PT X c (LT K M0 H0 tc)) (ha : PSs X a (LS K M0 H0 t)) (hb : PSs X b (LS K M0 H0 u)) : PS X (.If c a b pos) (LS K M0 H0 (if3 tc t u)) :=
  (ps_if hc ha hb).imp fun D σ H ⟨en, M, D3, rs, rm, ev, t, c⟩ => LT.then rs rm ev t fun d M1 H1 t1 rs1 rm1 ev1 e1 => by
    cases d with
    | true => rw [if_pos rfl]; exact ⟨en, M1, D3, rs1, rm1, ev1, t1, c.from e1⟩
    | false => rw [if_neg Bool.false_ne_true]; exact ⟨en, M1, D3, rs1, rm1, ev1, t1, c.from e1⟩
/-! ### targets of names -/
inductive Tg where
  | nm (i : Nat)
  | tp (is : List Nat)
def setAll : En → List Nat → List D → Option En
  | e, [], [] => some e
  | e, i :: is, d :: ds => setAll (setE e i d) is ds
  | _, _, _ => none
def bindT : Tg → D → En → Option En
  | .nm i, d, e => some (setE e i d)
  | .tp is, d, e => match asT d with
    | some ds => setAll e is ds
    | none => none
def gNames : List Nat → TGs
  | [] => gNil
  | i :: is => gCons (gName i) (gNames is)
def gOf (K : PySem.W.Frag) : Tg → TG
  | .nm i => gName i
  | .tp is => gTup K is.length (gNames is)
def Tg.slots : Tg → List Nat
  | .nm i => [i]
  | .tp is => is
/-- the slots that change -/
def setV : L2.St → List Nat → List V → L2.St
  | σ, i :: is, v :: vs => setV (σ.set i (some v)) is vs
  | σ, _, _ => σ
theorem gNames_ok {M : MH} {H : Hp} : ∀ {is : List Nat} {ds : List D} {vs : List V} {e e' : En} {σ : L2.St} {Q : L2.St → Hp → Prop}, setAll e is ds = some e' → RpL K M H ds vs → RS K M H e σ → (RS K M H e' (setV σ is vs) → Q (setV σ is vs) H) → gNames is vs σ H Q
  | [], [], vs, e, e', σ, Q, h, r, rs, q => by
    have r : vs = [] := r
    subst r
    obtain rfl := Option.some.inj h
    exact ⟨rfl, q rs⟩
  | [], _ :: _, _, _, _, _, _, h, _, _, _ => by simp [setAll] at h
  | _ :: _, [], _, _, _, _, _, h, _, _, _ => by simp [setAll] at h
  | i :: is, d :: ds, vs, e, e', σ, Q, h, r, rs, q => by
    obtain ⟨v, w, h1, h2, h3⟩ := r
    subst h1
    exact ⟨v, w, rfl, gNames_ok (e := setE e i d) (by simpa [setAll] using h) h3 (rs.set i h2) q⟩
theorem setAll_len : ∀ {is : List Nat} {ds : List D} {e e' : En}, setAll e is ds = some e' → is.length = ds.length
  | [], [], _, _, _ => rfl
  | [], _ :: _, _, _, h => by simp [setAll] at h
  | _ :: _, [], _, _, h => by simp [setAll] at h
  | i :: is, d :: ds, e, e', h => by
    have := setAll_len (is := is) (ds := ds) (e := setE e i d) (e' := e') (by simpa [setAll] using h)
    simp [this]
/-- binding: the slots of the target are set -/
theorem gOf_ok {M : MH} {H : Hp} {tg : Tg} {d : D} {v : V} {e e' : En} {σ : L2.St} {Q : L2.St → Hp → Prop} (h : bindT tg d e = some e') (r : Rp K M H d v) (rs : RS K M H e σ)
    (q : ∀ vs, RS K M H e' (setV σ tg.slots vs) → Q (setV σ tg.slots vs) H) : gOf K tg v σ H Q := by
  cases tg with
  | nm i =>
    obtain rfl := Option.some.inj h
    exact q [v] (rs.set i r)
  | tp is =>
    dsimp only [bindT] at h
    split at h
    · rename_i ds e1
      obtain ⟨a, vs, h1, h2, h3⟩ := asT_sq e1 r
      exact ⟨a, vs, h1, h2, by rw [h3.length, setAll_len h], gNames_ok h h3 rs (q vs)⟩
    · cases h
theorem wipe_get : ∀ (vs : List Nat) (σ : L2.St) (i : Nat), (wipe σ vs)[i]? = if i ∈ vs ∧ i < σ.length then some none else σ[i]?
  | [], σ, i => by simp [wipe]
  | v :: vs, σ, i => by
    unfold wipe
    by_cases e : v = i
    · subst e
      by_cases hl : v < σ.length
      · rw [List.getElem?_set_self (by rw [wipe_length]; exact hl)]
        simp [hl]
      · rw [List.getElem?_eq_none (by rw [List.length_set, wipe_length]; omega)]
        simp [hl]
    · rw [List.getElem?_set_ne e, wipe_get vs σ i]
      have : i ∈ v :: vs ↔ i ∈ vs := by simp [Ne.symm e]
      simp only [this]
theorem wipe_set {vs : List Nat} {σ : L2.St} {i : Nat} {o : Option V} (h : i ∈ vs) : wipe (σ.set i o) vs = wipe σ vs := by
  refine List.ext_getElem? fun j => ?_
  rw [wipe_get, wipe_get, List.length_set]
  by_cases e : j = i
  · subst e
    by_cases hl : j < σ.length
    · rw [if_pos ⟨h, hl⟩, if_pos ⟨h, hl⟩]
    · rw [if_neg (fun z => hl z.2), if_neg (fun z => hl z.2), List.getElem?_eq_none (by rw [List.length_set]; omega), List.getElem?_eq_none (by omega)]
  · rw [List.getElem?_set_ne (Ne.symm e)]
theorem wipe_setV {vs : List Nat} : ∀ (is : List Nat) (σ : L2.St) (ws : List V), (∀ i ∈ is, i ∈ vs) → wipe (setV σ is ws) vs = wipe σ vs
  | [], σ, ws, _ => by cases ws <;> rfl
  | i :: is, σ, [], _ => rfl
  | i :: is, σ, w :: ws, h => by
    show wipe (setV (σ.set i (some w)) is ws) vs = _
    rw [wipe_setV is _ ws fun j hj => h j (by simp [hj]), wipe_set (h i (by simp))]
theorem wipe_wipe {vs : List Nat} {σ : L2.St} : wipe (wipe σ vs) vs = wipe σ vs := by
  refine List.ext_getElem? fun j => ?_
  rw [wipe_get, wipe_length, wipe_get]
  by_cases h : j ∈ vs ∧ j < σ.length
  · simp only [if_pos h]
  · simp only [if_neg h]
/-! ### assignments -/
def asg3 (te : T3) (tg : Tg) : TS3 := fun D e M => te e M fun d M1 => match bindT tg d e with | some e' => D.nx e' M1 | none => False
theorem z_asg {target : Expr} {tg : Tg} (he : PE X e (LE K M0 H0 te)) (hg : PG X target (gOf K tg)) (hs : swapsWithSole [target] e pos.line X.env = pure false) (hw : swappedStores [target] e X.env = pure none)
    (h1 : (assignEach [target] X.env).map (·.2) = [assign target X.env]) : PS X (.Assign [target] e pos) (LS K M0 H0 (asg3 te tg)) :=
  (ps_asg he hg hs hw h1).imp fun D σ H ⟨en, M, D3, rs, rm, ev, t, c⟩ => LE.then rs rm ev t fun d M1 v1 H1 t1 r1 rs1 rm1 ev1 e1 => by
    split at t1
    · rename_i e' eb
      exact gOf_ok eb r1 rs1 fun vs r => c.nx _ M1 _ H1 t1 r rm1 e1
    · exact t1.elim
theorem z_set {i : Nat} {x : Str} {pos' : Pos} (hN : X.N.Nodup) (hi : X.N[i]? = some x) (hx : Loc X.env.scope x) (he : PE X e (LE K M0 H0 te)) (hs : swapsWith e (some (.Name x pos')) pos.line X.env = pure false) (hf : X.fn x = true ∨ X.env.scope.names.lookup x = some .local) :
    PS X (.Assign [.Name x pos'] e pos) (LS K M0 H0 (asg3 te (.nm i))) :=
  (ps_set hN hi hx he hs hf).imp fun D σ H ⟨en, M, D3, rs, rm, ev, t, c⟩ => LE.then rs rm ev t fun d M1 v1 H1 t1 r1 rs1 rm1 ev1 e1 => c.nx _ M1 _ H1 t1 (rs1.set i r1) rm1 e1
/-- a, b = x, y -/
def par3 (i j : Nat) (ta : TL3) : TS3 := fun D e M => ta e M fun ds M1 => match ds with
  | [d, d'] => D.nx (setE (setE e i d) j d') M1
  | _ => False
theorem z_par {i j : Nat} {x y : Str} {a b : Expr} {ta : TL3} {px py pt : Pos} {kt k2 pt2} (hc : X.calm = true) (hN : X.N.Nodup) (hi : X.N[i]? = some x) (hj : X.N[j]? = some y) (hij : i ≠ j)
    (hx : X.env.scope.names.lookup x = some .local) (hy : X.env.scope.names.lookup y = some .local) (ha : PA X [a, b] (LA K M0 H0 ta))
    (hw : swappedStores [.Tuple [.Name x px, .Name y py] kt pt] (.Tuple [a, b] k2 pt2) X.env = pure (some [x, y])) :
    PS X (.Assign [.Tuple [.Name x px, .Name y py] kt pt] (.Tuple [a, b] k2 pt2) pos) (LS K M0 H0 (par3 i j ta)) :=
  (ps_par hc hN hi hj hij hx hy ha hw rfl).imp fun D σ H ⟨en, M, D3, rs, rm, ev, t, c⟩ => LA.then rs rm ev t fun ds M1 vs H1 t1 r1 rs1 rm1 ev1 e1 => by
    split at t1
    · obtain ⟨v, w, h1, h2, h3⟩ := r1
      obtain ⟨v', w', g1, g2, g3⟩ := h3
      have g3 : w' = [] := g3
      subst g3 g1 h1
      exact ⟨v, v', rfl, c.nx _ M1 _ H1 t1 ((rs1.set i h2).set j g2) rm1 e1⟩
    · exact t1.elim
/-! ### o[i] = v -/
def put3 (M : MH) (o i v : D) : Option MH := match o with
  | .ref a => match M a with
    | some (.lst ds) => match i with
      | .int k => match ixN ds.length k with
        | some j => some (up M a (.lst (ds.set j v)))
        | none => none
      | _ => none
    | some (.dK kvs) => match keyK i with
      | some k => if kvs.length < sizeLine then some (up M a (.dK (putD kvs k v))) else none
      | none => none
    | some (.dT kvs) => match keyT i with
      | some k => if kvs.length < sizeLine then some (up M a (.dT (putD kvs k v))) else none
      | none => none
    | _ => none
  | _ => none
def LSet (K : PySem.W.Frag) : TSet := fun o i v H Q => ∃ d1 d2 d3 M M', Rp K M H d1 o ∧ Rp K M H d2 i ∧ Rp K M H d3 v ∧ RM K M H ∧ put3 M d1 d2 d3 = some M' ∧ ∀ H', RM K M' H' → Ev M H M' H' → Q H'
theorem seti (hu : X.A.units + 1 < cLine) : PSet X (LSet X.K) := by
  intro pins s σ H o i v ov iv u Q I ro ri rv ⟨d1, d2, d3, M, M', r1, r2, r3, rm, e, q⟩
  unfold put3 at e
  split at e
  · rename_i a
    have ea : o = .ref a := r1
    subst ea
    split at e
    · rename_i ds em
      split at e
      · rename_i k
        split at e
        · rename_i j ej
          obtain rfl := Option.some.inj e
          obtain ⟨vs, g1, g2⟩ := rm a _ em
          refine set_list pins s σ H _ _ _ ov iv u Q I ro ri rv ⟨a, vs, k, j, rfl, r2, g1, by rw [g2.length]; exact ej, q _ ?_ (Ev.wr em)⟩
          exact rm.wr em ⟨_, upd_same, (RpL.ev (Ev.wr em) _ _ g2).set (Rp.ev (Ev.wr em) _ _ r3) j⟩
        · cases e
      · cases e
    · rename_i kvs em
      split at e
      · rename_i k ek
        split at e
        · rename_i hz
          obtain rfl := Option.some.inj e
          obtain ⟨vs, g1, g2⟩ := rm a _ em
          have hk := keyK_v ek r2
          subst hk
          obtain ⟨ws, w1, w2⟩ := put_rp (k := k) r3 g2
          refine set_dict hu pins s σ H _ _ _ ov iv u Q I ro ri rv ⟨a, _, rfl, DPut.k g1 ?_, q _ ?_ (Ev.wr em)⟩
          · rw [List.length_zip, List.length_map]; omega
          · refine rm.wr em ⟨ws, ?_, RpL.ev (Ev.wr em) _ _ w2⟩
            rw [upd_same, w1]
        · cases e
      · cases e
    · rename_i kvs em
      split at e
      · rename_i k ek
        split at e
        · rename_i hz
          obtain rfl := Option.some.inj e
          obtain ⟨vs, g1, g2⟩ := rm a _ em
          cases d2 with
          | tp tk es =>
            cases tk with
            | s => simp [keyT] at ek
            | k => simp [keyT] at ek
            | t =>
            obtain ⟨b, bs, b1, ⟨b2, b3⟩, b4⟩ := r2
            have hk := keysK_v ek b4
            subst hk b1
            obtain ⟨ws, w1, w2⟩ := put_rp (k := k) r3 g2
            refine set_dict hu pins s σ H _ _ _ ov iv u Q I ro ri rv ⟨a, _, rfl, DPut.t g1 b3 ?_, q _ ?_ (Ev.wr em)⟩
            · rw [List.length_zip, List.length_map]; omega
            · refine rm.wr em ⟨ws, ?_, RpL.ev (Ev.wr em) _ _ w2⟩
              rw [upd_same, w1]
          | _ => simp [keyT] at ek
        · cases e
      · cases e
    · cases e
  · cases e
def sput3 (to ti te : T3) : TS3 := fun D e M => te e M fun v M1 => to e M1 fun o M2 => ti e M2 fun i M3 => match put3 M3 o i v with | some M4 => D.nx e M4 | none => False
theorem z_sput {o i : Expr} {to ti : T3} {pos' : Pos} (hset : PSet X (LSet K)) (ho : PE X o (LE K M0 H0 to)) (hi : PE X i (LE K M0 H0 ti)) (he : PE X e (LE K M0 H0 te))
    (ha : ∀ v, assign (.Subscript o i pos') X.env v = (do
      let ov ← holding [v] (eval o X.env)
      let iv ← holding [v, ov] (eval i X.env)
      standAt pos'
      holding [v, ov, iv] (setItem ov iv v)
      release [v, ov, iv] []))
    (hs : swapsWithSole [.Subscript o i pos'] e pos.line X.env = pure false) (hw : swappedStores [.Subscript o i pos'] e X.env = pure none)
    (h1 : (assignEach [.Subscript o i pos'] X.env).map (·.2) = [assign (.Subscript o i pos') X.env]) : PS X (.Assign [.Subscript o i pos'] e pos) (LS K M0 H0 (sput3 to ti te)) :=
  (ps_asg he (pg_sub ho hi hset ha) hs hw h1).imp fun D σ H ⟨en, M, D3, rs, rm, ev, t, c⟩ => LE.then rs rm ev t fun v M1 v1 H1 t1 r1 rs1 rm1 ev1 e1 =>
    LE.then rs1 rm1 ev1 t1 fun o M2 v2 H2 t2 r2 rs2 rm2 ev2 e2 => LE.then rs2 rm2 ev2 t2 fun i M3 v3 H3 t3 r3 rs3 rm3 ev3 e3 => by
      split at t3
      · rename_i M4 e4
        exact ⟨o, i, v, M3, M4, Rp.ev e3 _ _ r2, r3, Rp.ev (e2.trans e3) _ _ r1, rm3, e4, fun H' rm' ev' => c.nx en M4 σ H' t3 (rs3.ev ev') rm' (e1.trans (e2.trans (e3.trans ev')))⟩
      · exact t3.elim
end
end
end Z

namespace Z
open PySem PySem.Spec PyProof.Rows L2

section
variable (K : PySem.W.Frag) (M0 : MH) (H0 : Hp)
structure WK (J : It) (items : List D) (M : MH) (H : Hp) : Prop where
  size : items.length ≤ sizeLine
  turn : ∀ M2 H2, Ev M H M2 H2 → RM K M2 H2 → ∀ i d, items[i]? = some d → J.go i H2 ∧ ∀ x H3, J.yld i H2 x H3 → Rp K M2 H3 d x ∧ RM K M2 H3 ∧ Ev M2 H2 M2 H3
  stop : ∀ M2 H2, Ev M H M2 H2 → RM K M2 H2 → J.stop items.length H2
def LI (t : TL3) : TI := fun σ H R => ∃ e M Q3, RS K M H e σ ∧ RM K M H ∧ Ev M0 H0 M H ∧ t e M Q3 ∧ ∀ items M' H' J, Q3 items M' → WK K J items M' H' → RM K M' H' → Ev M H M' H' → R J H'
end
def charsD (x : Str) : List D := x.cps.toList.map fun c => D.str ⟨#[c]⟩
def itemsA (d : D) : Option (List D) := match d with
  | .tp _ ds => some ds
  | .lst ds => some ds
  | .flst ds => some ds
  | .str x => if x.length ≤ sizeLine then some (charsD x) else none
  | _ => none
def iter3 (te : T3) : TL3 := fun e M Q => te e M fun d M1 => match itemsA d with | some ds => Q ds M1 | none => False
def rngD : Int → Nat → List D
  | _, 0 => []
  | lo, n + 1 => .int lo :: rngD (lo + 1) n
theorem rngD_len : ∀ (lo : Int) (n : Nat), (rngD lo n).length = n
  | _, 0 => rfl
  | lo, n + 1 => by show (rngD (lo + 1) n).length + 1 = n + 1; rw [rngD_len]
theorem rngD_get : ∀ (lo : Int) (n i : Nat), i < n → (rngD lo n)[i]? = some (.int (lo + i))
  | _, 0, _, h => by omega
  | lo, n + 1, 0, _ => by simp [rngD]
  | lo, n + 1, i + 1, h => by
    show (rngD (lo + 1) n)[i]? = _
    rw [rngD_get (lo + 1) n i (by omega)]
    congr 2
    omega
def rng1A : TL3 → TL3 := fun ta e M Q => ta e M fun ds M1 => match ds with
  | [.int j] => (-16777216 ≤ j ∧ j ≤ 16777216) ∧ Q (rngD 0 j.toNat) M1
  | _ => False
def rng2A : TL3 → TL3 := fun ta e M Q => ta e M fun ds M1 => match ds with
  | [.int i, .int j] => (-16777216 ≤ i ∧ i ≤ 16777216 ∧ -16777216 ≤ j ∧ j ≤ 16777216 ∧ j - i ≤ 16777216) ∧ Q (rngD i (j - i).toNat) M1
  | _ => False
def enumD : Nat → List D → List D
  | _, [] => []
  | i, d :: r => .tup [.int i, d] :: enumD (i + 1) r
theorem enumD_len : ∀ (i : Nat) (ds : List D), (enumD i ds).length = ds.length
  | _, [] => rfl
  | i, d :: r => by simp [enumD, enumD_len (i + 1) r]
theorem enumD_get : ∀ (i : Nat) (ds : List D) (j : Nat) (z : D), (enumD i ds)[j]? = some z → ∃ d, ds[j]? = some d ∧ z = .tup [.int ((i + j : Nat) : Int), d]
  | i, [], j, z, h => by simp [enumD] at h
  | i, d :: r, 0, z, h => by
    have h : D.tup [.int (i : Nat), d] = z := by simpa [enumD] using h
    exact ⟨d, rfl, by rw [← h]; rfl⟩
  | i, d :: r, j + 1, z, h => by
    obtain ⟨e, h1, h2⟩ := enumD_get (i + 1) r j z (by simpa [enumD] using h)
    refine ⟨e, by simpa using h1, ?_⟩
    rw [h2]
    have : i + 1 + j = i + (j + 1) := by omega
    rw [this]
def enumA : TL3 → TL3 := fun ta e M Q => ta e M fun ds M1 => match ds with
  | [d] => match exL M1 d with
    | some ds => (match d with | .ref _ => False | _ => True) ∧ ds.length ≤ sizeLine ∧ Q (enumD 0 ds) M1
    | none => False
  | _ => False
section
variable {K : PySem.W.Frag} {M0 : MH} {H0 : Hp} {X : Cx} {tg l : Expr} {te : T3} {tl : TL3}
/-- an iterator over a list that is read -/
theorem pie_list {pins : List (Addr × Obj)} {σ : L2.St} {H : Hp} {s : Shared} {R : It → Hp → Prop} {E : Value → Shared → Prop} {a : Addr} {xs : List V} (I : Inv X pins σ H s) (h : SqL X.K H a xs) (q : xs.length ≤ sizeLine → R (Itl X.K a) H) :
    wpAny (model X.prog X.w) X.A (pyIter (.ref a)) (PIE X pins σ tg R) E s := by
  obtain ⟨its, rv, p, hz⟩ := I.list h
  refine wpAny_pyIter_list p.isList ⟨s.heap.objs.size, [s.heap.objs.size], _, _, H, rfl, I.kept (t' := s.toks) fun b o e => Heap.get?_push_of_some _ e, turn_list a _, ⟨_, Heap.get?_push_size _ rfl, rfl, rfl⟩, fun b hb => ?_, q hz⟩
  rw [List.mem_singleton] at hb
  rw [hb]
  exact I.fpOk (Nat.le_refl _) (I.hok.fresh (Nat.le_refl _))
theorem pie_tup {pins : List (Addr × Obj)} {σ : L2.St} {H : Hp} {s : Shared} {R : It → Hp → Prop} {E : Value → Shared → Prop} {a : Addr} {xs : List V} (I : Inv X pins σ H s) (h : SqT X.K H a xs) (q : xs.length ≤ sizeLine → R (Itt X.K a) H) :
    wpAny (model X.prog X.w) X.A (pyIter (.ref a)) (PIE X pins σ tg R) E s := by
  obtain ⟨its, rv, p, hz⟩ := I.tuple h
  refine wpAny_pyIter_tuple (show s.heap.IsTuple a its.toArray from p) ⟨s.heap.objs.size, [s.heap.objs.size], _, _, H, rfl, I.kept (t' := s.toks) fun b o e => Heap.get?_push_of_some _ e, turn_tuple a _, ⟨_, Heap.get?_push_size _ rfl, rfl, rfl⟩, fun b hb => ?_, q hz⟩
  rw [List.mem_singleton] at hb
  rw [hb]
  exact I.fpOk (Nat.le_refl _) (I.hok.fresh (Nat.le_refl _))
theorem pie_str {pins : List (Addr × Obj)} {σ : L2.St} {H : Hp} {s : Shared} {R : It → Hp → Prop} {E : Value → Shared → Prop} {x : Str} {t : Tok} (I : Inv X pins σ H s) (q : R (Its x) H) :
    wpAny (model X.prog X.w) X.A (pyIter (.str x t)) (PIE X pins σ tg R) E s := by
  cases ha : x.cps.all (· < 128)
  · exact wpAny_pyIter_wide ha (pi_one (tk := s.toks) I _ (turn_str _ x t "str_iterator" (.inr rfl)) ⟨_, Heap.get?_push_size _ rfl, rfl, rfl⟩ q)
  · exact wpAny_pyIter_ascii ha (pi_one (tk := s.toks) I _ (turn_str _ x t "str_ascii_iterator" (.inl rfl)) ⟨_, Heap.get?_push_size _ rfl, rfl, rfl⟩ q)
theorem wk_list {a : Addr} {vs : List V} {ds : List D} {M : MH} {H : Hp} (hz : ds.length ≤ sizeLine) (h : ∀ M2 H2, Ev M H M2 H2 → SqL K H2 a vs) (r : RpL K M H ds vs) : WK K (Itl K a) ds M H where
  size := hz
  turn := fun M2 H2 ev rm i d e => by
    obtain ⟨v, g1, g2⟩ := r.get e
    refine ⟨⟨vs, v, h M2 H2 ev, g1⟩, fun x H3 ⟨e1, e2⟩ => ?_⟩
    subst e1
    have := e2 vs (h M2 _ ev)
    rw [g1] at this
    cases this
    exact ⟨Rp.ev ev _ _ g2, rm, Ev.refl _ _⟩
  stop := fun M2 H2 ev rm => ⟨vs, h M2 H2 ev, by rw [r.length]; exact Nat.le_refl _⟩
theorem wk_tup {a : Addr} {vs : List V} {ds : List D} {M : MH} {H : Hp} (hz : ds.length ≤ sizeLine) (h : ∀ M2 H2, Ev M H M2 H2 → SqT K H2 a vs) (r : RpL K M H ds vs) : WK K (Itt K a) ds M H where
  size := hz
  turn := fun M2 H2 ev rm i d e => by
    obtain ⟨v, g1, g2⟩ := r.get e
    refine ⟨⟨vs, v, h M2 H2 ev, g1⟩, fun x H3 ⟨e1, e2⟩ => ?_⟩
    subst e1
    have := e2 vs (h M2 _ ev)
    rw [g1] at this
    cases this
    exact ⟨Rp.ev ev _ _ g2, rm, Ev.refl _ _⟩
  stop := fun M2 H2 ev rm => ⟨vs, h M2 H2 ev, by rw [r.length]; exact Nat.le_refl _⟩
theorem wk_str {x : Str} {M : MH} {H : Hp} (hz : x.length ≤ sizeLine) : WK K (Its x) (charsD x) M H where
  size := by
    unfold charsD
    rw [List.length_map]
    exact hz
  turn := fun M2 H2 ev rm i d e => by
    unfold charsD at e
    rw [List.getElem?_map] at e
    cases q : x.cps.toList[i]? with
    | none => rw [q] at e; cases e
    | some c =>
      rw [q] at e
      have e : D.str ⟨#[c]⟩ = d := by simpa using e
      subst e
      have hc : x.cps[i]? = some c := by simpa using q
      refine ⟨(Array.getElem?_eq_some_iff.mp hc).1, fun y H3 ⟨e1, c', e2, e3⟩ => ?_⟩
      subst e1
      rw [hc] at e2
      cases e2
      exact ⟨e3, rm, Ev.refl _ _⟩
  stop := fun M2 H2 ev rm => by
    show x.cps.size ≤ (charsD x).length
    unfold charsD
    rw [List.length_map]
    exact Nat.le_of_eq (by simp)
theorem wk_rng {lo : Int} {n : Nat} {M : MH} {H : Hp} (hz : n ≤ sizeLine) : WK K (Itr lo n) (rngD lo n) M H where
  size := by rw [rngD_len]; exact hz
  turn := fun M2 H2 ev rm i d e => by
    have hi : i < n := by
      have := (List.getElem?_eq_some_iff.mp e).1
      rw [rngD_len] at this
      exact this
    rw [rngD_get lo n i hi] at e
    cases e
    refine ⟨hi, fun y H3 ⟨e1, e2⟩ => ?_⟩
    subst e1
    exact ⟨e2, rm, Ev.refl _ _⟩
  stop := fun M2 H2 ev rm => by rw [rngD_len]; exact Nat.le_refl n
theorem wk_enum {a : Addr} {vs : List V} {ds : List D} {M : MH} {H : Hp} (hz : ds.length ≤ sizeLine) (h : ∀ M2 H2, Ev M H M2 H2 → SqL K H2 a vs) (r : RpL K M H ds vs) : WK K (Ite K a) (enumD 0 ds) M H where
  size := by rw [enumD_len]; exact hz
  turn := fun M2 H2 ev rm i z e => by
    obtain ⟨d, e1, e2⟩ := enumD_get 0 ds i z e
    obtain ⟨v, g1, g2⟩ := r.get e1
    refine ⟨⟨vs, v, h M2 H2 ev, g1⟩, fun x H3 ⟨T, y, e3, e4, e5, e6⟩ => ?_⟩
    subst e3 e5 e2
    have := e6 vs (h M2 _ ev)
    rw [g1] at this
    cases this
    refine ⟨?_, rm.new e4, Ev.new e4⟩
    have i0 : ((0 + i : Nat) : Int) = (i : Nat) := by omega
    rw [i0]
    exact Rp.tupNew rm e4 ⟨_, _, rfl, rfl, RpL.one (Rp.ev ev _ _ g2)⟩
  stop := fun M2 H2 ev rm => ⟨vs, h M2 H2 ev, by rw [enumD_len, r.length]; exact Nat.le_refl _⟩
theorem z_iter (hK : X.K = K) (hl : PE X l (LE K M0 H0 te)) : PI X tg l (LI K M0 H0 (iter3 te)) := by
  subst hK
  refine ⟨fun pins s σ H R I ⟨en, M, P, rs, rm, ev, t, c⟩ => ?_⟩
  refine thn (hl.run pins s σ H (fun x H1 => ∃ d M1, Rp X.K M1 H1 d x ∧ RM X.K M1 H1 ∧ Ev M H M1 H1 ∧ match itemsA d with | some ds => P ds M1 | none => False) I
    (LE.then rs rm ev t fun d M1 v1 H1 t1 r1 rs1 rm1 ev1 e1 => ⟨d, M1, r1, rm1, e1, t1⟩)) fun u s1 ⟨x, H1, I1, ru, d, M1, rd, rm1, e1, t1⟩ => ?_
  cases d with
  | tp k ds =>
    obtain ⟨a, vs, h1, h2, h3⟩ := rd
    subst h1
    cases ru
    exact pie_tup I1 h2.sq fun hz => c ds M1 H1 _ t1 (wk_tup (by rw [← h3.length]; exact hz) (fun M2 H2 e2 => (h2.ev e2).sq) h3) rm1 e1
  | lst ds =>
    obtain ⟨a, vs, h1, h2, h3, h4⟩ := rd
    subst h1
    cases ru
    exact pie_list I1 (.inl (.inl h3)) fun hz => c ds M1 H1 _ t1 (wk_list (by rw [← h4.length]; exact hz) (fun M2 H2 e2 => .inl (.inl (e2 _ _ h3 h2).1)) h4) rm1 e1
  | flst ds =>
    obtain ⟨a, vs, h1, h2, h3⟩ := rd
    subst h1
    cases ru
    exact pie_list I1 h2.sq fun hz => c ds M1 H1 _ t1 (wk_list (by rw [← h3.length]; exact hz) (fun M2 H2 e2 => (h2.ev e2).sq) h3) rm1 e1
  | str x =>
    obtain ⟨t', rfl⟩ := rp_str rd ▸ ru
    dsimp only [itemsA] at t1
    by_cases hz : x.length ≤ sizeLine
    · rw [if_pos hz] at t1
      exact pie_str I1 (c _ M1 H1 _ t1 (wk_str hz) rm1 e1)
    · rw [if_neg hz] at t1
      exact t1.elim
  | _ => exact t1.elim
theorem z_irng1 {a : Expr} {p pos : Pos} (hg : Gl X "range") (hm : X.mg "range" = none) (ha : PA X [a] (LA K M0 H0 tl)) (hs : starEach [a] X.env = [(false, eval a X.env)]) : PI X tg (.Call (.Name "range" p) [a] [] pos) (LI K M0 H0 (rng1A tl)) :=
  (pi_range1 hg hm ha hs).imp fun σ H R ⟨en, M, P, rs, rm, ev, t, c⟩ => LA.then rs rm ev t fun ds M1 vs H1 t1 r1 rs1 rm1 ev1 e1 => by
    split at t1
    · rename_i j
      obtain ⟨v, w, h1, h2, h3⟩ := r1
      have h3 : w = [] := h3
      subst h3 h1
      obtain ⟨⟨j0, j1⟩, j2⟩ := t1
      exact ⟨j, by rw [rp_int h2], by omega, by omega, c _ M1 H1 _ j2 (wk_rng (by rw [sizeLine_eq]; omega)) rm1 e1⟩
    · exact t1.elim
theorem z_irng2 {a b : Expr} {p pos : Pos} (hg : Gl X "range") (hm : X.mg "range" = none) (ha : PA X [a, b] (LA K M0 H0 tl)) (hs : starEach [a, b] X.env = [(false, eval a X.env), (false, eval b X.env)]) (hs2 : starEach [b] X.env = [(false, eval b X.env)]) :
    PI X tg (.Call (.Name "range" p) [a, b] [] pos) (LI K M0 H0 (rng2A tl)) :=
  (pi_range2 hg hm ha hs hs2).imp fun σ H R ⟨en, M, P, rs, rm, ev, t, c⟩ => LA.then rs rm ev t fun ds M1 vs H1 t1 r1 rs1 rm1 ev1 e1 => by
    split at t1
    · rename_i i j
      obtain ⟨v, w, h1, h2, h3⟩ := r1
      obtain ⟨v', w', g1, g2, g3⟩ := h3
      have g3 : w' = [] := g3
      subst g3 g1 h1
      obtain ⟨⟨j0, j1, j2, j3, j4⟩, t1⟩ := t1
      refine ⟨i, j, by rw [rp_int h2, rp_int g2], ⟨by omega, by omega, by omega, by omega⟩, c _ M1 H1 _ t1 (wk_rng (by rw [sizeLine_eq]; omega)) rm1 e1⟩
    · exact t1.elim
theorem z_ienum {e : Expr} {p pos tpos : Pos} {elts : List Expr} {kk : Nat} (hK : X.K = K) (hg : Gl X "enumerate") (hm : X.mg "enumerate" = none) (ha : PA X [e] (LA K M0 H0 tl)) (hs : starEach [e] X.env = [(false, eval e X.env)]) :
    PI X (.Tuple elts kk tpos) (.Call (.Name "enumerate" p) [e] [] pos) (LI K M0 H0 (enumA tl)) := by
  subst hK
  exact (pi_enum hg hm ha hs).imp fun σ H R ⟨en, M, P, rs, rm, ev, t, c⟩ => LA.then rs rm ev t fun ds M1 vs H1 t1 r1 rs1 rm1 ev1 e1 => by
    split at t1
    · rename_i d
      obtain ⟨v, w, h1, h2, h3⟩ := r1
      have h3 : w = [] := h3
      subst h3 h1
      split at t1
      · rename_i ds e2
        obtain ⟨t2, tz, t1⟩ := t1
        cases d with
        | lst es =>
          have e2 : es = ds := by simpa [exL] using e2
          subst e2
          obtain ⟨a, vs, h1, h2, h3, h4⟩ := h2
          subst h1
          exact ⟨a, vs, rfl, .inl (.inl h3), c _ M1 H1 _ t1 (wk_enum tz (fun M2 H2 e2 => .inl (.inl (e2 _ _ h3 h2).1)) h4) rm1 e1⟩
        | ref a => exact t2.elim
        | _ => simp [exL] at e2
      · exact t1.elim
    · exact t1.elim
/-! ### for -/
/-- the turns of a for, one after another -/
def turns3 (tg : Tg) (body : TS3) (Z : Ends3) : List D → En → MH → Prop
  | [], e, M => Z.nx e M
  | x :: r, e, M => match bindT tg x e with
    | some e1 => body { nx := turns3 tg body Z r, rt := Z.rt, bk := Z.nx, ct := turns3 tg body Z r } e1 M
    | none => False
def for3 (it : TL3) (tg : Tg) (body : TS3) : TS3 := fun D e M => it e M fun items M1 => turns3 tg body D items e M1
theorem z_for {iter : Expr} {tgE : Expr} {bodyE : List Stmt} {it : TL3} {tg : Tg} {body : TS3} {pos : Pos} (hp : PassesOwn (model X.prog X.w) X.A X.env X.xe) (hc : X.calm = true) (hi : PI X tgE iter (LI K M0 H0 it)) (hg : PG X tgE (gOf K tg)) (hb : PSs X bodyE (LS K M0 H0 body))
    (hs : ∀ x, foldedSetIterable iter X.env x = pure x) : PS X (.For tgE iter bodyE [] pos) (LS K M0 H0 (for3 it tg body)) :=
  (ps_for hp hc hi hg hb hs).imp fun D σ H ⟨en, M, D3, rs, rm, ev, t, c⟩ => by
    refine ⟨en, M, _, rs, rm, ev, t, fun items M1 H1 J t1 wk rm1 e1 => ?_⟩
    have rs1 := rs.ev e1
    refine ⟨fun i m σ H => m = items.length - i ∧ i ≤ items.length ∧ ∃ e M', RS K M' H e σ ∧ RM K M' H ∧ Ev M1 H1 M' H ∧ turns3 tg body D3 (items.drop i) e M', ⟨items.length, by simp, Nat.zero_le _, en, M1, rs1, rm1, Ev.refl _ _, by simpa using t1⟩, ?_⟩
    rintro i m σ2 H2 ⟨rfl, hi2, e2, M2, rs2, rm2, ev2, t2⟩
    by_cases hlt : i < items.length
    · have hd : items.drop i = items[i] :: items.drop (i + 1) := List.drop_eq_getElem_cons hlt
      obtain ⟨go, yl⟩ := wk.turn M2 H2 ev2 rm2 i items[i] (List.getElem?_eq_getElem hlt)
      refine .inr ⟨go, fun σ' H' => i + 1 ≤ items.length ∧ ∃ e M', RS K M' H' e σ' ∧ RM K M' H' ∧ Ev M1 H1 M' H' ∧ turns3 tg body D3 (items.drop (i + 1)) e M', fun σ' H' ⟨q1, q2⟩ => ⟨items.length - (i + 1), by omega, rfl, q1, q2⟩, fun x H3 y => ?_⟩
      obtain ⟨rx, rm3, ev3⟩ := yl x H3 y
      rw [hd] at t2
      dsimp only [turns3] at t2
      split at t2
      · rename_i e4 eb
        refine gOf_ok eb rx (rs2.ev ev3) fun vs rs4 => ?_
        refine ⟨e4, M2, _, rs4, rm3, ev.trans (e1.trans (ev2.trans ev3)), t2, ?_, ?_, ?_, ?_⟩
        · exact fun e' M' σ' H' q r m ev4 => ⟨hlt, e', M', r, m, ev2.trans (ev3.trans ev4), q⟩
        · exact c.rt.from (e1.trans (ev2.trans ev3))
        · exact c.nx.from (e1.trans (ev2.trans ev3))
        · exact fun e' M' σ' H' q r m ev4 => ⟨hlt, e', M', r, m, ev2.trans (ev3.trans ev4), q⟩
      · exact t2.elim
    · have e : i = items.length := by omega
      subst e
      refine .inl ⟨wk.stop M2 H2 ev2 rm2, ?_⟩
      rw [List.drop_length] at t2
      exact c.nx e2 M2 σ2 H2 t2 rs2 rm2 (e1.trans ev2)
/-! ### while -/
def whileN (c : TB3) (body : TS3) (D : Ends3) : Nat → En → MH → Prop
  | 0, _, _ => False
  | n + 1, e, M => c e M fun b M1 => match b with
    | true => body { nx := whileN c body D n, rt := D.rt, bk := D.nx, ct := whileN c body D n } e M1
    | false => D.nx e M1
def while3 (c : TB3) (body : TS3) : TS3 := fun D e M => ∃ n, whileN c body D n e M
theorem z_while {test : Expr} {bodyE : List Stmt} {c : TB3} {body : TS3} {pos : Pos} (hp : PassesOwn (model X.prog X.w) X.A X.env X.xe) (hc : PT X test (LT K M0 H0 c)) (hb : PSs X bodyE (LS K M0 H0 body)) : PS X (.While test bodyE [] pos) (LS K M0 H0 (while3 c body)) :=
  (ps_while hp hc hb).imp fun D σ H ⟨en, M, D3, rs, rm, ev, ⟨n, t⟩, cv⟩ => by
    refine ⟨fun m σ2 H2 => ∃ e2 M2, RS K M2 H2 e2 σ2 ∧ RM K M2 H2 ∧ Ev M H M2 H2 ∧ whileN c body D3 m e2 M2, ⟨n, en, M, rs, rm, Ev.refl _ _, t⟩, ?_⟩
    rintro m σ2 H2 ⟨e2, M2, rs2, rm2, ev2, t2⟩
    cases m with
    | zero => exact t2.elim
    | succ m =>
      refine LT.then rs2 rm2 (ev.trans ev2) t2 fun b M3 H3 t3 rs3 rm3 ev3 e3 => ?_
      cases b with
      | true =>
        rw [if_pos rfl]
        refine ⟨fun σ' H' => ∃ e' M', RS K M' H' e' σ' ∧ RM K M' H' ∧ Ev M H M' H' ∧ whileN c body D3 m e' M', fun σ' H' q => ⟨m, Nat.lt_succ_self m, q⟩, ?_⟩
        refine ⟨e2, M3, _, rs3, rm3, ev3, t3, ?_, ?_, ?_, ?_⟩
        · exact fun e' M' σ' H' q r m' ev4 => ⟨e', M', r, m', ev2.trans (e3.trans ev4), q⟩
        · exact cv.rt.from (ev2.trans e3)
        · exact cv.nx.from (ev2.trans e3)
        · exact fun e' M' σ' H' q r m' ev4 => ⟨e', M', r, m', ev2.trans (e3.trans ev4), q⟩
      | false =>
        rw [if_neg Bool.false_ne_true]
        exact cv.nx e2 M3 σ2 H3 t3 rs3 rm3 (ev2.trans e3)
/-! ### [elt for tg in it if tt] -/
def compW (tg : Tg) (tt : TB3) (te : T3) (e : En) (p : Addr) (Q : List D → MH → Prop) : List D → List D → MH → Prop
  | [], acc, M => M p = some (.lst acc) ∧ Q acc M
  | x :: r, acc, M => match bindT tg x e with
    | some e1 => tt e1 M fun b M2 => match b with
      | true => te e1 M2 fun y M3 => M3 p = some (.lst acc) ∧ compW tg tt te e p Q r (acc ++ [y]) (up M3 p (.lst (acc ++ [y])))
      | false => compW tg tt te e p Q r acc M2
    | none => False
def comp3 (m : Bool) (it : TL3) (tg : Tg) (tt : TB3) (te : T3) (own : List Nat) : T3 := fun e M Q => it e M fun items M1 => ∀ p, M1 p = none →
  compW tg tt te (wipeE e own) p (fun acc M2 => match m with | true => Q (.ref p) M2 | false => Q (.lst acc) (er M2 p)) items [] (up M1 p (.lst []))
def yes3 : TB3 := fun _ M Q => Q true M
theorem z_tnil : PTs X [] (LT K M0 H0 yes3) := ⟨fun pins s σ H Q I ⟨en, M, P, rs, rm, ev, t, c⟩ => pts_nil.run pins s σ H Q I (c true M H t rm (Ev.refl _ _))⟩
theorem z_tone {c : Expr} {t : TB3} (h : PT X c (LT K M0 H0 t)) : PTs X [c] (LT K M0 H0 t) := pts_one h
theorem Rp.lstEr {M : MH} {H : Hp} {p : Addr} {vs : List V} {ds : List D} (h : H p = some (.lst vs)) (r : RpL K M H ds vs) : Rp K (er M p) H (.lst ds) (.ref p) :=
  ⟨p, vs, rfl, er_none, h, RpL.ev (Ev.sub Sub.er) _ _ r⟩
theorem lcomp {m : Bool} {it : TL3} {tg : Tg} {tt : TB3} {te : T3} {own : List (Str × Nat)} {σ : L2.St} {H : Hp} {Q : VK} (hsub : ∀ i ∈ tg.slots, i ∈ own.map (·.2)) (h : LE K M0 H0 (comp3 m it tg tt te (own.map (·.2))) σ H Q) :
    tLc (LI K M0 H0 it) (gOf K tg) (LT K M0 H0 tt) (LE K M0 H0 te) (own.map (·.2)) σ H Q := by
  obtain ⟨en, M, P, rs, rm, ev, t, c⟩ := h
  refine ⟨en, M, _, rs, rm, ev, t, fun items M1 H1 J t1 wk rm1 e1 p hp => ?_⟩
  have mp : M1 p = none := rm1.free hp
  have rs1 := (rs.ev e1).wipe (own.map (·.2))
  have t2 := t1 p mp
  refine ⟨fun i n H => n = items.length - i ∧ i ≤ items.length ∧ ∃ M' acc, RM K M' H ∧ Ev M1 H1 M' H ∧ acc.length ≤ i ∧ compW tg tt te (wipeE en (own.map (·.2))) p (fun acc M2 => match m with | true => P (.ref p) M2 | false => P (.lst acc) (er M2 p)) (items.drop i) acc M',
    ⟨items.length, by simp, Nat.zero_le _, up M1 p (.lst []), [], rm1.newM hp ⟨[], upd_same, rfl⟩, Ev.newM hp, Nat.le_refl _, by simpa using t2⟩, ?_⟩
  rintro i n H2 ⟨rfl, hi2, M2, acc, rm2, ev2, hacc, t2⟩
  by_cases hlt : i < items.length
  · have hd : items.drop i = items[i] :: items.drop (i + 1) := List.drop_eq_getElem_cons hlt
    obtain ⟨go, yl⟩ := wk.turn M2 H2 ev2 rm2 i items[i] (List.getElem?_eq_getElem hlt)
    refine .inr ⟨go, fun H' => i + 1 ≤ items.length ∧ ∃ M' acc, RM K M' H' ∧ Ev M1 H1 M' H' ∧ acc.length ≤ i + 1 ∧ compW tg tt te (wipeE en (own.map (·.2))) p (fun acc M2 => match m with | true => P (.ref p) M2 | false => P (.lst acc) (er M2 p)) (items.drop (i + 1)) acc M',
      fun H' ⟨q1, q2⟩ => ⟨items.length - (i + 1), by omega, rfl, q1, q2⟩, fun x H3 y => ?_⟩
    obtain ⟨rx, rm3, ev3⟩ := yl x H3 y
    rw [hd] at t2
    dsimp only [compW] at t2
    split at t2
    · rename_i e4 eb
      refine gOf_ok eb rx ((rs1.ev ev2).ev ev3) fun vs rs4 => ?_
      refine ⟨?_, ?_⟩
      · rw [wipe_setV _ _ _ hsub, wipe_wipe]
      · refine LT.then rs4 rm3 (ev.trans (e1.trans (ev2.trans ev3))) t2 fun b M5 H5 t5 rs5 rm5 ev5 e5 => ?_
        cases b with
        | true =>
          rw [if_pos rfl]
          refine LE.then rs5 rm5 ev5 t5 fun y M6 v6 H6 ⟨q6, t6⟩ r6 rs6 rm6 ev6 e6 => ?_
          obtain ⟨ws, w1, w2⟩ := rm6 p _ q6
          have hl := w2.length
          have sz := wk.size
          refine ⟨ws, w1, by omega, hlt, _, acc ++ [y], rm6.wr (o := .lst (acc ++ [y])) q6 ⟨_, upd_same, RpL.ev (Ev.wr q6) _ _ (w2.append (RpL.one r6))⟩, ev2.trans (ev3.trans (e5.trans (e6.trans (Ev.wr q6)))), by rw [List.length_append]; simp; omega, t6⟩
        | false =>
          rw [if_neg Bool.false_ne_true]
          exact ⟨hlt, M5, acc, rm5, ev2.trans (ev3.trans e5), by omega, t5⟩
    · exact t2.elim
  · have e : i = items.length := by omega
    subst e
    refine .inl ⟨wk.stop M2 H2 ev2 rm2, ?_⟩
    rw [List.drop_length] at t2
    obtain ⟨q2, t2⟩ := t2
    obtain ⟨ws, w1, w2⟩ := rm2 p _ q2
    cases m with
    | true => exact c (.ref p) M2 _ H2 t2 rfl rm2 (e1.trans ev2)
    | false => exact c (.lst acc) _ _ H2 t2 (Rp.lstEr w1 w2) (rm2.sub Sub.er) (e1.trans (ev2.trans (Ev.sub Sub.er)))
end
end Z

namespace Z
open PySem PySem.Spec PyProof.Rows L2

/-! ### methods -/
inductive Mt where
  | append | extend | get | setdefault | index | indexT | join | split | startswith
  deriving DecidableEq
def Mt.name : Mt → String
  | .append => "append" | .extend => "extend" | .get => "get" | .setdefault => "setdefault" | .index => "index" | .indexT => "index" | .join => "join" | .split => "split" | .startswith => "startswith"
def strsOf : List D → Option (List Str)
  | [] => some []
  | .str x :: r => match strsOf r with | some l => some (x :: l) | none => none
  | _ => none
theorem strsOf_eq : ∀ {ds : List D} {ns : List Str}, strsOf ds = some ns → ds = ns.map D.str
  | [], ns, h => by
    have h : [] = ns := by simpa [strsOf] using h
    subst h; rfl
  | d :: ds, ns, h => by
    cases d with
    | str i =>
      dsimp only [strsOf] at h
      split at h
      · rename_i l e
        obtain rfl := Option.some.inj h
        rw [strsOf_eq e]; rfl
      · cases h
    | _ => simp [strsOf] at h
@[simp] theorem strsOf_map (ns : List Str) : strsOf (ns.map D.str) = some ns := by
  induction ns with
  | nil => rfl
  | cons a r ih => simp only [List.map_cons, strsOf, ih]
theorem strs_v {K : PySem.W.Frag} {M : MH} {H : Hp} : ∀ {ns : List Str} {vs : List V}, RpL K M H (ns.map D.str) vs → vs = ns.map V.str
  | [], vs, h => h
  | n :: ns, vs, h => by
    obtain ⟨v, r, h1, h2, h3⟩ := h
    subst h1
    rw [rp_str h2, strs_v h3]; rfl
theorem strs_rp {K : PySem.W.Frag} {M : MH} {H : Hp} : ∀ (ns : List Str), RpL K M H (ns.map D.str) (ns.map V.str)
  | [] => rfl
  | n :: ns => ⟨_, _, rfl, rfl, strs_rp ns⟩
/-- the place of the first text that is this one -/
def findS (x : Str) : List Str → Nat → Option Nat
  | [], _ => none
  | y :: r, n => if y = x then some n else findS x r (n + 1)
theorem findS_ok {x : Str} : ∀ {ys : List Str} {n j : Nat}, findS x ys n = some j → n ≤ j ∧ ys[j - n]? = some x ∧ ∀ m, m < j - n → ys[m]? ≠ some x
  | [], _, _, h => by simp [findS] at h
  | y :: r, n, j, h => by
    unfold findS at h
    by_cases e : y = x
    · rw [if_pos e] at h
      obtain rfl := Option.some.inj h
      exact ⟨Nat.le_refl _, by simp [e], fun m hm => by omega⟩
    · rw [if_neg e] at h
      obtain ⟨h1, h2, h3⟩ := findS_ok h
      obtain ⟨k, rfl⟩ : ∃ k, j = n + 1 + k := ⟨j - (n + 1), by omega⟩
      have e1 : n + 1 + k - n = k + 1 := by omega
      have e2 : n + 1 + k - (n + 1) = k := by omega
      rw [e2] at h2 h3
      rw [e1]
      refine ⟨by omega, by simpa using h2, fun m hm => ?_⟩
      cases m with
      | zero => simpa using e
      | succ m => simpa using h3 m (by omega)
/-- the place of the first item that is == -/
def findD (x : D) : List D → Nat → Option Nat
  | [], _ => none
  | y :: r, n => if eqv y x = true then some n else findD x r (n + 1)
theorem findD_ok {x : D} : ∀ {ys : List D} {n j : Nat}, findD x ys n = some j → n ≤ j ∧ (∃ y, ys[j - n]? = some y ∧ eqv y x = true) ∧ ∀ m y, m < j - n → ys[m]? = some y → eqv y x = false
  | [], _, _, h => by simp [findD] at h
  | y :: r, n, j, h => by
    unfold findD at h
    by_cases e : eqv y x = true
    · rw [if_pos e] at h
      obtain rfl := Option.some.inj h
      exact ⟨Nat.le_refl _, ⟨y, by simp, e⟩, fun m y hm => by omega⟩
    · rw [if_neg e] at h
      obtain ⟨h1, ⟨z, h2, h2'⟩, h3⟩ := findD_ok h
      obtain ⟨k, rfl⟩ : ∃ k, j = n + 1 + k := ⟨j - (n + 1), by omega⟩
      have e1 : n + 1 + k - n = k + 1 := by omega
      have e2 : n + 1 + k - (n + 1) = k := by omega
      rw [e2] at h2 h3
      rw [e1]
      refine ⟨by omega, ⟨z, by simpa using h2, h2'⟩, fun m y' hm hy => ?_⟩
      cases m with
      | zero =>
        have : y = y' := by simpa using hy
        subst this
        simpa using e
      | succ m => exact h3 m y' (by omega) (by simpa using hy)
/-- what a method gives, and the heap behind it -/
def mthA (m : Mt) (M : MH) (o : D) (as : List D) : Option (D × MH) := match m with
  | .append => match o, as with
    | .ref a, [x] => match M a with
      | some (.lst ds) => if ds.length < sizeLine then some (.non, up M a (.lst (ds ++ [x]))) else none
      | _ => none
    | _, _ => none
  | .extend => match o, as with
    | .ref a, [x] => match M a with
      | some (.lst ds) => match exL M x with
        | some es => if ds.length + es.length ≤ sizeLine then some (.non, up M a (.lst (ds ++ es))) else none
        | none => none
      | _ => none
    | _, _ => none
  | .get => match as with
    | [k, z] => match dfind M o k with
      | some r => some (r.getD z, M)
      | none => none
    | _ => none
  | .setdefault => match o, as with
    | .ref a, [k, z] => match M a, keyK k with
      | some (.dK kvs), some k => if kvs.length < sizeLine then (match valD kvs k with
        | some v => some (v, M)
        | none => some (z, up M a (.dK (putD kvs k z)))) else none
      | _, _ => none
    | _, _ => none
  | .index => match as with
    | [x] => match exL M o with
      | some ds => if lay 59 x && layL 59 ds then (match findD x ds 0 with | some j => some (.int j, M) | none => none) else none
      | none => none
    | _ => none
  | .indexT => match o, as with
    | .tp .k ds, [.str x] => match strsOf ds with
      | some ys => match findS x ys 0 with | some j => some (.int j, M) | none => none
      | none => none
    | _, _ => none
  | .join => match o, as with
    | .str z, [x] => match seqM M x with
      | some ds => match strsOf ds with
        | some ys => if (ys.map (·.length)).sum + ys.length * z.length ≤ 16777216 then some (.str (Txt.join z ys), M) else none
        | none => none
      | none => none
    | _, _ => none
  | .split => match o, as with
    | .str a, [.str b] => if (b.length == 0) = false ∧ a.length + 2 ≤ sizeLine then some (.lst ((Txt.split a b).map D.str), M) else none
    | _, _ => none
  | .startswith => match o, as with
    | .str a, [.str b] => some (.bl (Txt.startswith a b), M)
    | _, _ => none
def isStrD : D → Bool
  | .str _ => true
  | _ => false
def isTk : D → Bool
  | .tp .k _ => true
  | _ => false
/-- the receiver is of the method's type -/
def tyOk (m : Mt) (M : MH) (o : D) : Bool := match m with
  | .append | .extend | .index => (exL M o).isSome
  | .get | .setdefault => (asK M o).isSome || (asD M o).isSome
  | .indexT => isTk o
  | .join | .split | .startswith => isStrD o
def Mt.ty : Mt → String
  | .append | .extend | .index => "list"
  | .get | .setdefault => "dict"
  | .indexT => "tuple"
  | .join | .split | .startswith => "str"
def Mt.id : Mt → String
  | .append => "list.append" | .extend => "list.extend" | .index => "list.index" | .get => "dict.get" | .setdefault => "dict.setdefault" | .indexT => "tuple.index" | .join => "str.join" | .split => "str.split" | .startswith => "str.startswith"
def LMt (K : PySem.W.Frag) (m : Mt) : V → List V → Hp → VK → Prop := fun x xs H Q => ∃ o as M r M', Rp K M H o x ∧ RpL K M H as xs ∧ RM K M H ∧ mthA m M o as = some (r, M') ∧ ∀ v H', Rp K M' H' r v → RM K M' H' → Ev M H M' H' → Q v H'
section
variable {X : Cx}
theorem rpl1 {K : PySem.W.Frag} {M : MH} {H : Hp} {d : D} {xs : List V} (h : RpL K M H [d] xs) : ∃ x, xs = [x] ∧ Rp K M H d x := by
  obtain ⟨v, w, h1, h2, h3⟩ := h
  have h3 : w = [] := h3
  subst h3
  exact ⟨v, h1, h2⟩
theorem rpl2 {K : PySem.W.Frag} {M : MH} {H : Hp} {d e : D} {xs : List V} (h : RpL K M H [d, e] xs) : ∃ x y, xs = [x, y] ∧ Rp K M H d x ∧ Rp K M H e y := by
  obtain ⟨v, w, h1, h2, h3⟩ := h
  obtain ⟨y, hy, h4⟩ := rpl1 h3
  subst hy
  exact ⟨v, y, h1, h2, h4⟩
theorem zm_append : MtR X "list.append" (LMt X.K .append) := by
  intro pins s σ H x xs v us Q I rx rs ⟨o, as, M, r, M', r1, r2, rm, e, q⟩
  dsimp only [mthA] at e
  split at e
  · rename_i a y
    split at e
    · rename_i ds em
      split at e
      · rename_i hz
        obtain ⟨rfl, rfl⟩ := Prod.mk.inj (Option.some.inj e)
        obtain ⟨vs, g1, g2⟩ := rm a _ em
        obtain ⟨w, rfl, rw'⟩ := rpl1 r2
        exact mt_append pins s σ H x [w] v us Q I rx rs ⟨a, vs, w, r1, rfl, g1, by rw [g2.length]; exact hz,
          q _ _ rfl (rm.wr (o := .lst (ds ++ [y])) em ⟨_, upd_same, RpL.ev (Ev.wr em) _ _ (g2.append (RpL.one rw'))⟩) (Ev.wr em)⟩
      · cases e
    · cases e
  · cases e
theorem zm_extend : MtR X "list.extend" (LMt X.K .extend) := by
  intro pins s σ H x xs v us Q I rx rs ⟨o, as, M, r, M', r1, r2, rm, e, q⟩
  dsimp only [mthA] at e
  split at e
  · rename_i a y
    split at e
    · rename_i ds em
      split at e
      · rename_i es ee
        split at e
        · rename_i hz
          obtain ⟨rfl, rfl⟩ := Prod.mk.inj (Option.some.inj e)
          obtain ⟨vs, g1, g2⟩ := rm a _ em
          obtain ⟨w, rfl, rw'⟩ := rpl1 r2
          obtain ⟨b, ws, k1, k2, k3⟩ := exL_sq rm ee rw'
          exact mt_extend pins s σ H x [w] v us Q I rx rs ⟨a, b, vs, ws, r1, by rw [k1], g1, k2, by rw [g2.length, k3.length]; exact hz,
            q _ _ rfl (rm.wr (o := .lst (ds ++ es)) em ⟨_, upd_same, RpL.ev (Ev.wr em) _ _ (g2.append k3)⟩) (Ev.wr em)⟩
        · cases e
      · cases e
    · cases e
  · cases e
theorem zm_get (hu : X.A.units + 1 < cLine) : MtR X "dict.get" (LMt X.K .get) := by
  intro pins s σ H x xs v us Q I rx rs ⟨o, as, M, r, M', r1, r2, rm, e, q⟩
  dsimp only [mthA] at e
  split at e
  · rename_i k z
    split at e
    · rename_i ov ed
      obtain ⟨rfl, rfl⟩ := Prod.mk.inj (Option.some.inj e)
      obtain ⟨kv, zv, rfl, rk, rz⟩ := rpl2 r2
      obtain ⟨u1, u2, rfl, s1, s2⟩ := rs.two
      obtain ⟨a, rr, h1, h2, h3⟩ := dfind_h rm ed r1 rk
      subst h1
      cases rx
      refine d_get2 hu I h2 s1 s2 fun w' s' I' rw' => ⟨_, H, I', rw', q _ _ ?_ rm (Ev.refl _ _)⟩
      rcases h3 with ⟨g1, g2⟩ | ⟨d', v', g1, g2, g3⟩
      · rw [g1, g2]; exact rz
      · rw [g1, g2]; exact g3
    · cases e
  · cases e
theorem zm_setdefault : MtR X "dict.setdefault" (LMt X.K .setdefault) := by
  intro pins s σ H x xs v us Q I rx rs ⟨o, as, M, r, M', r1, r2, rm, e, q⟩
  dsimp only [mthA] at e
  split at e
  · rename_i a k z
    have r1 : x = .ref a := r1
    subst r1
    cases rx
    split at e
    · rename_i kvs k' em ek
      obtain ⟨kv, zv, rfl, rk, rz⟩ := rpl2 r2
      obtain ⟨u1, u2, rfl, s1, s2⟩ := rs.two
      have hk := keyK_v ek rk
      subst hk
      obtain ⟨vs, g1, g2⟩ := rm a _ em
      split at e
      · rename_i hz
        refine d_setd I g1 s1 s2 (by rw [List.length_zip, List.length_map]; omega) (fun v' hv w' s' I' rw' => ⟨_, H, I', rw', ?_⟩) (fun hn w' s' I' rw' => ⟨_, _, I', rw', ?_⟩)
        · rcases val_rp (k := k') g2 with ⟨n1, n2⟩ | ⟨d', v2, n1, n2, n3⟩
          · rw [n2] at hv; cases hv
          · rw [n2] at hv
            cases hv
            rw [n1] at e
            obtain ⟨rfl, rfl⟩ := Prod.mk.inj (Option.some.inj e)
            exact q _ _ n3 rm (Ev.refl _ _)
        · rcases val_rp (k := k') g2 with ⟨n1, n2⟩ | ⟨d', v2, n1, n2, n3⟩
          · rw [n1] at e
            obtain ⟨rfl, rfl⟩ := Prod.mk.inj (Option.some.inj e)
            obtain ⟨ws, w1, w2⟩ := put_rp (k := k') rz g2
            refine q _ _ (Rp.ev (Ev.wr em) _ _ rz) (rm.wr em ⟨ws, ?_, RpL.ev (Ev.wr em) _ _ w2⟩) (Ev.wr em)
            rw [upd_same, w1]
          · rw [n2] at hn; cases hn
      · cases e
    · cases e
  · cases e
theorem zm_join : MtR X "str.join" (LMt X.K .join) := by
  intro pins s σ H x xs v us Q I rx rs ⟨o, as, M, r, M', r1, r2, rm, e, q⟩
  dsimp only [mthA] at e
  split at e
  · rename_i z y
    split at e
    · rename_i ds e1
      split at e
      · rename_i ys e2
        split at e
        · rename_i hz
          obtain ⟨rfl, rfl⟩ := Prod.mk.inj (Option.some.inj e)
          obtain ⟨w, rfl, rw'⟩ := rpl1 r2
          obtain ⟨a, vs, h1, h2, h3⟩ := seqM_sq rm e1 rw'
          rw [strsOf_eq e2] at h3
          rw [strs_v h3] at h2
          exact mt_join pins s σ H x [w] v us Q I rx rs ⟨z, a, ys, r1, by rw [h1], h2, hz, q _ _ rfl rm (Ev.refl _ _)⟩
        · cases e
      · cases e
    · cases e
  · cases e
theorem zm_split : MtR X "str.split" (LMt X.K .split) := by
  intro pins s σ H x xs v us Q I rx rs ⟨o, as, M, r, M', r1, r2, rm, e, q⟩
  dsimp only [mthA] at e
  split at e
  · rename_i a b
    split at e
    · rename_i hz
      obtain ⟨rfl, rfl⟩ := Prod.mk.inj (Option.some.inj e)
      obtain ⟨w, rfl, rw'⟩ := rpl1 r2
      exact mt_split pins s σ H x [w] v us Q I rx rs ⟨a, b, r1, by rw [rp_str rw'], hz.1, hz.2, fun p hp => q _ _ (Rp.lstNew rm hp (strs_rp _)) (rm.new hp) (Ev.new hp)⟩
    · cases e
  · cases e
theorem zm_startswith : MtR X "str.startswith" (LMt X.K .startswith) := by
  intro pins s σ H x xs v us Q I rx rs ⟨o, as, M, r, M', r1, r2, rm, e, q⟩
  dsimp only [mthA] at e
  split at e
  · rename_i a b
    obtain ⟨rfl, rfl⟩ := Prod.mk.inj (Option.some.inj e)
    obtain ⟨w, rfl, rw'⟩ := rpl1 r2
    exact mt_startswith pins s σ H x [w] v us Q I rx rs ⟨a, b, r1, by rw [rp_str rw'], q _ _ rfl rm (Ev.refl _ _)⟩
  · cases e
theorem zm_indexT : MtR X "tuple.index" (LMt X.K .indexT) := by
  intro pins s σ H x xs v us Q I rx rs ⟨o, as, M, r, M', r1, r2, rm, e, q⟩
  dsimp only [mthA] at e
  split at e
  · rename_i ds z
    split at e
    · rename_i ys e1
      split at e
      · rename_i j e2
        obtain ⟨rfl, rfl⟩ := Prod.mk.inj (Option.some.inj e)
        obtain ⟨w, rfl, rw'⟩ := rpl1 r2
        obtain ⟨a, vs, h1, h2, h3⟩ := r1
        rw [strsOf_eq e1] at h3
        rw [strs_v h3] at h2
        obtain ⟨f1, f2, f3⟩ := findS_ok e2
        exact mt_tup_index pins s σ H x [w] v us Q I rx rs ⟨a, ys, z, j, h1, by rw [rp_str rw'], h2.sq, f2, f3, q _ _ rfl rm (Ev.refl _ _)⟩
      · cases e
    · cases e
  · cases e
theorem toPyL_at : ∀ {ds : List D} {j : Nat} {d : D}, ds[j]? = some d → (toPyL ds)[j]? = some (toPy d)
  | [], _, _, h => by simp at h
  | _ :: _, 0, _, h => by
    have h := Option.some.inj h
    subst h
    rfl
  | _ :: ds, j + 1, d, h => toPyL_at (ds := ds) (j := j) (by simpa using h)
theorem zm_index (hu : X.A.units + 65 < cLine) : MtR X "list.index" (LMt X.K .index) := by
  intro pins s σ H x xs v us Q I rx rs ⟨o, as, M, r, M', r1, r2, rm, e, q⟩
  dsimp only [mthA] at e
  split at e
  · rename_i z
    split at e
    · rename_i ds e1
      split at e
      · rename_i hl
        split at e
        · rename_i j e2
          obtain ⟨rfl, rfl⟩ := Prod.mk.inj (Option.some.inj e)
          rw [Bool.and_eq_true] at hl
          obtain ⟨w, rfl, rw'⟩ := rpl1 r2
          obtain ⟨a, vs, h1, h2, h3⟩ := exL_sq rm e1 r1
          obtain ⟨f1, ⟨y, f2, f2'⟩, f3⟩ := findD_ok e2
          have s1 : SeqAt.shaped (.list (toPyL ds)) = true := shaped_of_lay (d := .lst ds) (by simpa [lay] using hl.2)
          have s2 : SeqAt.shaped (toPy z) = true := by
            obtain ⟨p1, p2⟩ := lay_py 59 z hl.1
            unfold SeqAt.shaped
            rw [p1, decide_eq_true (by omega)]; rfl
          refine mt_indexD hu pins s σ H x [w] v us Q I rx rs ⟨a, w, toPy z, toPyL ds, j, toPy y, h1, rfl, .lst (.inl (.inl h2)) (RpL.dp 59 ds vs h3 (pdL_lay _ _ hl.2)), Rp.dp 59 z w rw' (pd_lay _ _ hl.1), s1, s2, toPyL_at f2, by rw [← eqv_py]; exact f2', fun m z' hm hz' => ?_, q _ _ rfl rm (Ev.refl _ _)⟩
          obtain ⟨d', k1, k2⟩ := toPyL_get hz'
          rw [← k2, ← eqv_py]
          exact f3 m d' hm k1
        · cases e
      · cases e
    · cases e
  · cases e
theorem zm_all (hu : X.A.units + 100 < cLine) (m : Mt) : MtR X m.id (LMt X.K m) := by
  cases m with
  | append => exact zm_append
  | extend => exact zm_extend
  | get => exact zm_get (by omega)
  | setdefault => exact zm_setdefault
  | index => exact zm_index (by omega)
  | indexT => exact zm_indexT
  | join => exact zm_join
  | split => exact zm_split
  | startswith => exact zm_startswith
/-- the receiver's type, as the call of a method asks for it -/
theorem tyOk_is {pins : List (Addr × Obj)} {σ : L2.St} {H : Hp} {s : Shared} {M : MH} {m : Mt} {o : D} {x : V} {v : Value} (I : Inv X pins σ H s) (rx : RelV x v) (rm : RM X.K M H) (r : Rp X.K M H o x) (h : tyOk m M o = true) :
    s.TypeIs v m.ty ∧ ∀ a, v = .ref a → ∃ ob, s.heap.get? a = some ob ∧ ob.dict = none := by
  have lst : (exL M o).isSome = true → s.TypeIs v "list" ∧ ∀ a, v = .ref a → ∃ ob, s.heap.get? a = some ob ∧ ob.dict = none := fun h => by
    cases e : exL M o with
    | none => rw [e] at h; cases h
    | some ds =>
      obtain ⟨a, vs, h1, h2, h3⟩ := exL_sq rm e r
      subst h1
      exact tyV_is I rx (T := "list") (.inl ⟨rfl, vs, .inl (.inl h2)⟩)
  have dct : ((asK M o).isSome || (asD M o).isSome) = true → s.TypeIs v "dict" ∧ ∀ a, v = .ref a → ∃ ob, s.heap.get? a = some ob ∧ ob.dict = none := fun h => by
    rw [Bool.or_eq_true] at h
    rcases h with h | h
    · cases e : asK M o with
      | none => rw [e] at h; cases h
      | some ds =>
        obtain ⟨a, vs, h1, h2, h3⟩ := asK_h rm e r
        subst h1
        exact tyV_is I rx (T := "dict") (.inr (.inr (.inl ⟨rfl, .inl ⟨_, h2⟩⟩)))
    · cases e : asD M o with
      | none => rw [e] at h; cases h
      | some ds =>
        obtain ⟨a, vs, h1, h2, h3⟩ := asD_h rm e r
        subst h1
        exact tyV_is I rx (T := "dict") (.inr (.inr (.inl ⟨rfl, .inr ⟨_, h2⟩⟩)))
  have str : isStrD o = true → s.TypeIs v "str" ∧ ∀ a, v = .ref a → ∃ ob, s.heap.get? a = some ob ∧ ob.dict = none := fun h => by
    cases o with
    | str z =>
      have r := rp_str r
      subst r
      exact tyV_is I rx (T := "str") rfl
    | _ => cases h
  cases m with
  | append => exact lst h
  | extend => exact lst h
  | index => exact lst h
  | get => exact dct h
  | setdefault => exact dct h
  | join => exact str h
  | split => exact str h
  | startswith => exact str h
  | indexT =>
    cases o with
    | tp k ds =>
      cases k with
      | k =>
        obtain ⟨a, vs, h1, ⟨ob, h2, h3, h4⟩, h5⟩ := r
        subst h1
        cases rx
        obtain ⟨e1, _, its, rv, ob', e2, e3, _⟩ := I.hok a _ h3
        rw [e1] at e2
        cases e2
        refine ⟨⟨ob, e1, e3⟩, fun b e => ?_⟩
        cases e
        exact ⟨ob, e1, h4⟩
      | _ => cases h
    | _ => cases h
def mth3 (m : Mt) (to : T3) (t : TL3) : T3 := fun e M Q => to e M fun o M1 => tyOk m M1 o = true ∧ t e M1 fun as M2 => match mthA m M2 o as with | some (r, M3) => Q r M3 | none => False
theorem z_mth {K : PySem.W.Frag} {M0 : MH} {H0 : Hp} {m : Mt} {o e : Expr} {es : List Expr} {to : T3} {t : TL3} {apos cpos : Pos} (hK : X.K = K) (pa : PlainAttrs m.ty) (slot : Slot m.ty (Str.ofString m.name) m.id) (hty : typeOf (.builtin m.id) = pure (.type "method_descriptor")) (hm : MtR X m.id (LMt X.K m))
    (ho : PE X o (LE K M0 H0 to)) (ha : PA X (e :: es) (LA K M0 H0 t))
    (hbase : attributeBase o (Str.ofString m.name) X.env (eval o X.env) = eval o X.env)
    (hfew : ((backTo cpos (starEach (e :: es) X.env)).all (fun x => !x.1) && (backToKw cpos (keywordEach [] X.env)).all (fun x => x.1.isSome)
      && decide ((e :: es).length + ([] : List Keyword).length + (if ([] : List Keyword).isEmpty then 0 else 1) < 30)) = true)
    (hline : (apos.endLine == cpos.line) = true) (hs : starEach (e :: es) X.env = (false, eval e X.env) :: starEach es X.env) (hplain : (backTo cpos (starEach es X.env)).any (·.1) = false) :
    PE X (.Call (.Attribute o (Str.ofString m.name) apos) (e :: es) [] cpos) (LE K M0 H0 (mth3 m to t)) := by
  subst hK
  refine ⟨fun pins s σ H Q I ⟨en, M, P, rs, rm, ev, tt, c⟩ => ?_⟩
  refine wpAny_Call_method_late hbase hfew hline rfl (thn (ho.run pins s σ H (fun x H1 => ∃ d M1, Rp X.K M1 H1 d x ∧ RS X.K M1 H1 en σ ∧ RM X.K M1 H1 ∧ Ev M0 H0 M1 H1 ∧ Ev M H M1 H1 ∧ tyOk m M1 d = true ∧ t en M1 fun as M2 => match mthA m M2 d as with | some (r, M3) => P r M3 | none => False) I
    (LE.then rs rm ev tt fun d M1 v1 H1 t1 r1 rs1 rm1 ev1 e1 => ⟨d, M1, r1, rs1, rm1, ev1, e1, t1.1, t1.2⟩)) fun v s1 ⟨x, H1, I1, rx, d, M1, rd, rs1, rm1, ev1, e1, ty, t1⟩ => ?_)
  obtain ⟨h1, h2⟩ := tyOk_is I1 rx rm1 rd ty
  refine ⟨m.ty, m.id, pa, slot, hty, h1, h2, ?_⟩
  have hA := ha.run cpos pins s1 σ H1 (fun vs H2 => ∃ as M2, RpL X.K M2 H2 as vs ∧ RM X.K M2 H2 ∧ Ev M1 H1 M2 H2 ∧ match mthA m M2 d as with | some (r, M3) => P r M3 | none => False) I1
    (LA.then rs1 rm1 ev1 t1 fun as M2 vs H2 t2 r2 rs2 rm2 ev2 e2 => ⟨as, M2, r2, rm2, e2, t2⟩)
  rw [hs] at hA ⊢
  refine Calls.callWith_builtin (by show (false || (backTo cpos (starEach es X.env)).any (·.1)) = false; rw [hplain]; rfl) (Calls.evalArgs_plain ?_)
  refine thn hA fun us s2 ⟨vs, H2, I2, rv, as, M2, r2, rm2, e2, t2⟩ => ?_
  split at t2
  · rename_i r M3 em
    exact hm pins s2 σ H2 x vs v us Q I2 rx rv ⟨d, as, M2, r, M3, Rp.ev e2 _ _ rd, r2, rm2, em, fun w H' rw' rm' ev' => c r M3 w H' t2 rw' rm' (e1.trans (e2.trans ev'))⟩
  · exact t2.elim
end
end Z

namespace Z
open PySem PySem.Spec PyProof.Rows L2

/-! ### slices -/
abbrev TO3 := En → MH → (Option Int → MH → Prop) → Prop
def noP3 : TO3 := fun _ M Q => Q none M
def part3 (t : T3) : TO3 := fun e M Q => t e M fun d M1 => match d with | .int i => Q (some i) M1 | _ => False
def cutD {α : Type} (xs : List α) (lo hi : Option Int) : List α := (xs.drop (HT.sIx xs.length 0 lo)).take (HT.sIx xs.length xs.length hi - HT.sIx xs.length 0 lo)
def slA (M : MH) (x : D) (lo hi : Option Int) : Option D := match x with
  | .str z => if z.length ≤ sizeLine then some (.str (cutS z lo hi)) else none
  | .tp .t ds => some (.tup (cutD ds lo hi))
  | x => match asL M x with
    | some ds => some (.lst (cutD ds lo hi))
    | none => none
def sl3 (te : T3) (tl th : TO3) : T3 := fun e M Q => te e M fun x M1 => tl e M1 fun lo M2 => th e M2 fun hi M3 => match slA M3 x lo hi with | some d => Q d M3 | none => False
section
variable {K : PySem.W.Frag} {M0 : MH} {H0 : Hp} {X : Cx}
def LO (K : PySem.W.Frag) (M0 : MH) (H0 : Hp) (t : TO3) : TO := fun σ H Q => ∃ e M Q3, RS K M H e σ ∧ RM K M H ∧ Ev M0 H0 M H ∧ t e M Q3 ∧ ∀ o M' H', Q3 o M' → RM K M' H' → Ev M H M' H' → Q o H'
theorem LO.then {t : TO3} {σ : L2.St} {e : En} {M : MH} {H : Hp} {P : Option Int → MH → Prop} {Q : Option Int → Hp → Prop} (rs : RS K M H e σ) (rm : RM K M H) (ev : Ev M0 H0 M H) (h : t e M P)
    (f : ∀ d M1 H1, P d M1 → RS K M1 H1 e σ → RM K M1 H1 → Ev M0 H0 M1 H1 → Ev M H M1 H1 → Q d H1) : LO K M0 H0 t σ H Q :=
  ⟨e, M, P, rs, rm, ev, h, fun d M1 H1 q m e1 => f d M1 H1 q (rs.ev e1) m (ev.trans e1) e1⟩
theorem _root_.L2.PO.imp {e : Option Expr} {t t' : TO} (h : PO X e t) (f : ∀ σ H Q, t' σ H Q → t σ H Q) : PO X e t' := ⟨fun pins s σ H Q I q => h.run pins s σ H Q I (f _ _ _ q)⟩
theorem z_pnone : PO X none (LO K M0 H0 noP3) := po_none.imp fun σ H Q ⟨en, M, P, rs, rm, ev, t, c⟩ => c none M H t rm (Ev.refl _ _)
theorem z_psome {e : Expr} {te : T3} (h : PE X e (LE K M0 H0 te)) : PO X (some e) (LO K M0 H0 (part3 te)) := (po_some h).imp fun σ H Q ⟨en, M, P, rs, rm, ev, t, c⟩ =>
  LE.then rs rm ev t fun d M1 v1 H1 t1 r1 rs1 rm1 ev1 e1 => by
    cases d with
    | int i => exact ⟨i, r1, c (some i) M1 H1 t1 rm1 e1⟩
    | _ => exact t1.elim
theorem RpL.cut {M : MH} {H : Hp} {ds : List D} {vs : List V} (h : RpL K M H ds vs) (lo hi : Option Int) : RpL K M H (cutD ds lo hi) (cutV vs lo hi) := by
  unfold cutD cutV
  rw [h.length]
  exact (h.drop _).take _
theorem sl_all : SlR X (fun x lo hi H Q => rSlS x lo hi H Q ∨ rSlA X.K x lo hi H Q ∨ rSlL X.K x lo hi H Q) := SlR.or sl_str (SlR.or sl_tupA sl_list)
theorem z_sl {e : Expr} {lo hi : Option Expr} {te : T3} {tl th : TO3} {p2 pos : Pos} (hK : X.K = K) (he : PE X e (LE K M0 H0 te)) (hl : PO X lo (LO K M0 H0 tl)) (hh : PO X hi (LO K M0 H0 th)) : PE X (.Subscript e (.Slice lo hi none p2) pos) (LE K M0 H0 (sl3 te tl th)) := by
  subst hK
  exact (pe_slice sl_all he hl hh).imp fun σ H Q ⟨en, M, P, rs, rm, ev, t, c⟩ => LE.then rs rm ev t fun x M1 v1 H1 t1 r1 rs1 rm1 ev1 e1 =>
    LO.then rs1 rm1 ev1 t1 fun l M2 H2 t2 rs2 rm2 ev2 e2 => LO.then rs2 rm2 ev2 t2 fun u M3 H3 t3 rs3 rm3 ev3 e3 => by
      have r3 := Rp.ev (e2.trans e3) _ _ r1
      have ce := c.from (e1.trans (e2.trans e3))
      split at t3
      · rename_i d ed
        unfold slA at ed
        split at ed
        · split at ed
          · rename_i z hz
            obtain rfl := Option.some.inj ed
            exact .inl ⟨z, r3, hz, ce.now rm3 t3 rfl⟩
          · cases ed
        · rename_i ds
          obtain rfl := Option.some.inj ed
          obtain ⟨a, vs, h1, ⟨h2, h3⟩, h4⟩ := r3
          refine .inr (.inl ⟨a, vs, h1, .inl (.inl h3), fun hw => ?_, fun _ p hp => ce _ M3 _ _ t3 (Rp.tupNew rm3 hp (h4.cut l u)) (rm3.new hp) (Ev.new hp)⟩)
          refine ce.now rm3 t3 ⟨a, vs, rfl, ⟨h2, h3⟩, ?_⟩
          have : cutV vs l u = vs := by
            unfold cutV
            rw [hw.1, hw.2, List.drop_zero, Nat.sub_zero, List.take_length]
          rw [← this]
          exact h4.cut l u
        · split at ed
          · rename_i ds e1
            obtain rfl := Option.some.inj ed
            obtain ⟨a, vs, h1, h2, h3⟩ := asL_sq rm3 e1 r3
            exact .inr (.inr ⟨a, vs, h1, h2, fun p hp => ce _ M3 _ _ t3 (Rp.lstNew rm3 hp (h3.cut l u)) (rm3.new hp) (Ev.new hp)⟩)
          · cases ed
      · exact t3.elim
/-- xs[::-1] -/
def rev3 : O1 := fun x M Q => match asL M x with | some ds => Q (.lst ds.reverse) M | none => False
theorem z_rev {e : Expr} {te : T3} {k : Nat} {p1 p2 p3 pos : Pos} (hK : X.K = K) (he : PE X e (LE K M0 H0 te)) : PE X (.Subscript e (.Slice none none (some (.UnaryOp .USub (.Constant (.int 1) k p1) p2)) p3) pos) (LE K M0 H0 (op1 rev3 te)) := by
  subst hK
  exact (pe_revL he).imp fun σ H Q ⟨en, M, P, rs, rm, ev, t, c⟩ => LE.then rs rm ev t fun x M1 v1 H1 t1 r1 rs1 rm1 ev1 e1 => by
    unfold rev3 at t1
    split at t1
    · rename_i ds e2
      obtain ⟨a, vs, h1, h2, h3⟩ := asL_sq rm1 e2 r1
      exact ⟨a, vs, h1, h2, fun p hp => (c.from e1) _ M1 _ _ t1 (Rp.lstNew rm1 hp h3.reverse) (rm1.new hp) (Ev.new hp)⟩
    · exact t1.elim
/-! ### truth -/
def truA (M : MH) (d : D) : Option Bool := match d with
  | .non => some false
  | .bl b => some b
  | .int i => some (i != 0)
  | .str y => if y.length ≤ sizeLine then some ((y.length : Int) != 0) else none
  | d => match seqM M d with
    | some ds => some (!ds.isEmpty)
    | none => match asK M d with
      | some kvs => some (!kvs.isEmpty)
      | none => none
def tru3 (te : T3) : TB3 := fun e M Q => te e M fun d M1 => match truA M1 d with | some b => Q b M1 | none => False
theorem z_truth {a : Expr} {ta : T3} (hK : X.K = K) (ha : PE X a (LE K M0 H0 ta)) (he : ∀ whole, isTrue a X.env whole = (do let v ← whole; standAt a.pos; holding [v] (truthy v))) : PT X a (LT K M0 H0 (tru3 ta)) := by
  subst hK
  exact (pt_truth ha he).imp fun σ H Q ⟨en, M, P, rs, rm, ev, t, c⟩ => LE.then rs rm ev t fun d M1 v1 H1 t1 r1 rs1 rm1 ev1 e1 => by
    split at t1
    · rename_i b eb
      refine ⟨b, ?_, c b M1 H1 t1 rm1 e1⟩
      unfold truA at eb
      split at eb
      · obtain rfl := Option.some.inj eb
        have r1 := show v1 = _ from r1
        subst r1; rfl
      · obtain rfl := Option.some.inj eb
        have r1 := show v1 = _ from r1
        subst r1; rfl
      · obtain rfl := Option.some.inj eb
        have r1 := show v1 = _ from r1
        subst r1; rfl
      · split at eb
        · rename_i hz
          obtain rfl := Option.some.inj eb
          have r1 := show v1 = _ from r1
          subst r1
          exact ⟨hz, rfl⟩
        · cases eb
      · split at eb
        · rename_i ds e2
          obtain rfl := Option.some.inj eb
          obtain ⟨a, vs, h1, h2, h3⟩ := seqM_sq rm1 e2 r1
          subst h1
          have hl := h3.length
          have hb : (!ds.isEmpty) = !vs.isEmpty := by
            cases ds <;> cases vs <;> first | rfl | (simp at hl)
          rcases h2 with h2 | h2
          · exact .inl ⟨vs, h2, hb⟩
          · exact .inr (.inl ⟨vs, h2, hb⟩)
        · split at eb
          · rename_i kvs e2
            obtain rfl := Option.some.inj eb
            obtain ⟨a, vs, h1, h2, h3⟩ := asK_h rm1 e2 r1
            subst h1
            have hl := h3.length
            refine .inr (.inr ⟨_, h2, ?_⟩)
            cases kvs with
            | nil => simp
            | cons p r =>
              cases vs with
              | nil => simp at hl
              | cons _ _ => rfl
          · cases eb
    · exact t1.elim
/-! ### dict displays -/
def pairs3 : List (T3 × T3) → En → MH → (List (D × D) → MH → Prop) → Prop
  | [], _, M, Q => Q [] M
  | (tk, tv) :: r, e, M, Q => tk e M fun k M1 => tv e M1 fun v M2 => pairs3 r e M2 fun ps M3 => Q ((k, v) :: ps) M3
def keysD : List (D × D) → Option (List (Key × D))
  | [] => some []
  | (k, v) :: r => match keyK k, keysD r with
    | some k, some r => some ((k, v) :: r)
    | _, _ => none
def mergeD (kvs more : List (Key × D)) : List (Key × D) := more.foldl (fun acc kv => putD acc kv.1 kv.2) kvs
def resK (m : Bool) (p : Addr) (kvs : List (Key × D)) (M : MH) (Q : Q3) : Prop := match m with
  | true => Q (.ref p) (up M p (.dK kvs))
  | false => Q (.dK (kvs.map (·.1)) (kvs.map (·.2))) (er M p)
def disp3 (m : Bool) (ps : List (T3 × T3)) : T3 := fun e M Q => ∀ p, M p = none → pairs3 ps e (up M p (.dK [])) fun ds M2 => M2 p = some (.dK []) ∧ match keysD ds with
  | some kvs => kvs.length ≤ 15 ∧ resK m p (mergeD [] kvs) M2 Q
  | none => False
def newK3 (m : Bool) : T3 := fun _ M Q => match m with
  | true => ∀ p, M p = none → Q (.ref p) (up M p (.dK []))
  | false => Q (.dK [] []) M
def newT3 : T3 := fun _ M Q => ∀ p, M p = none → Q (.ref p) (up M p (.dT []))
def LPs (K : PySem.W.Frag) (M0 : MH) (H0 : Hp) (ps : List (T3 × T3)) : List (TE × TE) := ps.map fun p => (LE K M0 H0 p.1, LE K M0 H0 p.2)
/-- pairs of data and of values -/
def RpP (K : PySem.W.Frag) (M : MH) (H : Hp) : List (D × D) → List (V × V) → Prop
  | [], vs => vs = []
  | (k, d) :: r, vs => ∃ x y w, vs = (x, y) :: w ∧ Rp K M H k x ∧ Rp K M H d y ∧ RpP K M H r w
theorem RpP.ev {M M' : MH} {H H' : Hp} (e : Ev M H M' H') : ∀ {ds : List (D × D)} {vs : List (V × V)}, RpP K M H ds vs → RpP K M' H' ds vs
  | [], _, h => h
  | (k, d) :: r, vs, ⟨x, y, w, h1, h2, h3, h4⟩ => ⟨x, y, w, h1, Rp.ev e _ _ h2, Rp.ev e _ _ h3, h4.ev e⟩
theorem pairs_ok : ∀ {ps : List (T3 × T3)} {σ : L2.St} {e : En} {M : MH} {H : Hp} {P : List (D × D) → MH → Prop} {Q : List (V × V) → Hp → Prop}, RS K M H e σ → RM K M H → Ev M0 H0 M H → pairs3 ps e M P →
    (∀ ds M1 vs H1, P ds M1 → RpP K M1 H1 ds vs → RM K M1 H1 → Ev M H M1 H1 → Q vs H1) → tPairs (LPs K M0 H0 ps) σ H Q
  | [], σ, e, M, H, P, Q, rs, rm, ev, t, c => c [] M [] H t rfl rm (Ev.refl _ _)
  | (tk, tv) :: r, σ, e, M, H, P, Q, rs, rm, ev, t, c => LE.then rs rm ev t fun k M1 v1 H1 t1 r1 rs1 rm1 ev1 e1 => LE.then rs1 rm1 ev1 t1 fun v M2 v2 H2 t2 r2 rs2 rm2 ev2 e2 =>
    pairs_ok rs2 rm2 ev2 t2 fun ds M3 vs H3 q r3 rm3 e3 => c _ M3 _ H3 q ⟨v1, v2, vs, rfl, Rp.ev (e2.trans e3) _ _ r1, Rp.ev e3 _ _ r2, r3⟩ rm3 (e1.trans (e2.trans e3))
theorem keysD_ok {M : MH} {H : Hp} : ∀ {ds : List (D × D)} {vs : List (V × V)} {kvs : List (Key × D)}, keysD ds = some kvs → RpP K M H ds vs → ∃ ws, vs = ((kvs.map (·.1)).zip ws).map (fun kv => (kV kv.1, kv.2)) ∧ RpL K M H (kvs.map (·.2)) ws
  | [], vs, kvs, h, r => by
    have r : vs = [] := r
    obtain rfl := Option.some.inj h
    subst r
    exact ⟨[], rfl, rfl⟩
  | (k, d) :: ds, vs, kvs, h, ⟨x, y, w, h1, h2, h3, h4⟩ => by
    dsimp only [keysD] at h
    split at h
    · rename_i k' r' e1 e2
      obtain rfl := Option.some.inj h
      obtain ⟨ws, g1, g2⟩ := keysD_ok e2 h4
      refine ⟨y :: ws, ?_, ⟨y, ws, rfl, h3, g2⟩⟩
      rw [h1, g1, keyK_v e1 h2]; rfl
    · cases h
theorem merge_ok {M : MH} {H : Hp} : ∀ {more kvs : List (Key × D)} {ws vs : List V}, RpL K M H (more.map (·.2)) ws → RpL K M H (kvs.map (·.2)) vs →
    ∃ us, mergeK ((kvs.map (·.1)).zip vs) ((more.map (·.1)).zip ws) = ((mergeD kvs more).map (·.1)).zip us ∧ RpL K M H ((mergeD kvs more).map (·.2)) us
  | [], kvs, ws, vs, r, q => ⟨vs, rfl, q⟩
  | p :: more, kvs, ws, vs, r, q => by
    obtain ⟨w, w', h1, h2, h3⟩ := r
    subst h1
    obtain ⟨us, g1, g2⟩ := put_rp (k := p.1) h2 q
    obtain ⟨us2, k1, k2⟩ := merge_ok (more := more) (kvs := putD kvs p.1 p.2) h3 g2
    refine ⟨us2, ?_, k2⟩
    show mergeK (putK ((kvs.map (·.1)).zip vs) p.1 w) ((more.map (·.1)).zip w') = _
    rw [g1]
    exact k1
theorem z_disp {keys : List (Option Expr)} {values : List Expr} {ps : List (T3 × T3)} {m : Bool} {pos : Pos} (h : PPs X pos keys values (LPs K M0 H0 ps)) (hall : keys.all (·.isSome) = true) (hl : keys.length = values.length) (h0 : keys ≠ []) (h15 : keys.length ≤ 15) :
    PE X (.Dict keys values pos) (LE K M0 H0 (disp3 m ps)) :=
  (pe_disp h hall hl h0 h15).imp fun σ H Q ⟨en, M, P, rs, rm, ev, t, c⟩ p hp => by
    have rm1 : RM K (up M p (.dK [])) (upd H p (.dK [])) := rm.newM hp ⟨[], upd_same, rfl⟩
    have e1 : Ev M H (up M p (.dK [])) (upd H p (.dK [])) := Ev.newM hp
    refine pairs_ok (rs.ev e1) rm1 (ev.trans e1) (t p (rm.free hp)) fun ds M2 vs H2 ⟨q1, q2⟩ r2 rm2 e2 => ?_
    obtain ⟨zs, z1, z2⟩ := rm2 p _ q1
    have z2 : zs = [] := z2
    subst z2
    refine ⟨z1, ?_⟩
    split at q2
    · rename_i kvs ek
      obtain ⟨q2, q3⟩ := q2
      obtain ⟨ws, w1, w2⟩ := keysD_ok ek r2
      obtain ⟨us, u1, u2⟩ := merge_ok (K := K) (M := M2) (H := H2) (kvs := []) (vs := []) w2 rfl
      refine ⟨(kvs.map (·.1)).zip ws, w1, ?_, ?_⟩
      · rw [List.length_zip, List.length_map]; omega
      · have u1 : mergeK [] ((kvs.map (·.1)).zip ws) = _ := u1
        rw [u1]
        have rmw : RM K (up M2 p (.dK (mergeD [] kvs))) (upd H2 p (.dK (((mergeD [] kvs).map (·.1)).zip us))) := rm2.wr q1 ⟨us, upd_same, RpL.ev (Ev.wr q1) _ _ u2⟩
        cases m with
        | true => exact c _ _ _ _ q3 rfl rmw (e1.trans (e2.trans (Ev.wr q1)))
        | false =>
          -- forget it first, then it is written: as one step
          have sb : Sub (er M2 p) (up M2 p (.dK (mergeD [] kvs))) := fun a o q => by
            unfold er at q
            by_cases z : a = p
            · rw [if_pos z] at q; cases q
            · rw [if_neg z] at q
              rw [up_ne z]; exact q
          refine c _ _ _ _ q3 ⟨p, us, rfl, er_none, upd_same, by simp, RpL.ev ((Ev.wr q1).trans (Ev.sub sb)) _ _ u2⟩ (rmw.sub sb) (e1.trans (e2.trans ((Ev.wr q1).trans (Ev.sub sb))))
    · exact q2.elim
theorem z_newK {m : Bool} {pos : Pos} : PE X (.Dict [] [] pos) (LE K M0 H0 (newK3 m)) := pe_dnewK.imp fun σ H Q ⟨en, M, P, rs, rm, ev, t, c⟩ p hp => by
  cases m with
  | true => exact c _ _ _ _ (t p (rm.free hp)) rfl (rm.newM hp ⟨[], upd_same, rfl⟩) (Ev.newM hp)
  | false => exact c _ M _ _ t ⟨p, [], rfl, rm.free hp, upd_same, rfl, rfl⟩ (rm.new hp) (Ev.new hp)
theorem z_newT {pos : Pos} : PE X (.Dict [] [] pos) (LE K M0 H0 newT3) := pe_dnewT.imp fun σ H Q ⟨en, M, P, rs, rm, ev, t, c⟩ p hp =>
  c _ _ _ _ (t p (rm.free hp)) rfl (rm.newM hp ⟨[], upd_same, rfl⟩) (Ev.newM hp)
/-! ### comprehensions as expressions -/
theorem z_lc {m : Bool} {elt tgE iter : Expr} {ifs : List Expr} {scope : Scope} {own : List (Str × Nat)} {it : TL3} {tg : Tg} {tt : TB3} {te : T3} {pos : Pos} (hc : X.calm = true) (hN : X.N.Nodup) (hi : PI X tgE iter (LI K M0 H0 it)) (ok : BlkOk X.N X.env.scope scope own) (hsub : ∀ i ∈ tg.slots, i ∈ own.map (·.2))
    (hg : ∀ (s : Shared) (H : Hp) (C : Addr) (cl : List (Str × Addr)) (fp : List Addr), PG (X.blk s H scope (compEnvC scope cl C X.env) fp) tgE (gOf K tg)) (ht : ∀ (s : Shared) (H : Hp) (C : Addr) (cl : List (Str × Addr)) (fp : List Addr), PTs (X.blk s H scope (compEnvC scope cl C X.env) fp) ifs (LT K M0 H0 tt))
    (he : ∀ (s : Shared) (H : Hp) (C : Addr) (cl : List (Str × Addr)) (fp : List Addr), PE (X.blk s H scope (compEnvC scope cl C X.env) fp) elt (LE K M0 H0 te)) (hs : ∀ x, foldedSetIterable iter X.env x = pure x) :
    PE X (.ListComp elt [⟨tgE, iter, ifs, 0⟩] scope pos) (LE K M0 H0 (comp3 m it tg tt te (own.map (·.2)))) :=
  (pe_lc hc hN hi ok hg ht he hs).imp fun _ _ _ h => lcomp hsub h
theorem z_setlc {m : Bool} {i : Nat} {y : Str} {py : Pos} {elt tgE iter : Expr} {ifs : List Expr} {scope : Scope} {own : List (Str × Nat)} {it : TL3} {tg : Tg} {tt : TB3} {te : T3} {pos spos : Pos} (hc : X.calm = true) (hN : X.N.Nodup) (hy : X.N[i]? = some y) (hyl : X.env.scope.names.lookup y = some .local)
    (hsw : swapsWith (.ListComp elt [⟨tgE, iter, ifs, 0⟩] scope pos) (some (.Name y py)) spos.line X.env = pure true) (hi : PI X tgE iter (LI K M0 H0 it)) (ok : BlkOk X.N X.env.scope scope own) (hsub : ∀ i ∈ tg.slots, i ∈ own.map (·.2))
    (hg : ∀ (s : Shared) (H : Hp) (C : Addr) (cl : List (Str × Addr)) (fp : List Addr), PG (X.blk s H scope (compEnvC scope cl C X.env) fp) tgE (gOf K tg)) (ht : ∀ (s : Shared) (H : Hp) (C : Addr) (cl : List (Str × Addr)) (fp : List Addr), PTs (X.blk s H scope (compEnvC scope cl C X.env) fp) ifs (LT K M0 H0 tt))
    (he : ∀ (s : Shared) (H : Hp) (C : Addr) (cl : List (Str × Addr)) (fp : List Addr), PE (X.blk s H scope (compEnvC scope cl C X.env) fp) elt (LE K M0 H0 te)) (hs : ∀ x, foldedSetIterable iter X.env x = pure x) :
    PS X (.Assign [.Name y py] (.ListComp elt [⟨tgE, iter, ifs, 0⟩] scope pos) spos) (LS K M0 H0 (asg3 (comp3 m it tg tt te (own.map (·.2))) (.nm i))) :=
  (ps_setLc hc hN hy hyl hsw hi ok hg ht he hs).imp fun D σ H ⟨en, M, D3, rs, rm, ev, t, c⟩ =>
    lcomp (m := m) (K := K) (M0 := M0) (H0 := H0) hsub ⟨en, M, _, rs, rm, ev, t, fun d M1 v1 H1 t1 r1 rm1 e1 => c.nx _ M1 _ H1 t1 ((rs.ev e1).set i r1) rm1 e1⟩
/-! ### x op= e -/
def aug3 (i : Nat) (te : T3) (o : O2) : TS3 := fun D e M => match getE e i with
  | some d => te e M fun d2 M1 => o d d2 M1 fun r M2 => D.nx (setE e i r) M2
  | none => False
def iadd3 : O2 := fun x y M Q => match x, y with
  | .int i, .int j => Q (.int (i + j)) M
  | .str a, .str b => a.length + b.length ≤ sizeLine ∧ Q (.str (a ++ b)) M
  | _, _ => False
def isub3 : O2 := fun x y M Q => match x, y with
  | .int i, .int j => Q (.int (i - j)) M
  | _, _ => False
theorem zi_add : OpR X (inplaceOp .Add) (LO2 X.K iadd3) := oimp (or2 iop_add iop_add_str) fun x y H Q ⟨d1, d2, M, Q3, r1, r2, rm, o, c⟩ => by
  unfold iadd3 at o
  split at o
  · exact .inl ⟨_, _, r1, r2, c.now rm o rfl⟩
  · exact .inr ⟨_, _, r1, r2, o.1, c.now rm o.2 rfl⟩
  · exact o.elim
theorem zi_sub : OpR X (inplaceOp .Sub) (LO2 X.K isub3) := oimp iop_sub fun x y H Q ⟨d1, d2, M, Q3, r1, r2, rm, o, c⟩ => by
  unfold isub3 at o
  split at o
  · exact ⟨_, _, r1, r2, c.now rm o rfl⟩
  · exact o.elim
theorem z_aug {i : Nat} {x : Str} {e : Expr} {te : T3} {op : Operator} {o : O2} {pos pos' : Pos} (hN : X.N.Nodup) (hi : X.N[i]? = some x) (hx : Loc X.env.scope x) (he : PE X e (LE K M0 H0 te)) (ho : OpR X (inplaceOp op) (LO2 K o)) (hf : X.fn x = true ∨ X.env.scope.names.lookup x = some .local) :
    PS X (.AugAssign (.Name x pos') op e pos) (LS K M0 H0 (aug3 i te o)) :=
  (ps_aug hN hi hx he (show PIp X op (LO2 K o) from ho) hf).imp fun D σ H ⟨en, M, D3, rs, rm, ev, t, c⟩ => by
    unfold aug3 at t
    split at t
    · rename_i d ed
      obtain ⟨v, h1, h2⟩ := rs.get i d ed
      refine ⟨v, h1, LE.then rs rm ev t fun d2 M1 v1 H1 t1 r1 rs1 rm1 ev1 e1 => ⟨d, d2, M1, _, Rp.ev e1 _ _ h2, r1, rm1, t1, fun r M2 w H2 t2 r2 rm2 e2 => ?_⟩⟩
      exact c.nx _ M2 _ H2 t2 ((rs1.ev e2).set i r2) rm2 (e1.trans e2)
    · exact t.elim
end
end Z

namespace Z
open PySem PySem.Spec PyProof.Rows L2

/-- an exception of an own class: its name, the argument that it keeps -/
structure Exc where
  cls : Str
  arg : Option D
abbrev X3 := Exc → MH → Prop
abbrev Sp3 := List D → MH → Q3 → X3 → Prop
/-- how an exception lies -/
abbrev XRel := Exc → Value → Option Addr → MH → Hp → Prop
def noX : X3 := fun _ _ => False
def CvX (K : PySem.W.Frag) (XR : XRel) (M : MH) (H : Hp) (E3 : X3) (E : XK) : Prop := ∀ x M' H' cls d, E3 x M' → XR x cls d M' H' → RM K M' H' → Ev M H M' H' → E cls d H'
theorem CvX.from {K : PySem.W.Frag} {XR : XRel} {M M1 : MH} {H H1 : Hp} {E3 : X3} {E : XK} (c : CvX K XR M H E3 E) (e : Ev M H M1 H1) : CvX K XR M1 H1 E3 E := fun x M' H' cls d h r m e2 => c x M' H' cls d h r m (e.trans e2)
def liftSp (K : PySem.W.Frag) (XR : XRel) (n : Nat) (sp : Sp3) : Sp := fun vs H Q E => ∃ ds M Q3 E3, ds.length = n ∧ RpL K M H ds vs ∧ RM K M H ∧ sp ds M Q3 E3 ∧ Cv K M H Q3 Q ∧ CvX K XR M H E3 E
theorem liftSp.len {K : PySem.W.Frag} {XR : XRel} {n : Nat} {sp : Sp3} {vs : List V} {H : Hp} {Q : VK} {E : XK} (h : liftSp K XR n sp vs H Q E) : vs.length = n := by
  obtain ⟨ds, M, Q3, E3, h1, h2, _⟩ := h
  rw [h2.length, h1]
/-- a def of the module that may be called -/
structure Cal (P : Program) (w : World) (K : PySem.W.Frag) (mg : Str → Option Value) (base : Heap) (XR : XRel) (k : Nat) (x : Str) (n : Nat) (sp : Sp3) : Prop where
  ex : ∃ (f : Addr) (fd : FuncData) (ps : List Str), FnOk P w K mg base (L2.CX P w) k f fd ps (liftSp K XR n sp) ∧ mg x = some (.ref f) ∧ PySem.W.keepIn K (.ref f) = true ∧ Binds K fd ps [] ∧ ps.length = n
theorem Cal.mono {P : Program} {w : World} {K : PySem.W.Frag} {mg : Str → Option Value} {base : Heap} {XR : XRel} {j k : Nat} {x : Str} {n : Nat} {sp : Sp3} (c : Cal P w K mg base XR j x n sp) (h : j ≤ k) : Cal P w K mg base XR k x n sp := by
  obtain ⟨f, fd, ps, F, r⟩ := c.ex
  exact ⟨f, fd, ps, F.mono h, r⟩
/-- what is wanted of exceptions where X runs -/
structure Out (X : Cx) (XR : XRel) (M0 : MH) (H0 : Hp) (E3 : X3) : Prop where
  ex : ∃ E : XK, Passes (L2.CX X.prog X.w) X E ∧ CvX X.K XR M0 H0 E3 E
theorem Out.no {X : Cx} {XR : XRel} {M0 : MH} {H0 : Hp} : Out X XR M0 H0 noX := ⟨E0, passL, fun _ _ _ _ _ h => h.elim⟩
def call3 (n : Nat) (sp : Sp3) (E3 : X3) (t : TL3) : T3 := fun e M Q => t e M fun ds M1 => ds.length = n ∧ sp ds M1 Q E3
section
variable {X : Cx} {XR : XRel} {M0 : MH} {H0 : Hp}
theorem z_call {k n : Nat} {sp : Sp3} {E3 : X3} {x : Str} {p pos : Pos} {e : Expr} {es : List Expr} {t : TL3} (C : Cal X.prog X.w X.K X.mg X.base XR k x n sp) (hr : Room k X.A) (ou : Out X XR M0 H0 E3) (hg : Gl X x)
    (ha : PA X (e :: es) (LA X.K M0 H0 t)) (hdb : (x == ("__debug__" : Str)) = false) (he : starEach (e :: es) X.env = (false, eval e X.env) :: starEach es X.env) (hpl : (backTo pos (starEach es X.env)).any (·.1) = false) :
    PE X (.Call (.Name x p) (e :: es) [] pos) (LE X.K M0 H0 (call3 n sp E3 t)) := by
  obtain ⟨f, fd, ps, F, hm, hk, hb, hl⟩ := C.ex
  obtain ⟨E, hE, hX⟩ := ou.ex
  refine (pe_call F hr hg hm hk hb .nil hE ha hdb he hpl).imp fun σ H Q ⟨en, M, P, rs, rm, ev, t', c⟩ => ?_
  refine LA.then rs rm ev t' fun ds M1 vs H1 ⟨l1, t1⟩ r1 rs1 rm1 ev1 e1 => ?_
  rw [List.append_nil]
  exact ⟨ds, M1, P, E3, l1, r1, rm1, t1, c.from e1, hX.from ev1⟩
end
/-! ### a def -/
def startE (n : Nat) (ds : List D) : En := ds.map some ++ List.replicate (n - ds.length) none
/-- what is given back: what was marked here may be forgotten -/
def RT (Q : Q3) : Q3 := fun d M => ∃ M', Sub M' M ∧ Q d M'
def bodyEnds (Q : Q3) : Ends3 := ⟨fun _ M => RT Q .non M, RT Q, fun _ _ => False, fun _ _ => False⟩
section
variable {P : Program} {w : World} {K : PySem.W.Frag} {mg : Str → Option Value} {base : Heap} {XR : XRel}
theorem startE_get : ∀ (ds : List D) (n i : Nat) (d : D), getE (startE n ds) i = some d → ds[i]? = some d := fun ds n i d h => by
  rw [getE_eq] at h
  unfold startE at h
  by_cases hi : i < ds.length
  · rw [List.getElem?_append_left (by rw [List.length_map]; exact hi), List.getElem?_map] at h
    rw [List.getElem?_eq_getElem hi] at h ⊢
    simpa using h
  · rw [List.getElem?_append_right (by rw [List.length_map]; omega)] at h
    rw [List.getElem?_replicate] at h
    split at h <;> cases h
theorem start_rs {M : MH} {H : Hp} {N : List Str} {ds : List D} {vs : List V} (r : RpL K M H ds vs) : RS K M H (startE N.length ds) (L2.start N vs) := by
  refine ⟨?_, fun i d h => ?_⟩
  · unfold startE L2.start
    simp only [List.length_append, List.length_map, List.length_replicate, r.length]
  · have e := startE_get ds _ i d h
    obtain ⟨v, g1, g2⟩ := r.get e
    refine ⟨v, ?_, g2⟩
    unfold L2.start
    have hi : i < vs.length := (List.getElem?_eq_some_iff.mp g1).1
    rw [List.getElem?_append_left (by rw [List.length_map]; exact hi), List.getElem?_map, g1]
    rfl
theorem RT.ok {M0 : MH} {H0 : Hp} {Q3 : Q3} {Q : VK} (c : Cv K M0 H0 Q3 Q) : Cv K M0 H0 (RT Q3) Q := fun d M' v H' ⟨M'', sb, q⟩ r m e =>
  c d M'' v H' q (Rp.ev (Ev.sub sb) _ _ r) (m.sub sb) (e.trans (Ev.sub sb))
/-- THE RULE for a def: its body's reading of data keeps the promise -/
theorem def_ok {x qual : Str} {st : Stmt} {f : Addr} {fd : FuncData} {N ps : List Str} {k n : Nat} {sp : Sp3} (F : Fun K x qual st f fd) (S : FnScope N ps (defScope st)) (hn : ps.length = n)
    (body : ∀ (cdv : Value) (A : Around) (outer : List Env) (s : Shared) (H : Hp) (E : XK) (M : MH) (E3 : X3), Room k (A.deeper (envOfC qual (defScope st) s.heap.objs.size f cdv)) →
      CvX K XR M H E3 E → ∃ t, PSs (cxOf (L2.CX P w) P w K mg base N qual (defScope st) f cdv A outer s H E) (defBody st) (LS K M H t) ∧ ∀ ds Q3, ds.length = n → sp ds M Q3 E3 → t (bodyEnds Q3) (startE N.length ds) M) :
    FnOk P w K mg base (L2.CX P w) (k + 1) f fd ps (liftSp K XR n sp) := by
  refine F.okX S (fun vs H Q E h => by rw [hn]; exact h.len) fun cdv A outer s H vs Q E hr ⟨ds, M, Q3, E3, hl, r, rm, hs, c, cx⟩ => ?_
  obtain ⟨t, ht, q⟩ := body cdv A outer s H E M E3 hr cx
  refine ⟨_, ht, startE N.length ds, M, bodyEnds Q3, start_rs r, rm, Ev.refl _ _, q ds Q3 hl hs, ?_⟩
  refine ⟨?_, RT.ok c, fun _ _ _ _ h => h.elim, fun _ _ _ _ h => h.elim⟩
  intro e' M' σ' H' q r m e
  exact RT.ok c .non M' .non H' q rfl m e
/-- what a body wants of exceptions -/
theorem out_body {N : List Str} {qual : Str} {scope : Scope} {f : Addr} {cd : Value} {A : Around} {outer : List Env} {s : Shared} {H : Hp} {E : XK} {M : MH} {E3 : X3} (c : CvX K XR M H E3 E) : Out (cxOf (L2.CX P w) P w K mg base N qual scope f cd A outer s H E) XR M H E3 :=
  ⟨E, passes_call (W := fun cls d _ H => E cls d H) (takes_of (E := E) rfl rfl rfl rfl) fun _ _ _ _ h => h, c⟩
end
end Z

namespace Z
open PySem PySem.Spec PyProof.Rows L2

inductive BOp where
  | add | sub | mul | fdv | mod | pow
inductive COp where
  | eq | ne | lt | le | gt | ge | isin | notin | is | isnot
inductive Bt where
  | len | int | abs | min2 | max2 | minL | maxL | sum | all | any | tupT | tupK | lstF | lstM | srt
inductive IK where
  | seq | rng1 | rng2 | enm
inductive Ex where
  | loc (i : Nat)
  | non
  | bl (b : Bool)
  | int (i : Int)
  | str (x : Str)
  | glo (j : Nat)
  | bin (o : BOp) (a b : Ex)
  | neg (a : Ex)
  | cmp (o : COp) (a b : Ex)
  | chn (o o' : COp) (a b c : Ex)
  | bol (isAnd : Bool) (es : List Ex)
  | nt (a : Ex)
  | ite (c a b : Ex)
  | tup (es : List Ex)
  | lst (m : Bool) (es : List Ex)
  | idx (a b : Ex)
  | sli (a : Ex) (lo hi : List Ex)
  | rev (a : Ex)
  | call (j : Nat) (e : Ex) (es : List Ex)
  | blt (b : Bt) (e : Ex) (es : List Ex)
  | isi (T : Ty) (e : Ex)
  | mth (m : Mt) (o e : Ex) (es : List Ex)
  | comp (m : Bool) (elt : Ex) (tg : Tg) (ik : IK) (its : List Ex) (ifs : List Ex) (own : List (Str × Nat))
  | newK (m : Bool)
  | newT
  | dis (m : Bool) (kvs : List Ex)
inductive Sx where
  | asg (tg : Tg) (e : Ex)
  | par (i j : Nat) (a b : Ex)
  | sput (o i e : Ex)
  | aug (i : Nat) (isAdd : Bool) (e : Ex)
  | expr (e : Ex)
  | ret (e : Ex)
  | retN
  | ifs (c : Ex) (a b : List Sx)
  | fors (tg : Tg) (ik : IK) (its : List Ex) (body : List Sx)
  | whl (c : Ex) (body : List Sx)
  | brk
  | cnt
  | pss
  | fz (i : Nat)

/-- what the module's names stand for -/
structure GT where
  fns : List (Str × Nat × Sp3)
  cst : List (Str × D)
  bn : List Str
def nth {α : Type u} : List α → Nat → Option α
  | [], _ => none
  | x :: _, 0 => some x
  | _ :: r, n + 1 => nth r n
theorem nth_mem {α : Type u} : ∀ {l : List α} {n : Nat} {x : α}, nth l n = some x → x ∈ l
  | [], _, _, h => by cases h
  | y :: _, 0, x, h => by
    cases h; simp
  | _ :: r, n + 1, x, h => List.mem_cons_of_mem _ (nth_mem (show nth r n = some x from h))
/-- a def's promise, called -/
def callG (G : GT) (j : Nat) (E : X3) (t : TL3) : T3 := match nth G.fns j with
  | some (_, n, sp) => call3 n sp E t
  | none => fun _ _ _ => False
def cstG (G : GT) (j : Nat) : T3 := match nth G.cst j with
  | some (_, d) => con3 d
  | none => fun _ _ _ => False

def BOp.o2 : BOp → O2
  | .add => add3 | .sub => sub3 | .mul => mul3 | .fdv => fdv3 | .mod => mod3 | .pow => pow3
def BOp.op : BOp → Operator
  | .add => .Add | .sub => .Sub | .mul => .Mult | .fdv => .FloorDiv | .mod => .Mod | .pow => .Pow
def COp.o2 : COp → O2
  | .eq => eq3 | .ne => ne3 | .lt => lt3 | .le => le3 | .gt => gt3 | .ge => ge3 | .isin => in3 | .notin => nin3 | .is => isN3 | .isnot => notN3
def COp.op : COp → CmpOp
  | .eq => .Eq | .ne => .NotEq | .lt => .Lt | .le => .LtE | .gt => .Gt | .ge => .GtE | .isin => .In | .notin => .NotIn | .is => .Is | .isnot => .IsNot
def Bt.name : Bt → String
  | .len => "len" | .int => "int" | .abs => "abs" | .min2 => "min" | .max2 => "max" | .minL => "min" | .maxL => "max" | .sum => "sum" | .all => "all" | .any => "any" | .tupT => "tuple" | .tupK => "tuple" | .lstF => "list" | .lstM => "list" | .srt => "sorted"
def Bt.ol : Bt → OL
  | .len => c1 (ofO lenA) | .int => c1 (ofO intA) | .abs => c1 (ofO absA) | .min2 => c2 (ofO2 minA) | .max2 => c2 (ofO2 maxA) | .minL => c1 (ofO Z.minL) | .maxL => c1 (ofO Z.maxL) | .sum => c1 (ofO sumA) | .all => c1 (ofO allA) | .any => c1 (ofO anyA)
  | .tupT => c1 (tupA .t) | .tupK => c1 (tupA .k) | .lstF => c1 (lstA false) | .lstM => c1 (lstA true) | .srt => c1 srtA
def Bt.isTy : Bt → Bool
  | .int | .tupT | .tupK | .lstF | .lstM => true
  | _ => false
/-- what is walked -/
def iterL (t : TL3) : TL3 := fun e M Q => t e M fun ds M1 => match ds with
  | [d] => match itemsA d with | some ds => Q ds M1 | none => False
  | _ => False
def wi : IK → TL3 → TL3
  | .seq, t => iterL t
  | .rng1, t => rng1A t
  | .rng2, t => rng2A t
  | .enm, t => enumA t
mutual
/-- an expression's reading of data -/
def wpe (G : GT) : Ex → X3 → T3
  | .loc i, _ => loc3 i
  | .non, _ => con3 .non
  | .bl b, _ => con3 (.bl b)
  | .int i, _ => con3 (.int i)
  | .str x, _ => con3 (.str x)
  | .glo j, _ => cstG G j
  | .bin o a b, E => op2 o.o2 (wpe G a E) (wpe G b E)
  | .neg a, E => op1 neg3 (wpe G a E)
  | .cmp o a b, E => op2 o.o2 (wpe G a E) (wpe G b E)
  | .chn o o' a b c, E => chain3 o.o2 o'.o2 (wpe G a E) (wpe G b E) (wpe G c E)
  | .bol k es, E => wpv G k es E
  | .nt a, E => notV3 (wpe G a E)
  | .ite c a b, E => ite3 (wpt G c E) (wpe G a E) (wpe G b E)
  | .tup es, E => tup3 (wpl G es E)
  | .lst m es, E => match m with | true => lstM3 (wpl G es E) | false => lst3 (wpl G es E)
  | .idx a b, E => op2 ix3 (wpe G a E) (wpe G b E)
  | .sli a lo hi, E => sl3 (wpe G a E) (wpo G lo E) (wpo G hi E)
  | .rev a, E => op1 rev3 (wpe G a E)
  | .call j e es, E => callG G j E (cons3 (wpe G e E) (wpl G es E))
  | .blt b e es, E => opL b.ol (cons3 (wpe G e E) (wpl G es E))
  | .isi T e, E => op1 (isi3 T) (wpe G e E)
  | .mth m o e es, E => mth3 m (wpe G o E) (cons3 (wpe G e E) (wpl G es E))
  | .comp m elt tg ik its ifs own, E => comp3 m (wi ik (wpl G its E)) tg (wpc G ifs noX) (wpe G elt noX) (own.map (·.2))
  | .newK m, _ => newK3 m
  | .newT, _ => newT3
  | .dis m kvs, E => disp3 m (wpp G kvs E)
/-- a test's -/
def wpt (G : GT) : Ex → X3 → TB3
  | .cmp o a b, E => tst (op2 o.o2 (wpe G a E) (wpe G b E))
  | .chn o o' a b c, E => tst (chain3 o.o2 o'.o2 (wpe G a E) (wpe G b E) (wpe G c E))
  | .bol k es, E => wpb G k es E
  | .nt a, E => not3 (wpt G a E)
  | .loc i, E => tru3 (loc3 i)
  | .non, _ => tru3 (con3 .non)
  | .bl b, _ => tru3 (con3 (.bl b))
  | .int i, _ => tru3 (con3 (.int i))
  | .str x, _ => tru3 (con3 (.str x))
  | .idx a b, E => tru3 (op2 ix3 (wpe G a E) (wpe G b E))
  | .call j e es, E => tru3 (callG G j E (cons3 (wpe G e E) (wpl G es E)))
  | .blt b e es, E => tru3 (opL b.ol (cons3 (wpe G e E) (wpl G es E)))
  | .isi T e, E => tru3 (op1 (isi3 T) (wpe G e E))
  | .mth m o e es, E => tru3 (mth3 m (wpe G o E) (cons3 (wpe G e E) (wpl G es E)))
  | _, _ => fun _ _ _ => False
/-- a list's -/
def wpl (G : GT) : List Ex → X3 → TL3
  | [], _ => nil3
  | e :: es, E => cons3 (wpe G e E) (wpl G es E)
/-- a chain of and, or: as a value, as a test -/
def wpv (G : GT) : Bool → List Ex → X3 → T3
  | _, [], _ => fun _ _ _ => False
  | _, [e], E => wpe G e E
  | true, e :: es, E => andV3 (wpe G e E) (wpv G true es E)
  | false, e :: es, E => orV3 (wpe G e E) (wpv G false es E)
def wpb (G : GT) : Bool → List Ex → X3 → TB3
  | _, [], _ => fun _ _ _ => False
  | _, [e], E => wpt G e E
  | true, e :: es, E => and3 (wpt G e E) (wpb G true es E)
  | false, e :: es, E => or3 (wpt G e E) (wpb G false es E)
/-- a slice's bound -/
def wpo (G : GT) : List Ex → X3 → TO3
  | [], _ => noP3
  | e :: _, E => part3 (wpe G e E)
/-- a comprehension's test -/
def wpc (G : GT) : List Ex → X3 → TB3
  | [], _ => yes3
  | e :: _, E => wpt G e E
/-- a display's pairs, key and value in turn -/
def wpp (G : GT) : List Ex → X3 → List (T3 × T3)
  | k :: v :: r, E => (wpe G k E, wpe G v E) :: wpp G r E
  | _, _ => []
end
/-- freezing a list that a name holds -/
def fz3 (i : Nat) (t : TS3) : TS3 := fun D e M => match getE e i with
  | some (.ref a) => match M a with
    | some (.lst ds) => t D (setE e i (.lst ds)) (er M a)
    | some (.dK kvs) => t D (setE e i (.dK (kvs.map (·.1)) (kvs.map (·.2)))) (er M a)
    | some (.dT kvs) => t D (setE e i (.dT (kvs.map (·.1)) (kvs.map (·.2)))) (er M a)
    | _ => False
  | _ => False
mutual
/-- a statement's reading of data -/
def wps (G : GT) (E : X3) : Sx → TS3
  | .asg tg e => asg3 (wpe G e E) tg
  | .par i j a b => par3 i j (cons3 (wpe G a E) (cons3 (wpe G b E) nil3))
  | .sput o i e => sput3 (wpe G o E) (wpe G i E) (wpe G e E)
  | .aug i k e => aug3 i (wpe G e E) (match k with | true => iadd3 | false => isub3)
  | .expr e => drop3 (wpe G e E)
  | .ret e => ret3 (wpe G e E)
  | .retN => retN3
  | .ifs c a b => if3 (wpt G c E) (wpss G E a) (wpss G E b)
  | .fors tg ik its body => for3 (wi ik (wpl G its E)) tg (wpss G E body)
  | .whl c body => while3 (wpt G c E) (wpss G E body)
  | .brk => brk3
  | .cnt => cnt3
  | .pss => next3
  | .fz _ => fun _ _ _ => False
def wpss (G : GT) (E : X3) : List Sx → TS3
  | [] => next3
  | s :: r => match s with
    | .fz i => fz3 i (wpss G E r)
    | s => seq3 (wps G E s) (wpss G E r)
end
end Z

namespace Z
open PySem PySem.Spec PyProof.Rows L2

def isVis (sc : Scope) (x : Str) : Bool := match sc.names.lookup x with
  | some .local => true | some .cell => true | some .free => true | _ => false
def isLoc (sc : Scope) (x : Str) : Bool := match sc.names.lookup x with
  | some .local => true | some .cell => true | _ => false
def isGl (sc : Scope) (x : Str) : Bool := match sc.names.lookup x with
  | some .globalImplicit => true | _ => false
def beqOp : BOp → Operator → Bool
  | .add, .Add => true | .sub, .Sub => true | .mul, .Mult => true | .fdv, .FloorDiv => true | .mod, .Mod => true | .pow, .Pow => true | _, _ => false
def beqCm : COp → CmpOp → Bool
  | .eq, .Eq => true | .ne, .NotEq => true | .lt, .Lt => true | .le, .LtE => true | .gt, .Gt => true | .ge, .GtE => true | .isin, .In => true | .notin, .NotIn => true | .is, .Is => true | .isnot, .IsNot => true | _, _ => false
theorem beqOp_ok {o : BOp} {p : Operator} (h : beqOp o p = true) : p = o.op := by
  cases o <;> cases p <;> first | rfl | (exact absurd h Bool.false_ne_true)
theorem beqCm_ok {o : COp} {p : CmpOp} (h : beqCm o p = true) : p = o.op := by
  cases o <;> cases p <;> first | rfl | (exact absurd h Bool.false_ne_true)
def Bt.args : Bt → Nat
  | .min2 | .max2 => 2
  | _ => 1
/-- a target of names -/
def chkNs (N : List Str) (sc : Scope) : List Nat → List Expr → Bool
  | [], [] => true
  | i :: is, e :: es => (match e with | .Name x _ => decide (N[i]? = some x) && isLoc sc x | _ => false) && chkNs N sc is es
  | _, _ => false
def chkTg (N : List Str) (sc : Scope) (tg : Tg) (e : Expr) : Bool := match tg with
  | .nm i => match e with | .Name x _ => decide (N[i]? = some x) && isLoc sc x | _ => false
  | .tp is => match e with | .Tuple es _ _ => chkNs N sc is es | _ => false
/-- not one of the few heads that are looked at apart -/
def plain : Expr → Bool
  | .Starred .. => false
  | .Set .. => false
  | .Slice .. => false
  | .ListComp .. => true
  | .SetComp .. => false
  | .DictComp .. => false
  | _ => true
def strD (x y : Str) : Bool := decide (x = y)
/-- what is walked, and the target (enumerate wants a written pair) -/
def chkI (G : GT) (ik : IK) (sc : Scope) (e t : Expr) (cl : List Expr → Bool) : Bool := match ik with
  | .seq => cl [e]
  | .rng1 => match e with | .Call (.Name y _) [a] [] _ => decide (y = ("range" : Str)) && isGl sc y && decide (y ∈ G.bn) && cl [a] | _ => false
  | .rng2 => match e with | .Call (.Name y _) [a, b] [] _ => decide (y = ("range" : Str)) && isGl sc y && decide (y ∈ G.bn) && cl [a, b] | _ => false
  | .enm => match e, t with | .Call (.Name y _) [a] [] _, .Tuple .. => decide (y = ("enumerate" : Str)) && isGl sc y && decide (y ∈ G.bn) && cl [a] | _, _ => false
def nmF (G : GT) (j : Nat) (y : Str) : Bool := match nth G.fns j with | some (x, _) => decide (x = y) | none => false
def nmC (G : GT) (j : Nat) (y : Str) : Bool := match nth G.cst j with | some (x, _) => decide (x = y) | none => false
mutual
def chkE (G : GT) (N : List Str) : Ex → Scope → Expr → Bool
  | .loc i, sc, e => match e with | .Name x _ => decide (N[i]? = some x) && isVis sc x | _ => false
  | .non, _, e => match e with | .Constant .none _ _ => true | _ => false
  | .bl b, _, e => match e with | .Constant (.bool c) _ _ => b == c | _ => false
  | .int i, _, e => match e with | .Constant (.int j) _ _ => decide (i = j) | _ => false
  | .str x, _, e => match e with | .Constant (.str y) _ _ => decide (x = y) | _ => false
  | .glo j, sc, e => match e with | .Name y _ => nmC G j y && isGl sc y && !(y == ("__debug__" : Str)) | _ => false
  | .bin o a b, sc, e => match e with | .BinOp l p r _ => beqOp o p && chkE G N a sc l && chkE G N b sc r | _ => false
  | .neg a, sc, e => match e with | .UnaryOp .USub x _ => chkE G N a sc x | _ => false
  | .cmp o a b, sc, e => match e with | .Compare l [p] [r] _ => beqCm o p && chkE G N a sc l && chkE G N b sc r | _ => false
  | .chn o o' a b c, sc, e => match e with | .Compare l [p, p'] [r, r'] _ => beqCm o p && beqCm o' p' && chkE G N a sc l && chkE G N b sc r && chkE G N c sc r' | _ => false
  | .bol k es, sc, e => match e with | .BoolOp op vs _ => (match op with | .And => k | .Or => !k) && chkL G N es sc vs | _ => false
  | .nt a, sc, e => match e with | .UnaryOp .Not x _ => chkE G N a sc x | _ => false
  | .ite c a b, sc, e => match e with | .IfExp t x y _ => chkT G N c sc t && chkE G N a sc x && chkE G N b sc y | _ => false
  | .tup es, sc, e => match e with | .Tuple xs _ _ => chkL G N es sc xs | _ => false
  | .lst _ es, sc, e => match e with | .List xs _ => chkL G N es sc xs | _ => false
  | .idx a b, sc, e => match e with | .Subscript x y _ => chkE G N a sc x && chkE G N b sc y | _ => false
  | .sli a lo hi, sc, e => match e with | .Subscript x (.Slice l h none _) _ => chkE G N a sc x && chkO G N lo sc l && chkO G N hi sc h | _ => false
  | .rev a, sc, e => match e with | .Subscript x (.Slice none none (some (.UnaryOp .USub (.Constant (.int 1) _ _) _)) _) _ => chkE G N a sc x | _ => false
  | .call j x xs, sc, e => match e with | .Call (.Name y _) (z :: zs) [] _ => nmF G j y && isGl sc y && !(y == ("__debug__" : Str)) && chkE G N x sc z && chkL G N xs sc zs | _ => false
  | .blt b x xs, sc, e => match e with | .Call (.Name y _) (z :: zs) [] _ => decide (y = Str.ofString b.name) && isGl sc y && decide (y ∈ G.bn) && chkE G N x sc z && chkL G N xs sc zs | _ => false
  | .isi T x, sc, e => match e with | .Call (.Name y _) [z, .Name t _] [] _ => decide (y = ("isinstance" : Str)) && isGl sc y && decide (y ∈ G.bn) && decide (t = Str.ofString T.name) && isGl sc t && decide (t ∈ G.bn) && chkE G N x sc z | _ => false
  | .mth m o x xs, sc, e => match e with | .Call (.Attribute v nm ap) (z :: zs) [] cp => decide (nm = Str.ofString m.name) && (ap.endLine == cp.line) && decide (zs.length < 9) && chkE G N o sc v && chkE G N x sc z && chkL G N xs sc zs | _ => false
  | .comp _ elt tg ik its ifs own, sc, e => match e with
    | .ListComp el [⟨t, it, fs, ia⟩] scope _ => decide (ia = 0) && blkC N sc scope own && (tg.slots.all fun i => decide (i ∈ own.map (·.2))) && chkI G ik sc it t (chkL G N its sc) && chkTg N scope tg t && chkC G N ifs (relS scope sc) fs && chkE G N elt (relS scope sc) el
    | _ => false
  | .newK _, _, e => match e with | .Dict [] [] _ => true | _ => false
  | .newT, _, e => match e with | .Dict [] [] _ => true | _ => false
  | .dis _ kvs, sc, e => match e with | .Dict ks vs _ => chkP G N kvs sc ks vs && decide (ks ≠ []) && decide (ks.length ≤ 15) | _ => false
def chkT (G : GT) (N : List Str) : Ex → Scope → Expr → Bool
  | .cmp o a b, sc, e => match e with | .Compare l [p] [r] _ => beqCm o p && chkE G N a sc l && chkE G N b sc r | _ => false
  | .chn o o' a b c, sc, e => match e with | .Compare l [p, p'] [r, r'] _ => beqCm o p && beqCm o' p' && chkE G N a sc l && chkE G N b sc r && chkE G N c sc r' | _ => false
  | .bol k es, sc, e => match e with | .BoolOp op vs _ => (match op with | .And => k | .Or => !k) && chkTL G N es sc vs | _ => false
  | .nt a, sc, e => match e with | .UnaryOp .Not x _ => chkT G N a sc x | _ => false
  | .loc i, sc, e => match e with | .Name x _ => decide (N[i]? = some x) && isVis sc x | _ => false
  | .idx a b, sc, e => match e with | .Subscript x y _ => chkE G N a sc x && chkE G N b sc y | _ => false
  | .call j x xs, sc, e => match e with | .Call (.Name y _) (z :: zs) [] _ => nmF G j y && isGl sc y && !(y == ("__debug__" : Str)) && chkE G N x sc z && chkL G N xs sc zs | _ => false
  | .blt b x xs, sc, e => match e with | .Call (.Name y _) (z :: zs) [] _ => decide (y = Str.ofString b.name) && isGl sc y && decide (y ∈ G.bn) && chkE G N x sc z && chkL G N xs sc zs | _ => false
  | .isi T x, sc, e => match e with | .Call (.Name y _) [z, .Name t _] [] _ => decide (y = ("isinstance" : Str)) && isGl sc y && decide (y ∈ G.bn) && decide (t = Str.ofString T.name) && isGl sc t && decide (t ∈ G.bn) && chkE G N x sc z | _ => false
  | .mth m o x xs, sc, e => match e with | .Call (.Attribute v nm ap) (z :: zs) [] cp => decide (nm = Str.ofString m.name) && (ap.endLine == cp.line) && decide (zs.length < 9) && chkE G N o sc v && chkE G N x sc z && chkL G N xs sc zs | _ => false
  | _, _, _ => false
def chkL (G : GT) (N : List Str) : List Ex → Scope → List Expr → Bool
  | [], _, es => match es with | [] => true | _ => false
  | x :: xs, sc, es => match es with | e :: es => chkE G N x sc e && chkL G N xs sc es | [] => false
def chkTL (G : GT) (N : List Str) : List Ex → Scope → List Expr → Bool
  | [], _, es => match es with | [] => true | _ => false
  | x :: xs, sc, es => match es with | e :: es => chkT G N x sc e && chkTL G N xs sc es | [] => false
def chkO (G : GT) (N : List Str) : List Ex → Scope → Option Expr → Bool
  | [], _, e => match e with | none => true | some _ => false
  | x :: xs, sc, e => match e with | some e => chkE G N x sc e && xs.isEmpty | none => false
def chkC (G : GT) (N : List Str) : List Ex → Scope → List Expr → Bool
  | [], _, es => match es with | [] => true | _ => false
  | x :: xs, sc, es => match es with | [e] => chkT G N x sc e && xs.isEmpty | _ => false
def chkP (G : GT) (N : List Str) : List Ex → Scope → List (Option Expr) → List Expr → Bool
  | [], _, ks, vs => match ks, vs with | [], [] => true | _, _ => false
  | [_], _, _, _ => false
  | k :: v :: r, sc, ks, vs => match ks, vs with | some a :: ks, b :: vs => chkE G N k sc a && chkE G N v sc b && chkP G N r sc ks vs | _, _ => false
end
end Z

namespace Z
open PySem PySem.Spec PyProof.Rows L2

structure Good (G : GT) (N : List Str) (so sc : Scope) (X : Cx) (XR : XRel) (M0 : MH) (H0 : Hp) (E3 : X3) (k : Nat) : Prop where
  hN : X.N = N
  hsc : X.env.scope = sc
  calm : X.calm = true
  nd : N.Nodup
  nm : ∀ x ∈ N, (x == ("__debug__" : Str)) = false ∧ (x == ("__classdict__" : Str)) = false
  room : Room k X.A
  cel : ∀ x, so.names.lookup x = some .cell → X.fn x = true
  own : ∀ x kk, kk ≠ NameKind.free → so.names.lookup x = some kk → sc.names.lookup x = some kk
  fns : ∀ x n sp, (x, n, sp) ∈ G.fns → Cal X.prog X.w X.K X.mg X.base XR k x n sp
  cst : ∀ x d, (x, d) ∈ G.cst → ∃ v u, X.mg x = some u ∧ RelV v u ∧ ∀ M H, Rp X.K M H d v
  blt : ∀ x ∈ G.bn, X.mg x = none
  out : Out X XR M0 H0 E3
section
variable {G : GT} {N : List Str} {so sc : Scope} {X : Cx} {XR : XRel} {M0 : MH} {H0 : Hp} {E3 : X3} {k : Nat}
theorem Good.hu (g : Good G N so sc X XR M0 H0 E3 k) : X.A.units + 100 < cLine := by have := g.room.un; omega
theorem Good.blk (g : Good G N so sc X XR M0 H0 E3 k) {s : Shared} {H : Hp} {scope : Scope} {C : Addr} {cl : List (Str × Addr)} {fp : List Addr} : Good G N scope (relS scope sc) (X.blk s H scope (compEnvC scope cl C X.env) fp) XR M0 H0 noX k :=
  ⟨g.hN, by rw [← g.hsc]; rfl, g.calm, g.nd, g.nm, g.room, fun x h => by show (scope.names.lookup x == some .cell) = true; rw [h]; rfl, fun x kk hk h => lookup_relS_keep hk h, g.fns, g.cst, g.blt, Out.no⟩
theorem vis_of {x : Str} (g : Good G N so sc X XR M0 H0 E3 k) (h : isVis sc x = true) : Vis X.env.scope x := by
  rw [g.hsc]
  unfold isVis at h
  split at h
  · rename_i e; exact .inl e
  · rename_i e; exact .inr (.inl e)
  · rename_i e; exact .inr (.inr e)
  · cases h
theorem loc_of {x : Str} (g : Good G N so sc X XR M0 H0 E3 k) (h : isLoc so x = true) : Loc X.env.scope x ∧ (X.fn x = true ∨ X.env.scope.names.lookup x = some .local) := by
  rw [g.hsc]
  unfold isLoc at h
  split at h
  · rename_i e
    have e' := g.own x .local (by decide) e
    exact ⟨.inl e', .inr e'⟩
  · rename_i e
    exact ⟨.inr (g.own x .cell (by decide) e), .inl (g.cel x e)⟩
  · cases h
theorem gl_of {x : Str} (g : Good G N so sc X XR M0 H0 E3 k) (h : isGl sc x = true) : Gl X x := by
  show X.env.scope.names.lookup x = some .globalImplicit
  rw [g.hsc]
  unfold isGl at h
  split at h
  · rename_i e; exact e
  · cases h
/-! ### heads -/
theorem star_of {e : Expr} (h : plain e = true) (es : List Expr) (env : Env) : starEach (e :: es) env = (false, eval e env) :: starEach es env := by
  cases e <;> first | rfl | (exact absurd h Bool.false_ne_true)
theorem plainIx_of {e : Expr} (h : plain e = true) : PlainIx e := by
  intro o i
  cases e <;> first | rfl | (exact absurd h Bool.false_ne_true)
theorem mark_of {op : CmpOp} {e : Expr} (h : plain e = true) : behindInMarks op e = false := by
  cases e <;> first | rfl | (exact absurd h Bool.false_ne_true)
theorem fold_of {e : Expr} (h : plain e = true) (env : Env) (x : Value) : foldedSetIterable e env x = pure x := by
  cases e <;> first | rfl | (exact absurd h Bool.false_ne_true)
theorem any_of : ∀ {es : List Expr} {pos : Pos} {env : Env}, (∀ e ∈ es, plain e = true) → (backTo pos (starEach es env)).any (·.1) = false
  | [], _, _, _ => rfl
  | e :: es, pos, env, h => by
    rw [star_of (h e (by simp))]
    show (false || (backTo pos (starEach es env)).any (·.1)) = false
    rw [Bool.false_or]
    exact any_of fun e' he => h e' (by simp [he])
theorem all_of : ∀ {es : List Expr} {pos : Pos} {env : Env}, (∀ e ∈ es, plain e = true) → (backTo pos (starEach es env)).all (fun x => !x.1) = true
  | [], _, _, _ => rfl
  | e :: es, pos, env, h => by
    rw [star_of (h e (by simp))]
    show (true && (backTo pos (starEach es env)).all (fun x => !x.1)) = true
    rw [Bool.true_and]
    exact all_of fun e' he => h e' (by simp [he])
/-- an expression that is looked at is plain -/
theorem plain_of : ∀ {ex : Ex} {sc : Scope} {e : Expr}, chkE G N ex sc e = true → plain e = true := fun {ex sc e} h => by
  cases ex <;> cases e <;> first | rfl | (exact absurd h Bool.false_ne_true)
theorem plainL_of : ∀ {xs : List Ex} {sc : Scope} {es : List Expr}, chkL G N xs sc es = true → ∀ e ∈ es, plain e = true
  | [], sc, [], _ => fun e he => by simp at he
  | [], sc, _ :: _, h => absurd h Bool.false_ne_true
  | x :: xs, sc, [], h => absurd h Bool.false_ne_true
  | x :: xs, sc, e :: es, h => by
    have h : (chkE G N x sc e && chkL G N xs sc es) = true := h
    rw [Bool.and_eq_true] at h
    intro e' he
    rcases List.mem_cons.mp he with rfl | he
    · exact plain_of h.1
    · exact plainL_of h.2 e' he
theorem base_of {ex : Ex} {o : Expr} {nm : Str} {env : Env} (h : chkE G N ex sc o = true) : attributeBase o nm env (eval o env) = eval o env := by
  cases o with
  | Call f as ks pos =>
    cases as with
    | nil =>
      cases ex <;> first | (exact absurd h Bool.false_ne_true) | skip
      all_goals (cases f <;> first | rfl | (exact absurd h Bool.false_ne_true))
    | cons a as =>
      cases f <;> rfl
  | _ => rfl
/-! ### built-ins -/
theorem bt_b (hc : X.calm = true) (hu : X.A.units + 100 < cLine) : ∀ b : Bt, b.isTy = false → CallR X (.builtin b.name) (LOL X.K b.ol)
  | .len, _ => zc_len
  | .abs, _ => zc_abs
  | .min2, _ => zc_min2 hc
  | .max2, _ => zc_max2 hc
  | .minL, _ => zc_minL hc
  | .maxL, _ => zc_maxL hc
  | .sum, _ => zc_sum hc
  | .all, _ => zc_all hc
  | .any, _ => zc_any hc
  | .srt, _ => zc_srt hu
theorem bt_t (hc : X.calm = true) : ∀ b : Bt, b.isTy = true → CallR X (.type b.name) (LOL X.K b.ol)
  | .int, _ => zc_int
  | .tupT, _ => zc_tup .t
  | .tupK, _ => zc_tup .k
  | .lstF, _ => zc_lst hc false
  | .lstM, _ => zc_lst hc true
theorem boot_b : ∀ b : Bt, b.isTy = false → bootBuiltins (Str.ofString b.name) = some (.builtin b.name) := by
  intro b h
  cases b <;> first | (exact absurd h (by decide)) | decide +kernel
theorem boot_t : ∀ b : Bt, b.isTy = true → bootBuiltins (Str.ofString b.name) = some (.type b.name) := by
  intro b h
  cases b <;> first | (exact absurd h (by decide)) | decide +kernel
theorem nm_b : ∀ b : Bt, Str.ofString b.name ≠ "__name__" ∧ (Str.ofString b.name == ("__debug__" : Str)) = false := by
  intro b
  cases b <;> decide +kernel
theorem boot_ty : ∀ T : Ty, bootBuiltins (Str.ofString T.name) = some (.type T.name) ∧ Str.ofString T.name ≠ "__name__" ∧ (Str.ofString T.name == ("__debug__" : Str)) = false := by
  intro T
  cases T <;> decide +kernel
/-! ### methods -/
theorem mt_pa : ∀ m : Mt, PlainAttrs m.ty
  | .append | .extend | .index => PySem.F.plainAttrs_list
  | .get | .setdefault => PySem.F.plainAttrs_dict
  | .indexT => PySem.F.plainAttrs_tuple
  | .join | .split | .startswith => PySem.F.plainAttrs_str
theorem mt_slot : ∀ m : Mt, Slot m.ty (Str.ofString m.name) m.id
  | .append => PySem.F.slot_list_append
  | .extend => PySem.F.slot_list_extend
  | .index => PySem.F.slot_list_index
  | .get => PySem.F.slot_dict_get
  | .setdefault => PySem.F.slot_dict_setdefault
  | .indexT => PySem.F.slot_tuple_index
  | .join => PySem.F.slot_str_join
  | .split => PySem.F.slot_str_split
  | .startswith => PySem.F.slot_str_startswith
theorem mt_ty : ∀ m : Mt, typeOf (.builtin m.id) = pure (.type "method_descriptor")
  | .append => PySem.F.type_list_append
  | .extend => PySem.F.type_list_extend
  | .index => PySem.F.type_list_index
  | .get => PySem.F.type_dict_get
  | .setdefault => PySem.F.type_dict_setdefault
  | .indexT => PySem.F.type_tuple_index
  | .join => PySem.F.type_str_join
  | .split => PySem.F.type_str_split
  | .startswith => PySem.F.type_str_startswith
theorem co_ok (hu : X.A.units + 100 < cLine) : ∀ o : COp, OpR X (compareOp o.op) (LO2 X.K o.o2)
  | .eq => zo_eq (by omega)
  | .ne => zo_ne (by omega)
  | .lt => zo_lt (by omega)
  | .le => zo_le (by omega)
  | .gt => zo_gt (by omega)
  | .ge => zo_ge (by omega)
  | .isin => zo_in (by omega)
  | .notin => zo_nin (by omega)
  | .is => zo_isN
  | .isnot => zo_notN
theorem bo_ok : ∀ o : BOp, OpR X (binaryOp o.op) (LO2 X.K o.o2)
  | .add => zo_add
  | .sub => zo_sub
  | .mul => zo_mul
  | .fdv => zo_fdv
  | .mod => zo_mod
  | .pow => zo_pow
/-! ### targets -/
theorem names_ok (g : Good G N so sc X XR M0 H0 E3 k) : ∀ {is : List Nat} {es : List Expr}, chkNs N so is es = true → PGs X es (gNames is) ∧ (assignEach es X.env).length = is.length ∧ (assignEach es X.env).findIdx? (·.1) = none
  | [], [], _ => ⟨pgs_nil, rfl, rfl⟩
  | [], _ :: _, h => absurd h Bool.false_ne_true
  | _ :: _, [], h => absurd h Bool.false_ne_true
  | i :: is, e :: es, h => by
    simp only [chkNs, Bool.and_eq_true] at h
    obtain ⟨h1, h2⟩ := h
    obtain ⟨g1, g2, g3⟩ := names_ok g h2
    cases e with
    | Name x pos =>
      simp only [Bool.and_eq_true, decide_eq_true_eq] at h1
      obtain ⟨l1, l2⟩ := loc_of g h1.2
      refine ⟨pgs_cons (pg_name (by rw [g.hN]; exact g.nd) (by rw [g.hN]; exact h1.1) l1 l2) g1 rfl, ?_, ?_⟩
      · show (assignEach es X.env).length + 1 = is.length + 1
        rw [g2]
      · show List.findIdx? (·.1) ((false, assign (.Name x pos) X.env) :: assignEach es X.env) = none
        rw [List.findIdx?_cons, g3]; rfl
    | _ => exact absurd h1 Bool.false_ne_true
theorem tg_ok (g : Good G N so sc X XR M0 H0 E3 k) {tg : Tg} {e : Expr} (h : chkTg N so tg e = true) : PG X e (gOf X.K tg) := by
  cases tg with
  | nm i =>
    cases e with
    | Name x pos =>
      have h : (decide (N[i]? = some x) && isLoc so x) = true := h
      rw [Bool.and_eq_true, decide_eq_true_eq] at h
      obtain ⟨l1, l2⟩ := loc_of g h.2
      exact pg_name (by rw [g.hN]; exact g.nd) (by rw [g.hN]; exact h.1) l1 l2
    | _ => exact absurd h Bool.false_ne_true
  | tp is =>
    cases e with
    | Tuple es kk pos =>
      obtain ⟨g1, g2, g3⟩ := names_ok g (show chkNs N so is es = true from h)
      exact pg_tup g.calm g1 g2 g3
    | _ => exact absurd h Bool.false_ne_true
theorem z_lc' (g : Good G N so sc X XR M0 H0 E3 k) {m : Bool} {elt tgE iter : Expr} {ifs : List Expr} {scope : Scope} {own : List (Str × Nat)} {it : TL3} {tg : Tg} {tt : TB3} {te : T3} {pos : Pos} (hi : PI X tgE iter (LI X.K M0 H0 it)) (hb : blkC N sc scope own = true) (hsub : (tg.slots.all fun i => decide (i ∈ own.map (·.2))) = true) (htg : chkTg N scope tg tgE = true)
    (ht : ∀ {X' : Cx}, X'.K = X.K → Good G N scope (relS scope sc) X' XR M0 H0 noX k → PTs X' ifs (LT X.K M0 H0 tt)) (he : ∀ {X' : Cx}, X'.K = X.K → Good G N scope (relS scope sc) X' XR M0 H0 noX k → PE X' elt (LE X.K M0 H0 te)) (hp : plain iter = true) :
    PE X (.ListComp elt [⟨tgE, iter, ifs, 0⟩] scope pos) (LE X.K M0 H0 (comp3 m it tg tt te (own.map (·.2)))) :=
  z_lc g.calm (by rw [g.hN]; exact g.nd) hi (blkOk_by (by rw [g.hN, g.hsc]; exact hb)) (fun i hi => by
    rw [List.all_eq_true] at hsub
    exact of_decide_eq_true (hsub i hi)) (fun s H C cl fp => tg_ok g.blk htg) (fun s H C cl fp => ht rfl g.blk) (fun s H C cl fp => he rfl g.blk) (fold_of hp _)
end
end Z

namespace Z
open PySem PySem.Spec PyProof.Rows L2

theorem b2 {a b : Bool} (h : (a && b) = true) : a = true ∧ b = true := by rwa [Bool.and_eq_true] at h
theorem b3 {a b c : Bool} (h : (a && b && c) = true) : a = true ∧ b = true ∧ c = true := by
  obtain ⟨h, h3⟩ := b2 h
  obtain ⟨h1, h2⟩ := b2 h
  exact ⟨h1, h2, h3⟩
theorem b5 {a b c d e : Bool} (h : (a && b && c && d && e) = true) : a = true ∧ b = true ∧ c = true ∧ d = true ∧ e = true := by
  obtain ⟨h, h5⟩ := b2 h
  obtain ⟨h, h4⟩ := b2 h
  obtain ⟨h1, h2, h3⟩ := b3 h
  exact ⟨h1, h2, h3, h4, h5⟩
theorem b6 {a b c d e f : Bool} (h : (a && b && c && d && e && f) = true) : a = true ∧ b = true ∧ c = true ∧ d = true ∧ e = true ∧ f = true := by
  obtain ⟨h, h6⟩ := b2 h
  obtain ⟨h1, h2, h3, h4, h5⟩ := b5 h
  exact ⟨h1, h2, h3, h4, h5, h6⟩
theorem b7 {a b c d e f g : Bool} (h : (a && b && c && d && e && f && g) = true) : a = true ∧ b = true ∧ c = true ∧ d = true ∧ e = true ∧ f = true ∧ g = true := by
  obtain ⟨h, h7⟩ := b2 h
  obtain ⟨h1, h2, h3, h4, h5, h6⟩ := b6 h
  exact ⟨h1, h2, h3, h4, h5, h6, h7⟩
section
variable {G : GT} {N : List Str} {XR : XRel} {M0 : MH} {H0 : Hp} {k : Nat}
theorem z_loc' {so sc : Scope} {X : Cx} {E3 : X3} (g : Good G N so sc X XR M0 H0 E3 k) {i : Nat} {x : Str} {pos : Pos} (h : (decide (N[i]? = some x) && isVis sc x) = true) : PE X (.Name x pos) (LE X.K M0 H0 (loc3 i)) := by
  obtain ⟨h1, h2⟩ := b2 h
  have h1 := of_decide_eq_true h1
  obtain ⟨n1, n2⟩ := g.nm x (List.mem_of_getElem? h1)
  exact z_loc (pe_var (by rw [g.hN]; exact h1) (vis_of g h2) n1 n2)
theorem z_call' {so sc : Scope} {X : Cx} {E3 : X3} (g : Good G N so sc X XR M0 H0 E3 k) {j : Nat} {f : Str} {e : Expr} {es : List Expr} {te : T3} {tl : TL3} {p pos : Pos} (hj : nmF G j f = true) (hg : isGl sc f = true) (hd : (!(f == ("__debug__" : Str))) = true) (he : PE X e (LE X.K M0 H0 te)) (hes : PA X es (LA X.K M0 H0 tl)) (pe : plain e = true) (ps : ∀ e ∈ es, plain e = true) :
    PE X (.Call (.Name f p) (e :: es) [] pos) (LE X.K M0 H0 (callG G j E3 (cons3 te tl))) := by
  unfold nmF at hj
  unfold callG
  split at hj
  · rename_i x r q
    obtain ⟨n, sp⟩ := r
    have hj := of_decide_eq_true hj
    subst hj
    rw [q]
    exact z_call (g.fns x n sp (nth_mem q)) g.room g.out (gl_of g hg) (z_cons he hes (star_of pe _ _)) (by simpa using hd) (star_of pe _ _) (any_of ps)
  · cases hj
theorem z_blt' {so sc : Scope} {X : Cx} {E3 : X3} (g : Good G N so sc X XR M0 H0 E3 k) {b : Bt} {e : Expr} {es : List Expr} {te : T3} {tl : TL3} {p pos : Pos} (hg : isGl sc (Str.ofString b.name) = true) (hm : decide (Str.ofString b.name ∈ G.bn) = true) (he : PE X e (LE X.K M0 H0 te)) (hes : PA X es (LA X.K M0 H0 tl)) (pe : plain e = true) (ps : ∀ e ∈ es, plain e = true) :
    PE X (.Call (.Name (Str.ofString b.name) p) (e :: es) [] pos) (LE X.K M0 H0 (opL b.ol (cons3 te tl))) := by
  have hm := g.blt _ (of_decide_eq_true hm)
  obtain ⟨n1, n2⟩ := nm_b b
  cases t : b.isTy with
  | true => exact z_callTy (bt_t g.calm b t) (gl_of g hg) hm (boot_t b t) (z_cons he hes (star_of pe _ _)) n1 n2 (star_of pe _ _) (any_of ps)
  | false => exact z_callB (bt_b g.calm g.hu b t) (gl_of g hg) hm (boot_b b t) (z_cons he hes (star_of pe _ _)) n1 n2 (star_of pe _ _) (any_of ps)
theorem z_isi' {so sc : Scope} {X : Cx} {E3 : X3} (g : Good G N so sc X XR M0 H0 E3 k) {T : Ty} {e : Expr} {te : T3} {p p2 pos : Pos} (h1 : isGl sc ("isinstance" : Str) = true) (h2 : decide (("isinstance" : Str) ∈ G.bn) = true) (h3 : isGl sc (Str.ofString T.name) = true) (h4 : decide (Str.ofString T.name ∈ G.bn) = true) (he : PE X e (LE X.K M0 H0 te)) (pe : plain e = true) :
    PE X (.Call (.Name "isinstance" p) [e, .Name (Str.ofString T.name) p2] [] pos) (LE X.K M0 H0 (op1 (isi3 T) te)) := by
  obtain ⟨b1, b2, b3⟩ := boot_ty T
  exact z_isi rfl (gl_of g h1) (g.blt _ (of_decide_eq_true h2)) (gl_of g h3) (g.blt _ (of_decide_eq_true h4)) b1 b2 b3 he (by rw [star_of pe]; rfl) rfl
theorem z_mth' {so sc : Scope} {X : Cx} {E3 : X3} (g : Good G N so sc X XR M0 H0 E3 k) {m : Mt} {o e : Expr} {es : List Expr} {to te : T3} {tl : TL3} {apos cpos : Pos} (hb : ∀ nm env, attributeBase o nm env (eval o env) = eval o env) (hl : (apos.endLine == cpos.line) = true) (h9 : decide (es.length < 9) = true)
    (ho : PE X o (LE X.K M0 H0 to)) (he : PE X e (LE X.K M0 H0 te)) (hes : PA X es (LA X.K M0 H0 tl)) (pe : plain e = true) (ps : ∀ e ∈ es, plain e = true) : PE X (.Call (.Attribute o (Str.ofString m.name) apos) (e :: es) [] cpos) (LE X.K M0 H0 (mth3 m to (cons3 te tl))) := by
  refine z_mth rfl (mt_pa m) (mt_slot m) (mt_ty m) (zm_all g.hu m) ho (z_cons he hes (star_of pe _ _)) (hb _ _) ?_ hl (star_of pe _ _) (any_of ps)
  have h9 := of_decide_eq_true h9
  have a := all_of (pos := cpos) (env := X.env) (es := e :: es) (fun e' h => by rcases List.mem_cons.mp h with rfl | h; exact pe; exact ps _ h)
  rw [a]
  show (true && true && decide ((e :: es).length + 0 + 0 < 30)) = true
  rw [decide_eq_true (by rw [List.length_cons]; omega)]; rfl
/-- a walked thing -/
theorem z_it {so sc : Scope} {X : Cx} {E3 : X3} (g : Good G N so sc X XR M0 H0 E3 k) {ik : IK} {e t : Expr} {tl : TL3} {cl : List Expr → Bool} (h : chkI G ik sc e t cl = true) (hl : ∀ es, cl es = true → PA X es (LA X.K M0 H0 tl) ∧ ∀ e ∈ es, plain e = true) (h1 : ∀ e, cl [e] = true → ∃ te, tl = cons3 te nil3 ∧ PE X e (LE X.K M0 H0 te)) :
    PI X t e (LI X.K M0 H0 (wi ik tl)) ∧ plain e = true := by
  cases ik with
  | seq =>
    obtain ⟨te, rfl, he⟩ := h1 e h
    refine ⟨?_, (hl [e] h).2 e (by simp)⟩
    exact z_iter (tg := t) rfl he
  | rng1 =>
    dsimp only [chkI] at h
    split at h
    · rename_i y py a pos
      obtain ⟨h, h4⟩ := b2 h
      obtain ⟨h1, h2, h3⟩ := b3 h
      obtain ⟨hp, hq⟩ := hl _ h4
      have h1 := of_decide_eq_true h1
      subst h1
      exact ⟨z_irng1 (gl_of g h2) (g.blt _ (of_decide_eq_true h3)) hp (by rw [star_of (hq a (by simp))]; rfl), rfl⟩
    · cases h
  | rng2 =>
    dsimp only [chkI] at h
    split at h
    · rename_i y py a b pos
      obtain ⟨h, h4⟩ := b2 h
      obtain ⟨h1, h2, h3⟩ := b3 h
      obtain ⟨hp, hq⟩ := hl _ h4
      have h1 := of_decide_eq_true h1
      subst h1
      exact ⟨z_irng2 (gl_of g h2) (g.blt _ (of_decide_eq_true h3)) hp (by rw [star_of (hq a (by simp)), star_of (hq b (by simp))]; rfl) (by rw [star_of (hq b (by simp))]; rfl), rfl⟩
    · cases h
  | enm =>
    dsimp only [chkI] at h
    split at h
    · rename_i y py a pos el kk tp
      obtain ⟨h, h4⟩ := b2 h
      obtain ⟨h1, h2, h3⟩ := b3 h
      obtain ⟨hp, hq⟩ := hl _ h4
      have h1 := of_decide_eq_true h1
      subst h1
      exact ⟨z_ienum rfl (gl_of g h2) (g.blt _ (of_decide_eq_true h3)) hp (by rw [star_of (hq a (by simp))]; rfl), rfl⟩
    · cases h
theorem wpl_one {x : Ex} {E3 : X3} : wpl G [x] E3 = cons3 (wpe G x E3) nil3 := rfl
theorem chkL_one {xs : List Ex} {sc : Scope} {e : Expr} (h : chkL G N xs sc [e] = true) : ∃ x, xs = [x] ∧ chkE G N x sc e = true := by
  cases xs with
  | nil => exact absurd h Bool.false_ne_true
  | cons x r =>
    obtain ⟨h1, h2⟩ := b2 (show (chkE G N x sc e && chkL G N r sc []) = true from h)
    cases r with
    | nil => exact ⟨x, rfl, h1⟩
    | cons y r => exact absurd h2 Bool.false_ne_true
mutual
theorem sE : ∀ (ex : Ex) {so sc : Scope} {X : Cx} {E3 : X3} {e : Expr}, Good G N so sc X XR M0 H0 E3 k → chkE G N ex sc e = true → PE X e (LE X.K M0 H0 (wpe G ex E3))
  | .loc i, so, sc, X, E3, e, g, h => by
    dsimp only [chkE] at h
    split at h
    · exact z_loc' g h
    · cases h
  | .non, so, sc, X, E3, e, g, h => by
    dsimp only [chkE] at h
    split at h
    · exact z_con pe_non fun _ _ => rfl
    · cases h
  | .bl b, so, sc, X, E3, e, g, h => by
    dsimp only [chkE] at h
    split at h
    · have h := eq_of_beq h
      subst h
      exact z_con pe_bl fun _ _ => rfl
    · cases h
  | .int i, so, sc, X, E3, e, g, h => by
    dsimp only [chkE] at h
    split at h
    · have h := of_decide_eq_true h
      subst h
      exact z_con pe_int fun _ _ => rfl
    · cases h
  | .str x, so, sc, X, E3, e, g, h => by
    dsimp only [chkE] at h
    split at h
    · have h := of_decide_eq_true h
      subst h
      exact z_con pe_str fun _ _ => rfl
    · cases h
  | .glo j, so, sc, X, E3, e, g, h => by
    dsimp only [chkE] at h
    split at h
    · rename_i y pos
      obtain ⟨h1, h2, h3⟩ := b3 h
      unfold nmC at h1
      split at h1
      · rename_i x d q
        have h1 := of_decide_eq_true h1
        subst h1
        obtain ⟨v, u, g1, g2, g3⟩ := g.cst x d (nth_mem q)
        have : wpe G (.glo j) E3 = con3 d := by
          show cstG G j = _
          unfold cstG
          rw [q]
        rw [this]
        exact z_con (pe_glob (gl_of g h2) g1 g2 (by simpa using h3)) g3
      · cases h1
    · cases h
  | .bin o a b, so, sc, X, E3, e, g, h => by
    dsimp only [chkE] at h
    split at h
    · obtain ⟨h1, h2, h3⟩ := b3 h
      rw [beqOp_ok h1]
      exact z_op (bo_ok o) (sE a g h2) (sE b g h3)
    · cases h
  | .neg a, so, sc, X, E3, e, g, h => by
    dsimp only [chkE] at h
    split at h
    · exact z_un zo_neg (sE a g h)
    · cases h
  | .cmp o a b, so, sc, X, E3, e, g, h => by
    dsimp only [chkE] at h
    split at h
    · obtain ⟨h1, h2, h3⟩ := b3 h
      rw [beqCm_ok h1]
      exact z_cmp (co_ok g.hu o) (sE a g h2) (sE b g h3) (mark_of (plain_of h3))
    · cases h
  | .chn o o' a b c, so, sc, X, E3, e, g, h => by
    dsimp only [chkE] at h
    split at h
    · obtain ⟨h1, h2, h3, h4, h5⟩ := b5 h
      rw [beqCm_ok h1, beqCm_ok h2]
      exact z_chain (co_ok g.hu o) (co_ok g.hu o') (sE a g h3) (sE b g h4) (sE c g h5) (by
        show behindInMarks o'.op _ = false
        exact mark_of (plain_of h5))
    · cases h
  | .bol kk es, so, sc, X, E3, e, g, h => by
    dsimp only [chkE] at h
    split at h
    · rename_i op vs pos
      obtain ⟨h1, h2⟩ := b2 h
      cases op with
      | And =>
        have h1 : kk = true := h1
        subst h1
        exact sVa es g h2
      | Or =>
        have h1 : kk = false := by simpa using h1
        subst h1
        exact sVo es g h2
    · cases h
  | .nt a, so, sc, X, E3, e, g, h => by
    dsimp only [chkE] at h
    split at h
    · exact z_vnot (sE a g h)
    · cases h
  | .ite c a b, so, sc, X, E3, e, g, h => by
    dsimp only [chkE] at h
    split at h
    · obtain ⟨h1, h2, h3⟩ := b3 h
      exact z_ite (sT c g h1) (sE a g h2) (sE b g h3)
    · cases h
  | .tup es, so, sc, X, E3, e, g, h => by
    dsimp only [chkE] at h
    split at h
    · exact z_tup (sL es g h)
    · cases h
  | .lst m es, so, sc, X, E3, e, g, h => by
    dsimp only [chkE] at h
    split at h
    · cases m with
      | true => exact z_lstM (sL es g h)
      | false => exact z_lst (sL es g h)
    · cases h
  | .idx a b, so, sc, X, E3, e, g, h => by
    dsimp only [chkE] at h
    split at h
    · obtain ⟨h1, h2⟩ := b2 h
      exact z_ix (zi_ix (by have := g.hu; omega)) (sE a g h1) (sE b g h2) (plainIx_of (plain_of h2))
    · cases h
  | .sli a lo hi, so, sc, X, E3, e, g, h => by
    dsimp only [chkE] at h
    split at h
    · obtain ⟨h1, h2, h3⟩ := b3 h
      exact z_sl rfl (sE a g h1) (sO lo g h2) (sO hi g h3)
    · cases h
  | .rev a, so, sc, X, E3, e, g, h => by
    dsimp only [chkE] at h
    split at h
    · exact z_rev rfl (sE a g h)
    · cases h
  | .call j x xs, so, sc, X, E3, e, g, h => by
    dsimp only [chkE] at h
    split at h
    · obtain ⟨h1, h2, h3, h4, h5⟩ := b5 h
      exact z_call' g h1 h2 h3 (sE x g h4) (sL xs g h5) (plain_of h4) (plainL_of h5)
    · cases h
  | .blt b x xs, so, sc, X, E3, e, g, h => by
    dsimp only [chkE] at h
    split at h
    · obtain ⟨h1, h2, h3, h4, h5⟩ := b5 h
      have h1 := of_decide_eq_true h1
      subst h1
      exact z_blt' g h2 h3 (sE x g h4) (sL xs g h5) (plain_of h4) (plainL_of h5)
    · cases h
  | .isi T x, so, sc, X, E3, e, g, h => by
    dsimp only [chkE] at h
    split at h
    · obtain ⟨h1, h2, h3, h4, h5, h6, h7⟩ := b7 h
      have h1 := of_decide_eq_true h1
      have h4 := of_decide_eq_true h4
      subst h1 h4
      exact z_isi' g h2 h3 h5 h6 (sE x g h7) (plain_of h7)
    · cases h
  | .mth m o x xs, so, sc, X, E3, e, g, h => by
    dsimp only [chkE] at h
    split at h
    · obtain ⟨h1, h2, h3, h4, h5, h6⟩ := b6 h
      have h1 := of_decide_eq_true h1
      subst h1
      exact z_mth' g (fun _ _ => base_of h4) h2 h3 (sE o g h4) (sE x g h5) (sL xs g h6) (plain_of h5) (plainL_of h6)
    · cases h
  | .comp m elt tg ik its ifs own, so, sc, X, E3, e, g, h => by
    dsimp only [chkE] at h
    split at h
    · obtain ⟨h1, h2, h3, h4, h5, h6, h7⟩ := b7 h
      have h1 := of_decide_eq_true h1
      subst h1
      obtain ⟨p1, p2⟩ := z_it (tl := wpl G its E3) g h4 (fun es he => ⟨sL its g he, plainL_of he⟩) (fun e he => sL1 its g he)
      exact z_lc' g p1 h2 h3 h5 (fun hk g' => by rw [← hk]; exact sC ifs g' h6) (fun hk g' => by rw [← hk]; exact sE elt g' h7) p2
    · cases h
  | .newK m, so, sc, X, E3, e, g, h => by
    dsimp only [chkE] at h
    split at h
    · exact z_newK
    · cases h
  | .newT, so, sc, X, E3, e, g, h => by
    dsimp only [chkE] at h
    split at h
    · exact z_newT
    · cases h
  | .dis m kvs, so, sc, X, E3, e, g, h => by
    dsimp only [chkE] at h
    split at h
    · obtain ⟨h1, h2, h3⟩ := b3 h
      obtain ⟨p1, p2, p3⟩ := sP kvs g h1
      exact z_disp (p1 _) p2 p3 (of_decide_eq_true h2) (of_decide_eq_true h3)
    · cases h
theorem sT : ∀ (ex : Ex) {so sc : Scope} {X : Cx} {E3 : X3} {e : Expr}, Good G N so sc X XR M0 H0 E3 k → chkT G N ex sc e = true → PT X e (LT X.K M0 H0 (wpt G ex E3))
  | .cmp o a b, so, sc, X, E3, e, g, h => by
    dsimp only [chkT] at h
    split at h
    · obtain ⟨h1, h2, h3⟩ := b3 h
      rw [beqCm_ok h1]
      exact z_tcmp (co_ok g.hu o) (sE a g h2) (sE b g h3) (mark_of (plain_of h3))
    · cases h
  | .chn o o' a b c, so, sc, X, E3, e, g, h => by
    dsimp only [chkT] at h
    split at h
    · obtain ⟨h1, h2, h3, h4, h5⟩ := b5 h
      rw [beqCm_ok h1, beqCm_ok h2]
      exact z_tchain (co_ok g.hu o) (co_ok g.hu o') (sE a g h3) (sE b g h4) (sE c g h5) (by
        show behindInMarks o'.op _ = false
        exact mark_of (plain_of h5))
    · cases h
  | .bol kk es, so, sc, X, E3, e, g, h => by
    dsimp only [chkT] at h
    split at h
    · rename_i op vs pos
      obtain ⟨h1, h2⟩ := b2 h
      cases op with
      | And =>
        have h1 : kk = true := h1
        subst h1
        exact (sBa es g h2).pt
      | Or =>
        have h1 : kk = false := by simpa using h1
        subst h1
        exact (sBo es g h2).pt
    · cases h
  | .nt a, so, sc, X, E3, e, g, h => by
    dsimp only [chkT] at h
    split at h
    · exact z_not (sT a g h)
    · cases h
  | .loc i, so, sc, X, E3, e, g, h => by
    dsimp only [chkT] at h
    split at h
    · exact z_truth rfl (z_loc' g h) fun _ => rfl
    · cases h
  | .idx a b, so, sc, X, E3, e, g, h => by
    dsimp only [chkT] at h
    split at h
    · obtain ⟨h1, h2⟩ := b2 h
      exact z_truth rfl (z_ix (zi_ix (by have := g.hu; omega)) (sE a g h1) (sE b g h2) (plainIx_of (plain_of h2))) fun _ => rfl
    · cases h
  | .call j x xs, so, sc, X, E3, e, g, h => by
    dsimp only [chkT] at h
    split at h
    · obtain ⟨h1, h2, h3, h4, h5⟩ := b5 h
      exact z_truth rfl (z_call' g h1 h2 h3 (sE x g h4) (sL xs g h5) (plain_of h4) (plainL_of h5)) fun _ => rfl
    · cases h
  | .blt b x xs, so, sc, X, E3, e, g, h => by
    dsimp only [chkT] at h
    split at h
    · obtain ⟨h1, h2, h3, h4, h5⟩ := b5 h
      have h1 := of_decide_eq_true h1
      subst h1
      exact z_truth rfl (z_blt' g h2 h3 (sE x g h4) (sL xs g h5) (plain_of h4) (plainL_of h5)) fun _ => rfl
    · cases h
  | .isi T x, so, sc, X, E3, e, g, h => by
    dsimp only [chkT] at h
    split at h
    · obtain ⟨h1, h2, h3, h4, h5, h6, h7⟩ := b7 h
      have h1 := of_decide_eq_true h1
      have h4 := of_decide_eq_true h4
      subst h1 h4
      exact z_truth rfl (z_isi' g h2 h3 h5 h6 (sE x g h7) (plain_of h7)) fun _ => rfl
    · cases h
  | .mth m o x xs, so, sc, X, E3, e, g, h => by
    dsimp only [chkT] at h
    split at h
    · obtain ⟨h1, h2, h3, h4, h5, h6⟩ := b6 h
      have h1 := of_decide_eq_true h1
      subst h1
      exact z_truth rfl (z_mth' g (fun _ _ => base_of h4) h2 h3 (sE o g h4) (sE x g h5) (sL xs g h6) (plain_of h5) (plainL_of h6)) fun _ => rfl
    · cases h
  | .non, _, _, _, _, _, _, h => absurd h Bool.false_ne_true
  | .bl _, _, _, _, _, _, _, h => absurd h Bool.false_ne_true
  | .int _, _, _, _, _, _, _, h => absurd h Bool.false_ne_true
  | .str _, _, _, _, _, _, _, h => absurd h Bool.false_ne_true
  | .glo _, _, _, _, _, _, _, h => absurd h Bool.false_ne_true
  | .bin _ _ _, _, _, _, _, _, _, h => absurd h Bool.false_ne_true
  | .neg _, _, _, _, _, _, _, h => absurd h Bool.false_ne_true
  | .ite _ _ _, _, _, _, _, _, _, h => absurd h Bool.false_ne_true
  | .tup _, _, _, _, _, _, _, h => absurd h Bool.false_ne_true
  | .lst _ _, _, _, _, _, _, _, h => absurd h Bool.false_ne_true
  | .sli _ _ _, _, _, _, _, _, _, h => absurd h Bool.false_ne_true
  | .rev _, _, _, _, _, _, _, h => absurd h Bool.false_ne_true
  | .comp _ _ _ _ _ _ _, _, _, _, _, _, _, h => absurd h Bool.false_ne_true
  | .newK _, _, _, _, _, _, _, h => absurd h Bool.false_ne_true
  | .newT, _, _, _, _, _, _, h => absurd h Bool.false_ne_true
  | .dis _ _, _, _, _, _, _, _, h => absurd h Bool.false_ne_true
theorem sL : ∀ (xs : List Ex) {so sc : Scope} {X : Cx} {E3 : X3} {es : List Expr}, Good G N so sc X XR M0 H0 E3 k → chkL G N xs sc es = true → PA X es (LA X.K M0 H0 (wpl G xs E3))
  | [], so, sc, X, E3, [], g, h => z_nil
  | [], so, sc, X, E3, _ :: _, g, h => absurd h Bool.false_ne_true
  | x :: xs, so, sc, X, E3, [], g, h => absurd h Bool.false_ne_true
  | x :: xs, so, sc, X, E3, e :: es, g, h => by
    obtain ⟨h1, h2⟩ := b2 (show (chkE G N x sc e && chkL G N xs sc es) = true from h)
    exact z_cons (sE x g h1) (sL xs g h2) (star_of (plain_of h1) _ _)
theorem sL1 : ∀ (xs : List Ex) {so sc : Scope} {X : Cx} {E3 : X3} {e : Expr}, Good G N so sc X XR M0 H0 E3 k → chkL G N xs sc [e] = true → ∃ te, wpl G xs E3 = cons3 te nil3 ∧ PE X e (LE X.K M0 H0 te)
  | [], so, sc, X, E3, e, g, h => absurd h Bool.false_ne_true
  | x :: xs, so, sc, X, E3, e, g, h => by
    obtain ⟨h1, h2⟩ := b2 (show (chkE G N x sc e && chkL G N xs sc []) = true from h)
    cases xs with
    | nil => exact ⟨_, rfl, sE x g h1⟩
    | cons y r => exact absurd h2 Bool.false_ne_true
theorem sVa : ∀ (xs : List Ex) {so sc : Scope} {X : Cx} {E3 : X3} {es : List Expr} {pos : Pos}, Good G N so sc X XR M0 H0 E3 k → chkL G N xs sc es = true → PE X (.BoolOp .And es pos) (LE X.K M0 H0 (wpv G true xs E3))
  | [], so, sc, X, E3, es, pos, g, h => ⟨fun _ _ _ _ _ _ ⟨_, _, _, _, _, _, t, _⟩ => t.elim⟩
  | [x], so, sc, X, E3, es, pos, g, h => by
    cases es with
    | nil => exact absurd h Bool.false_ne_true
    | cons e es =>
      obtain ⟨h1, h2⟩ := b2 (show (chkE G N x sc e && chkL G N [] sc es) = true from h)
      cases es with
      | nil => exact pe_one (sE x g h1)
      | cons _ _ => exact absurd h2 Bool.false_ne_true
  | x :: y :: r, so, sc, X, E3, es, pos, g, h => by
    cases es with
    | nil => exact absurd h Bool.false_ne_true
    | cons e es =>
      obtain ⟨h1, h2⟩ := b2 (show (chkE G N x sc e && chkL G N (y :: r) sc es) = true from h)
      cases es with
      | nil => exact absurd h2 Bool.false_ne_true
      | cons e' es => exact z_vand (sE x g h1) (sVa (y :: r) g h2)
theorem sVo : ∀ (xs : List Ex) {so sc : Scope} {X : Cx} {E3 : X3} {es : List Expr} {pos : Pos}, Good G N so sc X XR M0 H0 E3 k → chkL G N xs sc es = true → PE X (.BoolOp .Or es pos) (LE X.K M0 H0 (wpv G false xs E3))
  | [], so, sc, X, E3, es, pos, g, h => ⟨fun _ _ _ _ _ _ ⟨_, _, _, _, _, _, t, _⟩ => t.elim⟩
  | [x], so, sc, X, E3, es, pos, g, h => by
    cases es with
    | nil => exact absurd h Bool.false_ne_true
    | cons e es =>
      obtain ⟨h1, h2⟩ := b2 (show (chkE G N x sc e && chkL G N [] sc es) = true from h)
      cases es with
      | nil => exact pe_one (sE x g h1)
      | cons _ _ => exact absurd h2 Bool.false_ne_true
  | x :: y :: r, so, sc, X, E3, es, pos, g, h => by
    cases es with
    | nil => exact absurd h Bool.false_ne_true
    | cons e es =>
      obtain ⟨h1, h2⟩ := b2 (show (chkE G N x sc e && chkL G N (y :: r) sc es) = true from h)
      cases es with
      | nil => exact absurd h2 Bool.false_ne_true
      | cons e' es => exact z_vor (sE x g h1) (sVo (y :: r) g h2)
theorem sBa : ∀ (xs : List Ex) {so sc : Scope} {X : Cx} {E3 : X3} {es : List Expr} {pos : Pos}, Good G N so sc X XR M0 H0 E3 k → chkTL G N xs sc es = true → PW X (.BoolOp .And es pos) (LT X.K M0 H0 (wpb G true xs E3))
  | [], so, sc, X, E3, es, pos, g, h => ⟨fun _ _ _ _ _ _ _ ⟨_, _, _, _, _, _, t, _⟩ => t.elim⟩
  | [x], so, sc, X, E3, es, pos, g, h => by
    cases es with
    | nil => exact absurd h Bool.false_ne_true
    | cons e es =>
      obtain ⟨h1, h2⟩ := b2 (show (chkT G N x sc e && chkTL G N [] sc es) = true from h)
      cases es with
      | nil => exact z_wand1 (sT x g h1)
      | cons _ _ => exact absurd h2 Bool.false_ne_true
  | x :: y :: r, so, sc, X, E3, es, pos, g, h => by
    cases es with
    | nil => exact absurd h Bool.false_ne_true
    | cons e es =>
      obtain ⟨h1, h2⟩ := b2 (show (chkT G N x sc e && chkTL G N (y :: r) sc es) = true from h)
      cases es with
      | nil => exact absurd h2 Bool.false_ne_true
      | cons e' es => exact z_wand (sT x g h1) (sBa (y :: r) g h2)
theorem sBo : ∀ (xs : List Ex) {so sc : Scope} {X : Cx} {E3 : X3} {es : List Expr} {pos : Pos}, Good G N so sc X XR M0 H0 E3 k → chkTL G N xs sc es = true → PW X (.BoolOp .Or es pos) (LT X.K M0 H0 (wpb G false xs E3))
  | [], so, sc, X, E3, es, pos, g, h => ⟨fun _ _ _ _ _ _ _ ⟨_, _, _, _, _, _, t, _⟩ => t.elim⟩
  | [x], so, sc, X, E3, es, pos, g, h => by
    cases es with
    | nil => exact absurd h Bool.false_ne_true
    | cons e es =>
      obtain ⟨h1, h2⟩ := b2 (show (chkT G N x sc e && chkTL G N [] sc es) = true from h)
      cases es with
      | nil => exact z_wor1 (sT x g h1)
      | cons _ _ => exact absurd h2 Bool.false_ne_true
  | x :: y :: r, so, sc, X, E3, es, pos, g, h => by
    cases es with
    | nil => exact absurd h Bool.false_ne_true
    | cons e es =>
      obtain ⟨h1, h2⟩ := b2 (show (chkT G N x sc e && chkTL G N (y :: r) sc es) = true from h)
      cases es with
      | nil => exact absurd h2 Bool.false_ne_true
      | cons e' es => exact z_wor (sT x g h1) (sBo (y :: r) g h2)
theorem sO : ∀ (xs : List Ex) {so sc : Scope} {X : Cx} {E3 : X3} {e : Option Expr}, Good G N so sc X XR M0 H0 E3 k → chkO G N xs sc e = true → PO X e (LO X.K M0 H0 (wpo G xs E3))
  | [], so, sc, X, E3, none, g, h => z_pnone
  | [], so, sc, X, E3, some _, g, h => absurd h Bool.false_ne_true
  | x :: xs, so, sc, X, E3, none, g, h => absurd h Bool.false_ne_true
  | x :: xs, so, sc, X, E3, some e, g, h => by
    obtain ⟨h1, h2⟩ := b2 (show (chkE G N x sc e && xs.isEmpty) = true from h)
    exact z_psome (sE x g h1)
theorem sC : ∀ (xs : List Ex) {so sc : Scope} {X : Cx} {E3 : X3} {es : List Expr}, Good G N so sc X XR M0 H0 E3 k → chkC G N xs sc es = true → PTs X es (LT X.K M0 H0 (wpc G xs E3))
  | [], so, sc, X, E3, [], g, h => z_tnil
  | [], so, sc, X, E3, _ :: _, g, h => absurd h Bool.false_ne_true
  | x :: xs, so, sc, X, E3, es, g, h => by
    dsimp only [chkC] at h
    split at h
    · obtain ⟨h1, h2⟩ := b2 h
      exact z_tone (sT x g h1)
    · cases h
theorem sP : ∀ (xs : List Ex) {so sc : Scope} {X : Cx} {E3 : X3} {ks : List (Option Expr)} {vs : List Expr}, Good G N so sc X XR M0 H0 E3 k → chkP G N xs sc ks vs = true → (∀ pos, PPs X pos ks vs (LPs X.K M0 H0 (wpp G xs E3))) ∧ ks.all (·.isSome) = true ∧ ks.length = vs.length
  | [], so, sc, X, E3, ks, vs, g, h => by
    dsimp only [chkP] at h
    split at h
    · exact ⟨fun _ => pps_nil, rfl, rfl⟩
    · cases h
  | [_], so, sc, X, E3, ks, vs, g, h => absurd h Bool.false_ne_true
  | a :: b :: r, so, sc, X, E3, ks, vs, g, h => by
    dsimp only [chkP] at h
    split at h
    · rename_i ka kks vb vvs
      obtain ⟨h1, h2, h3⟩ := b3 h
      obtain ⟨p1, p2, p3⟩ := sP r g h3
      refine ⟨fun pos => pps_cons (sE a g h1) (sE b g h2) (p1 pos), ?_, ?_⟩
      · show (true && kks.all (·.isSome)) = true
        rw [p2]; rfl
      · rw [List.length_cons, List.length_cons, p3]
    · cases h
end
end
end Z

namespace Z
open PySem PySem.Spec PyProof.Rows L2

def isLC : Expr → Bool | .ListComp .. => true | _ => false
def isTu : Expr → Bool | .Tuple .. => true | _ => false
def lcScope : Expr → Scope → Scope | .ListComp _ _ s _, _ => s | _, s => s
/-- an assignment of a comprehension to a name is done in its block -/
def lcSwap (sc : Scope) (x : Str) (px : Pos) (p : Pos) (scope : Scope) : Bool :=
  (sc.names.lookup x == some .local) && (px.line == p.line) && !(scope.names.any fun z => z.1 == x && (z.2 == .local || z.2 == .cell))
/-- a pair is not stored by swapping: one of its names is no plain local one -/
def noSwap (sc : Scope) (t v : Expr) : Bool := !isTu v || (match t with
  | .Tuple ts _ _ => ts.any fun | .Name x _ => !(sc.names.lookup x == some .local) | _ => true
  | _ => false)
mutual
def chkS (G : GT) (N : List Str) (sc : Scope) : Sx → Stmt → Bool
  | .asg tg e, st => match st with
    | .Assign [t] v _ => chkE G N e sc v && (match tg with | .nm i => (match t with | .Name x _ => decide (N[i]? = some x) && isLoc sc x | _ => false) | .tp is => isTu t && chkTg N sc (.tp is) t && noSwap sc t v)
    | _ => false
  | .par i j a b, st => match st with
    | .Assign [.Tuple [.Name x px, .Name y py] _ _] (.Tuple [v, w] _ _) _ => decide (N[i]? = some x) && decide (N[j]? = some y) && decide (i ≠ j) && (sc.names.lookup x == some .local) && (sc.names.lookup y == some .local) && (py.line == px.line) && (!foldedForSure 8 v || !foldedForSure 8 w) && (!constantsAlone 8 v || !constantsAlone 8 w) && chkE G N a sc v && chkE G N b sc w
    | _ => false
  | .sput o i e, st => match st with
    | .Assign [.Subscript x y _] v _ => chkE G N o sc x && chkE G N i sc y && chkE G N e sc v
    | _ => false
  | .aug i k e, st => match st with
    | .AugAssign (.Name x _) op v _ => decide (N[i]? = some x) && isLoc sc x && (match op with | .Add => k | .Sub => !k | _ => false) && chkE G N e sc v
    | _ => false
  | .expr e, st => match st with
    | .Expr v _ => chkE G N e sc v && !isLC v
    | _ => false
  | .ret e, st => match st with
    | .Return (some v) _ => chkE G N e sc v
    | _ => false
  | .retN, st => match st with
    | .Return none _ => true
    | _ => false
  | .ifs c a b, st => match st with
    | .If t x y _ => chkT G N c sc t && chkSs G N sc a x && chkSs G N sc b y
    | _ => false
  | .fors tg ik its body, st => match st with
    | .For t it x [] _ => chkI G ik sc it t (chkL G N its sc) && chkTg N sc tg t && chkSs G N sc body x
    | _ => false
  | .whl c body, st => match st with
    | .While t x [] _ => chkT G N c sc t && chkSs G N sc body x
    | _ => false
  | .brk, st => match st with | .Break _ => true | _ => false
  | .cnt, st => match st with | .Continue _ => true | _ => false
  | .pss, st => match st with | .Pass _ => true | _ => false
  | .fz _, _ => false
def chkSs (G : GT) (N : List Str) (sc : Scope) : List Sx → List Stmt → Bool
  | [], sts => match sts with | [] => true | _ => false
  | s :: r, sts => match s with
    | .fz _ => chkSs G N sc r sts
    | s => match sts with | st :: sts => chkS G N sc s st && chkSs G N sc r sts | [] => false
end
theorem swaps_plain {e : Expr} {t : Option Expr} {n : Nat} {env : Env} (hp : plain e = true) (h : isLC e = false) : swapsWith e t n env = pure false := by
  cases e <;> first | rfl | (exact absurd hp Bool.false_ne_true) | (exact absurd h.symm Bool.false_ne_true)
theorem swaps_tu {e t : Expr} {n : Nat} {env : Env} (hp : plain e = true) (h : isTu t = true) : swapsWith e (some t) n env = pure false := by
  cases t <;> first | (exact absurd h Bool.false_ne_true) | skip
  cases e <;> first | rfl | (exact absurd hp Bool.false_ne_true)
theorem swaps_sub {e o i : Expr} {p : Pos} {n : Nat} {env : Env} (hp : plain e = true) : swapsWith e (some (.Subscript o i p)) n env = pure false := by
  cases e <;> first | rfl | (exact absurd hp Bool.false_ne_true)
theorem stores_tu {e t : Expr} {env : Env} (h : isTu e = false) : swappedStores [t] e env = pure none := by
  cases e <;> first | (exact absurd h.symm Bool.false_ne_true) | skip
  all_goals (cases t <;> rfl)
theorem stores_sub {e o i : Expr} {p : Pos} {env : Env} : swappedStores [.Subscript o i p] e env = pure none := by
  cases e <;> rfl
theorem stores_no {sc : Scope} {e t : Expr} {env : Env} (hs : env.scope = sc) (h : noSwap sc t e = true) : swappedStores [t] e env = pure none := by
  unfold noSwap at h
  by_cases hu : isTu e = true
  · cases e with
    | Tuple vs k2 p2 =>
      cases t with
      | Tuple ts k p =>
        have h : (ts.any fun | .Name x _ => !(sc.names.lookup x == some .local) | _ => true) = true := h
        obtain ⟨z, hz, hz2⟩ := List.any_eq_true.mp h
        unfold swappedStores
        dsimp only
        by_cases h1 : (!(ts.length == 2 || ts.length == 3) || vs.length != ts.length || env.blockKind != .function) = true
        · exact if_pos h1
        refine (if_neg h1).trans ?_
        by_cases h2 : (vs.any fun | .Starred .. => true | _ => false) = true
        · exact if_pos h2
        refine (if_neg h2).trans ?_
        refine if_pos ?_
        rw [Bool.or_eq_true]
        left
        simp only [bne_iff_ne, ne_eq]
        intro q
        rw [List.filterMap_length_eq_length] at q
        have := q z hz
        cases z with
        | Name x pos =>
          dsimp only at this hz2
          have kx : env.kindOf x = sc.names.lookup x := by rw [← hs]; rfl
          rw [kx] at this
          have e0 : (sc.names.lookup x == some NameKind.local) = false := by simpa using hz2
          rw [e0] at this
          exact Bool.false_ne_true this
        | _ => exact Bool.false_ne_true this
      | _ => exact absurd h Bool.false_ne_true
    | _ => exact absurd hu Bool.false_ne_true
  · exact stores_tu (by simpa using hu)
theorem RS.swap {K : PySem.W.Frag} {M M' : MH} {H : Hp} {e : En} {σ : L2.St} (r : RS K M H e σ) (ev : Ev M H M' H) {i : Nat} {d d' : D} (hd : getE e i = some d) (f : ∀ v, Rp K M H d v → Rp K M' H d' v) : RS K M' H (setE e i d') σ := by
  obtain ⟨v, h1, h2⟩ := r.get i d hd
  have := (r.ev ev).set i (f v h2)
  rwa [List.set_getElem?_self' h1] at this
where
  List.set_getElem?_self' {α : Type} {l : List α} {i : Nat} {a : α} (h : l[i]? = some a) : l.set i a = l := by
    obtain ⟨h1, h2⟩ := List.getElem?_eq_some_iff.mp h
    rw [← h2]; exact List.set_getElem_self h1

section
variable {G : GT} {N : List Str} {XR : XRel} {M0 : MH} {H0 : Hp} {k : Nat}
theorem swaps_lc {sc : Scope} {X : Cx} {el : Expr} {gs : List Comprehension} {scope : Scope} {p px : Pos} {x : Str} {n : Nat} (hs : X.env.scope = sc) (bk : X.env.blockKind = .function) : swapsWith (.ListComp el gs scope p) (some (.Name x px)) n X.env = pure (lcSwap sc x px p scope) := by
  have h1 : swapsWith (.ListComp el gs scope p) (some (.Name x px)) n X.env = pure (X.env.blockKind == .function && X.env.kindOf x == some .local && px.line == p.line && !(scope.names.any fun z => z.1 == x && (z.2 == .local || z.2 == .cell))) := rfl
  rw [h1, bk]
  have h2 : X.env.kindOf x = sc.names.lookup x := by rw [← hs]; rfl
  rw [h2]
  rfl
theorem stores_two {sc : Scope} {X : Cx} {x y : Str} {px py pt pt2 : Pos} {kt k2 : Nat} {v w : Expr} (hs : X.env.scope = sc) (bk : X.env.blockKind = .function) (hx : (sc.names.lookup x == some .local) = true) (hy : (sc.names.lookup y == some .local) = true) (hxy : x ≠ y) (hl : (py.line == px.line) = true)
    (hf : (!foldedForSure 8 v || !foldedForSure 8 w) = true) (hc : (!constantsAlone 8 v || !constantsAlone 8 w) = true) (pv : plain v = true) (pw : plain w = true) :
    swappedStores [.Tuple [.Name x px, .Name y py] kt pt] (.Tuple [v, w] k2 pt2) X.env = pure (some [x, y]) := by
  have kx : X.env.kindOf x = sc.names.lookup x := by rw [← hs]; rfl
  have ky : X.env.kindOf y = sc.names.lookup y := by rw [← hs]; rfl
  have sv : ([v, w].any fun | .Starred .. => true | _ => false) = false := by
    cases v <;> first | (exact absurd pv Bool.false_ne_true) | skip
    all_goals (cases w <;> first | (exact absurd pw Bool.false_ne_true) | rfl)
  have ff : [v, w].all (foldedForSure 8) = false := by
    show (foldedForSure 8 v && (foldedForSure 8 w && true)) = false
    cases q : foldedForSure 8 v <;> cases q2 : foldedForSure 8 w <;> simp_all
  have cc : [v, w].all (constantsAlone 8) = false := by
    show (constantsAlone 8 v && (constantsAlone 8 w && true)) = false
    cases q : constantsAlone 8 v <;> cases q2 : constantsAlone 8 w <;> simp_all
  have hn : ([Expr.Name x px, Expr.Name y py].filterMap fun
    | .Name id pos => if X.env.kindOf id == some .local && pos.line == px.line then some id else none
    | _ => none) = [x, y] := by
    simp only [List.filterMap_cons, List.filterMap_nil, kx, ky, hx, hy, hl, beq_self_eq_true, Bool.and_self, if_true]
  have he : ([x, y].eraseDups.length != 2) = false := by
    have : (y == x) = false := by simpa using fun h : y = x => hxy h.symm
    simp [List.eraseDups, List.eraseDupsBy, List.eraseDupsBy.loop, this]
  unfold swappedStores
  dsimp only
  have e1 : (X.env.blockKind != ScopeKind.function) = false := by rw [bk]; rfl
  have hh : ([Expr.Name x px, Expr.Name y py].head?.map (·.pos.line)).getD 0 = px.line := rfl
  simp only [e1]
  refine (if_neg (by show ¬ false = true; exact Bool.false_ne_true)).trans ?_
  refine (if_neg (by
    intro z
    exact Bool.false_ne_true (sv.symm.trans z))).trans ?_
  have hn2 := hn
  refine (if_neg (fun z => ?_)).trans ?_
  · have z2 : (([x, y] : List Str).length != 2 || ([x, y] : List Str).eraseDups.length != ([x, y] : List Str).length) = true := by
      rw [← hn]; exact z
    rw [show (([x, y] : List Str).length != 2) = false from rfl, Bool.false_or] at z2
    exact Bool.false_ne_true (he.symm.trans z2)
  · refine (if_neg (by rw [ff]; exact Bool.false_ne_true)).trans ?_
    refine (if_neg (by rw [cc]; exact Bool.false_ne_true)).trans ?_
    exact congrArg (fun l => (pure (some l) : Sem (Option (List Str)))) hn
end
end Z

namespace Z
open PySem PySem.Spec PyProof.Rows L2
section
variable {G : GT} {N : List Str} {XR : XRel} {M0 : MH} {H0 : Hp} {k : Nat} {sc : Scope} {X : Cx} {E3 : X3}
theorem sole {t v : Expr} {n : Nat} {env : Env} : swapsWithSole [t] v n env = swapsWith v (some t) n env := rfl
theorem name_of (g : Good G N sc sc X XR M0 H0 E3 k) {i : Nat} {x : Str} (h1 : decide (N[i]? = some x) = true) (h2 : isLoc sc x = true) : X.N.Nodup ∧ X.N[i]? = some x ∧ Loc X.env.scope x ∧ (X.fn x = true ∨ X.env.scope.names.lookup x = some .local) := by
  obtain ⟨l1, l2⟩ := loc_of g h2
  exact ⟨by rw [g.hN]; exact g.nd, by rw [g.hN]; exact of_decide_eq_true h1, l1, l2⟩
theorem z_setlc' (g : Good G N sc sc X XR M0 H0 E3 k) {m : Bool} {i : Nat} {x : Str} {px p spos : Pos} {elt : Ex} {tg : Tg} {ik : IK} {its ifs : List Ex} {own : List (Str × Nat)} {el : Expr} {gs : List Comprehension} {scope : Scope} (bk : X.env.blockKind = .function)
    (hi : decide (N[i]? = some x) = true) (hsw : lcSwap sc x px p scope = true) (h : chkE G N (.comp m elt tg ik its ifs own) sc (.ListComp el gs scope p) = true) :
    PS X (.Assign [.Name x px] (.ListComp el gs scope p) spos) (LS X.K M0 H0 (asg3 (wpe G (.comp m elt tg ik its ifs own) E3) (.nm i))) := by
  have hx : X.env.scope.names.lookup x = some .local := by
    rw [g.hsc]
    unfold lcSwap at hsw
    exact eq_of_beq (b3 hsw).1
  have hw := swaps_lc (el := el) (gs := gs) (n := spos.line) g.hsc bk (scope := scope) (p := p) (px := px) (x := x)
  rw [hsw] at hw
  dsimp only [chkE] at h
  split at h
  · rename_i el' t it fs ia scope' pos' heq
    cases heq
    obtain ⟨h1, h2, h3, h4, h5, h6, h7⟩ := b7 h
    have h1 := of_decide_eq_true h1
    subst h1
    obtain ⟨p1, p2⟩ := z_it (tl := wpl G its E3) g h4 (fun es he => ⟨sL its g he, plainL_of he⟩) (fun e he => sL1 its g he)
    exact z_setlc g.calm (by rw [g.hN]; exact g.nd) (by rw [g.hN]; exact of_decide_eq_true hi) hx hw p1 (blkOk_by (by rw [g.hN, g.hsc]; exact h2)) (fun i hi => by
      rw [List.all_eq_true] at h3
      exact of_decide_eq_true (h3 i hi)) (fun s H C cl fp => tg_ok g.blk h5) (fun s H C cl fp => sC ifs g.blk h6) (fun s H C cl fp => sE elt g.blk h7) (fold_of p2 _)
  · cases h
theorem b10 {a b c d e f g h i j : Bool} (z : (a && b && c && d && e && f && g && h && i && j) = true) : a = true ∧ b = true ∧ c = true ∧ d = true ∧ e = true ∧ f = true ∧ g = true ∧ h = true ∧ i = true ∧ j = true := by
  obtain ⟨z, z10⟩ := b2 z
  obtain ⟨z, z9⟩ := b2 z
  obtain ⟨z, z8⟩ := b2 z
  obtain ⟨z1, z2, z3, z4, z5, z6, z7⟩ := b7 z
  exact ⟨z1, z2, z3, z4, z5, z6, z7, z8, z9, z10⟩
theorem asg_ok (g : Good G N sc sc X XR M0 H0 E3 k) (bk : X.env.blockKind = .function) {tg : Tg} {e : Ex} {t v : Expr} {pos : Pos} (h1 : chkE G N e sc v = true)
    (h2 : (match tg with | .nm i => (match t with | .Name x _ => decide (N[i]? = some x) && isLoc sc x | _ => false) | .tp is => isTu t && chkTg N sc (.tp is) t && noSwap sc t v) = true) :
    PS X (.Assign [t] v pos) (LS X.K M0 H0 (asg3 (wpe G e E3) tg)) := by
  have pl := plain_of h1
  cases tg with
  | nm i =>
    dsimp only at h2
    split at h2
    · rename_i x px
      obtain ⟨h2, h3⟩ := b2 h2
      obtain ⟨n1, n2, n3, n4⟩ := name_of g h2 h3
      by_cases hl : isLC v = true
      · cases v with
        | ListComp el gs scope p =>
          cases hsw : lcSwap sc x px p scope with
          | true =>
            cases e <;> first | (exact absurd h1 Bool.false_ne_true) | exact z_setlc' g bk h2 hsw h1
          | false =>
            refine z_set n1 n2 n3 (sE e g h1) ?_ n4
            rw [swaps_lc g.hsc bk, hsw]
        | _ => exact absurd hl Bool.false_ne_true
      · exact z_set n1 n2 n3 (sE e g h1) (swaps_plain pl (by simpa using hl)) n4
    · cases h2
  | tp is =>
    obtain ⟨h2, h3, h4⟩ := b3 h2
    cases t <;> first | (exact absurd h2 Bool.false_ne_true) | skip
    exact z_asg (sE e g h1) (tg_ok g h3) (sole.trans (swaps_tu pl h2)) (stores_no g.hsc h4) rfl
mutual
theorem sSt : ∀ (s : Sx) {st : Stmt}, Good G N sc sc X XR M0 H0 E3 k → X.env.blockKind = .function → PassesOwn (model X.prog X.w) X.A X.env X.xe → chkS G N sc s st = true → PS X st (LS X.K M0 H0 (wps G E3 s))
  | .asg tg e, st, g, bk, hp, h => by
    dsimp only [chkS] at h
    split at h
    · obtain ⟨h1, h2⟩ := b2 h
      exact asg_ok g bk h1 h2
    · cases h
  | .par i j a b, st, g, bk, hp, h => by
    dsimp only [chkS] at h
    split at h
    · rename_i x px y py kt pt v w k2 pt2 pos
      obtain ⟨h1, h2, h3, h4, h5, h6, h7, h8, h9, h10⟩ := b10 h
      have hi := of_decide_eq_true h1
      have hj := of_decide_eq_true h2
      have hij := of_decide_eq_true h3
      have nd := g.nd
      have hxy : x ≠ y := by
        intro z
        subst z
        obtain ⟨l1, e1⟩ := List.getElem?_eq_some_iff.mp hi
        obtain ⟨l2, e2⟩ := List.getElem?_eq_some_iff.mp hj
        exact hij ((List.getElem_inj nd).mp (e1.trans e2.symm))
      exact z_par g.calm (by rw [g.hN]; exact nd) (by rw [g.hN]; exact hi) (by rw [g.hN]; exact hj) hij (by rw [g.hsc]; exact eq_of_beq h4) (by rw [g.hsc]; exact eq_of_beq h5) (z_cons (sE a g h9) (z_cons (sE b g h10) z_nil (star_of (plain_of h10) _ _)) (star_of (plain_of h9) _ _)) (stores_two g.hsc bk h4 h5 hxy h6 h7 h8 (plain_of h9) (plain_of h10))
    · cases h
  | .sput o i e, st, g, bk, hp, h => by
    dsimp only [chkS] at h
    split at h
    · obtain ⟨h1, h2, h3⟩ := b3 h
      have pi := plain_of h2
      exact z_sput (seti (by have := g.hu; omega)) (sE o g h1) (sE i g h2) (sE e g h3) (fun v => by
        rename_i y _ _ _
        cases y <;> first | rfl | (exact absurd pi Bool.false_ne_true)) (sole.trans (swaps_sub (plain_of h3))) stores_sub rfl
    · cases h
  | .aug i kk e, st, g, bk, hp, h => by
    dsimp only [chkS] at h
    split at h
    · rename_i x px op v pos
      obtain ⟨h, h4⟩ := b2 h
      obtain ⟨h1, h2, h3⟩ := b3 h
      obtain ⟨n1, n2, n3, n4⟩ := name_of g h1 h2
      cases op with
      | Add =>
        have h3 : kk = true := h3
        subst h3
        exact z_aug n1 n2 n3 (sE e g h4) zi_add n4
      | Sub =>
        have h3 : kk = false := by simpa using h3
        subst h3
        exact z_aug n1 n2 n3 (sE e g h4) zi_sub n4
      | _ => exact absurd h3 Bool.false_ne_true
    · cases h
  | .expr e, st, g, bk, hp, h => by
    dsimp only [chkS] at h
    split at h
    · obtain ⟨h1, h2⟩ := b2 h
      exact z_expr (sE e g h1) (swaps_plain (plain_of h1) (by simpa using h2))
    · cases h
  | .ret e, st, g, bk, hp, h => by
    dsimp only [chkS] at h
    split at h
    · exact z_ret (sE e g h)
    · cases h
  | .retN, st, g, bk, hp, h => by
    dsimp only [chkS] at h
    split at h
    · exact z_retN
    · cases h
  | .ifs c a b, st, g, bk, hp, h => by
    dsimp only [chkS] at h
    split at h
    · obtain ⟨h1, h2, h3⟩ := b3 h
      exact z_if (sT c g h1) (sSs a g bk hp h2) (sSs b g bk hp h3)
    · cases h
  | .fors tg ik its body, st, g, bk, hp, h => by
    dsimp only [chkS] at h
    split at h
    · obtain ⟨h1, h2, h3⟩ := b3 h
      obtain ⟨p1, p2⟩ := z_it (tl := wpl G its E3) g h1 (fun es he => ⟨sL its g he, plainL_of he⟩) (fun e he => sL1 its g he)
      exact z_for hp g.calm p1 (tg_ok g h2) (sSs body g bk hp h3) (fold_of p2 _)
    · cases h
  | .whl c body, st, g, bk, hp, h => by
    dsimp only [chkS] at h
    split at h
    · obtain ⟨h1, h2⟩ := b2 h
      exact z_while hp (sT c g h1) (sSs body g bk hp h2)
    · cases h
  | .brk, st, g, bk, hp, h => by
    dsimp only [chkS] at h
    split at h
    · exact z_break
    · cases h
  | .cnt, st, g, bk, hp, h => by
    dsimp only [chkS] at h
    split at h
    · exact z_cont
    · cases h
  | .pss, st, g, bk, hp, h => by
    dsimp only [chkS] at h
    split at h
    · exact z_pass
    · cases h
  | .fz _, st, g, bk, hp, h => absurd h Bool.false_ne_true
theorem sSs : ∀ (ss : List Sx) {sts : List Stmt}, Good G N sc sc X XR M0 H0 E3 k → X.env.blockKind = .function → PassesOwn (model X.prog X.w) X.A X.env X.xe → chkSs G N sc ss sts = true → PSs X sts (LS X.K M0 H0 (wpss G E3 ss))
  | [], sts, g, bk, hp, h => by
    cases sts with
    | nil => exact z_snil
    | cons _ _ => exact absurd h Bool.false_ne_true
  | s :: r, sts, g, bk, hp, h => by
    have main : ∀ {st sts'}, sts = st :: sts' → (chkS G N sc s st && chkSs G N sc r sts') = true → PSs X sts (LS X.K M0 H0 (seq3 (wps G E3 s) (wpss G E3 r))) := by
      intro st sts' e h'
      obtain ⟨h1, h2⟩ := b2 h'
      rw [e]
      exact z_scons (sSt s g bk hp h1) (sSs r g bk hp h2)
    cases s with
    | fz i =>
      refine z_ghost (sSs r g bk hp (show chkSs G N sc r sts = true from h)) fun D e M σ H rs rm q => ?_
      have q : fz3 i (wpss G E3 r) D e M := q
      unfold fz3 at q
      split at q
      · rename_i a ea
        have sb : Sub (er M a) M := Sub.er
        split at q
        · rename_i ds em
          obtain ⟨vs, g1, g2⟩ := rm a _ em
          refine ⟨_, _, rs.swap (Ev.sub sb) ea fun v hv => ?_, rm.sub sb, Ev.sub sb, q⟩
          exact ⟨a, vs, hv, er_none, g1, RpL.ev (Ev.sub sb) _ _ g2⟩
        · rename_i kvs em
          obtain ⟨vs, g1, g2⟩ := rm a _ em
          refine ⟨_, _, rs.swap (Ev.sub sb) ea fun v hv => ?_, rm.sub sb, Ev.sub sb, q⟩
          exact ⟨a, vs, hv, er_none, g1, by simp, RpL.ev (Ev.sub sb) _ _ g2⟩
        · rename_i kvs em
          obtain ⟨vs, g1, g2⟩ := rm a _ em
          refine ⟨_, _, rs.swap (Ev.sub sb) ea fun v hv => ?_, rm.sub sb, Ev.sub sb, q⟩
          exact ⟨a, vs, hv, er_none, g1, by simp, RpL.ev (Ev.sub sb) _ _ g2⟩
        · exact q.elim
      · exact q.elim
    | _ =>
      cases sts with
      | nil => exact absurd h Bool.false_ne_true
      | cons st sts' => exact main rfl h
end
end
end Z

namespace Z
open PySem PySem.Spec PyProof.Rows L2

/-- the written part has the def -/
def DF (K : PySem.W.Frag) (x : Str) (st : Stmt) : Prop := ∃ f fd, PySem.W.nsIn K mainGlobals x = some (some (.ref f)) ∧ Fun K x x st f fd
/-- .. the constant -/
def DC (K : PySem.W.Frag) (x : Str) (d : D) : Prop := ∃ v u, PySem.W.nsIn K mainGlobals x = some (some u) ∧ RelV v u ∧ ∀ M H, Rp K M H d v
/-- .. no such name -/
def DB (K : PySem.W.Frag) (x : Str) : Prop := PySem.W.nsIn K mainGlobals x = some none
theorem DF.mk {K : PySem.W.Frag} {x : Str} {st : Stmt} {f : Addr} {oc : Value} {od an : Option Addr} {osl : Array (Option Value)} {kV doc pm cdv ct : Value} (a : PySem.W.nsIn K mainGlobals x = some (some (.ref f))) (l : K.lookup f = some ⟨oc, od, .func (PySem.W.fnOf x x (defArgs st) (defBody st) (defScope st) .none kV doc pm an cdv ct), osl⟩)
    (c : PySem.W.codeIn K cdv x = true) (k : PySem.W.keepIn K (.ref f) = true) : DF K x st := ⟨f, _, a, fun_mk l c k⟩
theorem DC.int {K : PySem.W.Frag} {x : Str} {u : Value} {i : Int} (h : PySem.W.nsIn K mainGlobals x = some (some u)) (r : RelV (.int i) u) : DC K x (.int i) := ⟨.int i, u, h, r, fun _ _ => rfl⟩
theorem DC.str {K : PySem.W.Frag} {x : Str} {u : Value} {i : Str} (h : PySem.W.nsIn K mainGlobals x = some (some u)) (r : RelV (.str i) u) : DC K x (.str i) := ⟨.str i, u, h, r, fun _ _ => rfl⟩
/-- one of a list, each -/
def Each {α : Type u} (p : α → Prop) : List α → Prop
  | [] => True
  | x :: r => p x ∧ Each p r
theorem Each.get {α : Type u} {p : α → Prop} : ∀ {l : List α}, Each p l → ∀ x ∈ l, p x
  | [], _, x, h => by simp at h
  | y :: r, h, x, hx => by
    rcases List.mem_cons.mp hx with rfl | hx
    · exact h.1
    · exact Each.get h.2 x hx
/-- the names of a def's slots -/
def namesOk (N : List Str) : Bool := decide N.Nodup && N.all fun x => !(x == ("__debug__" : Str)) && !(x == ("__classdict__" : Str))
/-- its scope -/
def scopeOk (N ps : List Str) (sc : Scope) : Bool := decide (sc.kind = .function) && !sc.isCoroutine && !sc.isGenerator && namesOk N && decide (N.take ps.length = ps) &&
  (ps.all fun x => decide (sc.names.lookup x = some .local) || decide (sc.names.lookup x = some .cell)) && sc.names.all fun y => decide (y.2 ≠ .free)
theorem scope_of {N ps : List Str} {sc : Scope} (h : scopeOk N ps sc = true) : FnScope N ps sc ∧ N.Nodup ∧ (∀ x ∈ N, (x == ("__debug__" : Str)) = false ∧ (x == ("__classdict__" : Str)) = false) := by
  unfold scopeOk at h
  obtain ⟨h, h7⟩ := b2 h
  obtain ⟨h, h6⟩ := b2 h
  obtain ⟨h1, h2, h3, h4, h5⟩ := b5 h
  obtain ⟨h4, h8⟩ := b2 (show (decide N.Nodup && N.all fun x => !(x == ("__debug__" : Str)) && !(x == ("__classdict__" : Str))) = true from h4)
  have h4 := of_decide_eq_true h4
  refine ⟨⟨of_decide_eq_true h1, by simpa using h2, by simpa using h3, h4, of_decide_eq_true h5, fun x hx => ?_, fun y hy => ?_⟩, h4, fun x hx => ?_⟩
  · have := List.all_eq_true.mp h6 x hx
    simpa using this
  · have := List.all_eq_true.mp h7 y hy
    exact of_decide_eq_true this
  · have := List.all_eq_true.mp h8 x hx
    simpa using this
section
variable {P : Program} {w : World} {K : PySem.W.Frag} {mg : Str → Option Value} {base : Heap} {XR : XRel}
theorem fn_ok {x : Str} {st : Stmt} {f : Addr} {fd : FuncData} {N ps : List Str} {k n : Nat} {sp : Sp3} {G : GT} {body : List Sx} (F : Fun K x x st f fd) (hs : scopeOk N ps (defScope st) = true) (hn : ps.length = n)
    (fns : Each (fun e => Cal P w K mg base XR k e.1 e.2.1 e.2.2) G.fns) (cst : Each (fun e => ∃ v u, mg e.1 = some u ∧ RelV v u ∧ ∀ M H, Rp K M H e.2 v) G.cst) (bn : Each (fun x => mg x = none) G.bn)
    (chk : chkSs G N (defScope st) body (defBody st) = true) (pure : ∀ ds M Q E, ds.length = n → sp ds M Q E → wpss G E body (bodyEnds Q) (startE N.length ds) M) :
    FnOk P w K mg base (L2.CX P w) (k + 1) f fd ps (liftSp K XR n sp) := by
  obtain ⟨S, nd, nm⟩ := scope_of hs
  refine def_ok F S hn fun cdv A outer s H E M E3 hr cx => ⟨wpss G E3 body, ?_, fun ds Q3 hl h => pure ds M Q3 E3 hl h⟩
  refine sSs (sc := defScope st) (k := k) (XR := XR) body ?_ ?_ (passes_of rfl) chk
  · exact ⟨rfl, rfl, rfl, nd, nm, hr, fun _ _ => rfl, fun _ _ _ h => h, fun x n sp h => fns.get _ h, fun x d h => cst.get _ h, bn.get, out_body cx⟩
  · show (if (defScope st).kind.isAnnotationScope then ScopeKind.function else (defScope st).kind) = .function
    rw [S.kind]; rfl
/-- a def of the module, by its text and its reading -/
theorem cal_mk {h : Heap} (X : K.In h) (g : h.Ns mainGlobals mg) {x : Str} {st : Stmt} {N ps : List Str} {k n : Nat} {sp : Sp3} {G : GT} {body : List Sx} (d : DF K x st) (hs : scopeOk N ps (defScope st) = true) (hn : ps.length = n)
    (hb : ∀ (kV doc pm : Value) (an : Option Addr) (cdv ct : Value) (us : List Value), us.length = ps.length → bindArgs (PySem.W.fnOf x x (defArgs st) (defBody st) (defScope st) .none kV doc pm an cdv ct) ⟨us, []⟩ = pure (ps.zip us))
    (fns : Each (fun e => Cal P w K mg base XR k e.1 e.2.1 e.2.2) G.fns) (cst : Each (fun e => DC K e.1 e.2) G.cst) (bn : Each (fun x => DB K x) G.bn)
    (chk : chkSs G N (defScope st) body (defBody st) = true) (pure : ∀ ds M Q E, ds.length = n → sp ds M Q E → wpss G E body (bodyEnds Q) (startE N.length ds) M) : Cal P w K mg base XR (k + 1) x n sp := by
  obtain ⟨f, fd, a, F⟩ := d
  refine ⟨f, fd, ps, fn_ok F hs hn fns ?_ ?_ chk pure, PySem.W.mg_of X g a, F.kp, F.binds hb, hn⟩
  · exact each_imp cst fun e ⟨v, u, h1, h2, h3⟩ => ⟨v, u, PySem.W.mg_of X g h1, h2, h3⟩
  · exact each_imp bn fun e h => PySem.W.mg_none_of X g h
where
  each_imp {α : Type} {p q : α → Prop} : ∀ {l : List α}, Each p l → (∀ x, p x → q x) → Each q l
    | [], _, _ => trivial
    | x :: r, h, f => ⟨f x h.1, each_imp h.2 f⟩
/-- the same, of the law's def -/
theorem law_mk {h : Heap} (X : K.In h) (g : h.Ns mainGlobals mg) {x : Str} {st : Stmt} {f : Addr} {fd : FuncData} {N ps : List Str} {k n : Nat} {sp : Sp3} {G : GT} {body : List Sx} (F : Fun K x x st f fd) (hs : scopeOk N ps (defScope st) = true) (hn : ps.length = n)
    (fns : Each (fun e => Cal P w K mg base XR k e.1 e.2.1 e.2.2) G.fns) (cst : Each (fun e => DC K e.1 e.2) G.cst) (bn : Each (fun x => DB K x) G.bn)
    (chk : chkSs G N (defScope st) body (defBody st) = true) (pure : ∀ ds M Q E, ds.length = n → sp ds M Q E → wpss G E body (bodyEnds Q) (startE N.length ds) M) : FnOk P w K mg base (L2.CX P w) (k + 1) f fd ps (liftSp K XR n sp) := by
  refine fn_ok F hs hn fns ?_ ?_ chk pure
  · exact cal_mk.each_imp cst fun e ⟨v, u, h1, h2, h3⟩ => ⟨v, u, PySem.W.mg_of X g h1, h2, h3⟩
  · exact cal_mk.each_imp bn fun e h => PySem.W.mg_none_of X g h
theorem Each.cal {k j : Nat} : ∀ {l : List (Str × Nat × Sp3)}, Each (fun e => Cal P w K mg base XR j e.1 e.2.1 e.2.2) l → j ≤ k → Each (fun e => Cal P w K mg base XR k e.1 e.2.1 e.2.2) l
  | [], _, _ => trivial
  | x :: r, h, f => ⟨h.1.mono f, Each.cal h.2 f⟩
end
/-- nothing is marked -/
def M00 : MH := fun _ => none
/-- THE END: the law's def, at a script -/
theorem law_end {l : PySem.W.OpenLaw} {n k : Nat} {q : Program} {loose : List Str} {XP : (Str → Option Value) → Heap → Prop} {YP : World → Heap → Prop} {d : DefRec} {K : Params → PySem.W.Frag} {XR : XRel} {sp : Sp3} {st : Stmt}
    (hd : d.name = "law") (hn : l.most = some n) (hn2 : n ≤ sizeLine) (hdf : d.params.defaults = []) (hr : Room k callerA) (hY : ∀ (w : World) (h : Heap), YP w h → (K w.params).In h)
    (hb : ∀ (s : Shared) (u kV doc pm : Value) (an : Option Addr) (cdv ct : Value), BindsTo s (PySem.W.fnOf "law" "law" (defArgs st) (defBody st) (defScope st) .none kV doc pm an cdv ct) ⟨[u], []⟩ [("script", u)])
    (dd : ∀ w : World, DF (K w.params) "law" st)
    (C : ∀ (w : World) (mg : Str → Option Value) (base h : Heap), (K w.params).In h → h.Ns mainGlobals mg → ∀ f fd, Fun (K w.params) "law" "law" st f fd → FnOk l.prog w (K w.params) mg base (L2.CX l.prog w) k f fd ["script"] (liftSp (K w.params) XR 1 sp))
    (hsp : ∀ ns : List Int, ns.length ≤ n → sp [.flst (ns.map D.int)] M00 (fun v _ => v = .bl true) noX) : PySem.W.WalkO q loose XP YP l.row.toRowW d [] (fun f vs => PySem.call f vs) := by
  refine L2.walk_of (l := l) (n := n) (k := k) (x := "script") (K := K) (CX := fun w => L2.CX l.prog w) (sp := fun w => liftSp (K w.params) XR 1 sp) hn hn2 hdf hr hY ?_ ?_ ?_
  · intro w mg fa h KX G hmg
    rw [hd] at hmg
    obtain ⟨f1, fd, a, F⟩ := dd w
    have e := hmg.symm.trans (PySem.W.mg_of KX G a)
    cases e
    refine ⟨fd, ?_, fun base _ _ => C w mg base h KX G _ fd F⟩
    obtain ⟨oc, od, kV, doc, pm, an, cdv, ct, osl, rfl, lk, hcd⟩ := F.ex
    exact fun s u => hb s u kV doc pm an cdv ct
  · intro w H a ns hl hO hS
    refine ⟨[.flst (ns.map D.int)], M00, fun v _ => v = .bl true, noX, rfl, ?_, ?_, hsp ns hl, ?_, ?_⟩
    · refine RpL.one ⟨a, ns.map V.int, rfl, ?_, ?_⟩
      · rcases hS with (hS | ⟨o, hS⟩) | hS
        · rcases hO a with h0 | ⟨o, xs, h0⟩
          · rw [h0] at hS; cases hS
          · rw [h0] at hS; cases hS
        · exact .inl ⟨o, rfl, hS⟩
        · exact .inr hS
      · clear hl hS
        induction ns with
        | nil => rfl
        | cons x r ih => exact ⟨.int x, r.map V.int, rfl, rfl, ih⟩
    · intro a o h; cases h
    · intro d M' v H' e r _ _
      have e : d = .bl true := e
      subst e
      exact r
    · intro x M' H' cls d h; exact h.elim
  · intro w H s e s' h
    obtain ⟨_, _, _, _, _, _, _, _, _, _, _, _, z⟩ := h
    exact z.elim
end Z

namespace Z
open PySem PySem.Spec PyProof.Rows L2

theorem rt_same {Q : Q3} {d : D} {M : MH} (h : Q d M) : RT Q d M := ⟨M, Sub.refl M, h⟩
theorem rt_sub {Q : Q3} {d : D} {M M' : MH} (s : Sub M' M) (h : Q d M') : RT Q d M := ⟨M', s, h⟩
def noXR : XRel := fun _ _ _ _ _ => False
/-! ### loops -/
theorem turns_inv {tg : Tg} {body : TS3} {Z : Ends3} (I : List D → En → MH → Prop)
    (step : ∀ x r e M (nx : En → MH → Prop), I (x :: r) e M → (∀ e' M', I r e' M' → nx e' M') → ∃ e1, bindT tg x e = some e1 ∧ body { nx := nx, rt := Z.rt, bk := Z.nx, ct := nx } e1 M)
    (done : ∀ e M, I [] e M → Z.nx e M) : ∀ (items : List D) (e : En) (M : MH), I items e M → turns3 tg body Z items e M
  | [], e, M, h => done e M h
  | x :: r, e, M, h => by
    obtain ⟨e1, h1, h2⟩ := step x r e M (turns3 tg body Z r) h fun e' M' h' => turns_inv I step done r e' M' h'
    show match bindT tg x e with
      | some e1 => body { nx := turns3 tg body Z r, rt := Z.rt, bk := Z.nx, ct := turns3 tg body Z r } e1 M
      | none => False
    rw [h1]
    exact h2
theorem while_inv {c : TB3} {body : TS3} {D0 : Ends3} (I : Nat → En → MH → Prop)
    (step : ∀ n e M (nx : En → MH → Prop), I n e M → (∀ m e' M', m < n → I m e' M' → nx e' M') → c e M fun b M1 => match b with | true => body { nx := nx, rt := D0.rt, bk := D0.nx, ct := nx } e M1 | false => D0.nx e M1) {n : Nat} {e : En} {M : MH} (h : I n e M) : while3 c body D0 e M := by
  refine ⟨n + 1, ?_⟩
  have key : ∀ k n e M, n < k → I n e M → whileN c body D0 k e M := by
    intro k
    induction k with
    | zero => intro n e M h; omega
    | succ k ih => exact fun n e M hn h => step n e M (whileN c body D0 k) h fun m e' M' hm h' => ih m e' M' (by omega) h'
  exact key (n + 1) n e M (by omega) h
theorem compW_inv {tg : Tg} {tt : TB3} {te : T3} {e : En} {p : Addr} {K : List D → MH → Prop} (I : List D → List D → MH → Prop)
    (step : ∀ x r acc M (k : List D → MH → Prop), I (x :: r) acc M → (∀ acc' M', I r acc' M' → k acc' M') → ∃ e1, bindT tg x e = some e1 ∧ tt e1 M fun b M2 => match b with
      | true => te e1 M2 fun y M3 => M3 p = some (.lst acc) ∧ k (acc ++ [y]) (up M3 p (.lst (acc ++ [y])))
      | false => k acc M2)
    (done : ∀ acc M, I [] acc M → M p = some (.lst acc) ∧ K acc M) : ∀ (items acc : List D) (M : MH), I items acc M → compW tg tt te e p K items acc M
  | [], acc, M, h => done acc M h
  | x :: r, acc, M, h => by
    obtain ⟨e1, h1, h2⟩ := step x r acc M (compW tg tt te e p K r) h fun acc' M' h' => compW_inv I step done r acc' M' h'
    show match bindT tg x e with
      | some e1 => tt e1 M fun b M2 => match b with
        | true => te e1 M2 fun y M3 => M3 p = some (.lst acc) ∧ compW tg tt te e p K r (acc ++ [y]) (up M3 p (.lst (acc ++ [y])))
        | false => compW tg tt te e p K r acc M2
      | none => False
    rw [h1]
    exact h2
/-- a loop that gathers -/
theorem turns_acc {tg : Tg} {body : TS3} {Z : Ends3} {R : List D → En → MH → Prop} (f : D → List D) (c B : Nat) : ∀ (items : List D) (acc : List D) (e : En) (M : MH)
    (_ : ∀ x ∈ items, (f x).length ≤ c) (_ : acc.length + items.length * c ≤ B)
    (_ : ∀ x ∈ items, ∀ acc e M (nx : En → MH → Prop), acc.length + c ≤ B → R acc e M → (∀ e' M', R (acc ++ f x) e' M' → nx e' M') → ∃ e1, bindT tg x e = some e1 ∧ body { nx := nx, rt := Z.rt, bk := Z.nx, ct := nx } e1 M)
    (_ : R acc e M) (_ : ∀ e' M', R (acc ++ items.flatMap f) e' M' → Z.nx e' M'), turns3 tg body Z items e M
  | [], acc, e, M, _, _, _, h, done => done e M (by simpa using h)
  | x :: r, acc, e, M, hc, hB, step, h, done => by
    rw [List.length_cons, Nat.add_mul, Nat.one_mul] at hB
    have hx := hc x (by simp)
    obtain ⟨e1, h1, h2⟩ := step x (by simp) acc e M (turns3 tg body Z r) (by omega) h fun e' M' h' => turns_acc f c B r (acc ++ f x) e' M' (fun y hy => hc y (List.mem_cons_of_mem _ hy)) (by rw [List.length_append]; omega)
      (fun y hy => step y (List.mem_cons_of_mem _ hy)) h' fun e2 M2 h2 => done e2 M2 (by simpa [List.append_assoc] using h2)
    show match bindT tg x e with
      | some e1 => body { nx := turns3 tg body Z r, rt := Z.rt, bk := Z.nx, ct := turns3 tg body Z r } e1 M
      | none => False
    rw [h1]
    exact h2
/-- each item by a test and a value, nothing else touched -/
theorem compW_fm {tg : Tg} {tt : TB3} {te : T3} {e : En} {p : Addr} {K : List D → MH → Prop} {M : MH} (b : D → Bool) (f : D → D) : ∀ (items acc : List D)
    (_ : ∀ x ∈ items, ∃ e1, bindT tg x e = some e1 ∧ (∀ l (k : Bool → MH → Prop), k (b x) (up M p (.lst l)) → tt e1 (up M p (.lst l)) k) ∧ (b x = true → ∀ l (k : Q3), k (f x) (up M p (.lst l)) → te e1 (up M p (.lst l)) k))
    (_ : K (acc ++ (items.filter b).map f) (up M p (.lst (acc ++ (items.filter b).map f)))), compW tg tt te e p K items acc (up M p (.lst acc))
  | [], acc, h, q => ⟨up_same, by simpa using q⟩
  | x :: r, acc, h, q => by
    obtain ⟨e1, h1, h2, h3⟩ := h x (by simp)
    show match bindT tg x e with
      | some e1 => tt e1 (up M p (.lst acc)) fun b M2 => match b with
        | true => te e1 M2 fun y M3 => M3 p = some (.lst acc) ∧ compW tg tt te e p K r (acc ++ [y]) (up M3 p (.lst (acc ++ [y])))
        | false => compW tg tt te e p K r acc M2
      | none => False
    rw [h1]
    refine h2 _ _ ?_
    have ih := fun acc' => compW_fm (K := K) b f r acc' fun y hy => h y (List.mem_cons_of_mem _ hy)
    cases hb : b x with
    | true =>
      refine h3 hb _ _ ⟨up_same, ?_⟩
      rw [up_up]
      refine ih _ ?_
      simpa [List.filter_cons, hb] using q
    | false =>
      refine ih _ ?_
      simpa [List.filter_cons, hb] using q
theorem comp3_fm {it : TL3} {tg : Tg} {tt : TB3} {te : T3} {own : List Nat} {e : En} {M : MH} {Q : Q3} {items : List D} (b : D → Bool) (f : D → D) (hit : ∀ k : List D → MH → Prop, k items M → it e M k)
    (h : ∀ x ∈ items, ∃ e1, bindT tg x (wipeE e own) = some e1 ∧ ∀ p l, M p = none → (∀ (k : Bool → MH → Prop), k (b x) (up M p (.lst l)) → tt e1 (up M p (.lst l)) k) ∧ (b x = true → ∀ (k : Q3), k (f x) (up M p (.lst l)) → te e1 (up M p (.lst l)) k))
    (q : Q (.lst ((items.filter b).map f)) M) : comp3 false it tg tt te own e M Q := by
  refine hit _ fun p hp => ?_
  refine compW_fm b f items [] (fun x hx => ?_) ?_
  · obtain ⟨e1, h1, h2⟩ := h x hx
    exact ⟨e1, h1, fun l => (h2 p l hp).1, fun hb l => (h2 p l hp).2 hb⟩
  · rw [List.nil_append]
    show Q _ (er (up M p _) p)
    rw [er_up hp]
    exact q
theorem comp3_map {it : TL3} {tg : Tg} {te : T3} {own : List Nat} {e : En} {M : MH} {Q : Q3} {items : List D} (f : D → D) (hit : ∀ k : List D → MH → Prop, k items M → it e M k)
    (h : ∀ x ∈ items, ∃ e1, bindT tg x (wipeE e own) = some e1 ∧ ∀ p l, M p = none → ∀ (k : Q3), k (f x) (up M p (.lst l)) → te e1 (up M p (.lst l)) k)
    (q : Q (.lst (items.map f)) M) : comp3 false it tg yes3 te own e M Q := by
  refine comp3_fm (fun _ => true) f hit (fun x hx => ?_) (by rw [List.filter_eq_self.mpr fun _ _ => rfl]; exact q)
  obtain ⟨e1, h1, h2⟩ := h x hx
  exact ⟨e1, h1, fun p l hp => ⟨fun k hk => hk, fun _ => h2 p l hp⟩⟩
/-! ### types -/
def isInt : D → Bool | .int _ => true | _ => false
/-- plain at sight -/
def pln : D → Bool | .non | .bl _ | .int _ | .str _ | .tp _ _ | .lst _ => true | _ => false
/-- plain through and through -/
def dpl : D → Bool
  | .non => true
  | .bl _ => true
  | .int _ => true
  | .str x => PyData.strOk x && decide (x.length ≤ sizeLine)
  | .tp .t ds => dplL ds
  | .lst ds => dplL ds
  | _ => false
where dplL : List D → Bool
  | [] => true
  | d :: r => dpl d && dplL r
theorem dplL_all : ∀ ds : List D, dpl.dplL ds = ds.all dpl
  | [] => by simp [dpl.dplL]
  | d :: r => by simp [dpl.dplL, dplL_all r]
theorem dpl_pln {d : D} (h : dpl d = true) : pln d = true := by
  cases d <;> first | rfl | (simp [dpl] at h)
theorem pln_rd {d : D} {M : MH} (h : pln d = true) : rdL M d = d := by
  cases d <;> first | rfl | (simp [pln] at h)
theorem isTy_int {d : D} {M : MH} (h : pln d = true) : isTy M d .tint = some (match d with | .int _ => true | .bl _ => true | _ => false) := by
  cases d <;> first | rfl | (simp [pln] at h)
theorem isTy_bool {d : D} {M : MH} (h : pln d = true) : isTy M d .tbool = some (match d with | .bl _ => true | _ => false) := by
  cases d <;> first | rfl | (simp [pln] at h)
theorem isTy_str {d : D} {M : MH} (h : pln d = true) : isTy M d .tstr = some (match d with | .str _ => true | _ => false) := by
  cases d <;> first | rfl | (simp [pln] at h)
theorem isTy_tup {d : D} {M : MH} (h : pln d = true) : isTy M d .ttup = some (match d with | .tp _ _ => true | _ => false) := by
  cases d <;> first | rfl | (simp [pln] at h)
theorem blsOf_mapF {α : Type} (b : α → Bool) : ∀ xs : List α, blsOf (xs.map fun x => D.bl (b x)) = some (xs.map b)
  | [] => rfl
  | x :: r => by
    show (match blsOf (r.map fun x => D.bl (b x)) with | some bs => some (b x :: bs) | none => none) = _
    rw [blsOf_mapF b r]; rfl
theorem allA_map {α : Type} {M : MH} (b : α → Bool) (xs : List α) : allA M (.lst (xs.map fun x => D.bl (b x))) = some (.bl (xs.all b)) := by
  unfold allA
  show (match blsOf (xs.map fun x => D.bl (b x)) with | some bs => some (D.bl (bs.all id)) | none => none) = _
  rw [blsOf_mapF]
  simp [List.all_map, Function.comp_def]
theorem anyA_map {α : Type} {M : MH} (b : α → Bool) (xs : List α) : anyA M (.lst (xs.map fun x => D.bl (b x))) = some (.bl (xs.any b)) := by
  unfold anyA
  show (match blsOf (xs.map fun x => D.bl (b x)) with | some bs => some (D.bl (bs.any id)) | none => none) = _
  rw [blsOf_mapF]
  simp [List.any_map, Function.comp_def]
/-! ### orders -/
/-- may stand in an order, by itself -/
def ordD (d : D) : Bool := notNon d && pd 60 d
theorem pd_pln {d : D} {n : Nat} (h : pd n d = true) : pln d = true := by
  cases d <;> first | rfl | (cases n <;> simp [pd] at h)
theorem lt3_ok {x y : D} {M : MH} {Q : Q3} (hx : ordD x = true) (hy : ordD y = true) (hl : likeD x y = true) (q : Q (.bl (ltD x y)) M) : lt3 x y M Q := by
  obtain ⟨x1, x2⟩ := b2 hx
  obtain ⟨y1, y2⟩ := b2 hy
  unfold lt3
  split
  · simpa [ltD] using q
  · rw [pln_rd (pd_pln x2), pln_rd (pd_pln y2)]
    refine ⟨?_, q⟩
    unfold ltOk
    rw [pln_rd (pd_pln x2), pln_rd (pd_pln y2), hl, x1, x2, y2]; rfl
theorem le3_ok {x y : D} {M : MH} {Q : Q3} (hx : ordD x = true) (hy : ordD y = true) (hl : likeD x y = true) (q : Q (.bl (!ltD y x)) M) : le3 x y M Q := by
  obtain ⟨x1, x2⟩ := b2 hx
  obtain ⟨y1, y2⟩ := b2 hy
  unfold le3
  split
  · rename_i i j
    have : decide (i ≤ j) = !decide (j < i) := by
      by_cases h : i ≤ j
      · rw [decide_eq_true h, decide_eq_false (by omega)]; rfl
      · rw [decide_eq_false h, decide_eq_true (by omega)]; rfl
    rw [this]
    simpa [ltD] using q
  · rw [pln_rd (pd_pln x2), pln_rd (pd_pln y2)]
    refine ⟨?_, q⟩
    unfold ltOk
    rw [pln_rd (pd_pln x2), pln_rd (pd_pln y2), hl, x1, x2, y2]; rfl
def ascB : List D → Bool
  | x :: y :: r => ltD x y && ascB (y :: r)
  | _ => true
theorem rngD_mem {lo : Int} {x : D} : ∀ {n : Nat}, x ∈ rngD lo n → ∃ i : Nat, i < n ∧ x = .int (lo + i) := by
  intro n h
  obtain ⟨i, hi, e⟩ := List.mem_iff_getElem.mp h
  rw [rngD_len] at hi
  have := rngD_get lo n i hi
  rw [List.getElem?_eq_getElem (by rw [rngD_len]; exact hi)] at this
  exact ⟨i, hi, by rw [← e]; exact Option.some.inj this⟩
theorem rngD_eq : ∀ (n lo : Nat), rngD (lo : Int) n = (List.range' lo n).map fun i => D.int (i : Nat)
  | 0, lo => rfl
  | n + 1, lo => by
    show D.int (lo : Nat) :: rngD ((lo : Int) + 1) n = _
    rw [List.range'_succ, List.map_cons]
    have : ((lo : Int) + 1) = ((lo + 1 : Nat) : Int) := by omega
    rw [this, rngD_eq n (lo + 1)]
theorem rngD0 (n : Nat) : rngD 0 n = (List.range n).map fun i => D.int (i : Nat) := by
  rw [show (0 : Int) = ((0 : Nat) : Int) from rfl, rngD_eq, List.range_eq_range']
theorem ascB_range : ∀ ds : List D, ((List.range (ds.length - 1)).all fun i => match ds[i]?, ds[i + 1]? with | some x, some y => ltD x y | _, _ => false) = ascB ds
  | [] => rfl
  | [_] => rfl
  | x :: y :: r => by
    have ih := ascB_range (y :: r)
    show ((List.range (r.length + 1)).all _) = _
    rw [List.range_succ_eq_map, List.all_cons, List.all_map]
    show (ltD x y && _) = (ltD x y && ascB (y :: r))
    rw [← ih]
    rfl
theorem atI_get {α : Type} {xs : List α} {i : Nat} (h : i < xs.length) : atI xs (i : Nat) = xs[i]? := by
  rw [List.getElem?_eq_getElem h]
  exact atI_nat (List.getElem?_eq_getElem h)
theorem truA_bl {M : MH} {b : Bool} : truA M (.bl b) = some b := rfl
theorem lenA_tp {M : MH} {k : TK} {ds : List D} : lenA M (.tp k ds) = some (.int ds.length) := rfl
theorem lenA_lst {M : MH} {ds : List D} : lenA M (.lst ds) = some (.int ds.length) := rfl
theorem lenA_ref {M : MH} {a : Addr} {ds : List D} (h : M a = some (.lst ds)) : lenA M (.ref a) = some (.int ds.length) := by
  show (match seqM M (.ref a) with | some ds => some (D.int ds.length) | none => none) = _
  have : seqM M (.ref a) = some ds := by
    show (match M a with | some (.lst ds) => some ds | _ => none) = some ds
    rw [h]
  rw [this]
theorem app_ok {te : TL3} {e : En} {M : MH} {Q : Q3} {i : Nat} {a : Addr} {ds : List D} {x : D} (he : getE e i = some (.ref a)) (ht : ∀ k : List D → MH → Prop, k [x] M → te e M k) (hm : M a = some (.lst ds)) (hl : ds.length < sizeLine) (q : Q .non (up M a (.lst (ds ++ [x])))) : mth3 .append (loc3 i) te e M Q := by
  unfold mth3 loc3
  rw [he]
  dsimp only
  refine ⟨?_, ht _ ?_⟩
  · show (match M a with | some (.lst ds) => some ds | _ => none).isSome = true
    rw [hm]; rfl
  · have : mthA .append M (.ref a) [x] = some (.non, up M a (.lst (ds ++ [x]))) := by
      show (match M a with
        | some (.lst ds) => if ds.length < sizeLine then some (D.non, up M a (.lst (ds ++ [x]))) else none
        | _ => none) = _
      rw [hm]
      exact if_pos hl
    rw [this]
    exact q
/-! ### draws: one marked thing moves on -/
def All2 {α β : Type} (ok : α → β → Prop) : List α → List β → Prop
  | [], [] => True
  | x :: xs, y :: ys => ok x y ∧ All2 ok xs ys
  | _, _ => False
theorem All2.len {α β : Type} {ok : α → β → Prop} : ∀ {xs : List α} {ys : List β}, All2 ok xs ys → ys.length = xs.length
  | [], [], _ => rfl
  | x :: xs, y :: ys, h => by rw [List.length_cons, List.length_cons, All2.len h.2]
  | [], _ :: _, h => h.elim
  | _ :: _, [], h => h.elim
theorem All2.snoc {α β : Type} {ok : α → β → Prop} {x : α} {y : β} (hxy : ok x y) : ∀ {xs : List α} {ys : List β}, All2 ok xs ys → All2 ok (xs ++ [x]) (ys ++ [y])
  | [], [], _ => ⟨hxy, trivial⟩
  | x :: xs, y :: ys, h => ⟨h.1, All2.snoc hxy h.2⟩
  | [], _ :: _, h => h.elim
  | _ :: _, [], h => h.elim
theorem All2.mem {α β : Type} {ok : α → β → Prop} : ∀ {xs : List α} {ys : List β}, All2 ok xs ys → ∀ y ∈ ys, ∃ x ∈ xs, ok x y
  | [], [], _, y, h => by simp at h
  | x :: xs, z :: ys, h, y, hy => by
    rcases List.mem_cons.mp hy with rfl | hy
    · exact ⟨x, by simp, h.1⟩
    · obtain ⟨w, h1, h2⟩ := All2.mem h.2 y hy
      exact ⟨w, List.mem_cons_of_mem _ h1, h2⟩
  | [], _ :: _, h, _, _ => h.elim
  | _ :: _, [], h, _, _ => h.elim
theorem up_self {M : MH} {a : Addr} {o : MO} (h : M a = some o) : up M a o = M := by
  funext b
  unfold up
  by_cases e : b = a
  · rw [if_pos e, e, h]
  · rw [if_neg e]
theorem up_swap {M : MH} {a b : Addr} {o u : MO} (h : a ≠ b) : up (up M a o) b u = up (up M b u) a o := by
  funext c
  unfold up
  by_cases e1 : c = b
  · by_cases e2 : c = a
    · exact absurd (e2.symm.trans e1) h
    · rw [if_pos e1, if_neg e2, if_pos e1]
  · by_cases e2 : c = a
    · rw [if_neg e1, if_pos e2, if_pos e2]
    · rw [if_neg e1, if_neg e2, if_neg e2, if_neg e1]
/-- a thing at a, of a kind -/
def At (M : MH) (a : Addr) (S : MO → Prop) : Prop := ∃ o, M a = some o ∧ S o
theorem At.up {M : MH} {a : Addr} {S : MO → Prop} {o : MO} (h : S o) : At (Z.up M a o) a S := ⟨o, up_same, h⟩
/-- what else is marked stays -/
def Rest (M M' : MH) (a : Addr) : Prop := ∀ b, b ≠ a → M b ≠ none → M' b = M b
theorem compW_draw {tg : Tg} {te : T3} {e : En} {p a : Addr} {K : List D → MH → Prop} {M : MH} {S : MO → Prop} (ok : D → D → Prop) {items : List D} (hp : M p = none) (ha : At M a S)
    (h : ∀ x ∈ items, ∃ e1, bindT tg x e = some e1 ∧ ∀ M', At M' a S → Rest M M' a → ∀ k : Q3, (∀ y o, ok x y → S o → k y (up M' a o)) → te e1 M' k)
    (q : ∀ ys o, All2 ok items ys → S o → K ys (up (up M a o) p (.lst ys))) : compW tg yes3 te e p K items [] (up M p (.lst [])) := by
  obtain ⟨o0, h0, s0⟩ := ha
  have hpa : p ≠ a := fun z => by rw [z, h0] at hp; cases hp
  refine compW_inv (fun r acc M' => ∃ done o, items = done ++ r ∧ All2 ok done acc ∧ S o ∧ M' = up (up M a o) p (.lst acc)) ?_ ?_ items [] _ ⟨[], o0, rfl, trivial, s0, by rw [up_self h0]⟩
  · rintro x r acc _ k ⟨done, o, hi, ha2, so, rfl⟩ hk
    obtain ⟨e1, h1, h2⟩ := h x (by rw [hi]; simp)
    refine ⟨e1, h1, h2 _ ⟨o, by rw [up_ne hpa.symm, up_same], so⟩ (fun b hb hn => ?_) _ fun y o' hy so' => ⟨?_, ?_⟩⟩
    · have hbp : b ≠ p := fun z => by rw [z] at hn; exact hn hp
      rw [up_ne hbp, up_ne hb]
    · rw [up_ne hpa, up_same]
    · refine hk _ _ ⟨done ++ [x], o', by rw [hi]; simp, ha2.snoc hy, so', ?_⟩
      rw [up_swap hpa, up_up, up_up]
  · rintro acc _ ⟨done, o, hi, ha2, so, rfl⟩
    rw [List.append_nil] at hi
    subst hi
    exact ⟨up_same, q acc o ha2 so⟩
theorem comp3_draw {it : TL3} {tg : Tg} {te : T3} {own : List Nat} {e : En} {M : MH} {Q : Q3} {items : List D} {a : Addr} {S : MO → Prop} (ok : D → D → Prop) (ha : At M a S) (hit : ∀ k : List D → MH → Prop, k items M → it e M k)
    (h : ∀ x ∈ items, ∃ e1, bindT tg x (wipeE e own) = some e1 ∧ ∀ M', At M' a S → Rest M M' a → ∀ k : Q3, (∀ y o, ok x y → S o → k y (up M' a o)) → te e1 M' k)
    (q : ∀ ys o, All2 ok items ys → S o → Q (.lst ys) (up M a o)) : comp3 false it tg yes3 te own e M Q := by
  refine hit _ fun p hp => compW_draw ok hp ha h fun ys o h1 h2 => ?_
  show Q (.lst ys) (er (up (up M a o) p _) p)
  obtain ⟨o0, h0, s0⟩ := ha
  have hpa : p ≠ a := fun z => by rw [z, h0] at hp; cases hp
  rw [er_up (by rw [up_ne hpa]; exact hp)]
  exact q ys o h1 h2
/-! ### sorted -/
theorem leS_trans (a b c : D) (h1 : leS a b = true) (h2 : leS b c = true) : leS a c = true := by
  unfold leS at *
  rw [Bool.not_eq_true'] at *
  cases q : PySem.W.dataLt (toPy c) (toPy a) with
  | false => rfl
  | true =>
    rcases PyProof.Rows.lex_negTrans (O := PyProof.Rows.itemOrd) _ (PySem.W.keyToks (toPy b)) _ q with z | z
    · exact absurd (h2.symm.trans z) Bool.false_ne_true
    · exact absurd (h1.symm.trans z) Bool.false_ne_true
theorem leS_total (a b : D) : (leS a b || leS b a) = true := by
  unfold leS
  cases q : PySem.W.dataLt (toPy b) (toPy a) with
  | false => rfl
  | true =>
    cases q2 : PySem.W.dataLt (toPy a) (toPy b) with
    | false => rfl
    | true =>
      have := PyProof.Rows.lex_trans _ _ _ q q2
      rw [PyProof.Rows.lex_irrefl] at this
      cases this
theorem sortD_mem {ds : List D} {d : D} : d ∈ sortD ds ↔ d ∈ ds := (List.mergeSort_perm ds leS).mem_iff
theorem sortD_len {ds : List D} : (sortD ds).length = ds.length := (List.mergeSort_perm ds leS).length_eq
theorem asc_of {ds : List D} (h : ds.Pairwise fun x y => ltD x y = true) : ascB ds = true := by
  induction ds with
  | nil => rfl
  | cons x r ih =>
    cases r with
    | nil => rfl
    | cons y r =>
      rw [List.pairwise_cons] at h
      show (ltD x y && ascB (y :: r)) = true
      rw [h.1 y (by simp), ih h.2]; rfl
theorem sort_asc {ds : List D} (hl : ∀ d ∈ ds, ∀ e ∈ ds, likeD d e = true) (tri : ∀ d ∈ ds, ∀ e ∈ ds, ltD e d = false → ltD d e = false → d = e) (nd : ds.Nodup) : (sortD ds).Pairwise fun x y => ltD x y = true := by
  have h1 : (sortD ds).Pairwise fun x y => leS x y = true := List.pairwise_mergeSort leS_trans leS_total ds
  have h2 : (sortD ds).Nodup := (List.mergeSort_perm ds leS).nodup_iff.mpr nd
  have h3 : (sortD ds).Pairwise fun x y => leS x y = true ∧ x ≠ y := h1.and h2
  refine List.Pairwise.imp_of_mem ?_ h3
  intro x y hx hy ⟨h4, h5⟩
  have mx := sortD_mem.mp hx
  have my := sortD_mem.mp hy
  unfold leS at h4
  rw [lt_py _ _ (hl _ my _ mx), Bool.not_eq_true'] at h4
  cases q : ltD x y with
  | true => rfl
  | false => exact absurd (tri x mx y my h4 q) h5
theorem tri_str {x y : Str} (h1 : ltD (.str y) (.str x) = false) (h2 : ltD (.str x) (.str y) = false) : x = y := by
  have h1 : decide (y.cps.toList < x.cps.toList) = false := h1
  have h2 : decide (x.cps.toList < y.cps.toList) = false := h2
  have h1 := of_decide_eq_false h1
  have h2 := of_decide_eq_false h2
  have := List.le_antisymm (List.not_lt.mp h1) (List.not_lt.mp h2)
  cases x; cases y
  simp only [Str.mk.injEq]
  exact Array.ext' this
theorem Each.nil {α : Type u} {p : α → Prop} : Each p [] := trivial
theorem Each.cons {α : Type u} {p : α → Prop} {x : α} {r : List α} (h : p x) (t : Each p r) : Each p (x :: r) := ⟨h, t⟩
end Z

namespace K93
open PySem PySem.Spec PyProof.Rows L2 Z

def topS (i : Nat) : Stmt := PySem.Challenge.pw_letterways_k93_faults_and_moves_of_despa.main.body.getD i (.Pass ⟨0, 0, 0, 0⟩)
/-! is_integer -/
abbrev sis_integer : Stmt := topS 2
def Nis_integer : List Str := ["value"]
def Bis_integer : List Sx := [.ret (.bol true [(.isi .tint (.loc 0)), (.nt (.isi .tbool (.loc 0)))])]
/-! is_between -/
abbrev sis_between : Stmt := topS 3
def Nis_between : List Str := ["value", "low", "high"]
def Bis_between : List Sx := [.ret (.bol true [(.call 0 (.loc 0) []), (.cmp .le (.loc 1) (.loc 0)), (.bol false [(.cmp .is (.loc 2) .non), (.cmp .le (.loc 0) (.loc 2))])])]
/-! is_day -/
abbrev sis_day : Stmt := topS 4
def Nis_day : List Str := ["value"]
def Bis_day : List Sx := [.ret (.call 0 (.loc 0) [(.int 0), (.glo 0)])]
/-! is_row -/
abbrev sis_row : Stmt := topS 5
def Nis_row : List Str := ["value", "size"]
def Bis_row : List Sx := [.ret (.bol true [(.isi .ttup (.loc 0)), (.cmp .eq (.blt .len (.loc 0) []) (.loc 1))])]
/-! is_name -/
abbrev sis_name : Stmt := topS 6
def Nis_name : List Str := ["value", "sign"]
def Bis_name : List Sx := [.ifs (.bol false [(.nt (.isi .tstr (.loc 0))), (.nt (.chn .le .le (.int 1) (.blt .len (.loc 0) []) (.int 12)))])
    [.ret (.bl false)]
    [], .ret (.blt .all (.comp false (.chn .le .le (.str "a") (.loc 1) (.str "z")) (.nm 1) .seq [(.loc 0)] [] [("sign", 1)]) [])]
/-! is_ascending -/
abbrev sis_ascending : Stmt := topS 7
def Nis_ascending : List Str := ["row", "at"]
def Bis_ascending : List Sx := [.ret (.blt .all (.comp false (.cmp .lt (.idx (.loc 0) (.loc 1)) (.idx (.loc 0) (.bin .add (.loc 1) (.int 1)))) (.nm 1) .rng1 [(.bin .sub (.blt .len (.loc 0) []) (.int 1))] [] [("at", 1)]) [])]
/-! is_room -/
abbrev sis_room : Stmt := topS 13
def Nis_room : List Str := ["value"]
def Bis_room : List Sx := [.ret (.call 0 (.loc 0) [(.int 0), (.glo 0)])]
/-! is_yard -/
abbrev sis_yard : Stmt := topS 14
def Nis_yard : List Str := ["value"]
def Bis_yard : List Sx := [.ret (.bol true [(.call 0 (.loc 0) [(.int 2)]), (.call 1 (.idx (.loc 0) (.int 0)) []), (.bol false [(.cmp .is (.idx (.loc 0) (.int 1)) .non), (.call 2 (.idx (.loc 0) (.int 1)) [])])])]
/-! are_yards -/
abbrev sare_yards : Stmt := topS 15
def Nare_yards : List Str := ["offices", "office"]
def Bare_yards : List Sx := [.ifs (.bol false [(.nt (.isi .ttup (.loc 0))), (.nt (.chn .le .le (.int 1) (.blt .len (.loc 0) []) (.glo 0)))])
    [.ret (.bl false)]
    [], .ret (.bol true [(.blt .all (.comp false (.call 0 (.loc 1) []) (.nm 1) .seq [(.loc 0)] [] [("office", 1)]) []), (.call 1 (.comp false (.idx (.loc 1) (.int 0)) (.nm 1) .seq [(.loc 0)] [] [("office", 1)]) [])])]
/-! is_coach -/
abbrev sis_coach : Stmt := topS 16
def Nis_coach : List Str := ["value", "names", "start", "goal", "days", "room"]
def Bis_coach : List Sx := [.ifs (.nt (.call 0 (.loc 0) [(.int 4)]))
    [.ret (.bl false)]
    [], .asg (.tp [2, 3, 4, 5]) (.loc 0), .ifs (.bol false [(.nt (.call 1 (.loc 2) [])), (.nt (.call 1 (.loc 3) [])), (.cmp .eq (.loc 2) (.loc 3))])
    [.ret (.bl false)]
    [], .ret (.bol true [(.cmp .isin (.loc 2) (.loc 1)), (.cmp .isin (.loc 3) (.loc 1)), (.call 2 (.loc 4) [(.int 1), (.int 60)]), (.call 3 (.loc 5) [])])]
/-! are_coaches -/
abbrev sare_coaches : Stmt := topS 17
def Nare_coaches : List Str := ["roads", "names", "road"]
def Bare_coaches : List Sx := [.ifs (.bol false [(.nt (.isi .ttup (.loc 0))), (.cmp .gt (.blt .len (.loc 0) []) (.glo 0))])
    [.ret (.bl false)]
    [], .ret (.bol true [(.blt .all (.comp false (.call 0 (.loc 2) [(.loc 1)]) (.nm 2) .seq [(.loc 0)] [] [("road", 2)]) []), (.call 1 (.comp false (.sli (.loc 2) [] [(.int 2)]) (.nm 2) .seq [(.loc 0)] [] [("road", 2)]) [])])]
/-! is_handed -/
abbrev sis_handed : Stmt := topS 18
def Nis_handed : List Str := ["value", "names", "last"]
def Bis_handed : List Sx := [.ifs (.bol false [(.nt (.call 0 (.loc 0) [(.int 3)])), (.nt (.call 1 (.idx (.loc 0) (.int 0)) [])), (.cmp .notin (.idx (.loc 0) (.int 0)) (.loc 1))])
    [.ret (.bl false)]
    [], .ret (.bol true [(.call 2 (.idx (.loc 0) (.int 1)) [(.int 0), (.loc 2)]), (.call 2 (.idx (.loc 0) (.int 2)) [(.int 1), (.glo 0)])])]
/-! are_sacks -/
abbrev sare_sacks : Stmt := topS 19
def Nare_sacks : List Str := ["sacks", "names", "last", "row"]
def Bare_sacks : List Sx := [.ifs (.bol false [(.nt (.isi .ttup (.loc 0))), (.cmp .gt (.blt .len (.loc 0) []) (.glo 0))])
    [.ret (.bl false)]
    [], .ret (.bol true [(.blt .all (.comp false (.call 0 (.loc 3) [(.loc 1), (.loc 2)]) (.nm 3) .seq [(.loc 0)] [] [("row", 3)]) []), (.call 1 (.comp false (.sli (.loc 3) [] [(.int 2)]) (.nm 3) .seq [(.loc 0)] [] [("row", 3)]) [])])]
/-! despatch_fault -/
abbrev sdespatch_fault : Stmt := topS 20
def Ndespatch_fault : List Str := ["despatch", "last", "offices", "roads", "sacks", "goal", "names", "office"]
def Bdespatch_fault : List Sx := [.asg (.tp [1, 2, 3, 4, 5]) (.loc 0), .ifs (.nt (.call 0 (.loc 1) []))
    [.ret (.str "last")]
    [], .ifs (.nt (.call 1 (.loc 2) []))
    [.ret (.str "offices")]
    [], .asg (.nm 6) (.comp false (.idx (.loc 7) (.int 0)) (.nm 7) .seq [(.loc 2)] [] [("office", 7)]), .ifs (.nt (.call 2 (.loc 3) [(.loc 6)]))
    [.ret (.str "roads")]
    [], .ifs (.nt (.call 3 (.loc 4) [(.loc 6), (.loc 1)]))
    [.ret (.str "sacks")]
    [], .ifs (.bol false [(.nt (.call 4 (.loc 5) [])), (.cmp .notin (.loc 5) (.loc 6))])
    [.ret (.str "goal")]
    [], .ret .non]
/-! rides_of -/
abbrev srides_of : Stmt := topS 21
def Nrides_of : List Str := ["despatch", "last", "offices", "roads", "sacks", "goal", "rides", "name", "room", "day", "start", "end", "days"]
def Brides_of : List Sx := [.asg (.tp [1, 2, 3, 4, 5]) (.loc 0), .asg (.nm 6) (.lst true []), .fors (.tp [7, 8]) .seq [(.loc 2)]
    [.ifs (.cmp .ne (.loc 7) (.loc 5))
    [.fors (.nm 9) .rng1 [(.loc 1)]
    [.expr (.mth .append (.loc 6) (.tup [(.tup [(.str "lie"), (.loc 7), (.loc 9)]), (.tup [(.loc 7), (.loc 9)]), (.tup [(.loc 7), (.bin .add (.loc 9) (.int 1))]), (.loc 8)]) [])]]
    []], .fors (.tp [10, 11, 12, 8]) .seq [(.loc 3)]
    [.ifs (.cmp .ne (.loc 10) (.loc 5))
    [.fors (.nm 9) .rng1 [(.bin .sub (.bin .add (.loc 1) (.int 1)) (.loc 12))]
    [.expr (.mth .append (.loc 6) (.tup [(.tup [(.str "ride"), (.loc 10), (.loc 11), (.loc 9)]), (.tup [(.loc 10), (.loc 9)]), (.tup [(.loc 11), (.bin .add (.loc 9) (.loc 12))]), (.loc 8)]) [])]]
    []], .fz 6, .ret (.loc 6)]
/-! despatch_of -/
abbrev sdespatch_of : Stmt := topS 22
def Ndespatch_of : List Str := ["archive", "yard", "room", "sacks", "goal", "last", "offices", "kinds", "roads", "records", "yards", "name", "road"]
def Bdespatch_of : List Sx := [.asg (.tp [5, 6, 7, 8, 9]) (.loc 0), .asg (.nm 10) (.blt .tupT (.comp false (.tup [(.loc 11), (.loc 1)]) (.nm 11) .seq [(.loc 6)] [] [("name", 11)]) []), .ret (.tup [(.loc 5), (.loc 10), (.blt .tupT (.comp false (.bin .add (.loc 12) (.tup [(.loc 2)])) (.nm 12) .seq [(.loc 8)] [] [("road", 12)]) []), (.loc 3), (.loc 4)])]
/-! _law_digits -/
abbrev s_law_digits : Stmt := topS 24
def N_law_digits : List Str := ["cell", "count", "number", "row", "k", "mixed"]
def B_law_digits : List Sx := [.asg (.nm 2) (.loc 0), .ifs (.cmp .lt (.loc 2) (.int 0))
    [.asg (.nm 2) (.bin .sub (.bin .sub (.int 0) (.int 1)) (.loc 2))]
    [], .asg (.nm 3) (.lst true []), .ifs (.cmp .ge (.loc 2) (.bin .pow (.int 10) (.int 18)))
    [.fors (.nm 4) .rng1 [(.loc 1)]
    [.expr (.mth .append (.loc 3) (.bin .mod (.blt .int (.loc 2) []) (.int 1000003)) []), .asg (.nm 2) (.bin .fdv (.loc 2) (.int 1000003)), .ifs (.cmp .eq (.loc 2) (.int 0))
    [.brk]
    []], .fz 3, .ret (.loc 3)]
    [], .fors (.nm 4) .rng1 [(.loc 1)]
    [.asg (.nm 5) (.bin .mod (.blt .int (.bin .mul (.bin .add (.bin .add (.loc 2) (.bin .mul (.int 11) (.loc 4))) (.int 3)) (.int 48271)) []) (.int 2147483647)), .asg (.nm 5) (.bin .mod (.blt .int (.bin .add (.bin .add (.bin .mul (.loc 5) (.int 69621)) (.bin .mul (.int 37) (.loc 4))) (.int 5)) []) (.int 2147483629)), .expr (.mth .append (.loc 3) (.bin .mod (.blt .int (.bin .fdv (.loc 5) (.int 5)) []) (.int 1000003)) [])], .fz 3, .ret (.loc 3)]
/-! _law_box -/
abbrev s_law_box : Stmt := topS 25
def N_law_box : List Str := ["script", "row", "cell"]
def B_law_box : List Sx := [.asg (.nm 1) (.lst false []), .fors (.nm 2) .seq [(.loc 0)]
    [.asg (.nm 1) (.bin .add (.loc 1) (.call 0 (.loc 2) [(.int 6)]))], .ifs (.cmp .eq (.blt .len (.loc 1) []) (.int 0))
    [.asg (.nm 1) (.lst false [(.int 5), (.int 77), (.int 1031), (.int 40009), (.int 3), (.int 900001), (.int 12)])]
    [], .ret (.dis true [(.str "row"), (.loc 1), (.str "at"), (.int 0)])]
/-! _law_take -/
abbrev s_law_take : Stmt := topS 26
def N_law_take : List Str := ["box", "many", "at", "number"]
def B_law_take : List Sx := [.asg (.nm 2) (.idx (.loc 0) (.str "at")), .sput (.loc 0) (.str "at") (.bin .add (.loc 2) (.int 1)), .asg (.nm 3) (.idx (.idx (.loc 0) (.str "row")) (.bin .mod (.blt .int (.loc 2) []) (.blt .len (.idx (.loc 0) (.str "row")) []))), .ret (.bin .mod (.blt .int (.bin .add (.loc 3) (.bin .mul (.int 104729) (.bin .fdv (.loc 2) (.blt .len (.idx (.loc 0) (.str "row")) [])))) []) (.loc 1))]
/-! _law_pick -/
abbrev s_law_pick : Stmt := topS 27
def N_law_pick : List Str := ["box", "row"]
def B_law_pick : List Sx := [.ret (.idx (.loc 1) (.call 0 (.loc 0) [(.blt .len (.loc 1) [])]))]
/-! _law_word -/
abbrev s_law_word : Stmt := topS 28
def N_law_word : List Str := ["box", "size", "k"]
def B_law_word : List Sx := [.ret (.mth .join (.str "") (.comp false (.idx (.str "abcdefghijklmnopqrstuvwxyz") (.call 0 (.loc 0) [(.int 26)])) (.nm 2) .rng1 [(.loc 1)] [] [("k", 2)]) [])]
/-! _law_names -/
abbrev s_law_names : Stmt := topS 29
def N_law_names : List Str := ["box", "many", "words", "at", "base", "place", "first", "unlike", "names", "k", "letter", "tail"]
def B_law_names : List Sx := [.ifs (.bol true [(.cmp .lt (.loc 1) (.int 9)), (.cmp .eq (.call 0 (.loc 0) [(.int 6)]) (.int 0))])
    [.asg (.nm 2) (.str "any archive bound carried claim cut end free gone held kept kind made more no none office outside record road row"), .asg (.nm 2) (.bin .add (.mth .split (.loc 2) (.str " ") []) (.lst false [(.str "seen"), (.str "sent"), (.str "short"), (.str "sold"), (.str "stock"), (.str "sure"), (.str "tariff"), (.str "town"), (.str "undo"), (.str "used")])), .asg (.nm 3) (.call 1 (.loc 0) [(.lst false [(.int 0), (.int 0), (.call 0 (.loc 0) [(.bin .add (.bin .sub (.blt .len (.loc 2) []) (.loc 1)) (.int 1))])])]), .ret (.sli (.loc 2) [(.loc 3)] [(.bin .add (.loc 3) (.loc 1))])]
    [], .asg (.nm 4) (.call 2 (.loc 0) [(.call 0 (.loc 0) [(.int 8)])]), .asg (.nm 5) (.call 0 (.loc 0) [(.bin .add (.blt .len (.loc 4) []) (.int 1))]), .asg (.nm 6) (.call 0 (.loc 0) [(.int 26)]), .asg (.nm 7) (.call 0 (.loc 0) [(.int 2)]), .asg (.nm 8) (.lst true []), .fors (.nm 9) .rng1 [(.loc 1)]
    [.asg (.nm 10) (.idx (.str "abcdefghijklmnopqrstuvwxyz") (.bin .mod (.blt .int (.bin .add (.loc 6) (.bin .mul (.int 5) (.loc 9))) []) (.int 26))), .asg (.nm 11) (.str ""), .ifs (.cmp .eq (.loc 7) (.int 1))
    [.asg (.nm 11) (.call 2 (.loc 0) [(.call 0 (.loc 0) [(.int 4)])])]
    [], .expr (.mth .append (.loc 8) (.bin .add (.bin .add (.bin .add (.sli (.loc 4) [] [(.loc 5)]) (.loc 10)) (.sli (.loc 4) [(.loc 5)] [])) (.loc 11)) [])], .ret (.blt .srt (.loc 8) [])]
/-! _law_despatch -/
abbrev s_law_despatch : Stmt := topS 30
def N_law_despatch : List Str := ["box", "most_days", "most_offices", "many", "last", "names", "offices", "name", "roads", "start", "goal", "handed", "k", "sacks", "key"]
def B_law_despatch : List Sx := [.asg (.nm 4) (.call 0 (.loc 0) [(.loc 1)]), .asg (.nm 5) (.call 1 (.loc 0) [(.bin .add (.int 1) (.call 0 (.loc 0) [(.loc 2)]))]), .asg (.nm 6) (.blt .tupT (.comp false (.tup [(.loc 7), (.call 2 (.loc 0) [(.lst false [.non, .non, (.int 0), (.int 1), (.int 2), (.call 0 (.loc 0) [(.int 9)]), (.int 1000)])])]) (.nm 7) .seq [(.loc 5)] [] [("name", 7)]) []), .asg (.nm 8) (.lst true []), .fors (.nm 9) .seq [(.loc 5)]
    [.fors (.nm 10) .seq [(.loc 5)]
    [.ifs (.bol true [(.cmp .ne (.loc 9) (.loc 10)), (.cmp .gt (.call 0 (.loc 0) [(.int 3)]) (.int 0))])
    [.expr (.mth .append (.loc 8) (.tup [(.loc 9), (.loc 10), (.call 2 (.loc 0) [(.lst false [(.int 1), (.int 1), (.int 1), (.int 2), (.int 3), (.int 60)])]), (.call 2 (.loc 0) [(.lst false [(.int 0), (.int 1), (.int 1), (.int 2), (.int 3), (.call 0 (.loc 0) [(.int 9)]), (.int 1000)])])]) [])]
    []]], .asg (.nm 11) .newT, .fors (.nm 12) .rng1 [(.call 0 (.loc 0) [(.bin .add (.loc 3) (.int 1))])]
    [.sput (.loc 11) (.tup [(.call 2 (.loc 0) [(.loc 5)]), (.call 0 (.loc 0) [(.bin .add (.loc 4) (.int 1))])]) (.call 2 (.loc 0) [(.lst false [(.int 1), (.int 2), (.int 3), (.bin .add (.int 1) (.call 0 (.loc 0) [(.int 9)])), (.bin .add (.int 1) (.call 0 (.loc 0) [(.int 1000)]))])])], .asg (.nm 13) (.blt .tupT (.comp false (.bin .add (.loc 14) (.tup [(.idx (.loc 11) (.loc 14))])) (.nm 14) .seq [(.blt .srt (.blt .lstF (.loc 11) []) [])] [] [("key", 14)]) []), .ret (.tup [(.loc 4), (.loc 6), (.blt .tupT (.sli (.loc 8) [] [(.int 30)]) []), (.loc 13), (.call 2 (.loc 0) [(.loc 5)])])]
/-! _law_rides -/
abbrev s_law_rides : Stmt := topS 31
def N_law_rides : List Str := ["despatch", "last", "offices", "roads", "sacks", "goal", "rides", "name", "room", "day", "start", "end", "days"]
def B_law_rides : List Sx := [.asg (.tp [1, 2, 3, 4, 5]) (.loc 0), .asg (.nm 6) (.lst false []), .fors (.tp [7, 8]) .seq [(.loc 2)]
    [.ifs (.cmp .ne (.loc 7) (.loc 5))
    [.asg (.nm 6) (.bin .add (.loc 6) (.comp false (.tup [(.tup [(.str "lie"), (.loc 7), (.loc 9)]), (.tup [(.loc 7), (.loc 9)]), (.tup [(.loc 7), (.bin .add (.loc 9) (.int 1))]), (.loc 8)]) (.nm 9) .rng1 [(.loc 1)] [] [("day", 9)]))]
    []], .fors (.tp [10, 11, 12, 8]) .seq [(.loc 3)]
    [.ifs (.cmp .ne (.loc 10) (.loc 5))
    [.asg (.nm 6) (.bin .add (.loc 6) (.comp false (.tup [(.tup [(.str "ride"), (.loc 10), (.loc 11), (.loc 9)]), (.tup [(.loc 10), (.loc 9)]), (.tup [(.loc 11), (.bin .add (.loc 9) (.loc 12))]), (.loc 8)]) (.nm 9) .rng1 [(.loc 1)] [(.cmp .le (.bin .add (.loc 9) (.loc 12)) (.loc 1))] [("day", 9)]))]
    []], .ret (.loc 6)]
/-! _law_with -/
abbrev s_law_with : Stmt := topS 32
def N_law_with : List Str := ["row", "at", "value"]
def B_law_with : List Sx := [.ret (.bin .add (.bin .add (.sli (.loc 0) [] [(.loc 1)]) (.tup [(.loc 2)])) (.sli (.loc 0) [(.bin .add (.loc 1) (.int 1))] []))]
/-! _law_wrong -/
abbrev s_law_wrong : Stmt := topS 33
def N_law_wrong : List Str := ["box", "good", "last", "offices", "roads", "sacks", "goal", "one", "two", "names", "office", "stranger", "letter", "rows", "value", "many", "k", "road", "sack"]
def B_law_wrong : List Sx := [.asg (.tp [2, 3, 4, 5, 6]) (.loc 1), .asg (.tp [7, 8]) (.tup [(.idx (.idx (.loc 3) (.int 0)) (.int 0)), (.idx (.idx (.loc 3) (.int 1)) (.int 0))]), .asg (.nm 9) (.comp false (.idx (.loc 10) (.int 0)) (.nm 10) .seq [(.loc 3)] [] [("office", 10)]), .asg (.nm 11) (.idx (.comp false (.bin .add (.loc 12) (.sli (.loc 7) [] [(.int 11)])) (.nm 12) .seq [(.str "qrstuvwxyz")] [(.cmp .notin (.bin .add (.loc 12) (.sli (.loc 7) [] [(.int 11)])) (.loc 9))] [("letter", 12)]) (.int 0)), .asg (.nm 13) (.comp true (.tup [(.int 0), (.loc 14)]) (.nm 14) .seq [(.lst false [(.bin .sub (.int 0) (.int 1)), (.int 61), (.bl true), (.bl false), .non, (.str "3"), (.tup [(.int 3)])])] [] [("value", 14)]), .asg (.nm 15) (.blt .tupT (.comp false (.tup [(.idx (.str "abcdefghi") (.loc 16)), .non]) (.nm 16) .rng1 [(.int 9)] [] [("k", 16)]) []), .fors (.nm 14) .seq [(.lst false [(.tup []), (.loc 15), (.tup [(.tup [(.loc 7), (.int 1)]), (.tup [(.loc 7), (.int 1)])]), (.tup [(.tup [(.loc 8), (.int 1)]), (.tup [(.loc 7), (.int 1)])]), (.tup [(.tup [(.loc 7), (.bin .sub (.int 0) (.int 1))])]), (.tup [(.tup [(.loc 7), (.int 1001)])]), (.tup [(.tup [(.loc 7), (.bl true)])]), (.tup [(.tup [(.loc 7), (.str "any")])]), (.tup [(.tup [(.loc 7)])]), .non])]
    [.expr (.mth .append (.loc 13) (.tup [(.int 1), (.loc 14)]) [])], .fors (.nm 14) .seq [(.lst false [(.tup [(.tup [(.loc 7), (.int 1), (.int 1)])]), (.tup [(.tup [(.str ""), (.int 1)])]), (.tup [(.tup [(.str "Ab"), (.int 1)])]), (.tup [(.tup [(.str "a_"), (.int 1)])]), (.tup [(.tup [(.str "abcdefghijklm"), (.int 1)])]), (.lst false [(.tup [(.loc 7), (.int 1)])]), (.tup [(.lst false [(.loc 7), (.int 1)])]), (.tup [(.tup [(.int 1), (.int 1)])])])]
    [.expr (.mth .append (.loc 13) (.tup [(.int 1), (.loc 14)]) [])], .asg (.nm 17) (.tup [(.loc 7), (.loc 8), (.int 1), (.int 1)]), .fors (.nm 14) .seq [(.lst false [(.tup [(.loc 17), (.loc 17)]), (.tup [(.tup [(.loc 8), (.loc 7), (.int 1), (.int 1)]), (.loc 17)]), (.tup [(.tup [(.loc 7), (.loc 7), (.int 1), (.int 1)])]), (.tup [(.tup [(.loc 7), (.loc 11), (.int 1), (.int 1)])]), (.tup [(.tup [(.loc 11), (.loc 8), (.int 1), (.int 1)])]), (.lst false [(.loc 17)]), .non, (.tup [(.tup [(.loc 7), (.loc 8), (.int 1)])])])]
    [.expr (.mth .append (.loc 13) (.tup [(.int 2), (.loc 14)]) [])], .fors (.nm 14) .seq [(.lst false [(.tup [(.loc 7), (.loc 8), (.int 0), (.int 1)]), (.tup [(.loc 7), (.loc 8), (.int 61), (.int 1)]), (.tup [(.loc 7), (.loc 8), (.bl true), (.int 1)]), (.tup [(.loc 7), (.loc 8), (.int 1), (.bin .sub (.int 0) (.int 1))]), (.tup [(.loc 7), (.loc 8), (.int 1), (.int 1001)]), (.tup [(.loc 7), (.loc 8), (.int 1), .non]), (.tup [(.loc 7), (.loc 8), (.int 1), (.bl true)])])]
    [.expr (.mth .append (.loc 13) (.tup [(.int 2), (.tup [(.loc 14)])]) [])], .asg (.nm 18) (.tup [(.loc 7), (.int 0), (.int 1)]), .fors (.nm 14) .seq [(.lst false [(.tup [(.loc 18), (.loc 18)]), (.tup [(.tup [(.loc 8), (.int 0), (.int 1)]), (.loc 18)]), (.tup [(.tup [(.loc 11), (.int 0), (.int 1)])]), (.tup [(.tup [(.loc 7), (.bin .add (.loc 2) (.int 1)), (.int 1)])]), (.tup [(.tup [(.loc 7), (.bin .sub (.int 0) (.int 1)), (.int 1)])]), (.tup [(.tup [(.loc 7), (.int 0), (.int 0)])]), (.tup [(.tup [(.loc 7), (.int 0), (.int 1001)])]), (.lst false [(.loc 18)])])]
    [.expr (.mth .append (.loc 13) (.tup [(.int 3), (.loc 14)]) [])], .fors (.nm 14) .seq [(.lst false [(.tup [(.tup [(.loc 7), (.bl false), (.int 1)])]), (.tup [(.tup [(.loc 7), (.int 0), (.bl true)])]), (.tup [(.tup [(.loc 7), (.int 0)])]), (.tup [(.tup [(.loc 7), (.int 0), (.int 1), (.int 1)])]), (.tup [(.tup [(.loc 7), (.str "0"), (.int 1)])]), (.tup [(.lst false [(.loc 7), (.int 0), (.int 1)])]), .non, (.tup [(.tup [(.loc 7), (.int 1), (.int 1)]), (.tup [(.loc 7), (.int 0), (.int 1)])])])]
    [.expr (.mth .append (.loc 13) (.tup [(.int 3), (.loc 14)]) [])], .ret (.bin .add (.loc 13) (.comp false (.tup [(.int 4), (.loc 14)]) (.nm 14) .seq [(.lst false [(.loc 11), (.str ""), .non, (.int 0), (.bl true), (.lst false [(.loc 7)]), (.tup [(.loc 7)]), (.str "Ab")])] [] [("value", 14)]))]
/-! _law_great -/
abbrev s_law_great : Stmt := topS 34
def N_law_great : List Str := ["over", "names", "k", "pairs", "start", "goal", "sacks", "name"]
def B_law_great : List Sx := [.asg (.nm 1) (.comp false (.idx (.str "abcdefgh") (.loc 2)) (.nm 2) .rng1 [(.int 8)] [] [("k", 2)]), .asg (.nm 3) (.lst false []), .fors (.nm 4) .seq [(.loc 1)]
    [.asg (.nm 3) (.bin .add (.loc 3) (.comp false (.tup [(.loc 4), (.loc 5), (.int 60), (.int 1000)]) (.nm 5) .seq [(.loc 1)] [(.cmp .ne (.loc 5) (.loc 4))] [("goal", 5)]))], .asg (.nm 6) (.comp false (.tup [(.idx (.loc 1) (.bin .fdv (.loc 2) (.int 60))), (.bin .mod (.blt .int (.loc 2) []) (.int 60)), (.int 1000)]) (.nm 2) .rng1 [(.bin .add (.int 100) (.blt .int (.cmp .eq (.loc 0) (.str "sacks")) []))] [] [("k", 2)]), .ret (.tup [(.int 60), (.blt .tupT (.comp false (.tup [(.loc 7), (.int 1000)]) (.nm 7) .seq [(.loc 1)] [] [("name", 7)]) []), (.blt .tupT (.sli (.loc 3) [(.int 20)] [(.bin .add (.int 50) (.blt .int (.cmp .eq (.loc 0) (.str "roads")) []))]) []), (.blt .tupT (.loc 6) []), (.idx (.loc 1) (.int 7))])]
/-! law -/
abbrev slaw : Stmt := topS 35
def Nlaw : List Str := ["script", "box", "good", "names", "archive", "office", "road", "yard", "room", "due", "words", "wrong", "at", "value", "k", "one", "two", "over", "great"]
def Blaw : List Sx := [.asg (.nm 1) (.call 0 (.loc 0) []), .asg (.nm 2) (.call 1 (.loc 1) [(.int 60), (.int 7), (.int 12)]), .ifs (.cmp .lt (.blt .len (.idx (.loc 2) (.int 1)) []) (.int 2))
    [.asg (.nm 3) (.lst false [(.str "abc"), (.str "abd")]), .asg (.nm 2) (.tup [(.idx (.loc 2) (.int 0)), (.tup [(.tup [(.idx (.loc 3) (.int 0)), .non]), (.tup [(.idx (.loc 3) (.int 1)), (.int 5)])]), (.tup [(.tup [(.idx (.loc 3) (.int 1)), (.idx (.loc 3) (.int 0)), (.int 2), (.int 7)])]), (.tup [(.tup [(.str "abd"), (.idx (.loc 2) (.int 0)), (.int 3)])]), (.idx (.loc 3) (.int 0))])]
    [], .ifs (.bol false [(.cmp .isnot (.call 2 (.loc 2) []) .non), (.cmp .ne (.call 3 (.loc 2) []) (.call 4 (.loc 2) []))])
    [.ret (.bl false)]
    [], .asg (.nm 4) (.tup [(.idx (.loc 2) (.int 0)), (.blt .tupT (.comp false (.idx (.loc 5) (.int 0)) (.nm 5) .seq [(.idx (.loc 2) (.int 1))] [] [("office", 5)]) []), (.tup []), (.blt .tupT (.comp false (.sli (.loc 6) [] [(.int 3)]) (.nm 6) .seq [(.idx (.loc 2) (.int 2))] [] [("road", 6)]) []), (.tup [])]), .asg (.nm 7) (.call 5 (.loc 1) [(.lst false [.non, (.int 0), (.call 6 (.loc 1) [(.int 1001)])])]), .asg (.nm 8) (.call 6 (.loc 1) [(.int 1001)]), .asg (.nm 9) (.bin .add (.tup [(.idx (.loc 2) (.int 0)), (.blt .tupT (.comp false (.tup [(.idx (.loc 5) (.int 0)), (.loc 7)]) (.nm 5) .seq [(.idx (.loc 2) (.int 1))] [] [("office", 5)]) []), (.blt .tupT (.comp false (.bin .add (.sli (.loc 6) [] [(.int 3)]) (.tup [(.loc 8)])) (.nm 6) .seq [(.idx (.loc 2) (.int 2))] [] [("road", 6)]) [])]) (.sli (.loc 2) [(.int 3)] [])), .ifs (.bol false [(.cmp .ne (.call 7 (.loc 4) [(.loc 7), (.loc 8), (.idx (.loc 2) (.int 3)), (.idx (.loc 2) (.int 4))]) (.loc 9)), (.cmp .isnot (.call 2 (.loc 9) []) .non)])
    [.ret (.bl false)]
    [], .asg (.nm 10) (.lst false [(.str "last"), (.str "offices"), (.str "roads"), (.str "sacks"), (.str "goal")]), .asg (.nm 11) (.call 8 (.loc 1) [(.loc 2)]), .fors (.tp [12, 13]) .seq [(.loc 11)]
    [.ifs (.cmp .ne (.call 2 (.call 9 (.loc 2) [(.loc 12), (.loc 13)]) []) (.idx (.loc 10) (.loc 12)))
    [.ret (.bl false)]
    []], .fors (.nm 14) .rng1 [(.int 6)]
    [.asg (.nm 15) (.call 5 (.loc 1) [(.loc 11)]), .asg (.nm 16) (.call 5 (.loc 1) [(.loc 11)]), .ifs (.cmp .ne (.call 2 (.call 9 (.call 9 (.loc 2) [(.idx (.loc 15) (.int 0)), (.idx (.loc 15) (.int 1))]) [(.idx (.loc 16) (.int 0)), (.idx (.loc 16) (.int 1))]) []) (.idx (.loc 10) (.blt .min2 (.idx (.loc 15) (.int 0)) [(.idx (.loc 16) (.int 0))])))
    [.ret (.bl false)]
    []], .fors (.nm 17) .seq [(.lst false [(.str "roads"), (.str "sacks")])]
    [.ifs (.cmp .ne (.call 2 (.call 10 (.loc 17) []) []) (.loc 17))
    [.ret (.bl false)]
    []], .asg (.nm 18) (.call 10 (.str "") []), .ret (.bol true [(.cmp .is (.call 2 (.loc 18) []) .non), (.cmp .eq (.blt .len (.call 3 (.loc 18) []) []) (.bin .add (.int 420) (.blt .len (.comp false (.loc 6) (.nm 6) .seq [(.idx (.loc 18) (.int 2))] [(.cmp .ne (.idx (.loc 6) (.int 0)) (.idx (.loc 18) (.int 4)))] [("road", 6)]) [])))])]
end K93

namespace K93
open PySem PySem.Spec PyProof.Rows L2 Z
/-! ### what the program's defs say, on data -/
def btwB (v : D) (l h : Int) : Bool := match v with | .int i => decide (l ≤ i) && decide (i ≤ h) | _ => false
def rowB (v : D) (n : Int) : Bool := match v with | .tp _ ds => decide ((ds.length : Int) = n) | _ => false
def nmS (x : Str) : Bool := decide (1 ≤ x.length) && decide (x.length ≤ 12) && x.cps.toList.all fun c => decide (97 ≤ c) && decide (c ≤ 122)
def nmB : D → Bool | .str x => nmS x | _ => false
def memB (x : D) (names : List D) : Bool := names.any fun z => eqv z x
def fst : D → D | .tp _ (x :: _) => x | _ => .non
def cut2 : D → D | .tp .t ds => .tup (ds.take 2) | _ => .non
def yardB : D → Bool | .tp _ [nm, rm] => nmB nm && (isNon rm || btwB rm 0 1000) | _ => false
def yardsB : D → Bool | .tp _ ds => decide (1 ≤ ds.length) && decide (ds.length ≤ 8) && ds.all yardB && ascB (ds.map fst) | _ => false
def coachB (names : List D) : D → Bool
  | .tp _ [st, gl, dy, rm] => nmB st && nmB gl && !eqv st gl && memB st names && memB gl names && btwB dy 1 60 && btwB rm 0 1000
  | _ => false
def coachesB (names : List D) : D → Bool | .tp _ ds => decide (ds.length ≤ 30) && ds.all (coachB names) && ascB (ds.map cut2) | _ => false
def handB (names : List D) (last : Int) : D → Bool
  | .tp _ [nm, dy, am] => nmB nm && memB nm names && btwB dy 0 last && btwB am 1 1000
  | _ => false
def sacksB (names : List D) (last : Int) : D → Bool | .tp _ ds => decide (ds.length ≤ 100) && ds.all (handB names last) && ascB (ds.map cut2) | _ => false
def namesOf : D → List D | .tp _ ds => ds.map fst | _ => []
def lastOf : D → Int | .int i => i | _ => 0
def faultD : D → D
  | .tp _ [last, offices, roads, sacks, goal] =>
    if btwB last 0 60 = false then .str "last" else if yardsB offices = false then .str "offices"
    else if coachesB (namesOf offices) roads = false then .str "roads" else if sacksB (namesOf offices) (lastOf last) sacks = false then .str "sacks"
    else if (nmB goal && memB goal (namesOf offices)) = false then .str "goal" else .non
  | _ => .non
/-! ### promises -/
def spB (p : D → Bool) (f : D → Bool) : Sp3 := fun ds M Q _ => ∃ v, ds = [v] ∧ p v = true ∧ Q (.bl (f v)) M
def spis_integer : Sp3 := spB pln isInt
def spis_between : Sp3 := fun ds M Q _ => ∃ v l h, ds = [v, .int l, .int h] ∧ pln v = true ∧ Q (.bl (btwB v l h)) M
def spis_day : Sp3 := spB pln fun v => btwB v 0 60
def spis_row : Sp3 := fun ds M Q _ => ∃ v n, ds = [v, .int n] ∧ pln v = true ∧ Q (.bl (rowB v n)) M
def spis_name : Sp3 := spB dpl nmB
def spis_ascending : Sp3 := fun ds M Q _ => ∃ xs, ds = [.lst xs] ∧ xs.length ≤ 1000000 ∧ (∀ x ∈ xs, ordD x = true) ∧ (∀ x ∈ xs, ∀ y ∈ xs, likeD x y = true) ∧ Q (.bl (ascB xs)) M
def spis_room : Sp3 := spB pln fun v => btwB v 0 1000
def spis_yard : Sp3 := spB dpl yardB
def spare_yards : Sp3 := spB dpl yardsB
def isStrs (names : List D) : Bool := names.all fun d => match d with | .str x => PyData.strOk x | _ => false
def spis_coach : Sp3 := fun ds M Q _ => ∃ v names, ds = [v, .lst names] ∧ dpl v = true ∧ isStrs names = true ∧ Q (.bl (coachB names v)) M
def spare_coaches : Sp3 := fun ds M Q _ => ∃ v names, ds = [v, .lst names] ∧ dpl v = true ∧ isStrs names = true ∧ Q (.bl (coachesB names v)) M
def spis_handed : Sp3 := fun ds M Q _ => ∃ v names last, ds = [v, .lst names, .int last] ∧ dpl v = true ∧ isStrs names = true ∧ Q (.bl (handB names last v)) M
def spare_sacks : Sp3 := fun ds M Q _ => ∃ v names last, ds = [v, .lst names, .int last] ∧ dpl v = true ∧ isStrs names = true ∧ Q (.bl (sacksB names last v)) M
def spdespatch_fault : Sp3 := fun ds M Q _ => ∃ a b c d e, ds = [.tup [a, b, c, d, e]] ∧ dpl a = true ∧ dpl b = true ∧ dpl c = true ∧ dpl d = true ∧ dpl e = true ∧ Q (faultD (.tup [a, b, c, d, e])) M
/-! ### rides -/
def lieD (nm rm : D) (i : Nat) : D := .tup [.tup [.str "lie", nm, .int i], .tup [nm, .int i], .tup [nm, .int ((i : Int) + 1)], rm]
def liesD (last : Int) (goal : D) : D → List D
  | .tp _ [nm, rm] => if eqv nm goal then [] else (List.range last.toNat).map (lieD nm rm)
  | _ => []
def rideD (st en rm : D) (days : Int) (i : Nat) : D := .tup [.tup [.str "ride", st, en, .int i], .tup [st, .int i], .tup [en, .int ((i : Int) + days)], rm]
def tripsD (last : Int) (goal : D) : D → List D
  | .tp _ [st, en, .int days, rm] => if eqv st goal then [] else (List.range (last + 1 - days).toNat).map (rideD st en rm days)
  | _ => []
def ridesD (last : Int) (goal : D) (offices roads : List D) : List D := offices.flatMap (liesD last goal) ++ roads.flatMap (tripsD last goal)
/-- what rides_of takes -/
def rideOk (last : Int) (goal : D) (offices roads : List D) : Prop :=
  0 ≤ last ∧ last ≤ 60 ∧ offices.length ≤ 8 ∧ roads.length ≤ 30 ∧ (∃ x, goal = .str x) ∧ (∀ o ∈ offices, ∃ x rm, o = .tup [.str x, rm]) ∧ ∀ r ∈ roads, ∃ x en days rm, r = .tup [.str x, en, .int days, rm] ∧ 1 ≤ days ∧ days ≤ 60
def sprides_of : Sp3 := fun ds M Q _ => ∃ last offices roads sacks goal, ds = [.tup [.int last, .tup offices, .tup roads, sacks, goal]] ∧ rideOk last goal offices roads ∧ Q (.lst (ridesD last goal offices roads)) M
def sp_law_rides : Sp3 := sprides_of
def dueRoad (room : D) : D → D | .tp .t ds => .tup (ds ++ [room]) | d => d
def spdespatch_of : Sp3 := fun ds M Q _ => ∃ last offices kinds roads records yard room sacks goal, ds = [.tup [last, .tup offices, kinds, .tup roads, records], yard, room, sacks, goal] ∧ offices.length ≤ 100 ∧ roads.length ≤ 100 ∧ (∀ r ∈ roads, ∃ xs, r = .tup xs ∧ xs.length ≤ 100) ∧
  Q (.tup [last, .tup (offices.map fun n => .tup [n, yard]), .tup (roads.map (dueRoad room)), sacks, goal]) M
/-! ### the law's own defs -/
def smallI (x : D) : Prop := ∃ i : Int, x = .int i ∧ 0 ≤ i ∧ i < 1000003
def bx (row : List D) (t : Nat) : MO := .dK [(.inr ("row" : Str), .lst row), (.inr ("at" : Str), .int t)]
structure RowOk (row : List D) : Prop where
  ne : row ≠ []
  len : row.length ≤ 1000
  small : ∀ x ∈ row, smallI x
/-- a box stands at a -/
structure Bx (M : MH) (a : Addr) (row : List D) : Prop where
  ok : RowOk row
  at' : ∃ t, M a = some (bx row t)
def sp_law_digits : Sp3 := fun ds M Q _ => ∃ c n : Int, ds = [.int c, .int n] ∧ 0 ≤ n ∧ n ≤ 100 ∧ ∀ xs : List D, (xs.length : Int) ≤ n → (∀ x ∈ xs, smallI x) → Q (.lst xs) M
def sp_law_box : Sp3 := fun ds M Q _ => ∃ ns : List Int, ds = [.flst (ns.map D.int)] ∧ ns.length ≤ 63 ∧ ∀ a row, RowOk row → M a = none → Q (.ref a) (up M a (bx row 0))
/-- a value drawn: anything that is fit, the box moved on -/
def draw (a : Addr) (row : List D) (M : MH) (Q : Q3) (ok : D → Prop) : Prop := ∀ r t, ok r → Q r (up M a (bx row t))
def sp_law_take : Sp3 := fun ds M Q _ => ∃ a row m, ds = [.ref a, .int m] ∧ Bx M a row ∧ 0 < m ∧ m < 1000000 ∧ draw a row M Q fun r => ∃ i : Int, r = .int i ∧ 0 ≤ i ∧ i < m
def sp_law_pick : Sp3 := fun ds M Q _ => ∃ a row xs, ds = [.ref a, .lst xs] ∧ Bx M a row ∧ xs ≠ [] ∧ xs.length < 1000000 ∧ draw a row M Q fun r => r ∈ xs
def lowS (x : Str) : Prop := ∀ c ∈ x.cps.toList, 97 ≤ c ∧ c ≤ 122
def sp_law_word : Sp3 := fun ds M Q _ => ∃ a row n, ds = [.ref a, .int n] ∧ Bx M a row ∧ 0 ≤ n ∧ n ≤ 100 ∧ draw a row M Q fun r => ∃ x, r = .str x ∧ lowS x ∧ (x.length : Int) = n
def isNm (d : D) : Prop := ∃ x, d = .str x ∧ nmS x = true
structure NamesOk (names : List D) (many : Int) : Prop where
  len : (names.length : Int) = many
  nm : ∀ d ∈ names, isNm d
  asc : ascB names = true
def sp_law_names : Sp3 := fun ds M Q _ => ∃ a row many, ds = [.ref a, .int many] ∧ Bx M a row ∧ 1 ≤ many ∧ many ≤ 8 ∧ ∀ names t, NamesOk names many → Q (.lst names) (up M a (bx row t))
structure GoodD (last : Int) (offices roads sacks : List D) (goal : D) : Prop where
  l0 : 0 ≤ last
  l1 : last < 60
  dp : dpl.dplL offices = true ∧ dpl.dplL roads = true ∧ dpl.dplL sacks = true ∧ dpl goal = true
  ok : faultD (.tup [.int last, .tup offices, .tup roads, .tup sacks, goal]) = .non
  ot : ∀ o ∈ offices, ∃ x rm, o = .tup [.str x, rm]
  rt : ∀ r ∈ roads, ∃ x en days rm, r = .tup [.str x, en, .int days, rm] ∧ 1 ≤ days ∧ days ≤ 60
def sp_law_despatch : Sp3 := fun ds M Q _ => ∃ a row, ds = [.ref a, .int 60, .int 7, .int 12] ∧ Bx M a row ∧ ∀ last offices roads sacks goal t, GoodD last offices roads sacks goal → Q (.tup [.int last, .tup offices, .tup roads, .tup sacks, goal]) (up M a (bx row t))
def sp_law_with : Sp3 := fun ds M Q _ => ∃ xs i v, ds = [.tup xs, .int (i : Nat), v] ∧ i < xs.length ∧ xs.length ≤ 1000 ∧ Q (.tup (xs.set i v)) M
/-- a wrong member, judged with the others good -/
def wrongAt (names : List D) (last : Int) : Nat → D → Bool
  | 0, v => !btwB v 0 60
  | 1, v => !yardsB v
  | 2, v => !coachesB names v
  | 3, v => !sacksB names last v
  | _, v => !(nmB v && memB v names)
def WrongP (names : List D) (last : Int) (d : D) : Prop := ∃ (k : Nat) (v : D), d = .tup [.int k, v] ∧ k < 5 ∧ dpl v = true ∧ wrongAt names last k v = true
def sp_law_wrong : Sp3 := fun ds M Q _ => ∃ b last offices roads sacks goal, ds = [b, .tup [.int last, .tup offices, .tup roads, .tup sacks, goal]] ∧ GoodD last offices roads sacks goal ∧ 2 ≤ offices.length ∧
  ∀ ws, ws ≠ [] → ws.length ≤ 1000 → (∀ w ∈ ws, WrongP (offices.map fst) last w) → Q (.lst ws) M
/-! #### the great one -/
def gN (i : Nat) : D := .str ⟨#[97 + i]⟩
def gNames : List D := (List.range 8).map gN
def gPairs : List D := gNames.flatMap fun s => (gNames.filter fun g => !eqv g s).map fun g => .tup [s, g, .int 60, .int 1000]
def gSacks (n : Nat) : List D := (List.range n).map fun k => .tup [gNames.getD (k / 60) .non, .int ((k % 60 : Nat) : Int), .int 1000]
def greatD (r s : Nat) : D := .tup [.int 60, .tup (gNames.map fun n => .tup [n, .int 1000]), .tup ((gPairs.drop 20).take (30 + r)), .tup (gSacks (100 + s)), gN 7]
def isW (x y : Str) : Nat := if x = y then 1 else 0
def sp_law_great : Sp3 := fun ds M Q _ => ∃ x : Str, ds = [.str x] ∧ Q (greatD (isW x "roads") (isW x "sacks")) M
def splaw : Sp3 := fun ds M Q _ => ∃ ns : List Int, ds = [.flst (ns.map D.int)] ∧ ns.length ≤ 63 ∧ M = M00 ∧ ∀ M', Q (.bl true) M'
end K93

namespace K93
open PySem PySem.Spec PyProof.Rows L2 Z

def Gis_integer : GT := ⟨[], [], ["isinstance", "int", "bool"]⟩
def Gis_between : GT := ⟨[("is_integer", 1, spis_integer)], [], []⟩
def Gis_day : GT := ⟨[("is_between", 3, spis_between)], [("MAX_DAY", D.int 60)], []⟩
def Gis_row : GT := ⟨[], [], ["isinstance", "tuple", "len"]⟩
def Gis_name : GT := ⟨[], [], ["isinstance", "str", "len", "all"]⟩
def Gis_ascending : GT := ⟨[], [], ["all", "range", "len"]⟩
def Gis_room : GT := ⟨[("is_between", 3, spis_between)], [("MAX_ROOM", D.int 1000)], []⟩
def Gis_yard : GT := ⟨[("is_row", 2, spis_row), ("is_name", 1, spis_name), ("is_room", 1, spis_room)], [], []⟩
def Gare_yards : GT := ⟨[("is_yard", 1, spis_yard), ("is_ascending", 1, spis_ascending)], [("MAX_YARDS", D.int 8)], ["isinstance", "tuple", "len", "all"]⟩
def Gis_coach : GT := ⟨[("is_row", 2, spis_row), ("is_name", 1, spis_name), ("is_between", 3, spis_between), ("is_room", 1, spis_room)], [], []⟩
def Gare_coaches : GT := ⟨[("is_coach", 2, spis_coach), ("is_ascending", 1, spis_ascending)], [("MAX_COACHES", D.int 30)], ["isinstance", "tuple", "len", "all"]⟩
def Gis_handed : GT := ⟨[("is_row", 2, spis_row), ("is_name", 1, spis_name), ("is_between", 3, spis_between)], [("MAX_ROOM", D.int 1000)], []⟩
def Gare_sacks : GT := ⟨[("is_handed", 3, spis_handed), ("is_ascending", 1, spis_ascending)], [("MAX_HANDED", D.int 100)], ["isinstance", "tuple", "len", "all"]⟩
def Gdespatch_fault : GT := ⟨[("is_day", 1, spis_day), ("are_yards", 1, spare_yards), ("are_coaches", 2, spare_coaches), ("are_sacks", 3, spare_sacks), ("is_name", 1, spis_name)], [], []⟩
def Grides_of : GT := ⟨[], [], ["range"]⟩
def Gdespatch_of : GT := ⟨[], [], ["tuple"]⟩
def G_law_digits : GT := ⟨[], [], ["range", "int"]⟩
def G_law_box : GT := ⟨[("_law_digits", 2, sp_law_digits)], [], ["len"]⟩
def G_law_take : GT := ⟨[], [], ["int", "len"]⟩
def G_law_pick : GT := ⟨[("_law_take", 2, sp_law_take)], [], ["len"]⟩
def G_law_word : GT := ⟨[("_law_take", 2, sp_law_take)], [], ["range"]⟩
def G_law_names : GT := ⟨[("_law_take", 2, sp_law_take), ("_law_pick", 2, sp_law_pick), ("_law_word", 2, sp_law_word)], [], ["len", "range", "int", "sorted"]⟩
def G_law_despatch : GT := ⟨[("_law_take", 2, sp_law_take), ("_law_names", 2, sp_law_names), ("_law_pick", 2, sp_law_pick)], [], ["tuple", "range", "sorted", "list"]⟩
def G_law_rides : GT := ⟨[], [], ["range"]⟩
def G_law_with : GT := ⟨[], [], []⟩
def G_law_wrong : GT := ⟨[], [], ["tuple", "range"]⟩
def G_law_great : GT := ⟨[], [], ["range", "int", "tuple"]⟩
def Glaw : GT := ⟨[("_law_box", 1, sp_law_box), ("_law_despatch", 4, sp_law_despatch), ("despatch_fault", 1, spdespatch_fault), ("rides_of", 1, sprides_of), ("_law_rides", 1, sp_law_rides), ("_law_pick", 2, sp_law_pick), ("_law_take", 2, sp_law_take), ("despatch_of", 5, spdespatch_of), ("_law_wrong", 2, sp_law_wrong), ("_law_with", 3, sp_law_with), ("_law_great", 1, sp_law_great)], [], ["len", "tuple", "range", "min"]⟩
end K93

namespace K93
open PySem PySem.Spec PyProof.Rows L2 Z
local macro_rules | `(tactic| walk_at "z") => `(tactic| simp only [wpss, wps, wpe, wpt, wpl, wpv, wpb, wpo, wpc, wpp, seq3, next3, brk3, cnt3, drop3, ret3, retN3, if3, asg3, bindT, setAll, par3, sput3, aug3, iadd3, isub3, loc3, con3, op1, op2, tst, chain3, and3, or3, not3, ite3, andV3, orV3, notV3, nil3, cons3, tup3, lst3, lstM3, callG, cstG, nth, call3, opL, c1, c2, ofO, ofO2, Bt.ol, BOp.o2, COp.o2, getE, setE, wipeE, wipeE1, startE, bodyEnds, isi3, tru3, sl3, noP3, part3, iterL, wi, rng1A, rng2A, enumA, List.map_cons, List.map_nil])
theorem pis_integer (ds : List D) (M : MH) (Q : Q3) (E : X3) (_ : ds.length = 1) (h : spis_integer ds M Q E) : wpss Gis_integer E Bis_integer (bodyEnds Q) (startE Nis_integer.length ds) M := by
  obtain ⟨v, rfl, hv, q⟩ := h
  show wpss Gis_integer E Bis_integer (bodyEnds Q) [some v] M
  unfold Bis_integer
  walk_at "z"
  rw [isTy_int hv, isTy_bool hv]
  cases v <;> first | exact rt_same q | (simp [pln] at hv)
theorem pis_between (ds : List D) (M : MH) (Q : Q3) (E : X3) (_ : ds.length = 3) (h : spis_between ds M Q E) : wpss Gis_between E Bis_between (bodyEnds Q) (startE Nis_between.length ds) M := by
  obtain ⟨v, l, h, rfl, hv, q⟩ := h
  show wpss Gis_between E Bis_between (bodyEnds Q) [some v, some (.int l), some (.int h)] M
  unfold Bis_between Gis_between
  walk_at "z"
  refine ⟨rfl, v, rfl, hv, ?_⟩
  cases v with
  | int i =>
    simp only [Z.isInt, le3, isN3, Z.isNon]
    by_cases h1 : l ≤ i
    · rw [decide_eq_true h1]
      refine rt_same ?_
      simpa [btwB, h1] using q
    · rw [decide_eq_false h1]
      refine rt_same ?_
      simpa [btwB, h1] using q
  | _ => exact rt_same q
theorem pis_day (ds : List D) (M : MH) (Q : Q3) (E : X3) (_ : ds.length = 1) (h : spis_day ds M Q E) : wpss Gis_day E Bis_day (bodyEnds Q) (startE Nis_day.length ds) M := by
  obtain ⟨v, rfl, hv, q⟩ := h
  show wpss Gis_day E Bis_day (bodyEnds Q) [some v] M
  unfold Bis_day Gis_day
  walk_at "z"
  exact ⟨rfl, v, 0, 60, rfl, hv, rt_same q⟩
theorem pis_room (ds : List D) (M : MH) (Q : Q3) (E : X3) (_ : ds.length = 1) (h : spis_room ds M Q E) : wpss Gis_room E Bis_room (bodyEnds Q) (startE Nis_room.length ds) M := by
  obtain ⟨v, rfl, hv, q⟩ := h
  show wpss Gis_room E Bis_room (bodyEnds Q) [some v] M
  unfold Bis_room Gis_room
  walk_at "z"
  exact ⟨rfl, v, 0, 1000, rfl, hv, rt_same q⟩
theorem eq3_int {i j : Int} {M : MH} {Q : Q3} (q : Q (.bl (decide (i = j))) M) : eq3 (.int i) (.int j) M Q := ⟨rfl, by
  show Q (.bl (i == j)) M
  rw [show (i == j) = decide (i = j) from rfl]; exact q⟩
theorem pis_row (ds : List D) (M : MH) (Q : Q3) (E : X3) (_ : ds.length = 2) (h : spis_row ds M Q E) : wpss Gis_row E Bis_row (bodyEnds Q) (startE Nis_row.length ds) M := by
  obtain ⟨v, n, rfl, hv, q⟩ := h
  show wpss Gis_row E Bis_row (bodyEnds Q) [some v, some (.int n)] M
  unfold Bis_row Gis_row
  walk_at "z"
  rw [isTy_tup hv]
  cases v with
  | tp k ds =>
    simp only [lenA_tp]
    exact eq3_int (rt_same q)
  | _ => first | exact rt_same q | (simp [pln] at hv)
/-! names -/
theorem str_a : ("a" : Str) = ⟨#[97]⟩ := by decide +kernel
theorem str_z : ("z" : Str) = ⟨#[122]⟩ := by decide +kernel
def chB : D → Bool | .str s => s.cps.toList.all fun c => decide (97 ≤ c) && decide (c ≤ 122) | _ => false
theorem one_lt (a b : Nat) : decide (([a] : List Nat) < [b]) = decide (a < b) := by
  by_cases h : a < b
  · rw [decide_eq_true h, decide_eq_true]
    exact List.Lex.rel h
  · rw [decide_eq_false h, decide_eq_false]
    intro z
    cases z with
    | rel z => exact h z
    | cons z => cases z
theorem charsD_mem {x : Str} {d : D} (h : d ∈ charsD x) : ∃ c ∈ x.cps.toList, d = .str ⟨#[c]⟩ := by
  obtain ⟨c, h1, h2⟩ := List.mem_map.mp h
  exact ⟨c, h1, h2.symm⟩
theorem charsD_all (x : Str) : (charsD x).all chB = x.cps.toList.all fun c => decide (97 ≤ c) && decide (c ≤ 122) := by
  unfold charsD
  rw [List.all_map]
  congr 1
  funext c
  simp [chB]
theorem pis_name (ds : List D) (M : MH) (Q : Q3) (E : X3) (_ : ds.length = 1) (h : spis_name ds M Q E) : wpss Gis_name E Bis_name (bodyEnds Q) (startE Nis_name.length ds) M := by
  obtain ⟨v, rfl, hv, q⟩ := h
  show wpss Gis_name E Bis_name (bodyEnds Q) [some v, none] M
  unfold Bis_name Gis_name
  walk_at "z"
  rw [isTy_str (dpl_pln hv)]
  cases v with
  | str x =>
    have hz : x.length ≤ sizeLine := by
      have := (b2 hv).2
      simpa using this
    simp only [lenA, hz, if_true, le3, Bool.not_true, Bool.false_eq_true]
    by_cases h1 : 1 ≤ (x.length : Int)
    · by_cases h2 : (x.length : Int) ≤ 12
      · rw [decide_eq_true h1, decide_eq_true h2]
        simp only [truA, Bool.not_true]
        refine comp3_map (items := charsD x) (fun d => .bl (chB d)) (fun k hk => ?_) (fun d hd => ⟨_, rfl, fun p l hp k hk => ?_⟩) ?_
        · walk_at "z"
          simp only [itemsA, hz, if_true]
          exact hk
        · obtain ⟨c, hc, rfl⟩ := charsD_mem hd
          walk_at "z"
          refine le3_ok rfl rfl rfl ?_
          have e1 : (!ltD (.str ⟨#[c]⟩) (.str "a")) = decide (97 ≤ c) := by
            rw [str_a]
            show (!decide (([c] : List Nat) < [97])) = _
            rw [one_lt]
            by_cases h : c < 97
            · rw [decide_eq_true h, decide_eq_false (by omega)]; rfl
            · rw [decide_eq_false h, decide_eq_true (by omega)]; rfl
          have e2 : (!ltD (.str "z") (.str ⟨#[c]⟩)) = decide (c ≤ 122) := by
            rw [str_z]
            show (!decide (([122] : List Nat) < [c])) = _
            rw [one_lt]
            by_cases h : 122 < c
            · rw [decide_eq_true h, decide_eq_false (by omega)]; rfl
            · rw [decide_eq_false h, decide_eq_true (by omega)]; rfl
          have e3 : chB (.str ⟨#[c]⟩) = (decide (97 ≤ c) && decide (c ≤ 122)) := by simp [chB]
          rw [e1]
          rw [e3] at hk
          cases q1 : decide (97 ≤ c) with
          | true =>
            rw [q1] at hk
            refine le3_ok rfl rfl rfl ?_
            rw [e2]
            simpa using hk
          | false =>
            rw [q1] at hk
            simpa using hk
        · rw [allA_map, charsD_all]
          refine rt_same ?_
          have : nmB (.str x) = x.cps.toList.all fun c => decide (97 ≤ c) && decide (c ≤ 122) := by
            show nmS x = _
            unfold nmS
            rw [decide_eq_true (show 1 ≤ x.length by omega), decide_eq_true (show x.length ≤ 12 by omega)]; simp
          rw [← this]
          exact q
      · rw [decide_eq_true h1, decide_eq_false h2]
        refine rt_same ?_
        have : nmB (.str x) = false := by
          show nmS x = _
          unfold nmS
          rw [decide_eq_false (show ¬ x.length ≤ 12 by omega)]; simp
        rw [← this]; exact q
    · rw [decide_eq_false h1]
      refine rt_same ?_
      have : nmB (.str x) = false := by
        show nmS x = _
        unfold nmS
        rw [decide_eq_false (show ¬ 1 ≤ x.length by omega)]; simp
      rw [← this]; exact q
  | _ => first | exact rt_same q | (simp [dpl] at hv)
/-! orders, members -/
theorem seqM_lst {M : MH} {xs : List D} : seqM M (.lst xs) = some xs := rfl
theorem ix_lst {M : MH} {xs : List D} {i : Nat} {d : D} {Q : Q3} (h : xs[i]? = some d) (q : Q d M) : ix3 (.lst xs) (.int (i : Nat)) M Q := by
  unfold ix3
  have : ixAns M (.lst xs) (.int (i : Nat)) = some d := by
    show atI xs (i : Nat) = some d
    exact atI_nat h
  rw [this]; exact q
theorem ix_tup {M : MH} {k : TK} {xs : List D} {i : Nat} {d : D} {Q : Q3} (h : xs[i]? = some d) (q : Q d M) : ix3 (.tp k xs) (.int (i : Nat)) M Q := by
  unfold ix3
  have : ixAns M (.tp k xs) (.int (i : Nat)) = some d := by
    show atI xs (i : Nat) = some d
    exact atI_nat h
  rw [this]; exact q
theorem pis_ascending (ds : List D) (M : MH) (Q : Q3) (E : X3) (_ : ds.length = 1) (h : spis_ascending ds M Q E) : wpss Gis_ascending E Bis_ascending (bodyEnds Q) (startE Nis_ascending.length ds) M := by
  obtain ⟨xs, rfl, hl, ho, hk, q⟩ := h
  show wpss Gis_ascending E Bis_ascending (bodyEnds Q) [some (.lst xs), none] M
  unfold Bis_ascending Gis_ascending
  walk_at "z"
  refine comp3_map (items := rngD 0 (xs.length - 1)) (fun d => .bl (match d with | .int i => (match xs[i.toNat]?, xs[i.toNat + 1]? with | some x, some y => ltD x y | _, _ => false) | _ => false)) (fun k hk => ?_) (fun d hd => ⟨_, rfl, fun p l hp k hk2 => ?_⟩) ?_
  · walk_at "z"
    simp only [lenA, seqM_lst, sub3]
    refine ⟨by omega, ?_⟩
    rw [show ((xs.length : Int) - 1).toNat = xs.length - 1 by omega]
    exact hk
  · obtain ⟨i, hi, rfl⟩ := rngD_mem hd
    rw [show (0 : Int) + (i : Nat) = ((i : Nat) : Int) by omega] at hk2 ⊢
    walk_at "z"
    have g1 : xs[i]? = some xs[i] := List.getElem?_eq_getElem (by omega)
    have g2 : xs[i + 1]? = some xs[i + 1] := List.getElem?_eq_getElem (by omega)
    refine ix_lst g1 ?_
    simp only [add3]
    rw [show ((i : Nat) : Int) + 1 = ((i + 1 : Nat) : Int) by omega]
    refine ix_lst g2 ?_
    have m1 : xs[i] ∈ xs := List.getElem_mem _
    have m2 : xs[i + 1] ∈ xs := List.getElem_mem _
    refine lt3_ok (ho _ m1) (ho _ m2) (hk _ m1 _ m2) ?_
    dsimp only at hk2
    rw [Int.toNat_natCast, g1, g2] at hk2
    exact hk2
  · rw [allA_map]
    refine rt_same ?_
    have : ((rngD 0 (xs.length - 1)).all fun d => match d with | .int i => (match xs[i.toNat]?, xs[i.toNat + 1]? with | some x, some y => ltD x y | _, _ => false) | _ => false) = ascB xs := by
      rw [rngD0, List.all_map, ← ascB_range]
      rfl
    rw [this]
    exact q
theorem yardB_eq {k : TK} {a b : D} : yardB (.tp k [a, b]) = (nmB a && (Z.isNon b || btwB b 0 1000)) := rfl
theorem pis_yard (ds : List D) (M : MH) (Q : Q3) (E : X3) (_ : ds.length = 1) (h : spis_yard ds M Q E) : wpss Gis_yard E Bis_yard (bodyEnds Q) (startE Nis_yard.length ds) M := by
  obtain ⟨v, rfl, hv, q⟩ := h
  show wpss Gis_yard E Bis_yard (bodyEnds Q) [some v] M
  unfold Bis_yard Gis_yard
  walk_at "z"
  refine ⟨rfl, v, 2, rfl, dpl_pln hv, ?_⟩
  cases v with
  | tp k xs =>
    cases k with
    | t =>
      match xs, hv, q with
      | [a, b], hv, q =>
        have hv : (dpl a && (dpl b && true)) = true := hv
        obtain ⟨ha, hb⟩ := b2 hv
        obtain ⟨hb, _⟩ := b2 hb
        simp only [rowB, List.length_cons, List.length_nil]
        refine ix_tup (i := 0) rfl ?_
        refine ⟨by trivial, a, rfl, ha, ?_⟩
        cases hn : nmB a with
        | false =>
          refine rt_same ?_
          rw [yardB_eq, hn] at q
          exact q
        | true =>
          rw [yardB_eq, hn, Bool.true_and] at q
          refine ix_tup (i := 1) rfl ?_
          simp only [isN3]
          cases hb2 : Z.isNon b with
          | true => rw [hb2] at q; exact rt_same q
          | false =>
            rw [hb2, Bool.false_or] at q
            exact ix_tup (i := 1) rfl ⟨by trivial, b, rfl, dpl_pln hb, rt_same q⟩
      | [], hv, q => exact rt_same q
      | [a], hv, q => exact rt_same q
      | a :: b :: c :: r, hv, q =>
        have : rowB (.tp .t (a :: b :: c :: r)) 2 = false := by
          simp only [rowB, List.length_cons]
          exact decide_eq_false (by omega)
        rw [this]
        exact rt_same q
    | _ => simp [dpl] at hv
  | _ => exact rt_same q
theorem dpl_tp {k : TK} {xs : List D} (h : dpl (.tp k xs) = true) : k = .t ∧ ∀ x ∈ xs, dpl x = true := by
  cases k with
  | t =>
    have h : dpl.dplL xs = true := h
    rw [dplL_all, List.all_eq_true] at h
    exact ⟨rfl, h⟩
  | _ => simp [dpl] at h
theorem yardB_str {d : D} (h : yardB d = true) : ∃ k x rm, d = .tp k [.str x, rm] ∧ nmS x = true := by
  unfold yardB at h
  split at h
  · rename_i k nm rm
    obtain ⟨h1, _⟩ := b2 h
    cases nm with
    | str x => exact ⟨k, x, rm, rfl, h1⟩
    | _ => exact absurd h1 Bool.false_ne_true
  · cases h
theorem str_ord {x y : Str} : ordD (.str x) = true ∧ likeD (.str x) (.str y) = true := ⟨rfl, rfl⟩
theorem pare_yards (ds : List D) (M : MH) (Q : Q3) (E : X3) (_ : ds.length = 1) (h : spare_yards ds M Q E) : wpss Gare_yards E Bare_yards (bodyEnds Q) (startE Nare_yards.length ds) M := by
  obtain ⟨v, rfl, hv, q⟩ := h
  show wpss Gare_yards E Bare_yards (bodyEnds Q) [some v, none] M
  unfold Bare_yards Gare_yards
  walk_at "z"
  rw [isTy_tup (dpl_pln hv)]
  cases v with
  | tp k xs =>
    obtain ⟨rfl, hx⟩ := dpl_tp hv
    simp only [truA, Bool.not_true, lenA_tp, le3]
    by_cases h1 : (1 : Int) ≤ xs.length
    · rw [decide_eq_true h1]
      by_cases h2 : (xs.length : Int) ≤ 8
      · rw [decide_eq_true h2]
        simp only [Bool.not_true]
        have e0 : yardsB (.tp .t xs) = (xs.all yardB && ascB (xs.map fst)) := by
          show (decide (1 ≤ xs.length) && decide (xs.length ≤ 8) && xs.all yardB && ascB (xs.map fst)) = _
          rw [decide_eq_true (show 1 ≤ xs.length by omega), decide_eq_true (show xs.length ≤ 8 by omega)]; rfl
        rw [e0] at q
        refine comp3_map (items := xs) (fun d => .bl (yardB d)) (fun k hk => ?_) (fun d hd => ⟨_, rfl, fun p l hp k hk => ?_⟩) ?_
        · walk_at "z"
          exact hk
        · walk_at "z"
          exact ⟨by trivial, d, rfl, hx d hd, hk⟩
        · rw [allA_map]
          cases ha : xs.all yardB with
          | false => rw [ha] at q; exact rt_same q
          | true =>
            rw [ha, Bool.true_and] at q
            have hy := List.all_eq_true.mp ha
            refine comp3_map (items := xs) fst (fun k hk => ?_) (fun d hd => ⟨_, rfl, fun p l hp k hk => ?_⟩) ?_
            · walk_at "z"
              exact hk
            · obtain ⟨k', x, rm, rfl, _⟩ := yardB_str (hy d hd)
              walk_at "z"
              exact ix_tup (i := 0) rfl hk
            · refine ⟨by trivial, _, rfl, by rw [List.length_map]; omega, fun x hx => ?_, fun x hx y hy2 => ?_, rt_same q⟩
              · obtain ⟨d, hd, rfl⟩ := List.mem_map.mp hx
                obtain ⟨k', x, rm, rfl, _⟩ := yardB_str (hy d hd)
                rfl
              · obtain ⟨d, hd, rfl⟩ := List.mem_map.mp hx
                obtain ⟨d2, hd2, rfl⟩ := List.mem_map.mp hy2
                obtain ⟨k', x, rm, rfl, _⟩ := yardB_str (hy d hd)
                obtain ⟨k', x, rm, rfl, _⟩ := yardB_str (hy d2 hd2)
                rfl
      · rw [decide_eq_false h2]
        refine rt_same ?_
        have : yardsB (.tp .t xs) = false := by
          show (decide (1 ≤ xs.length) && decide (xs.length ≤ 8) && xs.all yardB && ascB (xs.map fst)) = _
          rw [decide_eq_false (show ¬ xs.length ≤ 8 by omega)]; simp
        rw [← this]; exact q
    · rw [decide_eq_false h1]
      refine rt_same ?_
      have : yardsB (.tp .t xs) = false := by
        show (decide (1 ≤ xs.length) && decide (xs.length ≤ 8) && xs.all yardB && ascB (xs.map fst)) = _
        rw [decide_eq_false (show ¬ 1 ≤ xs.length by omega)]; simp
      rw [← this]; exact q
  | _ => first | exact rt_same q | (simp [dpl] at hv)
/-! members of a list of texts -/
theorem isStrs_get {names : List D} (h : isStrs names = true) : ∀ d ∈ names, ∃ x, d = .str x ∧ PyData.strOk x = true := by
  intro d hd
  have := List.all_eq_true.mp h d hd
  cases d with
  | str x => exact ⟨x, rfl, this⟩
  | _ => exact absurd this Bool.false_ne_true
theorem layL_strs {n : Nat} {names : List D} (h : isStrs names = true) : layL n names = true := by
  rw [layL_all, List.all_eq_true]
  intro d hd
  obtain ⟨x, rfl, hx⟩ := isStrs_get h d hd
  cases n <;> exact hx
theorem inAns_strs {M : MH} {names : List D} {x : Str} (hn : isStrs names = true) (hx : PyData.strOk x = true) : inAns M (.str x) (.lst names) = some (memB (.str x) names) := by
  show (if inOk (.str x) names = true then some (names.any fun z => eqv z (.str x)) else none) = _
  have : inOk (.str x) names = true := by
    unfold inOk
    rw [layL_strs hn, Bool.and_true]; exact hx
  rw [if_pos this]; rfl
theorem in_strs {M : MH} {names : List D} {x : Str} {Q : Q3} (hn : isStrs names = true) (hx : PyData.strOk x = true) (q : Q (.bl (memB (.str x) names)) M) : in3 (.str x) (.lst names) M Q := by
  unfold in3
  rw [inAns_strs hn hx]; exact q
theorem nin_strs {M : MH} {names : List D} {x : Str} {Q : Q3} (hn : isStrs names = true) (hx : PyData.strOk x = true) (q : Q (.bl (!memB (.str x) names)) M) : nin3 (.str x) (.lst names) M Q := by
  unfold nin3
  rw [inAns_strs hn hx]; exact q
theorem nmB_str {d : D} (h : nmB d = true) (hd : dpl d = true) : ∃ x, d = .str x ∧ PyData.strOk x = true := by
  cases d with
  | str x => exact ⟨x, rfl, (b2 hd).1⟩
  | _ => exact absurd h Bool.false_ne_true
theorem eq3_str {x y : Str} {M : MH} {Q : Q3} (q : Q (.bl (eqv (.str x) (.str y))) M) : eq3 (.str x) (.str y) M Q := ⟨rfl, q⟩
theorem ne3_str {x y : Str} {M : MH} {Q : Q3} (q : Q (.bl (!eqv (.str x) (.str y))) M) : ne3 (.str x) (.str y) M Q := ⟨rfl, q⟩
theorem coachB_eq {names : List D} {k : TK} {a b c d : D} : coachB names (.tp k [a, b, c, d]) = (nmB a && nmB b && !eqv a b && memB a names && memB b names && btwB c 1 60 && btwB d 0 1000) := rfl
theorem pis_coach (ds : List D) (M : MH) (Q : Q3) (E : X3) (_ : ds.length = 2) (h : spis_coach ds M Q E) : wpss Gis_coach E Bis_coach (bodyEnds Q) (startE Nis_coach.length ds) M := by
  obtain ⟨v, names, rfl, hv, hn, q⟩ := h
  show wpss Gis_coach E Bis_coach (bodyEnds Q) [some v, some (.lst names), none, none, none, none] M
  unfold Bis_coach Gis_coach
  walk_at "z"
  refine ⟨by trivial, v, 4, rfl, dpl_pln hv, ?_⟩
  cases v with
  | tp k xs =>
    obtain ⟨rfl, hx⟩ := dpl_tp hv
    match xs, hx, q with
    | [a, b, c, d], hx, q =>
      have ha := hx a (by simp)
      have hb := hx b (by simp)
      have hc := hx c (by simp)
      have hd := hx d (by simp)
      rw [coachB_eq] at q
      simp only [rowB, List.length_cons, List.length_nil, truA, asT]
      refine ⟨by trivial, a, rfl, ha, ?_⟩
      cases h1 : nmB a with
      | false => rw [h1] at q; exact rt_same q
      | true =>
        refine ⟨by trivial, b, rfl, hb, ?_⟩
        cases h2 : nmB b with
        | false => rw [h1, h2] at q; exact rt_same q
        | true =>
          obtain ⟨x, rfl, sx⟩ := nmB_str h1 ha
          obtain ⟨y, rfl, sy⟩ := nmB_str h2 hb
          refine eq3_str ?_
          rw [h1, h2] at q
          cases h3 : eqv (.str x) (.str y) with
          | true => rw [h3] at q; exact rt_same q
          | false =>
            rw [h3] at q
            refine in_strs hn sx ?_
            cases h4 : memB (.str x) names with
            | false => rw [h4] at q; exact rt_same q
            | true =>
              rw [h4] at q
              refine in_strs hn sy ?_
              cases h5 : memB (.str y) names with
              | false => rw [h5] at q; exact rt_same q
              | true =>
                rw [h5] at q
                refine ⟨by trivial, c, 1, 60, rfl, dpl_pln hc, ?_⟩
                cases h6 : btwB c 1 60 with
                | false => rw [h6] at q; exact rt_same q
                | true =>
                  rw [h6] at q
                  exact ⟨by trivial, d, rfl, dpl_pln hd, rt_same q⟩
    | [], hx, q => exact rt_same q
    | [a], hx, q => exact rt_same q
    | [a, b], hx, q => exact rt_same q
    | [a, b, c], hx, q => exact rt_same q
    | a :: b :: c :: d :: e :: r, hx, q =>
      have : rowB (.tp .t (a :: b :: c :: d :: e :: r)) 4 = false := by
        simp only [rowB, List.length_cons]
        exact decide_eq_false (by omega)
      rw [this]
      exact rt_same q
  | _ => exact rt_same q
theorem coachB_is {names : List D} {v : D} (hv : dpl v = true) (h : coachB names v = true) : ∃ x y c d, v = .tup [.str x, .str y, c, d] := by
  cases v with
  | tp k xs =>
    obtain ⟨rfl, hx⟩ := dpl_tp hv
    unfold coachB at h
    split at h
    · rename_i a b c d e
      cases e
      simp only [Bool.and_eq_true] at h
      obtain ⟨x, rfl, _⟩ := nmB_str h.1.1.1.1.1.1 (hx a (by simp))
      obtain ⟨y, rfl, _⟩ := nmB_str h.1.1.1.1.1.2 (hx b (by simp))
      exact ⟨x, y, c, d, rfl⟩
    · cases h
  | _ => exact absurd h Bool.false_ne_true
theorem handB_is {names : List D} {last : Int} {v : D} (hv : dpl v = true) (h : handB names last v = true) : ∃ x i d, v = .tup [.str x, .int i, d] := by
  cases v with
  | tp k xs =>
    obtain ⟨rfl, hx⟩ := dpl_tp hv
    unfold handB at h
    split at h
    · rename_i a b c e
      cases e
      simp only [Bool.and_eq_true] at h
      obtain ⟨x, rfl, _⟩ := nmB_str h.1.1.1 (hx a (by simp))
      have h2 := h.1.2
      cases b with
      | int i => exact ⟨x, i, c, rfl⟩
      | _ => exact absurd h2 Bool.false_ne_true
    · cases h
  | _ => exact absurd h Bool.false_ne_true
theorem sl_cut2 {M : MH} {xs : List D} : slA M (.tup xs) none (some 2) = some (.tup (xs.take 2)) := by
  show some (D.tup (Z.cutD xs none (some 2))) = _
  unfold Z.cutD
  rw [HT.sIx_none, show HT.sIx xs.length xs.length (some 2) = min 2 xs.length from HT.sIx_nat xs.length xs.length 2, List.drop_zero, Nat.sub_zero]
  congr 2
  by_cases h : 2 ≤ xs.length
  · rw [Nat.min_eq_left h]
  · rw [Nat.min_eq_right (by omega), List.take_of_length_le (Nat.le_refl _), List.take_of_length_le (by omega)]
theorem pare_coaches (ds : List D) (M : MH) (Q : Q3) (E : X3) (_ : ds.length = 2) (h : spare_coaches ds M Q E) : wpss Gare_coaches E Bare_coaches (bodyEnds Q) (startE Nare_coaches.length ds) M := by
  obtain ⟨v, names, rfl, hv, hn, q⟩ := h
  show wpss Gare_coaches E Bare_coaches (bodyEnds Q) [some v, some (.lst names), none] M
  unfold Bare_coaches Gare_coaches
  walk_at "z"
  rw [isTy_tup (dpl_pln hv)]
  cases v with
  | tp k xs =>
    obtain ⟨rfl, hx⟩ := dpl_tp hv
    simp only [truA, Bool.not_true, lenA_tp, gt3]
    by_cases h1 : (30 : Int) < xs.length
    · rw [decide_eq_true h1]
      refine rt_same ?_
      have : coachesB names (.tp .t xs) = false := by
        show (decide (xs.length ≤ 30) && xs.all (coachB names) && ascB (xs.map cut2)) = _
        rw [decide_eq_false (show ¬ xs.length ≤ 30 by omega)]; simp
      rw [← this]; exact q
    · rw [decide_eq_false h1]
      have e0 : coachesB names (.tp .t xs) = (xs.all (coachB names) && ascB (xs.map cut2)) := by
        show (decide (xs.length ≤ 30) && xs.all (coachB names) && ascB (xs.map cut2)) = _
        rw [decide_eq_true (show xs.length ≤ 30 by omega)]; rfl
      rw [e0] at q
      refine comp3_map (items := xs) (fun d => .bl (coachB names d)) (fun k hk => ?_) (fun d hd => ⟨_, rfl, fun p l hp k hk => ?_⟩) ?_
      · walk_at "z"
        exact hk
      · walk_at "z"
        exact ⟨by trivial, d, names, rfl, hx d hd, hn, hk⟩
      · rw [allA_map]
        cases ha : xs.all (coachB names) with
        | false => rw [ha] at q; exact rt_same q
        | true =>
          rw [ha, Bool.true_and] at q
          have hy := List.all_eq_true.mp ha
          refine comp3_map (items := xs) cut2 (fun k hk => ?_) (fun d hd => ⟨_, rfl, fun p l hp k hk => ?_⟩) ?_
          · walk_at "z"
            exact hk
          · obtain ⟨x, y, c, e, rfl⟩ := coachB_is (hx d hd) (hy d hd)
            walk_at "z"
            rw [sl_cut2]
            exact hk
          · refine ⟨by trivial, _, rfl, by rw [List.length_map]; omega, fun x hx2 => ?_, fun x hx2 y hy2 => ?_, rt_same q⟩
            · obtain ⟨d, hd, rfl⟩ := List.mem_map.mp hx2
              obtain ⟨x, y, c, e, rfl⟩ := coachB_is (hx d hd) (hy d hd)
              rfl
            · obtain ⟨d, hd, rfl⟩ := List.mem_map.mp hx2
              obtain ⟨d2, hd2, rfl⟩ := List.mem_map.mp hy2
              obtain ⟨x, y, c, e, rfl⟩ := coachB_is (hx d hd) (hy d hd)
              obtain ⟨x, y, c, e, rfl⟩ := coachB_is (hx d2 hd2) (hy d2 hd2)
              rfl
  | _ => first | exact rt_same q | (simp [dpl] at hv)
theorem handB_eq {names : List D} {last : Int} {k : TK} {a b c : D} : handB names last (.tp k [a, b, c]) = (nmB a && memB a names && btwB b 0 last && btwB c 1 1000) := rfl
theorem pis_handed (ds : List D) (M : MH) (Q : Q3) (E : X3) (_ : ds.length = 3) (h : spis_handed ds M Q E) : wpss Gis_handed E Bis_handed (bodyEnds Q) (startE Nis_handed.length ds) M := by
  obtain ⟨v, names, last, rfl, hv, hn, q⟩ := h
  show wpss Gis_handed E Bis_handed (bodyEnds Q) [some v, some (.lst names), some (.int last)] M
  unfold Bis_handed Gis_handed
  walk_at "z"
  refine ⟨by trivial, v, 3, rfl, dpl_pln hv, ?_⟩
  cases v with
  | tp k xs =>
    obtain ⟨rfl, hx⟩ := dpl_tp hv
    match xs, hx, q with
    | [a, b, c], hx, q =>
      have ha := hx a (by simp)
      have hb := hx b (by simp)
      have hc := hx c (by simp)
      rw [handB_eq] at q
      simp only [rowB, List.length_cons, List.length_nil, truA]
      refine ix_tup (i := 0) rfl ⟨by trivial, a, rfl, ha, ?_⟩
      cases h1 : nmB a with
      | false => rw [h1] at q; exact rt_same q
      | true =>
        obtain ⟨x, rfl, sx⟩ := nmB_str h1 ha
        refine ix_tup (i := 0) rfl (nin_strs hn sx ?_)
        rw [h1] at q
        cases h4 : memB (.str x) names with
        | false => rw [h4] at q; exact rt_same q
        | true =>
          rw [h4] at q
          refine ix_tup (i := 1) rfl ⟨by trivial, b, 0, last, rfl, dpl_pln hb, ?_⟩
          cases h6 : btwB b 0 last with
          | false => rw [h6] at q; exact rt_same q
          | true =>
            rw [h6] at q
            exact ix_tup (i := 2) rfl ⟨by trivial, c, 1, 1000, rfl, dpl_pln hc, rt_same q⟩
    | [], hx, q => exact rt_same q
    | [a], hx, q => exact rt_same q
    | [a, b], hx, q => exact rt_same q
    | a :: b :: c :: d :: r, hx, q =>
      have : rowB (.tp .t (a :: b :: c :: d :: r)) 3 = false := by
        simp only [rowB, List.length_cons]
        exact decide_eq_false (by omega)
      rw [this]
      exact rt_same q
  | _ => exact rt_same q
theorem pare_sacks (ds : List D) (M : MH) (Q : Q3) (E : X3) (_ : ds.length = 3) (h : spare_sacks ds M Q E) : wpss Gare_sacks E Bare_sacks (bodyEnds Q) (startE Nare_sacks.length ds) M := by
  obtain ⟨v, names, last, rfl, hv, hn, q⟩ := h
  show wpss Gare_sacks E Bare_sacks (bodyEnds Q) [some v, some (.lst names), some (.int last), none] M
  unfold Bare_sacks Gare_sacks
  walk_at "z"
  rw [isTy_tup (dpl_pln hv)]
  cases v with
  | tp k xs =>
    obtain ⟨rfl, hx⟩ := dpl_tp hv
    simp only [truA, Bool.not_true, lenA_tp, gt3]
    by_cases h1 : (100 : Int) < xs.length
    · rw [decide_eq_true h1]
      refine rt_same ?_
      have : sacksB names last (.tp .t xs) = false := by
        show (decide (xs.length ≤ 100) && xs.all (handB names last) && ascB (xs.map cut2)) = _
        rw [decide_eq_false (show ¬ xs.length ≤ 100 by omega)]; simp
      rw [← this]; exact q
    · rw [decide_eq_false h1]
      have e0 : sacksB names last (.tp .t xs) = (xs.all (handB names last) && ascB (xs.map cut2)) := by
        show (decide (xs.length ≤ 100) && xs.all (handB names last) && ascB (xs.map cut2)) = _
        rw [decide_eq_true (show xs.length ≤ 100 by omega)]; rfl
      rw [e0] at q
      refine comp3_map (items := xs) (fun d => .bl (handB names last d)) (fun k hk => ?_) (fun d hd => ⟨_, rfl, fun p l hp k hk => ?_⟩) ?_
      · walk_at "z"
        exact hk
      · walk_at "z"
        exact ⟨by trivial, d, names, last, rfl, hx d hd, hn, hk⟩
      · rw [allA_map]
        cases ha : xs.all (handB names last) with
        | false => rw [ha] at q; exact rt_same q
        | true =>
          rw [ha, Bool.true_and] at q
          have hy := List.all_eq_true.mp ha
          refine comp3_map (items := xs) cut2 (fun k hk => ?_) (fun d hd => ⟨_, rfl, fun p l hp k hk => ?_⟩) ?_
          · walk_at "z"
            exact hk
          · obtain ⟨x, y, e, rfl⟩ := handB_is (hx d hd) (hy d hd)
            walk_at "z"
            rw [sl_cut2]
            exact hk
          · refine ⟨by trivial, _, rfl, by rw [List.length_map]; omega, fun x hx2 => ?_, fun x hx2 y hy2 => ?_, rt_same q⟩
            · obtain ⟨d, hd, rfl⟩ := List.mem_map.mp hx2
              obtain ⟨x, y, e, rfl⟩ := handB_is (hx d hd) (hy d hd)
              rfl
            · obtain ⟨d, hd, rfl⟩ := List.mem_map.mp hx2
              obtain ⟨d2, hd2, rfl⟩ := List.mem_map.mp hy2
              obtain ⟨x, y, e, rfl⟩ := handB_is (hx d hd) (hy d hd)
              obtain ⟨x, y, e, rfl⟩ := handB_is (hx d2 hd2) (hy d2 hd2)
              rfl
  | _ => first | exact rt_same q | (simp [dpl] at hv)
theorem faultD_eq {a b c d e : D} : faultD (.tup [a, b, c, d, e]) = (if btwB a 0 60 = false then .str "last" else if yardsB b = false then .str "offices"
    else if coachesB (namesOf b) c = false then .str "roads" else if sacksB (namesOf b) (lastOf a) d = false then .str "sacks"
    else if (nmB e && memB e (namesOf b)) = false then .str "goal" else .non) := rfl
theorem yardsB_is {v : D} (hv : dpl v = true) (h : yardsB v = true) : ∃ xs, v = .tup xs ∧ (∀ x ∈ xs, ∃ y rm, x = .tup [.str y, rm] ∧ PyData.strOk y = true ∧ nmS y = true) ∧ xs.length ≤ 8 ∧ 1 ≤ xs.length ∧ ascB (xs.map fst) = true ∧ xs.all yardB = true := by
  cases v with
  | tp k xs =>
    obtain ⟨rfl, hx⟩ := dpl_tp hv
    have h : (decide (1 ≤ xs.length) && decide (xs.length ≤ 8) && xs.all yardB && ascB (xs.map fst)) = true := h
    simp only [Bool.and_eq_true, decide_eq_true_eq] at h
    refine ⟨xs, rfl, fun x hx2 => ?_, h.1.1.2, h.1.1.1, h.2, h.1.2⟩
    obtain ⟨k', y, rm, rfl, hn⟩ := yardB_str (List.all_eq_true.mp h.1.2 x hx2)
    obtain ⟨rfl, hy⟩ := dpl_tp (hx _ hx2)
    have := hy (.str y) (by simp)
    exact ⟨y, rm, rfl, (b2 this).1, hn⟩
  | _ => exact absurd h Bool.false_ne_true
theorem names_strs {xs : List D} (h : ∀ x ∈ xs, ∃ y rm, x = .tup [.str y, rm] ∧ PyData.strOk y = true ∧ nmS y = true) : isStrs (xs.map fst) = true := by
  unfold isStrs
  rw [List.all_eq_true]
  intro d hd
  obtain ⟨x, hx, rfl⟩ := List.mem_map.mp hd
  obtain ⟨y, rm, rfl, h1, _⟩ := h x hx
  exact h1
theorem pdespatch_fault (ds : List D) (M : MH) (Q : Q3) (E : X3) (_ : ds.length = 1) (h : spdespatch_fault ds M Q E) : wpss Gdespatch_fault E Bdespatch_fault (bodyEnds Q) (startE Ndespatch_fault.length ds) M := by
  obtain ⟨a, b, c, d, e, rfl, ha, hb, hc, hd, he, q⟩ := h
  show wpss Gdespatch_fault E Bdespatch_fault (bodyEnds Q) [some (.tup [a, b, c, d, e]), none, none, none, none, none, none, none] M
  rw [faultD_eq] at q
  unfold Bdespatch_fault Gdespatch_fault
  walk_at "z"
  simp only [asT]
  refine ⟨by trivial, a, rfl, dpl_pln ha, ?_⟩
  simp only [truA_bl]
  cases h1 : btwB a 0 60 with
  | false => rw [if_pos h1] at q; exact rt_same q
  | true =>
    rw [if_neg (by rw [h1]; simp)] at q
    refine ⟨by trivial, b, rfl, hb, ?_⟩
    simp only [truA_bl]
    cases h2 : yardsB b with
    | false => rw [if_pos h2] at q; exact rt_same q
    | true =>
      rw [if_neg (by rw [h2]; simp)] at q
      obtain ⟨xs, rfl, hx, _⟩ := yardsB_is hb h2
      refine comp3_map (items := xs) fst (fun k hk => ?_) (fun d hd => ⟨_, rfl, fun p l hp k hk => ?_⟩) ?_
      · walk_at "z"
        exact hk
      · obtain ⟨y, rm, rfl, _⟩ := hx d hd
        walk_at "z"
        exact ix_tup (i := 0) rfl hk
      · have hn := names_strs hx
        have hnm : namesOf (.tup xs) = xs.map fst := rfl
        rw [hnm] at q
        refine ⟨by trivial, c, _, rfl, hc, hn, ?_⟩
        simp only [truA_bl]
        cases h3 : coachesB (xs.map fst) c with
        | false => rw [if_pos h3] at q; exact rt_same q
        | true =>
          rw [if_neg (by rw [h3]; simp)] at q
          obtain ⟨i, rfl⟩ : ∃ i, a = .int i := by
            cases a with
            | int i => exact ⟨i, rfl⟩
            | _ => exact absurd h1 Bool.false_ne_true
          refine ⟨by trivial, d, _, i, rfl, hd, hn, ?_⟩
          have hl : lastOf (.int i) = i := rfl
          rw [hl] at q
          simp only [truA_bl]
          cases h4 : sacksB (xs.map fst) i d with
          | false => rw [if_pos h4] at q; exact rt_same q
          | true =>
            rw [if_neg (by rw [h4]; simp)] at q
            refine ⟨by trivial, e, rfl, he, ?_⟩
            simp only [truA_bl]
            cases h5 : nmB e with
            | false => rw [h5] at q; exact rt_same q
            | true =>
              obtain ⟨x, rfl, sx⟩ := nmB_str h5 he
              refine nin_strs hn sx ?_
              rw [h5] at q
              cases h6 : memB (.str x) (xs.map fst) with
              | false => rw [h6] at q; exact rt_same q
              | true => rw [h6] at q; exact rt_same q
end K93

namespace K93
open PySem PySem.Spec PyProof.Rows L2 Z
local macro_rules | `(tactic| walk_at "z") => `(tactic| simp only [wpss, wps, wpe, wpt, wpl, wpv, wpb, wpo, wpc, wpp, seq3, next3, brk3, cnt3, drop3, ret3, retN3, if3, asg3, bindT, setAll, par3, sput3, aug3, iadd3, isub3, loc3, con3, op1, op2, tst, chain3, and3, or3, not3, ite3, andV3, orV3, notV3, nil3, cons3, tup3, lst3, lstM3, callG, cstG, nth, call3, opL, c1, c2, ofO, ofO2, Bt.ol, BOp.o2, COp.o2, getE, setE, wipeE, wipeE1, startE, bodyEnds, isi3, tru3, sl3, noP3, part3, iterL, wi, rng1A, rng2A, enumA, List.map_cons, List.map_nil])
theorem lies_len {last : Int} {goal o : D} : (liesD last goal o).length ≤ last.toNat := by
  unfold liesD
  split
  · split
    · exact Nat.zero_le _
    · rw [List.length_map, List.length_range]; exact Nat.le_refl _
  · exact Nat.zero_le _
theorem trips_len {last : Int} {goal o : D} (h : 0 ≤ last) (hl : last ≤ 60) (ho : ∃ x en days rm, o = .tup [.str x, en, .int days, rm] ∧ 1 ≤ days ∧ days ≤ 60) : (tripsD last goal o).length ≤ 60 := by
  obtain ⟨x, en, days, rm, rfl, h1, h2⟩ := ho
  show (if eqv (.str x) goal then [] else (List.range (last + 1 - days).toNat).map (rideD (.str x) en rm days)).length ≤ 60
  split
  · exact Nat.zero_le _
  · rw [List.length_map, List.length_range]; omega
theorem szl {n : Nat} (h : Nat.ble n 1000 = true := by rfl) : n ≤ sizeLine := Nat.le_trans (Nat.le_of_ble_eq_true h) (by decide)
theorem flat_le {α β : Type} (f : α → List β) (c : Nat) : ∀ xs : List α, (∀ x ∈ xs, (f x).length ≤ c) → (xs.flatMap f).length ≤ xs.length * c
  | [], _ => Nat.zero_le _
  | x :: r, h => by
    have h1 := h x (by simp)
    have h2 := flat_le f c r fun y hy => h y (List.mem_cons_of_mem _ hy)
    rw [List.flatMap_cons, List.length_append, List.length_cons, Nat.add_mul, Nat.one_mul]
    omega
theorem flat_one {α β : Type} (f : α → β) : ∀ xs : List α, xs.flatMap (fun x => [f x]) = xs.map f
  | [] => rfl
  | x :: r => by rw [List.flatMap_cons, flat_one f r]; rfl
theorem prides_of (ds : List D) (M : MH) (Q : Q3) (E : X3) (_ : ds.length = 1) (h : sprides_of ds M Q E) : wpss Grides_of E Brides_of (bodyEnds Q) (startE Nrides_of.length ds) M := by
  obtain ⟨last, offices, roads, sacks, goal, rfl, ⟨l0, l1, o1, r1, ⟨gx, rfl⟩, ho, hr⟩, q⟩ := h
  show wpss Grides_of E Brides_of (bodyEnds Q) [some (.tup [.int last, .tup offices, .tup roads, sacks, .str gx]), none, none, none, none, none, none, none, none, none, none, none, none] M
  unfold Brides_of Grides_of
  walk_at "z"
  simp only [asT, List.length_nil]
  refine ⟨Nat.zero_le _, fun p hp => ?_⟩
  have z60 : (90000 : Nat) < sizeLine := by decide
  let R : List D → En → MH → Prop := fun acc e M' => M' = up M p (.lst acc) ∧ ∃ x7 x8 x9 x10 x11 x12, e = [some (.tup [.int last, .tup offices, .tup roads, sacks, .str gx]), some (.int last), some (.tup offices), some (.tup roads), some sacks, some (.str gx), some (.ref p), x7, x8, x9, x10, x11, x12]
  unfold for3
  walk_at "z"
  simp only [itemsA]
  refine turns_acc (R := R) (liesD last (.str gx)) 60 3000 offices [] _ _ (fun o ho' => ?_) (by simp; omega) (fun o ho' acc e M' nx hB hR hnx => ?_) ⟨rfl, _, _, _, _, _, _, rfl⟩ (fun e' M' hR => ?_)
  · exact Nat.le_trans lies_len (by omega)
  · obtain ⟨rfl, x7, x8, x9, x10, x11, x12, rfl⟩ := hR
    obtain ⟨x, rm, rfl⟩ := ho o ho'
    refine ⟨_, rfl, ?_⟩
    walk_at "z"
    refine ne3_str ?_
    cases hg : eqv (.str x) (.str gx) with
    | true =>
      refine hnx _ _ ⟨?_, _, _, _, _, _, _, rfl⟩
      have : liesD last (.str gx) (.tup [.str x, rm]) = [] := by
        show (if eqv (.str x) (.str gx) then [] else _) = []
        rw [if_pos hg]
      rw [this, List.append_nil]
    | false =>
      simp only [Bool.not_false]
      refine ⟨by omega, ?_⟩
      let R2 : List D → En → MH → Prop := fun acc e M' => M' = up M p (.lst acc) ∧ ∃ x9 x10 x11 x12, e = [some (.tup [.int last, .tup offices, .tup roads, sacks, .str gx]), some (.int last), some (.tup offices), some (.tup roads), some sacks, some (.str gx), some (.ref p), some (.str x), some rm, x9, x10, x11, x12]
      refine turns_acc (R := R2) (fun d => [lieD (.str x) rm (match d with | .int i => i.toNat | _ => 0)]) 1 3060 _ acc _ _ (fun _ _ => Nat.le_refl _) (by rw [rngD_len]; omega) (fun d hd acc e M' nx2 hB2 hR2 hnx2 => ?_) ⟨rfl, _, _, _, _, rfl⟩ (fun e' M' hR2 => ?_)
      · obtain ⟨rfl, x9, x10, x11, x12, rfl⟩ := hR2
        obtain ⟨i, hi, rfl⟩ := rngD_mem hd
        refine ⟨_, rfl, ?_⟩
        unfold seq3 drop3
        refine app_ok rfl (x := lieD (.str x) rm i) (fun k hk => ?_) up_same (by omega) ?_
        · walk_at "z"
          simp only [add3]
          rw [show (0 : Int) + (i : Nat) = ((i : Nat) : Int) by omega]
          exact ⟨szl, szl, szl, szl, hk⟩
        · rw [up_up]
          refine hnx2 _ _ ⟨?_, _, _, _, _, rfl⟩
          rw [show (0 : Int) + (i : Nat) = ((i : Nat) : Int) by omega]
          rfl
      · obtain ⟨rfl, x9, x10, x11, x12, rfl⟩ := hR2
        refine hnx _ _ ⟨?_, _, _, _, _, _, _, rfl⟩
        congr 2
        have : liesD last (.str gx) (.tup [.str x, rm]) = (List.range last.toNat).map (lieD (.str x) rm) := by
          show (if eqv (.str x) (.str gx) then [] else _) = _
          rw [hg]; rfl
        rw [this, flat_one, rngD0, List.map_map]
        rfl
  · obtain ⟨rfl, x7, x8, x9, x10, x11, x12, rfl⟩ := hR
    walk_at "z"
    rw [List.nil_append]
    refine turns_acc (R := R) (tripsD last (.str gx)) 60 9000 roads _ _ _ (fun o ho' => trips_len l0 l1 (hr o ho')) ?_ (fun o ho' acc e M' nx hB hR hnx => ?_) ⟨rfl, _, _, _, _, _, _, rfl⟩ (fun e' M' hR => ?_)
    · have : (offices.flatMap (liesD last (.str gx))).length ≤ offices.length * 60 := flat_le _ _ _ fun o _ => Nat.le_trans lies_len (by omega)
      omega
    · obtain ⟨rfl, x7, x8, x9, x10, x11, x12, rfl⟩ := hR
      obtain ⟨x, en, days, rm, rfl, d1, d2⟩ := hr o ho'
      refine ⟨_, rfl, ?_⟩
      walk_at "z"
      refine ne3_str ?_
      cases hg : eqv (.str x) (.str gx) with
      | true =>
        refine hnx _ _ ⟨?_, _, _, _, _, _, _, rfl⟩
        have : tripsD last (.str gx) (.tup [.str x, en, .int days, rm]) = [] := by
          show (if eqv (.str x) (.str gx) then [] else _) = []
          rw [if_pos hg]
        rw [this, List.append_nil]
      | false =>
        simp only [Bool.not_false, add3, sub3]
        refine ⟨by omega, ?_⟩
        let R2 : List D → En → MH → Prop := fun acc e M' => M' = up M p (.lst acc) ∧ ∃ x7 x9, e = [some (.tup [.int last, .tup offices, .tup roads, sacks, .str gx]), some (.int last), some (.tup offices), some (.tup roads), some sacks, some (.str gx), some (.ref p), x7, some rm, x9, some (.str x), some en, some (.int days)]
        refine turns_acc (R := R2) (fun d => [rideD (.str x) en rm days (match d with | .int i => i.toNat | _ => 0)]) 1 9060 _ acc _ _ (fun _ _ => Nat.le_refl _) (by rw [rngD_len]; omega) (fun d hd acc e M' nx2 hB2 hR2 hnx2 => ?_) ⟨rfl, _, _, rfl⟩ (fun e' M' hR2 => ?_)
        · obtain ⟨rfl, x7, x9, rfl⟩ := hR2
          obtain ⟨i, hi, rfl⟩ := rngD_mem hd
          refine ⟨_, rfl, ?_⟩
          unfold seq3 drop3
          refine app_ok rfl (x := rideD (.str x) en rm days i) (fun k hk => ?_) up_same (by omega) ?_
          · walk_at "z"
            simp only [add3]
            rw [show (0 : Int) + (i : Nat) = ((i : Nat) : Int) by omega]
            exact ⟨szl, szl, szl, szl, hk⟩
          · rw [up_up]
            refine hnx2 _ _ ⟨?_, _, _, rfl⟩
            rw [show (0 : Int) + (i : Nat) = ((i : Nat) : Int) by omega]
            rfl
        · obtain ⟨rfl, x7, x9, rfl⟩ := hR2
          refine hnx _ _ ⟨?_, _, _, _, _, _, _, rfl⟩
          congr 2
          have : tripsD last (.str gx) (.tup [.str x, en, .int days, rm]) = (List.range (last + 1 - days).toNat).map (rideD (.str x) en rm days) := by
            show (if eqv (.str x) (.str gx) then [] else _) = _
            rw [hg]; rfl
          rw [this, flat_one, rngD0, List.map_map]
          rfl
    · obtain ⟨rfl, x7, x8, x9, x10, x11, x12, rfl⟩ := hR
      unfold fz3
      walk_at "z"
      simp only [up_same]
      rw [er_up hp]
      exact rt_same q
end K93

namespace K93
open PySem PySem.Spec PyProof.Rows L2 Z
local macro_rules | `(tactic| walk_at "z") => `(tactic| simp only [wpss, wps, wpe, wpt, wpl, wpv, wpb, wpo, wpc, wpp, seq3, next3, brk3, cnt3, drop3, ret3, retN3, if3, asg3, bindT, setAll, par3, sput3, aug3, iadd3, isub3, loc3, con3, op1, op2, tst, chain3, and3, or3, not3, ite3, andV3, orV3, notV3, nil3, cons3, tup3, lst3, lstM3, callG, cstG, nth, call3, opL, c1, c2, ofO, ofO2, Bt.ol, BOp.o2, COp.o2, getE, setE, wipeE, wipeE1, startE, bodyEnds, isi3, tru3, sl3, noP3, part3, iterL, wi, rng1A, rng2A, enumA, List.map_cons, List.map_nil])
/-! the archive with rooms -/
theorem pdespatch_of (ds : List D) (M : MH) (Q : Q3) (E : X3) (_ : ds.length = 5) (h : spdespatch_of ds M Q E) : wpss Gdespatch_of E Bdespatch_of (bodyEnds Q) (startE Ndespatch_of.length ds) M := by
  obtain ⟨last, offices, kinds, roads, records, yard, room, sacks, goal, rfl, h1, h2, h3, q⟩ := h
  show wpss Gdespatch_of E Bdespatch_of (bodyEnds Q) [some (.tup [last, .tup offices, kinds, .tup roads, records]), some yard, some room, some sacks, some goal, none, none, none, none, none, none, none, none] M
  unfold Bdespatch_of Gdespatch_of
  walk_at "z"
  simp only [asT]
  refine comp3_map (items := offices) (fun n => .tup [n, yard]) (fun k hk => ?_) (fun d hd => ⟨_, rfl, fun p l hp k hk => ?_⟩) ?_
  · walk_at "z"
    exact hk
  · walk_at "z"
    exact ⟨szl, hk⟩
  · simp only [tupA, asL]
    refine comp3_map (items := roads) (dueRoad room) (fun k hk => ?_) (fun d hd => ⟨_, rfl, fun p l hp k hk => ?_⟩) ?_
    · walk_at "z"
      exact hk
    · obtain ⟨xs, rfl, hx⟩ := h3 d hd
      walk_at "z"
      refine ⟨szl, ?_⟩
      simp only [add3]
      exact ⟨Nat.le_trans (Nat.add_le_add hx (Nat.le_refl 1)) (by decide), hk⟩
    · exact ⟨szl, rt_same q⟩
theorem sl_lo {M : MH} {xs : List D} {i : Nat} (h : i ≤ xs.length) : slA M (.tup xs) none (some (i : Nat)) = some (.tup (xs.take i)) := by
  show some (D.tup (Z.cutD xs none (some (i : Nat)))) = _
  unfold Z.cutD
  rw [HT.sIx_none, HT.sIx_nat, List.drop_zero, Nat.sub_zero, Nat.min_eq_left h]
theorem sl_hi {M : MH} {xs : List D} {i : Nat} (h : i ≤ xs.length) : slA M (.tup xs) (some (i : Nat)) none = some (.tup (xs.drop i)) := by
  show some (D.tup (Z.cutD xs (some (i : Nat)) none)) = _
  unfold Z.cutD
  rw [HT.sIx_none, HT.sIx_nat, Nat.min_eq_left h, List.take_of_length_le (by rw [List.length_drop]; exact Nat.le_refl _)]
theorem p_law_with (ds : List D) (M : MH) (Q : Q3) (E : X3) (_ : ds.length = 3) (h : sp_law_with ds M Q E) : wpss G_law_with E B_law_with (bodyEnds Q) (startE N_law_with.length ds) M := by
  obtain ⟨xs, i, v, rfl, hi, hx, q⟩ := h
  show wpss G_law_with E B_law_with (bodyEnds Q) [some (.tup xs), some (.int (i : Nat)), some v] M
  unfold B_law_with G_law_with
  walk_at "z"
  rw [sl_lo (by omega)]
  refine ⟨szl, ?_⟩
  simp only [add3]
  have z1 : 100000 ≤ sizeLine := by decide
  refine ⟨by simp; omega, ?_⟩
  rw [show ((i : Nat) : Int) + 1 = ((i + 1 : Nat) : Int) by omega, sl_hi (by omega)]
  refine ⟨by simp; omega, rt_same ?_⟩
  rw [List.set_eq_take_append_cons_drop, if_pos hi] at q
  simpa using q
/-! the box -/
theorem bx_at {row : List D} {t : Nat} : valD [((.inr ("row" : Str) : Key), D.lst row), (.inr ("at" : Str), .int t)] (.inr ("at" : Str)) = some (.int t) := by
  have h : decide ((.inr ("row" : Str) : Key) = .inr ("at" : Str)) = false := by decide +kernel
  have h2 : decide ((.inr ("at" : Str) : Key) = .inr ("at" : Str)) = true := by decide +kernel
  unfold valD
  rw [List.find?_cons, h, List.find?_cons, h2]; rfl
theorem bx_row {row : List D} {t : Nat} : valD [((.inr ("row" : Str) : Key), D.lst row), (.inr ("at" : Str), .int t)] (.inr ("row" : Str)) = some (.lst row) := by
  have h2 : decide ((.inr ("row" : Str) : Key) = .inr ("row" : Str)) = true := by decide +kernel
  unfold valD
  rw [List.find?_cons, h2]; rfl
theorem bx_put {row : List D} {t n : Nat} : putD [((.inr ("row" : Str) : Key), D.lst row), (.inr ("at" : Str), .int t)] (.inr ("at" : Str)) (.int n) = [((.inr ("row" : Str) : Key), D.lst row), (.inr ("at" : Str), .int n)] := by
  have h : ((.inr ("row" : Str) : Key) = .inr ("at" : Str)) = False := by
    rw [eq_iff_iff, iff_false]; decide +kernel
  have h2 : ((.inr ("at" : Str) : Key) = .inr ("at" : Str)) = True := by
    rw [eq_self_iff_true]
  unfold putD
  simp only [List.any_cons, List.any_nil, List.map_cons, List.map_nil, h, h2, decide_false, decide_true, Bool.or_false, Bool.false_or, if_true, if_false]
theorem bx_ix {M : MH} {a : Addr} {row : List D} {t : Nat} {x : Str} {d : D} {Q : Q3} (hm : M a = some (bx row t)) (hv : valD [((.inr ("row" : Str) : Key), D.lst row), (.inr ("at" : Str), .int t)] (.inr x) = some d) (q : Q d M) : ix3 (.ref a) (.str x) M Q := by
  unfold ix3
  have : ixAns M (.ref a) (.str x) = some d := by
    show (dfind M (.ref a) (.str x)).join = some d
    unfold dfind
    have e : asK M (.ref a) = some [((.inr ("row" : Str) : Key), D.lst row), (.inr ("at" : Str), .int t)] := by
      show (match M a with | some (.dK kvs) => some kvs | _ => none) = _
      rw [hm]; rfl
    rw [e]
    show (some (valD _ (Sum.inr x : Key))).join = some d
    rw [hv]; rfl
  rw [this]; exact q
theorem p_law_take (ds : List D) (M : MH) (Q : Q3) (E : X3) (_ : ds.length = 2) (h : sp_law_take ds M Q E) : wpss G_law_take E B_law_take (bodyEnds Q) (startE N_law_take.length ds) M := by
  obtain ⟨a, row, m, rfl, ⟨rk, t, hm⟩, m0, m1, q⟩ := h
  show wpss G_law_take E B_law_take (bodyEnds Q) [some (.ref a), some (.int m), none, none] M
  unfold B_law_take G_law_take
  walk_at "z"
  refine bx_ix hm bx_at ?_
  simp only [add3]
  have hp : put3 M (.ref a) (.str "at") (.int ((t : Nat) + 1)) = some (up M a (bx row (t + 1))) := by
    show (match M a with
      | some (.lst ds) => _
      | some (.dK kvs) => (match keyK (.str "at") with | some k => if kvs.length < sizeLine then some (up M a (.dK (putD kvs k (.int ((t : Nat) + 1))))) else none | none => none)
      | some (.dT kvs) => _
      | _ => none) = _
    rw [hm]
    show (if 2 < sizeLine then some (up M a (.dK (putD _ (Sum.inr ("at" : Str) : Key) (.int ((t : Nat) + 1))))) else none) = _
    rw [if_pos (by decide), show ((t : Nat) : Int) + 1 = ((t + 1 : Nat) : Int) by omega, bx_put]; rfl
  rw [hp]
  have hm2 : up M a (bx row (t + 1)) a = some (bx row (t + 1)) := up_same
  refine bx_ix hm2 bx_row ?_
  simp only [intA]
  refine bx_ix hm2 bx_row ?_
  have hl : row.length ≠ 0 := fun e => rk.ne (List.eq_nil_of_length_eq_zero e)
  have hl2 := rk.len
  simp only [lenA_lst, mod3]
  refine ⟨by omega, ?_⟩
  rw [show Int.fmod ((t : Nat) : Int) ((row.length : Nat) : Int) = ((t % row.length : Nat) : Int) by rw [Int.fmod_eq_emod_of_nonneg _ (by omega)]; rfl]
  have hlt : t % row.length < row.length := Nat.mod_lt _ (by omega)
  refine ix_lst (List.getElem?_eq_getElem hlt) ?_
  obtain ⟨i, ei, i0, i1⟩ := rk.small _ (List.getElem_mem hlt)
  rw [ei]
  refine bx_ix hm2 bx_row ?_
  simp only [lenA_lst, fdv3, mul3, add3, intA]
  refine ⟨by omega, IntMulOk.of_left (intBits_le_64 (by decide) (by decide)), by omega, ?_⟩
  refine rt_same (q _ (t + 1) ⟨_, rfl, ?_, ?_⟩)
  · exact Int.fmod_nonneg_of_pos _ m0
  · exact Int.fmod_lt_of_pos _ m0
theorem p_law_pick (ds : List D) (M : MH) (Q : Q3) (E : X3) (_ : ds.length = 2) (h : sp_law_pick ds M Q E) : wpss G_law_pick E B_law_pick (bodyEnds Q) (startE N_law_pick.length ds) M := by
  obtain ⟨a, row, xs, rfl, hb, hx, hl, q⟩ := h
  show wpss G_law_pick E B_law_pick (bodyEnds Q) [some (.ref a), some (.lst xs)] M
  unfold B_law_pick G_law_pick
  walk_at "z"
  simp only [lenA_lst]
  have h0 : xs.length ≠ 0 := fun e => hx (List.eq_nil_of_length_eq_zero e)
  refine ⟨by trivial, a, row, _, rfl, hb, by omega, by omega, ?_⟩
  rintro r t ⟨i, rfl, i0, i1⟩
  obtain ⟨n, rfl⟩ := Int.eq_ofNat_of_zero_le i0
  have hn : n < xs.length := by omega
  exact ix_lst (List.getElem?_eq_getElem hn) (rt_same (q _ t (List.getElem_mem hn)))
end K93

namespace K93
open PySem PySem.Spec PyProof.Rows L2 Z
local macro_rules | `(tactic| walk_at "z") => `(tactic| simp only [wpss, wps, wpe, wpt, wpl, wpv, wpb, wpo, wpc, wpp, seq3, next3, brk3, cnt3, drop3, ret3, retN3, if3, asg3, bindT, setAll, par3, sput3, aug3, iadd3, isub3, loc3, con3, op1, op2, tst, chain3, and3, or3, not3, ite3, andV3, orV3, notV3, nil3, cons3, tup3, lst3, lstM3, callG, cstG, nth, call3, opL, c1, c2, ofO, ofO2, Bt.ol, BOp.o2, COp.o2, getE, setE, wipeE, wipeE1, startE, bodyEnds, isi3, tru3, sl3, noP3, part3, iterL, wi, rng1A, rng2A, enumA, List.map_cons, List.map_nil])
def SB (row : List D) : MO → Prop := fun o => ∃ t, o = bx row t
theorem Bx.at_ {M : MH} {a : Addr} {row : List D} (h : Bx M a row) : At M a (SB row) := by
  obtain ⟨_, t, e⟩ := h
  exact ⟨_, e, t, rfl⟩
theorem At.bx {M : MH} {a : Addr} {row : List D} (k : RowOk row) (h : At M a (SB row)) : Bx M a row := by
  obtain ⟨o, e, t, rfl⟩ := h
  exact ⟨k, t, e⟩
theorem Bx.up {M : MH} {a : Addr} {row : List D} (k : RowOk row) {t : Nat} : Bx (Z.up M a (bx row t)) a row := ⟨k, t, up_same⟩
/-! words -/
def alpha : Str := "abcdefghijklmnopqrstuvwxyz"
theorem alpha_eq : alpha.cps.toList = (List.range 26).map fun i => 97 + i := by decide +kernel
theorem alpha_ix {M : MH} {i : Int} {Q : Q3} (h0 : 0 ≤ i) (h1 : i < 26) (q : ∀ c : Nat, c = 97 + i.toNat → Q (.str ⟨#[c]⟩) M) : ix3 (.str "abcdefghijklmnopqrstuvwxyz") (.int i) M Q := by
  obtain ⟨n, rfl⟩ := Int.eq_ofNat_of_zero_le h0
  unfold ix3
  have : ixAns M (.str "abcdefghijklmnopqrstuvwxyz") (.int (n : Nat)) = some (.str ⟨#[97 + n]⟩) := by
    show (if alpha.length ≤ sizeLine then (match atI alpha.cps.toList (n : Nat) with | some c => some (D.str ⟨#[c]⟩) | none => none) else none) = _
    have e : atI alpha.cps.toList (n : Nat) = some (97 + n) := by
      refine atI_nat ?_
      rw [alpha_eq, List.getElem?_map, List.getElem?_range (by omega)]; rfl
    rw [if_pos (by decide +kernel), e]
  rw [this]
  exact q _ (by rw [Int.toNat_natCast])
def okC : D → D → Prop := fun _ y => ∃ c : Nat, y = .str ⟨#[c]⟩ ∧ 97 ≤ c ∧ c ≤ 122
theorem strsOf_mapF : ∀ xs : List Str, strsOf (xs.map D.str) = some xs
  | [] => rfl
  | x :: r => by
    show (match strsOf (r.map D.str) with | some l => some (x :: l) | none => none) = _
    rw [strsOf_mapF r]
theorem chars_of : ∀ {xs ys : List D}, All2 okC xs ys → ∃ cs : List Nat, ys = (cs.map fun c => (⟨#[c]⟩ : Str)).map D.str ∧ (∀ c ∈ cs, 97 ≤ c ∧ c ≤ 122) ∧ cs.length = xs.length
  | [], [], _ => ⟨[], rfl, by simp, rfl⟩
  | x :: xs, y :: ys, h => by
    obtain ⟨cs, h1, h2, h3⟩ := chars_of h.2
    obtain ⟨c, e, c1, c2⟩ := h.1
    refine ⟨c :: cs, by rw [h1, e]; rfl, ?_, by simp [h3]⟩
    intro d hd
    rcases List.mem_cons.mp hd with rfl | hd
    · exact ⟨c1, c2⟩
    · exact h2 d hd
  | [], _ :: _, h => h.elim
  | _ :: _, [], h => h.elim
theorem joinL_nil : ∀ ps : List (List Nat), TL.joinL [] ps = ps.flatten
  | [] => rfl
  | [p] => by simp [TL.joinL]
  | p :: q :: r => by
    show p ++ ([] ++ TL.joinL [] (q :: r)) = _
    rw [joinL_nil (q :: r)]; simp
theorem join_chars (cs : List Nat) : (Txt.join ("" : Str) (cs.map fun c => (⟨#[c]⟩ : Str))).cps.toList = cs := by
  rw [TL.join_eq]
  have h := TL.tl_join ("" : Str) (cs.map fun c => (⟨#[c]⟩ : Str))
  have h0 : TL.tl ("" : Str) = [] := by decide +kernel
  rw [h0, joinL_nil, List.map_map] at h
  refine h.trans ?_
  clear h
  induction cs with
  | nil => rfl
  | cons c r ih => 
    rw [List.map_cons, List.flatten_cons, ih]; rfl
theorem p_law_word (ds : List D) (M : MH) (Q : Q3) (E : X3) (_ : ds.length = 2) (h : sp_law_word ds M Q E) : wpss G_law_word E B_law_word (bodyEnds Q) (startE N_law_word.length ds) M := by
  obtain ⟨a, row, n, rfl, hb, n0, n1, q⟩ := h
  show wpss G_law_word E B_law_word (bodyEnds Q) [some (.ref a), some (.int n), none] M
  unfold B_law_word G_law_word
  walk_at "z"
  unfold mth3
  refine ⟨rfl, ?_⟩
  refine comp3_draw (S := SB row) (a := a) (items := rngD 0 n.toNat) okC hb.at_ (fun k hk => ?_) (fun d hd => ⟨_, rfl, fun M' ha hr k hk => ?_⟩) (fun ys o hy ho => ?_)
  · walk_at "z"
    exact ⟨by omega, hk⟩
  · walk_at "z"
    refine ⟨by trivial, a, row, 26, rfl, At.bx hb.ok ha, by decide, by decide, ?_⟩
    rintro r t ⟨i, rfl, i0, i1⟩
    refine alpha_ix i0 i1 fun c hc => hk _ _ ⟨c, rfl, by omega, by omega⟩ ⟨t, rfl⟩
  · obtain ⟨t, rfl⟩ := ho
    obtain ⟨cs, rfl, h2, h3⟩ := chars_of hy
    rw [rngD_len] at h3
    have hj := join_chars cs
    have e : mthA .join (up M a (bx row t)) (.str "") [.lst ((cs.map fun c => (⟨#[c]⟩ : Str)).map D.str)] = some (.str (Txt.join ("" : Str) (cs.map fun c => (⟨#[c]⟩ : Str))), up M a (bx row t)) := by
      show (match strsOf ((cs.map fun c => (⟨#[c]⟩ : Str)).map D.str) with
        | some ys => if (ys.map fun x : Str => x.length).sum + ys.length * ("" : Str).length ≤ 16777216 then some (D.str (Txt.join ("" : Str) ys), up M a (bx row t)) else none
        | none => none) = _
      rw [strsOf_mapF]
      refine if_pos ?_
      rw [show ("" : Str).length = 0 by decide +kernel, List.map_map]
      have : (cs.map ((fun x : Str => x.length) ∘ fun c => (⟨#[c]⟩ : Str))) = List.replicate cs.length 1 := by
        clear hj h2 h3 hy
        induction cs with
        | nil => rfl
        | cons c r ih => rw [List.map_cons, ih]; rfl
      rw [this, List.sum_replicate_nat]
      omega
    simp only [nil3]
    rw [e]
    refine rt_same (q _ t ⟨_, rfl, ?_, ?_⟩)
    · intro c hc
      rw [hj] at hc
      exact h2 c hc
    · show (((Txt.join ("" : Str) (cs.map fun c => (⟨#[c]⟩ : Str))).cps.size : Nat) : Int) = n
      rw [← Array.length_toList, hj]; omega
/-! digits -/
theorem p_law_digits (ds : List D) (M : MH) (Q : Q3) (E : X3) (_ : ds.length = 2) (h : sp_law_digits ds M Q E) : wpss G_law_digits E B_law_digits (bodyEnds Q) (startE N_law_digits.length ds) M := by
  obtain ⟨c, n, rfl, n0, n1, q⟩ := h
  show wpss G_law_digits E B_law_digits (bodyEnds Q) [some (.int c), some (.int n), none, none, none, none] M
  have z1 : 100000 < sizeLine := by decide
  have main : ∀ num : Int, 0 ≤ num → wpss G_law_digits E (B_law_digits.drop 2) (bodyEnds Q) [some (.int c), some (.int n), some (.int num), none, none, none] M := by
    intro num hn
    have fin : ∀ acc p x2 x4 x5, M p = none → (acc.length : Int) ≤ n → (∀ x ∈ acc, smallI x) → wpss G_law_digits E [.fz 3, .ret (.loc 3)] (bodyEnds Q) [some (.int c), some (.int n), x2, some (.ref p), x4, x5] (up M p (.lst acc)) := by
      intro acc p x2 x4 x5 hp h1 h2
      simp only [wpss, fz3]
      walk_at "z"
      simp only [up_same]
      rw [er_up hp]
      exact rt_same (q acc h1 h2)
    unfold B_law_digits
    simp only [List.drop_succ_cons, List.drop_zero]
    walk_at "z"
    refine ⟨Nat.zero_le _, fun p hp => ?_⟩
    simp only [pow3, ge3]
    refine ⟨by decide, ?_⟩
    by_cases hbig : (10 : Int) ^ (18 : Int).toNat ≤ num
    · rw [decide_eq_true hbig]
      unfold for3
      walk_at "z"
      refine ⟨by omega, ?_⟩
      refine turns_inv (fun r e M' => ∃ acc num x4 x5, M' = up M p (.lst acc) ∧ e = [some (.int c), some (.int n), some (.int num), some (.ref p), x4, x5] ∧ 0 ≤ num ∧ (acc.length : Int) + r.length ≤ n ∧ ∀ x ∈ acc, smallI x) ?_ ?_ _ _ _ ⟨[], num, _, _, rfl, rfl, hn, by rw [rngD_len, List.length_nil]; omega, by simp⟩
      · rintro x r e M' nx ⟨acc, num, x4, x5, rfl, rfl, hn, hl, hs⟩ hnx
        rw [List.length_cons] at hl
        refine ⟨_, rfl, ?_⟩
        unfold seq3 drop3
        have sm : smallI (.int (num.fmod 1000003)) := ⟨_, rfl, Int.fmod_nonneg_of_pos _ (by decide), Int.fmod_lt_of_pos _ (by decide)⟩
        refine app_ok rfl (x := .int (num.fmod 1000003)) (fun k hk => ?_) up_same (by omega) ?_
        · walk_at "z"
          simp only [intA, mod3]
          exact ⟨by decide, hk⟩
        · rw [up_up]
          walk_at "z"
          simp only [fdv3]
          refine ⟨by decide, eq3_int ?_⟩
          have hs2 : ∀ x ∈ acc ++ [D.int (num.fmod 1000003)], smallI x := by
            intro x hx
            rcases List.mem_append.mp hx with hx | hx
            · exact hs x hx
            · rw [List.mem_singleton.mp hx]; exact sm
          by_cases hz : num.fdiv 1000003 = 0
          · rw [decide_eq_true hz]
            exact fin _ p (some (.int (num.fdiv 1000003))) (some x) x5 hp (by rw [List.length_append, List.length_singleton]; omega) hs2
          · rw [decide_eq_false hz]
            refine hnx _ _ ⟨_, _, _, _, rfl, rfl, ?_, by rw [List.length_append, List.length_singleton]; omega, hs2⟩
            rw [Int.fdiv_eq_ediv_of_nonneg _ (by decide)]
            exact Int.ediv_nonneg hn (by decide)
      · rintro e M' ⟨acc, num, x4, x5, rfl, rfl, hn, hl, hs⟩
        rw [List.length_nil] at hl
        exact fin acc p (some (.int num)) x4 x5 hp (by omega) hs
    · rw [decide_eq_false hbig]
      unfold for3
      walk_at "z"
      refine ⟨by omega, ?_⟩
      have hsm : num < 10 ^ 18 := by
        have : ¬ (10 : Int) ^ 18 ≤ num := hbig
        omega
      refine turns_inv (fun r e M' => ∃ acc x4 x5, M' = up M p (.lst acc) ∧ e = [some (.int c), some (.int n), some (.int num), some (.ref p), x4, x5] ∧ (acc.length : Int) + r.length ≤ n ∧ (∀ x ∈ r, ∃ i : Nat, x = .int (i : Nat)) ∧ ∀ x ∈ acc, smallI x) ?_ ?_ _ _ _ ⟨[], _, _, rfl, rfl, by rw [rngD_len, List.length_nil]; omega, fun x hx => ?_, by simp⟩
      · rintro x r e M' nx ⟨acc, x4, x5, rfl, rfl, hl, hr, hs⟩ hnx
        obtain ⟨i, rfl⟩ := hr x (by simp)
        rw [List.length_cons] at hl
        refine ⟨_, rfl, ?_⟩
        walk_at "z"
        simp only [mul3, add3, intA, mod3]
        refine ⟨IntMulOk.of_left (intBits_le_64 (by decide) (by decide)), IntMulOk.of_right (intBits_le_64 (by decide) (by decide)), by decide, IntMulOk.of_right (intBits_le_64 (by decide) (by decide)), IntMulOk.of_left (intBits_le_64 (by decide) (by decide)), by decide, ?_⟩
        obtain ⟨z, hz⟩ : ∃ z : Int, z = (((num + 11 * (i : Int) + 3) * 48271).fmod 2147483647 * 69621 + 37 * (i : Int) + 5).fmod 2147483629 := ⟨_, rfl⟩
        rw [← hz]
        have sm : smallI (.int ((z.fdiv 5).fmod 1000003)) := ⟨_, rfl, Int.fmod_nonneg_of_pos _ (by decide), Int.fmod_lt_of_pos _ (by decide)⟩
        refine app_ok rfl (x := .int ((z.fdiv 5).fmod 1000003)) (fun k hk => ?_) up_same (by omega) ?_
        · walk_at "z"
          simp only [fdv3, intA, mod3]
          exact ⟨by decide, by decide, hk⟩
        · rw [up_up]
          refine hnx _ _ ⟨_, _, _, rfl, rfl, by rw [List.length_append, List.length_singleton]; omega, fun x hx => hr x (by simp [hx]), fun x hx => ?_⟩
          rcases List.mem_append.mp hx with hx | hx
          · exact hs x hx
          · rw [List.mem_singleton.mp hx]; exact sm
      · rintro e M' ⟨acc, x4, x5, rfl, rfl, hl, hr, hs⟩
        rw [List.length_nil] at hl
        exact fin acc p (some (.int num)) x4 x5 hp (by omega) hs
      · obtain ⟨i, hi, rfl⟩ := rngD_mem hx
        exact ⟨i, by rw [Int.zero_add]⟩
  obtain ⟨R, hR⟩ : ∃ R, R = B_law_digits.drop 2 := ⟨_, rfl⟩
  rw [← hR] at main
  have hB : B_law_digits = _ :: _ :: B_law_digits.drop 2 := rfl
  rw [← hR] at hB
  rw [hB]
  clear hB hR
  unfold G_law_digits at main ⊢
  walk_at "z"
  simp only [lt3, sub3]
  by_cases h : c < 0
  · rw [decide_eq_true h]
    exact main _ (by omega)
  · rw [decide_eq_false h]
    exact main _ (by omega)
end K93

namespace K93
open PySem PySem.Spec PyProof.Rows L2 Z
local macro_rules | `(tactic| walk_at "z") => `(tactic| simp only [wpss, wps, wpe, wpt, wpl, wpv, wpb, wpo, wpc, wpp, seq3, next3, brk3, cnt3, drop3, ret3, retN3, if3, asg3, bindT, setAll, par3, sput3, aug3, iadd3, isub3, loc3, con3, op1, op2, tst, chain3, and3, or3, not3, ite3, andV3, orV3, notV3, nil3, cons3, tup3, lst3, lstM3, callG, cstG, nth, call3, opL, c1, c2, ofO, ofO2, Bt.ol, BOp.o2, COp.o2, getE, setE, wipeE, wipeE1, startE, bodyEnds, isi3, tru3, sl3, noP3, part3, iterL, wi, rng1A, rng2A, enumA, List.map_cons, List.map_nil])
theorem add_lst {a b : List D} {M : MH} {Q : Q3} (h : a.length + b.length ≤ sizeLine) (q : Q (.lst (a ++ b)) M) : add3 (.lst a) (.lst b) M Q := ⟨h, q⟩
theorem bx_merge {row : List D} : mergeD [] [((.inr ("row" : Str) : Key), D.lst row), (.inr ("at" : Str), .int 0)] = [((.inr ("row" : Str) : Key), D.lst row), (.inr ("at" : Str), .int 0)] := by
  have h : decide ((.inr ("row" : Str) : Key) = .inr ("at" : Str)) = false := by decide +kernel
  unfold mergeD
  simp only [List.foldl_cons, List.foldl_nil]
  have h1 : putD [] (.inr ("row" : Str) : Key) (D.lst row) = [((.inr ("row" : Str) : Key), D.lst row)] := rfl
  rw [h1]
  unfold putD
  simp only [List.any_cons, List.any_nil, h, Bool.or_false, Bool.false_eq_true, if_false]
  rfl
theorem p_law_box (ds : List D) (M : MH) (Q : Q3) (E : X3) (_ : ds.length = 1) (h : sp_law_box ds M Q E) : wpss G_law_box E B_law_box (bodyEnds Q) (startE N_law_box.length ds) M := by
  obtain ⟨ns, rfl, hns, q⟩ := h
  show wpss G_law_box E B_law_box (bodyEnds Q) [some (.flst (ns.map D.int)), none, none] M
  have z1 : 100000 < sizeLine := by decide
  unfold B_law_box
  walk_at "z"
  refine ⟨szl, ?_⟩
  unfold for3
  walk_at "z"
  simp only [itemsA]
  have fin : ∀ row x2, RowOk row → wpss G_law_box E [.ret (.dis true [(.str "row"), (.loc 1), (.str "at"), (.int 0)])] (bodyEnds Q) [some (.flst (ns.map D.int)), some (.lst row), x2] M := by
    intro row x2 ok
    walk_at "z"
    intro p hp
    unfold pairs3
    walk_at "z"
    unfold pairs3
    walk_at "z"
    unfold pairs3
    refine ⟨up_same, ?_⟩
    have : keysD [(D.str "row", D.lst row), (.str "at", .int 0)] = some [((.inr ("row" : Str) : Key), D.lst row), (.inr ("at" : Str), .int 0)] := rfl
    rw [this]
    refine ⟨(show 2 ≤ 15 by decide), ?_⟩
    rw [bx_merge]
    show RT Q (.ref p) (up (up M p (.dK [])) p (bx row 0))
    rw [up_up]
    exact rt_same (q p row ok hp)
  refine turns_inv (fun r e M' => ∃ acc x2, M' = M ∧ e = [some (.flst (ns.map D.int)), some (.lst acc), x2] ∧ acc.length + 6 * r.length ≤ 378 ∧ (∀ x ∈ r, ∃ i, x = D.int i) ∧ ∀ x ∈ acc, smallI x) ?_ ?_ _ _ _ ⟨[], _, rfl, rfl, by rw [List.length_map, List.length_nil]; omega, fun x hx => ?_, by simp⟩
  · rintro x r e M' nx ⟨acc, x2, rfl, rfl, hl, hr, hs⟩ hnx
    obtain ⟨i, rfl⟩ := hr x (by simp)
    rw [List.length_cons] at hl
    refine ⟨_, rfl, ?_⟩
    unfold G_law_box
    walk_at "z"
    refine ⟨by trivial, i, 6, rfl, by decide, by decide, fun xs h1 h2 => ?_⟩
    refine add_lst (by omega) ?_
    refine hnx _ _ ⟨_, _, rfl, rfl, by rw [List.length_append]; omega, fun x hx => hr x (by simp [hx]), fun x hx => ?_⟩
    rcases List.mem_append.mp hx with hx | hx
    · exact hs x hx
    · exact h2 x hx
  · rintro e M' ⟨acc, x2, rfl, rfl, hl, hr, hs⟩
    rw [List.length_nil] at hl
    walk_at "z"
    simp only [lenA_lst]
    refine eq3_int ?_
    by_cases h0 : (acc.length : Int) = 0
    · rw [decide_eq_true h0]
      refine ⟨szl, ?_⟩
      refine fin _ x2 ⟨by simp, by simp, ?_⟩
      intro x hx
      simp only [List.mem_cons, List.not_mem_nil, or_false] at hx
      rcases hx with rfl | rfl | rfl | rfl | rfl | rfl | rfl <;> exact ⟨_, rfl, by decide, by decide⟩
    · rw [decide_eq_false h0]
      exact fin acc x2 ⟨fun z => h0 (by rw [z]; rfl), by omega, hs⟩
  · obtain ⟨i, hi, rfl⟩ := List.mem_map.mp hx
    exact ⟨i, rfl⟩
/-! the law's rides -/
theorem filt_lt : ∀ (n m : Nat), m ≤ n → (List.range n).filter (fun i => decide (i < m)) = List.range m
  | 0, m, h => by
    have : m = 0 := by omega
    subst this; rfl
  | n + 1, m, h => by
    rw [List.range_succ, List.filter_append]
    by_cases e : m = n + 1
    · subst e
      rw [List.range_succ]
      congr 1
      · rw [List.filter_eq_self.mpr]
        intro a ha
        exact decide_eq_true (by have := List.mem_range.mp ha; omega)
      · rw [List.filter_cons, if_pos (decide_eq_true (by omega))]; rfl
    · rw [filt_lt n m (by omega), List.filter_cons, if_neg (by simp; omega)]; simp
theorem p_law_rides (ds : List D) (M : MH) (Q : Q3) (E : X3) (_ : ds.length = 1) (h : sp_law_rides ds M Q E) : wpss G_law_rides E B_law_rides (bodyEnds Q) (startE N_law_rides.length ds) M := by
  obtain ⟨last, offices, roads, sacks, goal, rfl, ⟨l0, l1, o1, r1, ⟨gx, rfl⟩, ho, hr⟩, q⟩ := h
  show wpss G_law_rides E B_law_rides (bodyEnds Q) [some (.tup [.int last, .tup offices, .tup roads, sacks, .str gx]), none, none, none, none, none, none, none, none, none, none, none, none] M
  unfold B_law_rides G_law_rides
  walk_at "z"
  simp only [asT, List.length_nil]
  have z60 : (90000 : Nat) < sizeLine := by decide
  refine ⟨Nat.zero_le _, ?_⟩
  let R : List D → En → MH → Prop := fun acc e M' => M' = M ∧ ∃ x7 x8 x9 x10 x11 x12, e = [some (.tup [.int last, .tup offices, .tup roads, sacks, .str gx]), some (.int last), some (.tup offices), some (.tup roads), some sacks, some (.str gx), some (.lst acc), x7, x8, x9, x10, x11, x12]
  unfold for3
  walk_at "z"
  simp only [itemsA]
  refine turns_acc (R := R) (liesD last (.str gx)) 60 3000 offices [] _ _ (fun o ho' => ?_) (by simp; omega) (fun o ho' acc e M' nx hB hR hnx => ?_) ⟨rfl, _, _, _, _, _, _, rfl⟩ (fun e' M' hR => ?_)
  · exact Nat.le_trans lies_len (by omega)
  · obtain ⟨rfl, x7, x8, x9, x10, x11, x12, rfl⟩ := hR
    obtain ⟨x, rm, rfl⟩ := ho o ho'
    refine ⟨_, rfl, ?_⟩
    walk_at "z"
    refine ne3_str ?_
    cases hg : eqv (.str x) (.str gx) with
    | true =>
      have : liesD last (.str gx) (.tup [.str x, rm]) = [] := by
        show (if eqv (.str x) (.str gx) then [] else _) = []
        rw [if_pos hg]
      rw [this, List.append_nil] at hnx
      exact hnx _ _ ⟨rfl, _, _, _, _, _, _, rfl⟩
    | false =>
      simp only [Bool.not_false]
      refine comp3_map (items := rngD 0 last.toNat) (fun d => lieD (.str x) rm (match d with | .int i => i.toNat | _ => 0)) (fun k hk => ?_) (fun d hd => ⟨_, rfl, fun p l hp k hk => ?_⟩) ?_
      · walk_at "z"
        exact ⟨by omega, hk⟩
      · obtain ⟨i, hi, rfl⟩ := rngD_mem hd
        walk_at "z"
        simp only [add3]
        rw [show (0 : Int) + (i : Nat) = ((i : Nat) : Int) by omega] at hk ⊢
        exact ⟨szl, szl, szl, szl, hk⟩
      · refine add_lst (by rw [List.length_map, rngD_len]; omega) ?_
        have : liesD last (.str gx) (.tup [.str x, rm]) = (rngD 0 last.toNat).map (fun d => lieD (.str x) rm (match d with | .int i => i.toNat | _ => 0)) := by
          show (if eqv (.str x) (.str gx) then [] else _) = _
          rw [hg, rngD0, List.map_map]; rfl
        rw [this] at hnx
        exact hnx _ _ ⟨rfl, _, _, _, _, _, _, rfl⟩
  · obtain ⟨rfl, x7, x8, x9, x10, x11, x12, rfl⟩ := hR
    walk_at "z"
    rw [List.nil_append]
    refine turns_acc (R := R) (tripsD last (.str gx)) 60 9000 roads _ _ _ (fun o ho' => trips_len l0 l1 (hr o ho')) ?_ (fun o ho' acc e M' nx hB hR hnx => ?_) ⟨rfl, _, _, _, _, _, _, rfl⟩ (fun e' M' hR => ?_)
    · have : (offices.flatMap (liesD last (.str gx))).length ≤ offices.length * 60 := flat_le _ _ _ fun o _ => Nat.le_trans lies_len (by omega)
      omega
    · obtain ⟨rfl, x7, x8, x9, x10, x11, x12, rfl⟩ := hR
      obtain ⟨x, en, days, rm, rfl, d1, d2⟩ := hr o ho'
      refine ⟨_, rfl, ?_⟩
      walk_at "z"
      refine ne3_str ?_
      cases hg : eqv (.str x) (.str gx) with
      | true =>
        have : tripsD last (.str gx) (.tup [.str x, en, .int days, rm]) = [] := by
          show (if eqv (.str x) (.str gx) then [] else _) = []
          rw [if_pos hg]
        rw [this, List.append_nil] at hnx
        exact hnx _ _ ⟨rfl, _, _, _, _, _, _, rfl⟩
      | false =>
        simp only [Bool.not_false]
        refine comp3_fm (items := rngD 0 last.toNat) (fun d => match d with | .int i => decide (i + days ≤ last) | _ => false) (fun d => rideD (.str x) en rm days (match d with | .int i => i.toNat | _ => 0)) (fun k hk => ?_) (fun d hd => ⟨_, rfl, fun p l hp => ⟨fun k hk => ?_, fun hb k hk => ?_⟩⟩) ?_
        · walk_at "z"
          exact ⟨by omega, hk⟩
        · obtain ⟨i, hi, rfl⟩ := rngD_mem hd
          walk_at "z"
          simp only [add3, le3]
          exact hk
        · obtain ⟨i, hi, rfl⟩ := rngD_mem hd
          walk_at "z"
          simp only [add3]
          rw [show (0 : Int) + (i : Nat) = ((i : Nat) : Int) by omega] at hk ⊢
          exact ⟨szl, szl, szl, szl, hk⟩
        · have e : ((rngD 0 last.toNat).filter (fun d => match d with | .int i => decide (i + days ≤ last) | _ => false)).map (fun d => rideD (.str x) en rm days (match d with | .int i => i.toNat | _ => 0)) = tripsD last (.str gx) (.tup [.str x, en, .int days, rm]) := by
            have e1 : tripsD last (.str gx) (.tup [.str x, en, .int days, rm]) = (List.range (last + 1 - days).toNat).map (rideD (.str x) en rm days) := by
              show (if eqv (.str x) (.str gx) then [] else _) = _
              rw [hg]; rfl
            rw [e1, rngD0, List.filter_map, List.map_map]
            have e2 : ((fun d : D => match d with | .int i => decide (i + days ≤ last) | _ => false) ∘ fun i : Nat => D.int (i : Nat)) = fun i : Nat => decide (i < (last + 1 - days).toNat) := by
              funext i
              show decide ((i : Int) + days ≤ last) = _
              by_cases h : (i : Int) + days ≤ last
              · rw [decide_eq_true h, decide_eq_true (by omega)]
              · rw [decide_eq_false h, decide_eq_false (by omega)]
            rw [e2, filt_lt _ _ (by omega)]
            rfl
          rw [e]
          have hlen := trips_len (goal := .str gx) l0 l1 ⟨x, en, days, rm, rfl, d1, d2⟩
          refine add_lst (by omega) ?_
          exact hnx _ _ ⟨rfl, _, _, _, _, _, _, rfl⟩
    · obtain ⟨rfl, x7, x8, x9, x10, x11, x12, rfl⟩ := hR
      walk_at "z"
      exact rt_same q
end K93

namespace K93
open PySem PySem.Spec PyProof.Rows L2 Z
local macro_rules | `(tactic| walk_at "z") => `(tactic| simp only [wpss, wps, wpe, wpt, wpl, wpv, wpb, wpo, wpc, wpp, seq3, next3, brk3, cnt3, drop3, ret3, retN3, if3, asg3, bindT, setAll, par3, sput3, aug3, iadd3, isub3, loc3, con3, op1, op2, tst, chain3, and3, or3, not3, ite3, andV3, orV3, notV3, nil3, cons3, tup3, lst3, lstM3, callG, cstG, nth, call3, opL, c1, c2, ofO, ofO2, Bt.ol, BOp.o2, COp.o2, getE, setE, wipeE, wipeE1, startE, bodyEnds, isi3, tru3, sl3, noP3, part3, iterL, wi, rng1A, rng2A, enumA, List.map_cons, List.map_nil])
theorem ascB_tail {x : D} {r : List D} (h : ascB (x :: r) = true) : ascB r = true := by
  cases r with
  | nil => rfl
  | cons y r => exact (b2 (show (ltD x y && ascB (y :: r)) = true from h)).2
theorem ascB_drop : ∀ (n : Nat) {l : List D}, ascB l = true → ascB (l.drop n) = true
  | 0, l, h => h
  | n + 1, [], h => rfl
  | n + 1, x :: r, h => ascB_drop n (ascB_tail h)
theorem ascB_take : ∀ (n : Nat) {l : List D}, ascB l = true → ascB (l.take n) = true
  | 0, l, h => by rw [List.take_zero]; rfl
  | n + 1, [], h => rfl
  | 1, x :: r, h => by
    rw [List.take_succ_cons, List.take_zero]; rfl
  | n + 2, [x], h => rfl
  | n + 2, x :: y :: r, h => by
    obtain ⟨h1, h2⟩ := b2 (show (ltD x y && ascB (y :: r)) = true from h)
    have ih := ascB_take (n + 1) h2
    rw [List.take_succ_cons, List.take_succ_cons] at *
    show (ltD x y && ascB (y :: r.take n)) = true
    rw [h1]; exact ih
def wordS : Str := "any archive bound carried claim cut end free gone held kept kind made more no none office outside record road row"
def wordsD : List D := (Txt.split wordS " ").map D.str ++ [.str "seen", .str "sent", .str "short", .str "sold", .str "stock", .str "sure", .str "tariff", .str "town", .str "undo", .str "used"]
theorem words_len : wordsD.length = 31 := by decide +kernel
theorem words_asc : ascB wordsD = true := by decide +kernel
theorem words_nm : wordsD.all nmB = true := by decide +kernel
theorem words_split {M : MH} : mthA .split M (.str "any archive bound carried claim cut end free gone held kept kind made more no none office outside record road row") [.str " "] = some (.lst ((Txt.split wordS " ").map D.str), M) := by
  show (if ((" " : Str).length == 0) = false ∧ wordS.length + 2 ≤ sizeLine then some (D.lst ((Txt.split wordS " ").map D.str), M) else none) = _
  exact if_pos ⟨by decide +kernel, by decide +kernel⟩
theorem sl_lst {M : MH} {xs : List D} {i j : Nat} (h : i ≤ j) (hj : j ≤ xs.length) : slA M (.lst xs) (some (i : Nat)) (some (j : Nat)) = some (.lst ((xs.drop i).take (j - i))) := by
  show some (D.lst (Z.cutD xs (some (i : Nat)) (some (j : Nat)))) = _
  unfold Z.cutD
  rw [HT.sIx_nat, HT.sIx_nat, Nat.min_eq_left hj, Nat.min_eq_left (show i ≤ xs.length by omega)]
theorem cut_lo {x : Str} {i : Nat} (h : i ≤ x.length) : (cutS x none (some (i : Nat))).cps.toList = x.cps.toList.take i := by
  unfold cutS
  rw [HT.sIx_none, HT.sIx_nat, Nat.min_eq_left h]
  simp
theorem cut_hi {x : Str} {i : Nat} (h : i ≤ x.length) : (cutS x (some (i : Nat)) none).cps.toList = x.cps.toList.drop i := by
  unfold cutS
  rw [HT.sIx_none, HT.sIx_nat, Nat.min_eq_left h]
  have : x.length = x.cps.toList.length := by simp [Str.length]
  rw [this]
  simp only [List.toList_toArray]
  rw [List.take_of_length_le (by rw [List.length_drop]; exact Nat.le_refl _)]
theorem cps_app (x y : Str) : (x ++ y).cps.toList = x.cps.toList ++ y.cps.toList := by
  show (x.cps ++ y.cps).toList = _
  simp
theorem slen (x : Str) : x.length = x.cps.toList.length := by simp [Str.length]
theorem add_str {x y : Str} {M : MH} {Q : Q3} (h : x.length + y.length ≤ sizeLine) (q : Q (.str (x ++ y)) M) : add3 (.str x) (.str y) M Q := ⟨h, q⟩
theorem sl_str_lo {M : MH} {x : Str} {i : Nat} (h : x.length ≤ sizeLine) : slA M (.str x) none (some (i : Nat)) = some (.str (cutS x none (some (i : Nat)))) := if_pos h
theorem sl_str_hi {M : MH} {x : Str} {i : Nat} (h : x.length ≤ sizeLine) : slA M (.str x) (some (i : Nat)) none = some (.str (cutS x (some (i : Nat)) none)) := if_pos h
/-- the i-th made name -/
def madeN (pl f : Nat) (i : Nat) (d : D) : Prop := ∃ s, d = .str s ∧ nmS s = true ∧ s.cps.toList[pl]? = some (97 + (f + 5 * i) % 26)
theorem made_sort {pl f : Nat} {acc : List D} (h8 : acc.length ≤ 8) (h : ∀ (i : Nat) d, acc[i]? = some d → madeN pl f i d) : sortOk acc ∧ NamesOk (sortD acc) acc.length := by
  have hs : ∀ d ∈ acc, ∃ s, d = .str s ∧ nmS s = true := by
    intro d hd
    obtain ⟨i, hi, e⟩ := List.mem_iff_getElem.mp hd
    obtain ⟨s, h1, h2, _⟩ := h i d (by rw [List.getElem?_eq_getElem hi, e])
    exact ⟨s, h1, h2⟩
  have hl : ∀ d ∈ acc, ∀ e ∈ acc, likeD d e = true := by
    intro d hd e he
    obtain ⟨s, rfl, _⟩ := hs d hd
    obtain ⟨s, rfl, _⟩ := hs e he
    rfl
  refine ⟨⟨hl, fun d hd => ?_, .inr fun d hd => ?_⟩, ⟨by rw [sortD_len], fun d hd => ?_, ?_⟩⟩
  · obtain ⟨s, rfl, _⟩ := hs d hd
    rfl
  · obtain ⟨s, rfl, _⟩ := hs d hd
    exact ⟨by simp, by simp⟩
  · obtain ⟨s, rfl, h2⟩ := hs d (sortD_mem.mp hd)
    exact ⟨s, rfl, h2⟩
  · refine asc_of (sort_asc hl ?_ ?_)
    · intro d hd e he h1 h2
      obtain ⟨s, rfl, _⟩ := hs d hd
      obtain ⟨s2, rfl, _⟩ := hs e he
      rw [tri_str h1 h2]
    · rw [List.Nodup, List.pairwise_iff_getElem]
      intro i j hi hj hij e
      obtain ⟨s, h1, _, h3⟩ := h i acc[i] (List.getElem?_eq_getElem hi)
      obtain ⟨s2, g1, _, g3⟩ := h j acc[j] (List.getElem?_eq_getElem hj)
      rw [← e, h1] at g1
      cases g1
      rw [h3] at g3
      have := Option.some.inj g3
      omega
theorem p_law_names (ds : List D) (M : MH) (Q : Q3) (E : X3) (_ : ds.length = 2) (h : sp_law_names ds M Q E) : wpss G_law_names E B_law_names (bodyEnds Q) (startE N_law_names.length ds) M := by
  obtain ⟨a, row, many, rfl, hb, m0, m1, q⟩ := h
  show wpss G_law_names E B_law_names (bodyEnds Q) [some (.ref a), some (.int many), none, none, none, none, none, none, none, none, none, none] M
  have z1 : 100000 < sizeLine := by decide
  unfold B_law_names G_law_names
  walk_at "z"
  simp only [lt3]
  rw [decide_eq_true (show many < 9 by omega)]
  refine ⟨by trivial, a, row, 6, rfl, hb, by decide, by decide, ?_⟩
  rintro r t ⟨i, rfl, i0, i1⟩
  refine eq3_int ?_
  obtain ⟨M1, hM1⟩ : ∃ M1, M1 = up M a (bx row t) := ⟨_, rfl⟩
  have hb1 : Bx M1 a row := by rw [hM1]; exact Bx.up hb.ok
  have q1 : ∀ names t, NamesOk names many → Q (.lst names) (up M1 a (bx row t)) := by
    intro names t h
    rw [hM1, up_up]; exact q names t h
  rw [← hM1]
  clear hM1 q hb
  by_cases hz : i = 0
  · rw [decide_eq_true hz]
    unfold mth3
    walk_at "z"
    refine ⟨rfl, ?_⟩
    rw [words_split]
    refine ⟨szl, add_lst (by decide +kernel) ?_⟩
    obtain ⟨W, hW⟩ : ∃ W, W = wordsD := ⟨_, rfl⟩
    have hW2 : (Txt.split wordS " ").map D.str ++ [D.str "seen", .str "sent", .str "short", .str "sold", .str "stock", .str "sure", .str "tariff", .str "town", .str "undo", .str "used"] = W := hW.symm
    rw [hW2]
    have hWl : W.length = 31 := by rw [hW]; exact words_len
    have hWa : ascB W = true := by rw [hW]; exact words_asc
    have hWn : ∀ d ∈ W, nmB d = true := by rw [hW]; exact List.all_eq_true.mp words_nm
    clear hW hW2
    simp only [lenA_lst, sub3, add3]
    refine ⟨by trivial, a, row, _, rfl, hb1, by omega, by omega, ?_⟩
    rintro r t ⟨j, rfl, j0, j1⟩
    refine ⟨szl, by trivial, a, row, _, rfl, Bx.up hb1.ok, by simp, by simp, ?_⟩
    intro r t2 hr
    rw [up_up]
    obtain ⟨n, rfl, hn⟩ : ∃ n : Nat, r = .int (n : Nat) ∧ (n : Int) + many ≤ 31 := by
      simp only [List.mem_cons, List.not_mem_nil, or_false] at hr
      rcases hr with rfl | rfl | rfl
      · exact ⟨0, rfl, by omega⟩
      · exact ⟨0, rfl, by omega⟩
      · obtain ⟨n, rfl⟩ := Int.eq_ofNat_of_zero_le j0
        exact ⟨n, rfl, by omega⟩
    simp only []
    obtain ⟨mm, rfl⟩ := Int.eq_ofNat_of_zero_le (show 0 ≤ many by omega)
    rw [show ((n : Nat) : Int) + ((mm : Nat) : Int) = ((n + mm : Nat) : Int) by omega, sl_lst (by omega) (by omega)]
    refine rt_same (q1 _ t2 ⟨?_, ?_, ?_⟩)
    · rw [List.length_take, List.length_drop]; omega
    · intro d hd
      have := hWn d (List.mem_of_mem_drop (List.mem_of_mem_take hd))
      cases d with
      | str x => exact ⟨x, rfl, this⟩
      | _ => exact absurd this Bool.false_ne_true
    · exact ascB_take _ (ascB_drop _ hWa)
  · rw [decide_eq_false hz]
    refine ⟨by trivial, a, row, 8, rfl, hb1, by decide, by decide, ?_⟩
    rintro r t1 ⟨b0, rfl, b1, b2⟩
    refine ⟨by trivial, a, row, b0, rfl, Bx.up hb1.ok, b1, by omega, ?_⟩
    rintro r t2 ⟨base, rfl, hbl, hbn⟩
    rw [up_up]
    have hlen : lenA (up M1 a (bx row t2)) (.str base) = some (.int base.length) := if_pos (show base.length ≤ sizeLine by omega)
    simp only [hlen, add3]
    refine ⟨by trivial, a, row, _, rfl, Bx.up hb1.ok, by omega, by omega, ?_⟩
    rintro r t3 ⟨pl, rfl, p0, p1⟩
    rw [up_up]
    obtain ⟨pl, rfl⟩ := Int.eq_ofNat_of_zero_le p0
    refine ⟨by trivial, a, row, 26, rfl, Bx.up hb1.ok, by decide, by decide, ?_⟩
    rintro r t4 ⟨f, rfl, f0, f1⟩
    rw [up_up]
    obtain ⟨f, rfl⟩ := Int.eq_ofNat_of_zero_le f0
    refine ⟨by trivial, a, row, 2, rfl, Bx.up hb1.ok, by decide, by decide, ?_⟩
    rintro r t5 ⟨u, rfl, u0, u1⟩
    rw [up_up]
    refine ⟨szl, fun p hp => ?_⟩
    have hpa : p ≠ a := fun z => by rw [z, up_same] at hp; cases hp
    have hp1 : M1 p = none := by rw [up_ne hpa] at hp; exact hp
    unfold for3
    walk_at "z"
    refine ⟨by omega, ?_⟩
    refine turns_inv (fun r e M' => ∃ acc t x9 x10 x11, M' = up (up M1 a (bx row t)) p (.lst acc) ∧ e = [some (.ref a), some (.int many), none, none, some (.str base), some (.int (pl : Nat)), some (.int (f : Nat)), some (.int u), some (.ref p), x9, x10, x11] ∧ (∃ n : Nat, r = rngD (acc.length : Nat) n ∧ ((acc.length + n : Nat) : Int) = many) ∧ ∀ (i : Nat) d, acc[i]? = some d → madeN pl f i d) ?_ ?_ _ _ _ ⟨[], t5, _, _, _, rfl, rfl, ⟨many.toNat, rfl, by simp; omega⟩, by simp⟩
    · rintro x r e M' nx ⟨acc, t, x9, x10, x11, rfl, rfl, ⟨n, hr, hn⟩, hm⟩ hnx
      cases n with
      | zero => cases hr
      | succ n =>
        have hr : x :: r = D.int (acc.length : Nat) :: rngD ((acc.length : Nat) + 1 : Int) n := hr
        obtain ⟨rfl, rfl⟩ := List.cons.inj hr
        refine ⟨_, rfl, ?_⟩
        walk_at "z"
        simp only [mul3, add3, intA, mod3]
        refine ⟨IntMulOk.of_left (intBits_le_64 (by decide) (by decide)), by decide, ?_⟩
        have hmod : Int.fmod ((f : Nat) + 5 * ((acc.length : Nat) : Int)) 26 = (((f + 5 * acc.length) % 26 : Nat) : Int) := by
          rw [Int.fmod_eq_emod_of_nonneg _ (by decide)]
          omega
        rw [hmod]
        refine alpha_ix (by omega) (by omega) fun c hc => ?_
        rw [Int.toNat_natCast] at hc
        refine eq3_int ?_
        -- the name, whatever its tail
        have fin : ∀ (tail : Str) t', lowS tail → tail.length ≤ 3 → mth3 .append (loc3 8) (cons3 (op2 add3 (op2 add3 (op2 add3 (sl3 (loc3 4) noP3 (part3 (loc3 5))) (loc3 10)) (sl3 (loc3 4) (part3 (loc3 5)) noP3)) (loc3 11)) nil3)
            [some (.ref a), some (.int many), none, none, some (.str base), some (.int (pl : Nat)), some (.int (f : Nat)), some (.int u), some (.ref p), some (.int (acc.length : Nat)), some (.str ⟨#[c]⟩), some (.str tail)] (up (up M1 a (bx row t')) p (.lst acc)) fun _ M' => nx [some (.ref a), some (.int many), none, none, some (.str base), some (.int (pl : Nat)), some (.int (f : Nat)), some (.int u), some (.ref p), some (.int (acc.length : Nat)), some (.str ⟨#[c]⟩), some (.str tail)] M' := by
          intro tail t' ht1 ht2
          have hpb : pl ≤ base.length := by omega
          have l1 : (cutS base none (some (pl : Nat))).cps.toList = base.cps.toList.take pl := cut_lo hpb
          have l2 : (cutS base (some (pl : Nat)) none).cps.toList = base.cps.toList.drop pl := cut_hi hpb
          have n1 : (cutS base none (some (pl : Nat))).length = pl := by rw [slen, l1, List.length_take, ← slen, Nat.min_eq_left hpb]
          have n2 : (cutS base (some (pl : Nat)) none).length = base.length - pl := by rw [slen, l2, List.length_drop, ← slen]
          have n3 : (⟨#[c]⟩ : Str).length = 1 := rfl
          obtain ⟨s, hs⟩ : ∃ s, s = cutS base none (some (pl : Nat)) ++ ⟨#[c]⟩ ++ cutS base (some (pl : Nat)) none ++ tail := ⟨_, rfl⟩
          have hcs : s.cps.toList = base.cps.toList.take pl ++ [c] ++ base.cps.toList.drop pl ++ tail.cps.toList := by
            rw [hs, cps_app, cps_app, cps_app, l1, l2]
          have hsl : s.length = base.length + 1 + tail.length := by
            rw [slen, hcs, List.length_append, List.length_append, List.length_append, List.length_take, List.length_drop, ← slen, ← slen, List.length_singleton, Nat.min_eq_left hpb]
            omega
          refine app_ok rfl (x := .str s) (fun k hk => ?_) up_same (by omega) ?_
          · walk_at "z"
            rw [sl_str_lo (by omega)]
            refine add_str (by omega) ?_
            rw [sl_str_hi (by omega)]
            have a1 : (cutS base none (some (pl : Nat)) ++ ⟨#[c]⟩ : Str).length = pl + 1 := by rw [slen, cps_app, List.length_append, ← slen, n1]; rfl
            refine add_str (by omega) ?_
            refine add_str ?_ ?_
            · rw [slen, cps_app, List.length_append, ← slen, ← slen, a1, n2]; omega
            · rw [← hs]; exact hk
          · rw [up_up]
            refine hnx _ _ ⟨acc ++ [.str s], t', _, _, _, rfl, rfl, ⟨n, ?_, ?_⟩, fun i d hd => ?_⟩
            · rw [List.length_append, List.length_singleton]
              rfl
            · rw [List.length_append, List.length_singleton]; omega
            · by_cases hi : i < acc.length
              · rw [List.getElem?_append_left hi] at hd
                exact hm i d hd
              · have hi2 : i = acc.length := by
                  have := (List.getElem?_eq_some_iff.mp hd).1
                  rw [List.length_append, List.length_singleton] at this
                  omega
                subst hi2
                rw [List.getElem?_append_right (Nat.le_refl _), Nat.sub_self] at hd
                have hd : D.str s = d := by simpa using hd
                subst hd
                refine ⟨s, rfl, ?_, ?_⟩
                · unfold nmS
                  rw [decide_eq_true (show 1 ≤ s.length by omega), decide_eq_true (show s.length ≤ 12 by omega), Bool.true_and, Bool.true_and, List.all_eq_true, hcs]
                  intro y hy
                  have : 97 ≤ y ∧ y ≤ 122 := by
                    simp only [List.mem_append, List.mem_singleton] at hy
                    rcases hy with ((hy | hy) | hy) | hy
                    · exact hbl y (List.mem_of_mem_take hy)
                    · omega
                    · exact hbl y (List.mem_of_mem_drop hy)
                    · exact ht1 y hy
                  rw [decide_eq_true this.1, decide_eq_true this.2]; rfl
                · rw [hcs, List.append_assoc, List.append_assoc, List.getElem?_append_right (by rw [List.length_take]; omega), List.length_take, ← slen, Nat.min_eq_left hpb, Nat.sub_self]
                  rw [hc]; rfl
        by_cases hu : u = 1
        · rw [decide_eq_true hu]
          refine ⟨by trivial, a, row, 4, rfl, ⟨hb1.ok, t, by rw [up_ne hpa.symm, up_same]⟩, by decide, by decide, ?_⟩
          rintro r2 t6 ⟨v, rfl, v0, v1⟩
          refine ⟨by trivial, a, row, v, rfl, Bx.up hb1.ok, v0, by omega, ?_⟩
          rintro r2 t7 ⟨tail, rfl, w1, w2⟩
          rw [up_up, up_swap hpa, up_up]
          exact fin tail t7 w1 (by omega)
        · rw [decide_eq_false hu]
          exact fin ("" : Str) t (fun y hy => by rw [show ("" : Str).cps.toList = [] by decide +kernel] at hy; cases hy) (by decide +kernel)
    · rintro e M' ⟨acc, t, x9, x10, x11, rfl, rfl, ⟨n, hr, hn⟩, hm⟩
      cases n with
      | succ n => cases hr
      | zero =>
        obtain ⟨s1, s2⟩ := made_sort (by omega) hm
        walk_at "z"
        unfold srtA
        have e1 : asL (up (up M1 a (bx row t)) p (.lst acc)) (.ref p) = some acc := by
          show (match up (up M1 a (bx row t)) p (.lst acc) p with | some (.lst ds) => some ds | _ => none) = _
          rw [up_same]
        rw [e1]
        refine ⟨s1, rt_sub (M' := up M1 a (bx row t)) (Sub.up (by rw [up_ne hpa]; exact hp1)) (q1 _ t ?_)⟩
        have : ((acc.length : Nat) : Int) = many := by rw [← hn]; rfl
        rw [← this]
        exact s2
end K93

namespace K93
open PySem PySem.Spec PyProof.Rows L2 Z
local macro_rules | `(tactic| walk_at "z") => `(tactic| simp only [wpss, wps, wpe, wpt, wpl, wpv, wpb, wpo, wpc, wpp, seq3, next3, brk3, cnt3, drop3, ret3, retN3, if3, asg3, bindT, setAll, par3, sput3, aug3, iadd3, isub3, loc3, con3, op1, op2, tst, chain3, and3, or3, not3, ite3, andV3, orV3, notV3, nil3, cons3, tup3, lst3, lstM3, callG, cstG, nth, call3, opL, c1, c2, ofO, ofO2, Bt.ol, BOp.o2, COp.o2, getE, setE, wipeE, wipeE1, startE, bodyEnds, isi3, tru3, sl3, noP3, part3, iterL, wi, rng1A, rng2A, enumA, List.map_cons, List.map_nil])
/-! orders of names and of pairs -/
theorem lt_str_trans {x y z : Str} (h1 : ltD (.str x) (.str y) = true) (h2 : ltD (.str y) (.str z) = true) : ltD (.str x) (.str z) = true := by
  have h1 := of_decide_eq_true (show decide (x.cps.toList < y.cps.toList) = true from h1)
  have h2 := of_decide_eq_true (show decide (y.cps.toList < z.cps.toList) = true from h2)
  exact decide_eq_true (List.lt_trans h1 h2)
theorem lt_str_ne {x y : Str} (h : ltD (.str x) (.str y) = true) : eqv (.str x) (.str y) = false := by
  have h := of_decide_eq_true (show decide (x.cps.toList < y.cps.toList) = true from h)
  show (x == y) = false
  rw [beq_eq_false_iff_ne]
  intro e
  subst e
  exact List.lt_irrefl _ h
theorem asc_pair : ∀ {ds : List D}, (∀ d ∈ ds, ∃ x, d = .str x) → ascB ds = true → ds.Pairwise fun x y => ltD x y = true
  | [], _, _ => .nil
  | [x], _, _ => by simp
  | x :: y :: r, hs, h => by
    obtain ⟨h1, h2⟩ := b2 (show (ltD x y && ascB (y :: r)) = true from h)
    have ih := asc_pair (fun d hd => hs d (List.mem_cons_of_mem _ hd)) h2
    refine List.pairwise_cons.mpr ⟨fun z hz => ?_, ih⟩
    rcases List.mem_cons.mp hz with hz2 | hz2
    · rw [hz2]; exact h1
    · have h3 := (List.pairwise_cons.mp ih).1 z hz2
      obtain ⟨a, rfl⟩ := hs x (by simp)
      obtain ⟨b, rfl⟩ := hs y (by simp)
      obtain ⟨c, rfl⟩ := hs z (by simp [hz2])
      exact lt_str_trans h1 h3
theorem eqv_str {x y : Str} : eqv (.str x) (.str y) = (x == y) := rfl
theorem memB_mem {x : Str} {names : List D} (h : D.str x ∈ names) : memB (.str x) names = true := by
  unfold memB
  rw [List.any_eq_true]
  exact ⟨_, h, by rw [eqv_str]; exact beq_self_eq_true x⟩
theorem nm_ok {x : Str} (h : nmS x = true) : PyData.strOk x = true ∧ x.length ≤ 12 := by
  unfold nmS at h
  simp only [Bool.and_eq_true, decide_eq_true_eq, List.all_eq_true] at h
  refine ⟨?_, h.1.2⟩
  unfold PyData.strOk
  rw [← Array.all_toList, List.all_eq_true]
  intro c hc
  have := h.2 c hc
  exact decide_eq_true (by omega)
theorem nm_dpl {x : Str} (h : nmS x = true) : dpl (.str x) = true := by
  obtain ⟨h1, h2⟩ := nm_ok h
  show (PyData.strOk x && decide (x.length ≤ sizeLine)) = true
  rw [h1, decide_eq_true (Nat.le_trans h2 (by decide))]; rfl
/-! the dict of what is handed in -/
def keyIs (names : List D) (last : Int) (k : List Key) : Prop := ∃ x i, k = [.inr x, .inl i] ∧ D.str x ∈ names ∧ 0 ≤ i ∧ i ≤ last
structure DictOk (names : List D) (last : Int) (n : Nat) (kvs : List (List Key × D)) : Prop where
  len : kvs.length ≤ n
  nd : (kvs.map (·.1)).Nodup
  key : ∀ e ∈ kvs, keyIs names last e.1
  val : ∀ e ∈ kvs, ∃ v : Int, e.2 = .int v ∧ 1 ≤ v ∧ v ≤ 1000
theorem dict_put {names : List D} {last : Int} {n : Nat} {kvs : List (List Key × D)} {k : List Key} {v : Int} (h : DictOk names last n kvs) (hk : keyIs names last k) (v0 : 1 ≤ v) (v1 : v ≤ 1000) : DictOk names last (n + 1) (putD kvs k (.int v)) := by
  unfold putD
  by_cases hin : (kvs.any fun kv => decide (kv.1 = k)) = true
  · rw [if_pos hin]
    have hkeys : (kvs.map fun kv => if kv.1 = k then (kv.1, D.int v) else kv).map (·.1) = kvs.map (·.1) := by
      rw [List.map_map]
      refine List.map_congr_left fun e he => ?_
      show (if e.1 = k then (e.1, D.int v) else e).1 = e.1
      split <;> rfl
    refine ⟨by rw [List.length_map]; have := h.len; omega, by rw [hkeys]; exact h.nd, fun e he => ?_, fun e he => ?_⟩
    · obtain ⟨e0, h0, rfl⟩ := List.mem_map.mp he
      split
      · exact h.key e0 h0
      · exact h.key e0 h0
    · obtain ⟨e0, h0, rfl⟩ := List.mem_map.mp he
      split
      · exact ⟨v, rfl, v0, v1⟩
      · exact h.val e0 h0
  · rw [if_neg hin]
    refine ⟨by rw [List.length_append, List.length_singleton]; have := h.len; omega, ?_, fun e he => ?_, fun e he => ?_⟩
    · rw [List.map_append, List.nodup_append]
      refine ⟨h.nd, by simp, ?_⟩
      intro a ha b hb
      have hb : b = k := by simpa using hb
      subst hb
      intro e
      subst e
      obtain ⟨e0, h0, h1⟩ := List.mem_map.mp ha
      exact hin (List.any_eq_true.mpr ⟨e0, h0, decide_eq_true h1⟩)
    · rcases List.mem_append.mp he with he | he
      · exact h.key e he
      · rw [List.mem_singleton.mp he]; exact hk
    · rcases List.mem_append.mp he with he | he
      · exact h.val e he
      · rw [List.mem_singleton.mp he]; exact ⟨v, rfl, v0, v1⟩
theorem valD_mem {kvs : List (List Key × D)} {k : List Key} (h : k ∈ kvs.map (·.1)) : ∃ v, valD kvs k = some v ∧ (k, v) ∈ kvs := by
  unfold valD
  cases q : kvs.find? fun kv => decide (kv.1 = k) with
  | none =>
    exfalso
    obtain ⟨e, h1, h2⟩ := List.mem_map.mp h
    have := List.find?_eq_none.mp q e h1
    exact this (decide_eq_true h2)
  | some e =>
    have h1 := List.find?_some q
    have h1 := of_decide_eq_true h1
    have h2 := List.mem_of_find?_eq_some q
    refine ⟨e.2, rfl, ?_⟩
    rw [← h1]; exact h2
theorem tri_key {x y : Str} {i j : Int} (h1 : ltD (.tup [.str y, .int j]) (.tup [.str x, .int i]) = false) (h2 : ltD (.tup [.str x, .int i]) (.tup [.str y, .int j]) = false) : D.tup [.str x, .int i] = D.tup [.str y, .int j] := by
  have g : ∀ {a b : Str} {c d : Int}, ltD (.tup [.str a, .int c]) (.tup [.str b, .int d]) = if (a == b) = true then (if (c == d) = true then false else decide (c < d)) else ltD (.str a) (.str b) := fun {a b c d} => by
    show ltL [.str a, .int c] [.str b, .int d] = _
    unfold ltL
    rw [eqv_str]
    split
    · unfold ltL
      show (if (c == d) = true then ltL [] [] else decide (c < d)) = _
      unfold ltL
      rfl
    · rfl
  rw [g] at h1 h2
  by_cases e : x = y
  · subst e
    rw [if_pos (beq_self_eq_true x)] at h1 h2
    by_cases e2 : i = j
    · rw [e2]
    · rw [if_neg (by simpa using fun z => e2 z.symm)] at h1
      rw [if_neg (by simpa using e2)] at h2
      have h1 := of_decide_eq_false h1
      have h2 := of_decide_eq_false h2
      omega
  · rw [if_neg (by simpa using fun z => e z.symm)] at h1
    rw [if_neg (by simpa using e)] at h2
    exact absurd (tri_str h1 h2) e
theorem kDs_inj : ∀ {k1 k2 : List Key}, k1.map kD = k2.map kD → k1 = k2
  | [], [], _ => rfl
  | [], _ :: _, e => by cases e
  | _ :: _, [], e => by cases e
  | a :: r, b :: r2, e => by
    rw [List.map_cons, List.map_cons] at e
    obtain ⟨e1, e2⟩ := List.cons.inj e
    rw [kDs_inj e2]
    congr 1
    cases a <;> cases b <;> first | (cases e1; rfl) | cases e1
/-- the keys in order -/
theorem keys_sort {names : List D} {last : Int} {n : Nat} {kvs : List (List Key × D)} (h : DictOk names last n kvs) :
    sortOk (kvs.map fun kv => D.tup (kv.1.map kD)) ∧ ascB (sortD (kvs.map fun kv => D.tup (kv.1.map kD))) = true ∧ ∀ d ∈ sortD (kvs.map fun kv => D.tup (kv.1.map kD)), ∃ x i v, d = .tup [.str x, .int i] ∧ D.str x ∈ names ∧ 0 ≤ i ∧ i ≤ last ∧ valD kvs [.inr x, .inl i] = some (.int v) ∧ 1 ≤ v ∧ v ≤ 1000 := by
  have hm : ∀ d ∈ kvs.map fun kv => D.tup (kv.1.map kD), ∃ x i, d = .tup [.str x, .int i] ∧ D.str x ∈ names ∧ 0 ≤ i ∧ i ≤ last ∧ [Sum.inr x, Sum.inl i] ∈ kvs.map (·.1) := by
    intro d hd
    obtain ⟨e, he, rfl⟩ := List.mem_map.mp hd
    obtain ⟨x, i, h1, h2, h3, h4⟩ := h.key e he
    exact ⟨x, i, by rw [h1]; rfl, h2, h3, h4, List.mem_map.mpr ⟨e, he, h1⟩⟩
  have hl : ∀ d ∈ kvs.map fun kv => D.tup (kv.1.map kD), ∀ e ∈ kvs.map fun kv => D.tup (kv.1.map kD), likeD d e = true := by
    intro d hd e he
    obtain ⟨x, i, rfl, _⟩ := hm d hd
    obtain ⟨y, j, rfl, _⟩ := hm e he
    rfl
  refine ⟨⟨hl, fun d hd => ?_, .inl fun d hd => ?_⟩, asc_of (sort_asc hl ?_ ?_), fun d hd => ?_⟩
  · obtain ⟨x, i, rfl, _⟩ := hm d hd
    rfl
  · obtain ⟨x, i, rfl, _⟩ := hm d hd
    exact ⟨_, _, _, rfl⟩
  · intro d hd e he h1 h2
    obtain ⟨x, i, rfl, _⟩ := hm d hd
    obtain ⟨y, j, rfl, _⟩ := hm e he
    exact tri_key h1 h2
  · have := h.nd
    rw [show (kvs.map fun kv => D.tup (kv.1.map kD)) = (kvs.map (·.1)).map (fun k => D.tup (k.map kD)) by rw [List.map_map]; rfl]
    rw [List.Nodup, List.pairwise_map]
    refine List.Pairwise.imp ?_ this
    intro k1 k2 hne e
    apply hne
    have e : k1.map kD = k2.map kD := by
      injection e
    exact kDs_inj e
  · obtain ⟨x, i, rfl, h1, h2, h3, h4⟩ := hm d (sortD_mem.mp hd)
    obtain ⟨v, g1, g2⟩ := valD_mem h4
    obtain ⟨w, e, w0, w1⟩ := h.val _ g2
    have e : v = .int w := e
    subst e
    exact ⟨x, i, w, rfl, h1, h2, h3, g1, w0, w1⟩
end K93

namespace K93
open PySem PySem.Spec PyProof.Rows L2 Z
local macro_rules | `(tactic| walk_at "z") => `(tactic| simp only [wpss, wps, wpe, wpt, wpl, wpv, wpb, wpo, wpc, wpp, seq3, next3, brk3, cnt3, drop3, ret3, retN3, if3, asg3, bindT, setAll, par3, sput3, aug3, iadd3, isub3, loc3, con3, op1, op2, tst, chain3, and3, or3, not3, ite3, andV3, orV3, notV3, nil3, cons3, tup3, lst3, lstM3, callG, cstG, nth, call3, opL, c1, c2, ofO, ofO2, Bt.ol, BOp.o2, COp.o2, getE, setE, wipeE, wipeE1, startE, bodyEnds, isi3, tru3, sl3, noP3, part3, iterL, wi, rng1A, rng2A, enumA, List.map_cons, List.map_nil])
theorem pair_lt1 {s s' g g' : Str} (h : ltD (.str s) (.str s') = true) : ltD (.tup [.str s, .str g]) (.tup [.str s', .str g']) = true := by
  show ltL [.str s, .str g] [.str s', .str g'] = true
  unfold ltL
  rw [lt_str_ne h]
  exact h
theorem pair_lt2 {s g g' : Str} (h : ltD (.str g) (.str g') = true) : ltD (.tup [.str s, .str g]) (.tup [.str s, .str g']) = true := by
  show ltL [.str s, .str g] [.str s, .str g'] = true
  unfold ltL
  rw [eqv_str, beq_self_eq_true]
  show ltL [.str g] [.str g'] = true
  unfold ltL
  rw [lt_str_ne h]
  exact h
def roomOk (rm : D) : Prop := rm = .non ∨ ∃ i : Int, rm = .int i ∧ 0 ≤ i ∧ i ≤ 1000
def okO : D → D → Prop := fun x y => ∃ rm, y = .tup [x, rm] ∧ roomOk rm
def okR (names : List D) (d : D) : Prop := ∃ x y i rm, d = .tup [.str x, .str y, .int i, .int rm] ∧ D.str x ∈ names ∧ D.str y ∈ names ∧ eqv (.str x) (.str y) = false ∧ 1 ≤ i ∧ i ≤ 60 ∧ 0 ≤ rm ∧ rm ≤ 1000
def okS (names : List D) (last : Int) (d : D) : Prop := ∃ x i v, d = .tup [.str x, .int i, .int v] ∧ D.str x ∈ names ∧ 0 ≤ i ∧ i ≤ last ∧ 1 ≤ v ∧ v ≤ 1000
theorem offs_fst : ∀ {names ofs : List D}, All2 okO names ofs → ofs.map fst = names
  | [], [], _ => rfl
  | x :: r, y :: t, h => by
    obtain ⟨rm, e, _⟩ := h.1
    rw [List.map_cons, offs_fst h.2, e]; rfl
  | [], _ :: _, h => h.elim
  | _ :: _, [], h => h.elim
theorem room_ok {rm : D} (h : roomOk rm) : (Z.isNon rm || btwB rm 0 1000) = true ∧ dpl rm = true := by
  rcases h with rfl | ⟨i, rfl, h0, h1⟩
  · exact ⟨rfl, rfl⟩
  · refine ⟨?_, rfl⟩
    show (false || (decide (0 ≤ i) && decide (i ≤ 1000))) = true
    rw [decide_eq_true h0, decide_eq_true h1]; rfl
theorem btw_ok {i l h : Int} (h0 : l ≤ i) (h1 : i ≤ h) : btwB (.int i) l h = true := by
  show (decide (l ≤ i) && decide (i ≤ h)) = true
  rw [decide_eq_true h0, decide_eq_true h1]; rfl
/-- what was drawn is a good despatch -/
theorem good_of {names ofs roads sacks : List D} {last : Int} {goal : D} (l0 : 0 ≤ last) (l1 : last < 60) (n1 : 1 ≤ names.length) (n8 : names.length ≤ 8) (nm : ∀ d ∈ names, isNm d) (asc : ascB names = true) (ho : All2 okO names ofs)
    (hr : ∀ d ∈ roads, okR names d) (r30 : roads.length ≤ 30) (ra : ascB (roads.map cut2) = true) (hs : ∀ d ∈ sacks, okS names last d) (s100 : sacks.length ≤ 100) (sa : ascB (sacks.map cut2) = true) (hg : goal ∈ names) : GoodD last ofs roads sacks goal := by
  have hf := offs_fst ho
  have hnm : ∀ x, D.str x ∈ names → nmS x = true := by
    intro x hx
    obtain ⟨y, e, h⟩ := nm _ hx
    cases e; exact h
  have hom : ∀ o ∈ ofs, ∃ x rm, o = .tup [.str x, rm] ∧ nmS x = true ∧ roomOk rm := by
    intro o h
    obtain ⟨d, hd, rm, e, hrm⟩ := ho.mem o h
    obtain ⟨x, rfl, hx⟩ := nm d hd
    exact ⟨x, rm, e, hx, hrm⟩
  obtain ⟨gx, rfl, hgn⟩ := nm goal hg
  have hnames : namesOf (.tup ofs) = names := hf
  refine ⟨l0, l1, ⟨?_, ?_, ?_, nm_dpl hgn⟩, ?_, fun o h => ?_, fun r h => ?_⟩
  · rw [dplL_all, List.all_eq_true]
    intro o h
    obtain ⟨x, rm, rfl, hx, hrm⟩ := hom o h
    show (dpl (.str x) && (dpl rm && true)) = true
    rw [nm_dpl hx, (room_ok hrm).2]; rfl
  · rw [dplL_all, List.all_eq_true]
    intro d h
    obtain ⟨x, y, i, rm, rfl, hx, hy, _⟩ := hr d h
    show (dpl (.str x) && (dpl (.str y) && true)) = true
    rw [nm_dpl (hnm x hx), nm_dpl (hnm y hy)]; rfl
  · rw [dplL_all, List.all_eq_true]
    intro d h
    obtain ⟨x, i, v, rfl, hx, _⟩ := hs d h
    show (dpl (.str x) && true) = true
    rw [nm_dpl (hnm x hx)]; rfl
  · rw [faultD_eq, hnames]
    have e1 : btwB (.int last) 0 60 = true := btw_ok l0 (by omega)
    have e2 : yardsB (.tup ofs) = true := by
      show (decide (1 ≤ ofs.length) && decide (ofs.length ≤ 8) && ofs.all yardB && ascB (ofs.map fst)) = true
      rw [hf, asc, ho.len, decide_eq_true n1, decide_eq_true n8]
      have : ofs.all yardB = true := by
        rw [List.all_eq_true]
        intro o h
        obtain ⟨x, rm, rfl, hx, hrm⟩ := hom o h
        rw [yardB_eq, (room_ok hrm).1, Bool.and_true]
        exact hx
      rw [this]; rfl
    have e3 : coachesB names (.tup roads) = true := by
      show (decide (roads.length ≤ 30) && roads.all (coachB names) && ascB (roads.map cut2)) = true
      rw [decide_eq_true r30, ra]
      have : roads.all (coachB names) = true := by
        rw [List.all_eq_true]
        intro d h
        obtain ⟨x, y, i, rm, rfl, hx, hy, hne, i0, i1, m0, m1⟩ := hr d h
        rw [coachB_eq, hne, memB_mem hx, memB_mem hy, btw_ok i0 i1, btw_ok m0 m1]
        show (nmS x && nmS y && !false && true && true && true && true) = true
        rw [hnm x hx, hnm y hy]; rfl
      rw [this]; rfl
    have e4 : sacksB names last (.tup sacks) = true := by
      show (decide (sacks.length ≤ 100) && sacks.all (handB names last) && ascB (sacks.map cut2)) = true
      rw [decide_eq_true s100, sa]
      have : sacks.all (handB names last) = true := by
        rw [List.all_eq_true]
        intro d h
        obtain ⟨x, i, v, rfl, hx, i0, i1, v0, v1⟩ := hs d h
        rw [handB_eq, memB_mem hx, btw_ok i0 i1, btw_ok v0 v1]
        show (nmS x && true && true && true) = true
        rw [hnm x hx]; rfl
      rw [this]; rfl
    have e5 : (nmB (.str gx) && memB (.str gx) names) = true := by
      rw [memB_mem hg, Bool.and_true]; exact hgn
    rw [e1, e2, e3, show lastOf (.int last) = last from rfl, e4, e5]
    simp
  · obtain ⟨x, rm, rfl, _⟩ := hom o h
    exact ⟨x, rm, rfl⟩
  · obtain ⟨x, y, i, rm, rfl, hx, hy, hne, i0, i1, _⟩ := hr r h
    exact ⟨x, _, i, _, rfl, i0, i1⟩
end K93

namespace K93
open PySem PySem.Spec PyProof.Rows L2 Z
local macro_rules | `(tactic| walk_at "z") => `(tactic| simp only [wpss, wps, wpe, wpt, wpl, wpv, wpb, wpo, wpc, wpp, seq3, next3, brk3, cnt3, drop3, ret3, retN3, if3, asg3, bindT, setAll, par3, sput3, aug3, iadd3, isub3, loc3, con3, op1, op2, tst, chain3, and3, or3, not3, ite3, andV3, orV3, notV3, nil3, cons3, tup3, lst3, lstM3, callG, cstG, nth, call3, opL, c1, c2, ofO, ofO2, Bt.ol, BOp.o2, COp.o2, getE, setE, wipeE, wipeE1, startE, bodyEnds, isi3, tru3, sl3, noP3, part3, iterL, wi, rng1A, rng2A, enumA, List.map_cons, List.map_nil])
theorem asD_ref {M : MH} {q : Addr} {kvs : List (List Key × D)} (h : M q = some (.dT kvs)) : seqM M (.ref q) = none ∧ asD M (.ref q) = some kvs ∧ asK M (.ref q) = none := by
  refine ⟨?_, ?_, ?_⟩
  · show (match M q with | some (.lst ds) => some ds | _ => none) = none
    rw [h]
  · show (match M q with | some (.dT kvs) => some kvs | _ => none) = _
    rw [h]
  · show (match M q with | some (.dK kvs) => some kvs | _ => none) = none
    rw [h]
theorem ix_dT {M : MH} {q : Addr} {kvs : List (List Key × D)} {x : Str} {i : Int} {d : D} {Q : Q3} (h : M q = some (.dT kvs)) (hv : valD kvs [.inr x, .inl i] = some d) (k : Q d M) : ix3 (.ref q) (.tup [.str x, .int i]) M Q := by
  unfold ix3
  obtain ⟨h1, h2, h3⟩ := asD_ref h
  have : ixAns M (.ref q) (.tup [.str x, .int i]) = some d := by
    show (dfind M (.ref q) (.tup [.str x, .int i])).join = some d
    have : dfind M (.ref q) (.tup [.str x, .int i]) = some (valD kvs [.inr x, .inl i]) := by
      unfold dfind
      rw [h3, h2]
      rfl
    rw [this, hv]; rfl
  rw [this]; exact k
theorem pick_ok {M : MH} {a : Addr} {row xs : List D} {Q : Q3} {E : X3} (hb : Bx M a row) (hx : xs ≠ []) (hl : xs.length < 1000000) (q : ∀ r t, r ∈ xs → Q r (up M a (bx row t))) : [D.ref a, .lst xs].length = 2 ∧ sp_law_pick [.ref a, .lst xs] M Q E := ⟨rfl, a, row, xs, rfl, hb, hx, hl, q⟩
theorem take_ok {M : MH} {a : Addr} {row : List D} {m : Int} {Q : Q3} {E : X3} (hb : Bx M a row) (h0 : 0 < m) (h1 : m < 1000000) (q : ∀ (i : Int) t, 0 ≤ i → i < m → Q (.int i) (up M a (bx row t))) : [D.ref a, .int m].length = 2 ∧ sp_law_take [.ref a, .int m] M Q E := ⟨rfl, a, row, m, rfl, hb, h0, h1, fun r t ⟨i, e, i0, i1⟩ => by rw [e]; exact q i t i0 i1⟩
/-- the box, the roads, the dict, and what else stands -/
structure St (M1 M' : MH) (a p q : Addr) (row acc : List D) (kvs : List (List Key × D)) : Prop where
  bx : Bx M' a row
  ls : M' p = some (.lst acc)
  dt : M' q = some (.dT kvs)
  rest : ∀ b, b ≠ a → b ≠ p → b ≠ q → M' b = M1 b
section
variable {Q : Q3} {E : X3} {M1 : MH} {a p q : Addr} {row acc names ofs : List D} {kvs : List (List Key × D)} {last : Int} {x7 x9 x10 x12 : Option D}
theorem St.move {M' : MH} (st : St M1 M' a p q row acc kvs) (ha : a ≠ p) (ha2 : a ≠ q) {t : Nat} : St M1 (up M' a (K93.bx row t)) a p q row acc kvs :=
  ⟨Bx.up st.bx.ok, by rw [up_ne ha.symm]; exact st.ls, by rw [up_ne ha2.symm]; exact st.dt, fun b b1 b2 b3 => by rw [up_ne b1]; exact st.rest b b1 b2 b3⟩
theorem St.put {M' : MH} (st : St M1 M' a p q row acc kvs) (ha2 : a ≠ q) (hpq : p ≠ q) {kvs2 : List (List Key × D)} : St M1 (up M' q (.dT kvs2)) a p q row acc kvs2 :=
  ⟨by
    obtain ⟨h1, t, h2⟩ := st.bx
    exact ⟨h1, t, by rw [up_ne ha2]; exact h2⟩, by rw [up_ne hpq]; exact st.ls, up_same, fun b b1 b2 b3 => by rw [up_ne b3]; exact st.rest b b1 b2 b3⟩
theorem desp_tail2 (hp : M1 p = none) (hq : M1 q = none) (ha : a ≠ p) (ha2 : a ≠ q) (hpq : p ≠ q) (l0 : 0 ≤ last) (l1 : last < 60) (n1 : 1 ≤ names.length) (n8 : names.length ≤ 8) (nm : ∀ d ∈ names, isNm d) (asc : ascB names = true) (ho : All2 okO names ofs)
    (hr : ∀ d ∈ acc, okR names d) (ra : ascB (acc.map cut2) = true) (hd : DictOk names last 12 kvs) (fin : ∀ roads sacks goal t, GoodD last ofs roads sacks goal → Q (.tup [.int last, .tup ofs, .tup roads, .tup sacks, goal]) (up M1 a (bx row t)))
    {M' : MH} (st : St M1 M' a p q row acc kvs) :
    wpss G_law_despatch E (B_law_despatch.drop 7) (bodyEnds Q) [some (.ref a), some (.int 60), some (.int 7), some (.int 12), some (.int last), some (.lst names), some (.tup ofs), x7, some (.ref p), x9, x10, some (.ref q), x12, none, none] M' := by
  unfold B_law_despatch G_law_despatch
  simp only [List.drop_succ_cons, List.drop_zero]
  walk_at "z"
  obtain ⟨h1, h2, h3⟩ := asD_ref st.dt
  obtain ⟨k1, k2, k3⟩ := keys_sort hd
  obtain ⟨ks, hks⟩ : ∃ ks, ks = sortD (kvs.map fun kv => D.tup (kv.1.map kD)) := ⟨_, rfl⟩
  rw [← hks] at k2 k3
  have hkl : ks.length ≤ 12 := by
    rw [hks, sortD_len, List.length_map]; exact hd.len
  let f : D → D := fun d => match d with | .tp _ [x, i] => (match x, i with | .str x, .int i => .tup [.str x, .int i, (valD kvs [.inr x, .inl i]).getD .non] | _, _ => .non) | _ => .non
  refine comp3_map (items := ks) f (fun k hk => ?_) (fun d hd2 => ⟨_, rfl, fun pc l hpc k hk => ?_⟩) ?_
  · walk_at "z"
    unfold lstA
    rw [h1, h2]
    simp only [resL, srtA, asL]
    refine ⟨k1, ?_⟩
    rw [← hks]
    exact hk
  · obtain ⟨x, i, v, rfl, g1, g2, g3, g4, g5, g6⟩ := k3 d hd2
    walk_at "z"
    have hpq2 : q ≠ pc := fun z => by rw [← z, st.dt] at hpc; cases hpc
    refine ix_dT (M := up M' pc (.lst l)) (by rw [up_ne hpq2]; exact st.dt) g4 ?_
    refine ⟨szl, ?_⟩
    simp only [add3]
    refine ⟨szl, ?_⟩
    have : f (.tup [.str x, .int i]) = .tup [.str x, .int i, .int v] := by
      show D.tup [.str x, .int i, (valD kvs [.inr x, .inl i]).getD .non] = _
      rw [g4]; rfl
    rw [this] at hk
    exact hk
  · simp only [tupA, asL]
    have hcut : ((ks.map f).map cut2) = ks := by
      rw [List.map_map]
      conv => rhs; rw [← List.map_id ks]
      refine List.map_congr_left fun d hd2 => ?_
      obtain ⟨x, i, v, rfl, _⟩ := k3 d hd2
      rfl
    have hsl : slA M' (.ref p) none (some 30) = some (.lst (acc.take 30)) := by
      show (match asL M' (.ref p) with | some ds => some (D.lst (Z.cutD ds none (some 30))) | none => none) = _
      have : asL M' (.ref p) = some acc := by
        show (match M' p with | some (.lst ds) => some ds | _ => none) = _
        rw [st.ls]
      rw [this]
      show some (D.lst (Z.cutD acc none (some ((30 : Nat) : Int)))) = _
      unfold Z.cutD
      rw [HT.sIx_none, HT.sIx_nat, List.drop_zero, Nat.sub_zero]
      congr 2
      by_cases h : 30 ≤ acc.length
      · rw [Nat.min_eq_left h]
      · rw [Nat.min_eq_right (by omega), List.take_of_length_le (Nat.le_refl _), List.take_of_length_le (by omega)]
    rw [hsl]
    simp only []
    have hne : names ≠ [] := fun z => by rw [z] at n1; simp at n1
    refine pick_ok st.bx hne (by omega) fun r t hr2 => ?_
    refine ⟨szl, rt_sub (M' := up M1 a (bx row t)) (fun b o hb => ?_) (fin _ _ _ t (good_of l0 l1 n1 n8 nm asc ho (fun d hd2 => hr d (List.mem_of_mem_take hd2)) (by rw [List.length_take]; omega) (by rw [List.map_take]; exact ascB_take _ ra) (fun d hd2 => ?_) (by rw [List.length_map]; omega) (by rw [hcut]; exact k2) hr2))⟩
    · by_cases e : b = a
      · rw [e, up_same] at hb
        rw [e, up_same]; exact hb
      · rw [up_ne e] at hb
        rw [up_ne e, st.rest b e (fun z => by rw [z, hp] at hb; cases hb) (fun z => by rw [z, hq] at hb; cases hb)]
        exact hb
    · obtain ⟨d0, hd0, rfl⟩ := List.mem_map.mp hd2
      obtain ⟨x, i, v, rfl, g1, g2, g3, g4, g5, g6⟩ := k3 d0 hd0
      have : f (.tup [.str x, .int i]) = .tup [.str x, .int i, .int v] := by
        show D.tup [.str x, .int i, (valD kvs [.inr x, .inl i]).getD .non] = _
        rw [g4]; rfl
      rw [this]
      exact ⟨x, i, v, rfl, g1, g2, g3, g5, g6⟩
theorem desp_tail1 (hp : M1 p = none) (ha : a ≠ p) (l0 : 0 ≤ last) (l1 : last < 60) (n1 : 1 ≤ names.length) (n8 : names.length ≤ 8) (nm : ∀ d ∈ names, isNm d) (asc : ascB names = true) (ho : All2 okO names ofs)
    (hr : ∀ d ∈ acc, okR names d) (ra : ascB (acc.map cut2) = true) (fin : ∀ roads sacks goal t, GoodD last ofs roads sacks goal → Q (.tup [.int last, .tup ofs, .tup roads, .tup sacks, goal]) (up M1 a (bx row t)))
    {M' : MH} (hb : Bx M' a row) (hls : M' p = some (.lst acc)) (rest : ∀ b, b ≠ a → b ≠ p → M' b = M1 b) :
    wpss G_law_despatch E (B_law_despatch.drop 5) (bodyEnds Q) [some (.ref a), some (.int 60), some (.int 7), some (.int 12), some (.int last), some (.lst names), some (.tup ofs), x7, some (.ref p), x9, x10, none, none, none, none] M' := by
  have z1 : 100000 < sizeLine := by decide
  obtain ⟨R, hR⟩ : ∃ R, R = B_law_despatch.drop 7 := ⟨_, rfl⟩
  have hB : B_law_despatch.drop 5 = _ :: _ :: B_law_despatch.drop 7 := rfl
  have tail := fun q hq (ha2 : a ≠ q) hpq kvs x12 hd (M' : MH) (st : St M1 M' a p q row acc kvs) => desp_tail2 (Q := Q) (E := E) (x7 := x7) (x9 := x9) (x10 := x10) (x12 := x12) hp hq ha ha2 hpq l0 l1 n1 n8 nm asc ho hr ra hd fin st
  rw [← hR] at hB tail
  rw [hB]
  clear hB hR
  unfold G_law_despatch at tail ⊢
  walk_at "z"
  simp only [newT3]
  intro q hq
  have hqa : a ≠ q := fun z => by
    obtain ⟨_, t, e⟩ := hb
    rw [z, hq] at e; cases e
  have hqp : p ≠ q := fun z => by rw [z, hq] at hls; cases hls
  have hq1 : M1 q = none := by rw [← rest q hqa.symm hqp.symm]; exact hq
  have st0 : St M1 (up M' q (.dT [])) a p q row acc [] := by
    refine ⟨?_, by rw [up_ne hqp]; exact hls, up_same, fun b b1 b2 b3 => by rw [up_ne b3]; exact rest b b1 b2⟩
    obtain ⟨h1, t, e⟩ := hb
    exact ⟨h1, t, by rw [up_ne hqa]; exact e⟩
  unfold for3
  walk_at "z"
  simp only [add3]
  refine take_ok st0.bx (by decide) (by decide) fun n t n0 n1' => ?_
  simp only []
  refine ⟨by omega, ?_⟩
  refine turns_inv (fun r e M' => ∃ kvs x12, e = [some (.ref a), some (.int 60), some (.int 7), some (.int 12), some (.int last), some (.lst names), some (.tup ofs), x7, some (.ref p), x9, x10, some (.ref q), x12, none, none] ∧ St M1 M' a p q row acc kvs ∧ r.length ≤ 12 ∧ DictOk names last (12 - r.length) kvs) ?_ ?_ _ _ _ ⟨[], _, rfl, st0.move ha hqa, by rw [rngD_len]; omega, ⟨by simp, by simp, by simp, by simp⟩⟩
  · rintro x r e M' nx ⟨kvs, x12, rfl, st, hl, hd⟩ hnx
    rw [List.length_cons] at hl hd
    refine ⟨_, rfl, ?_⟩
    walk_at "z"
    refine take_ok st.bx (by decide) (by decide) fun v1 t1 u0 u1 => ?_
    simp only [add3]
    refine take_ok (Bx.up st.bx.ok) (by decide) (by decide) fun v2 t2 w0 w1 => ?_
    rw [up_up]
    simp only [add3]
    refine ⟨szl, ?_⟩
    refine pick_ok (Bx.up st.bx.ok) (by simp) (by simp) fun v t3 hv => ?_
    rw [up_up]
    obtain ⟨v, rfl, v0, v1⟩ : ∃ w : Int, v = .int w ∧ 1 ≤ w ∧ w ≤ 1000 := by
      simp only [List.mem_cons, List.not_mem_nil, or_false] at hv
      rcases hv with rfl | rfl | rfl | rfl | rfl
      · exact ⟨_, rfl, by decide, by decide⟩
      · exact ⟨_, rfl, by decide, by decide⟩
      · exact ⟨_, rfl, by decide, by decide⟩
      · exact ⟨_, rfl, by omega, by omega⟩
      · exact ⟨_, rfl, by omega, by omega⟩
    have hne : names ≠ [] := fun z => by rw [z] at n1; simp at n1
    refine pick_ok (Bx.up st.bx.ok) hne (by omega) fun nmx t4 hx => ?_
    rw [up_up]
    obtain ⟨x, rfl, hx2⟩ := nm nmx hx
    refine take_ok (Bx.up st.bx.ok) (by omega) (by omega) fun i t5 i0 i1 => ?_
    rw [up_up]
    refine ⟨szl, ?_⟩
    have st2 := st.move ha hqa (t := t5)
    have hp3 : put3 (up M' a (bx row t5)) (.ref q) (.tup [.str x, .int i]) (.int v) = some (up (up M' a (bx row t5)) q (.dT (putD kvs [.inr x, .inl i] (.int v)))) := by
      show (match up M' a (bx row t5) q with
        | some (.lst ds) => _
        | some (.dK kvs) => _
        | some (.dT kvs) => (match keyT (.tup [.str x, .int i]) with | some k => if kvs.length < sizeLine then some (up (up M' a (bx row t5)) q (.dT (putD kvs k (.int v)))) else none | none => none)
        | _ => none) = _
      rw [st2.dt]
      exact if_pos (by have := hd.len; omega)
    rw [hp3]
    refine hnx _ _ ⟨_, _, rfl, st2.put hqa hqp, by omega, ?_⟩
    have := dict_put (v := v) hd ⟨x, i, rfl, hx, i0, by omega⟩ v0 v1
    rw [show 12 - (r.length + 1) + 1 = 12 - r.length by omega] at this
    exact this
  · rintro e M' ⟨kvs, x12, rfl, st, hl, hd⟩
    exact tail q hq1 hqa hqp kvs x12 hd M' st
end
end K93

namespace K93
open PySem PySem.Spec PyProof.Rows L2 Z
local macro_rules | `(tactic| walk_at "z") => `(tactic| simp only [wpss, wps, wpe, wpt, wpl, wpv, wpb, wpo, wpc, wpp, seq3, next3, brk3, cnt3, drop3, ret3, retN3, if3, asg3, bindT, setAll, par3, sput3, aug3, iadd3, isub3, loc3, con3, op1, op2, tst, chain3, and3, or3, not3, ite3, andV3, orV3, notV3, nil3, cons3, tup3, lst3, lstM3, callG, cstG, nth, call3, opL, c1, c2, ofO, ofO2, Bt.ol, BOp.o2, COp.o2, getE, setE, wipeE, wipeE1, startE, bodyEnds, isi3, tru3, sl3, noP3, part3, iterL, wi, rng1A, rng2A, enumA, List.map_cons, List.map_nil])
def fs2 : D → D | .tp _ (_ :: y :: _) => y | _ => .non
def pLt (x y : D) : Prop := ltD (cut2 x) (cut2 y) = true
theorem p_law_despatch (ds : List D) (M : MH) (Q : Q3) (E : X3) (_ : ds.length = 4) (h : sp_law_despatch ds M Q E) : wpss G_law_despatch E B_law_despatch (bodyEnds Q) (startE N_law_despatch.length ds) M := by
  obtain ⟨a, row, rfl, hb, fin⟩ := h
  show wpss G_law_despatch E B_law_despatch (bodyEnds Q) [some (.ref a), some (.int 60), some (.int 7), some (.int 12), none, none, none, none, none, none, none, none, none, none, none] M
  have z1 : 100000 < sizeLine := by decide
  obtain ⟨R, hR⟩ : ∃ R, R = B_law_despatch.drop 5 := ⟨_, rfl⟩
  have hB : B_law_despatch = _ :: _ :: _ :: _ :: _ :: B_law_despatch.drop 5 := rfl
  rw [← hR] at hB
  rw [hB]
  unfold G_law_despatch
  walk_at "z"
  refine take_ok hb (by decide) (by decide) fun last t l0 l1 => ?_
  refine take_ok (Bx.up hb.ok) (by decide) (by decide) fun j t2 j0 j1 => ?_
  rw [up_up]
  simp only [add3]
  refine ⟨by trivial, a, row, 1 + j, rfl, Bx.up hb.ok, by omega, by omega, fun names t3 hn => ?_⟩
  rw [up_up]
  have n1 : 1 ≤ names.length := by have := hn.len; omega
  have n8 : names.length ≤ 7 := by have := hn.len; omega
  have hne : names ≠ [] := fun z => by rw [z] at n1; simp at n1
  have hpw := asc_pair (fun d hd => by obtain ⟨x, e, _⟩ := hn.nm d hd; exact ⟨x, e⟩) hn.asc
  refine comp3_draw (S := SB row) (a := a) (items := names) okO (Bx.up hb.ok).at_ (fun k hk => ?_) (fun d hd => ⟨_, rfl, fun M' ha hr k hk => ?_⟩) (fun ofs o ho hso => ?_)
  · walk_at "z"
    exact hk
  · walk_at "z"
    refine take_ok (At.bx hb.ok ha) (by decide) (by decide) fun i t i0 i1 => ?_
    refine ⟨szl, pick_ok (Bx.up hb.ok) (by simp) (by simp) fun rm t' hrm => ?_⟩
    rw [up_up]
    refine ⟨szl, hk _ _ ⟨rm, rfl, ?_⟩ ⟨t', rfl⟩⟩
    simp only [List.mem_cons, List.not_mem_nil, or_false] at hrm
    rcases hrm with rfl | rfl | rfl | rfl | rfl | rfl | rfl
    · exact .inl rfl
    · exact .inl rfl
    · exact .inr ⟨_, rfl, by decide, by decide⟩
    · exact .inr ⟨_, rfl, by decide, by decide⟩
    · exact .inr ⟨_, rfl, by decide, by decide⟩
    · exact .inr ⟨_, rfl, by omega, by omega⟩
    · exact .inr ⟨_, rfl, by decide, by decide⟩
  · obtain ⟨t4, rfl⟩ := hso
    rw [up_up]
    simp only [tupA, asL]
    obtain ⟨M1, hM1⟩ : ∃ M1, M1 = up M a (bx row t4) := ⟨_, rfl⟩
    have hb1 : Bx M1 a row := by rw [hM1]; exact Bx.up hb.ok
    have fin1 : ∀ roads sacks goal t, GoodD last ofs roads sacks goal → Q (.tup [.int last, .tup ofs, .tup roads, .tup sacks, goal]) (up M1 a (bx row t)) := by
      intro roads sacks goal t hg
      rw [hM1, up_up]; exact fin _ _ _ _ _ t hg
    rw [← hM1]
    clear hM1 fin
    refine ⟨szl, fun p hp => ?_⟩
    have hpa : a ≠ p := fun z => by
      obtain ⟨_, t, e⟩ := hb1
      rw [z, hp] at e; cases e
    have tail := fun acc x9 x10 hr ra (M' : MH) (hb : Bx M' a row) hls rest => desp_tail1 (Q := Q) (E := E) (x7 := none) (x9 := x9) (x10 := x10) (acc := acc) hp hpa l0 l1 n1 (by omega) hn.nm hn.asc ho hr ra fin1 hb hls rest
    rw [← hR] at tail
    clear hB hR
    unfold G_law_despatch at tail
    unfold for3
    walk_at "z"
    simp only [itemsA]
    refine turns_inv (fun r e M' => ∃ done acc x9 x10, names = done ++ r ∧ e = [some (.ref a), some (.int 60), some (.int 7), some (.int 12), some (.int last), some (.lst names), some (.tup ofs), none, some (.ref p), x9, x10, none, none, none, none] ∧ Bx M' a row ∧ M' p = some (.lst acc) ∧ (∀ b, b ≠ a → b ≠ p → M' b = M1 b) ∧ acc.length ≤ 7 * done.length ∧ (∀ d ∈ acc, okR names d ∧ fst d ∈ done) ∧ acc.Pairwise pLt) ?_ ?_ _ _ _ ⟨[], [], _, _, rfl, rfl, ?_, up_same, fun b b1 b2 => by rw [up_ne b2], Nat.le_refl _, by simp, .nil⟩
    · rintro x r e M' nx ⟨done, acc, x9, x10, hnm, rfl, hbx, hls, rest, hlen, hacc, hap⟩ hnx
      obtain ⟨sx, rfl, hsx⟩ := hn.nm x (by rw [hnm]; simp)
      refine ⟨_, rfl, ?_⟩
      walk_at "z"
      refine turns_inv (fun r2 e M' => ∃ done2 acc x10, names = done2 ++ r2 ∧ e = [some (.ref a), some (.int 60), some (.int 7), some (.int 12), some (.int last), some (.lst names), some (.tup ofs), none, some (.ref p), some (.str sx), x10, none, none, none, none] ∧ Bx M' a row ∧ M' p = some (.lst acc) ∧ (∀ b, b ≠ a → b ≠ p → M' b = M1 b) ∧ acc.length ≤ 7 * done.length + done2.length ∧ (∀ d ∈ acc, okR names d ∧ (fst d ∈ done ∨ (fst d = .str sx ∧ fs2 d ∈ done2))) ∧ acc.Pairwise pLt) ?_ ?_ _ _ _ ⟨[], acc, _, rfl, rfl, hbx, hls, rest, hlen, fun d hd => ⟨(hacc d hd).1, .inl (hacc d hd).2⟩, hap⟩
      · rintro y r2 e M' nx2 ⟨done2, acc, x10, hnm2, rfl, hbx, hls, rest, hlen, hacc, hap⟩ hnx2
        obtain ⟨sy, rfl, hsy⟩ := hn.nm y (by rw [hnm2]; simp)
        have keep : ∀ (M2 : MH) (acc : List D), Bx M2 a row → M2 p = some (.lst acc) → (∀ b, b ≠ a → b ≠ p → M2 b = M1 b) → acc.length ≤ 7 * done.length + done2.length + 1 → (∀ d ∈ acc, okR names d ∧ (fst d ∈ done ∨ (fst d = .str sx ∧ fs2 d ∈ done2 ++ [.str sy]))) → acc.Pairwise pLt →
            nx2 [some (.ref a), some (.int 60), some (.int 7), some (.int 12), some (.int last), some (.lst names), some (.tup ofs), none, some (.ref p), some (.str sx), some (.str sy), none, none, none, none] M2 := by
          intro M2 acc g1 g2 g3 g4 g5 g6
          exact hnx2 _ _ ⟨done2 ++ [.str sy], acc, _, by rw [hnm2]; simp, rfl, g1, g2, g3, by rw [List.length_append, List.length_singleton]; omega, g5, g6⟩
        have hacc' : ∀ d ∈ acc, okR names d ∧ (fst d ∈ done ∨ (fst d = .str sx ∧ fs2 d ∈ done2 ++ [.str sy])) := fun d hd => ⟨(hacc d hd).1, (hacc d hd).2.imp_right fun z => ⟨z.1, List.mem_append_left _ z.2⟩⟩
        refine ⟨_, rfl, ?_⟩
        walk_at "z"
        refine ne3_str ?_
        cases hxy : eqv (.str sx) (.str sy) with
        | true => exact keep _ acc hbx hls rest (by omega) hacc' hap
        | false =>
          refine take_ok hbx (by decide) (by decide) fun i t i0 i1 => ?_
          simp only [gt3]
          have st1 : ∀ t b, b ≠ a → b ≠ p → up M' a (bx row t) b = M1 b := fun t b b1 b2 => by rw [up_ne b1]; exact rest b b1 b2
          have st2 : ∀ t, up M' a (bx row t) p = some (.lst acc) := fun t => by rw [up_ne hpa.symm]; exact hls
          by_cases hi : 0 < i
          · rw [decide_eq_true hi]
            unfold mth3
            walk_at "z"
            have hdl : done.length ≤ 7 := by
              have : names.length = done.length + (r.length + 1) := by rw [hnm, List.length_append, List.length_cons]
              omega
            have hdl2 : done2.length ≤ 7 := by
              have : names.length = done2.length + (r2.length + 1) := by rw [hnm2, List.length_append, List.length_cons]
              omega
            refine ⟨?_, szl, pick_ok (Bx.up hbx.ok) (by simp) (by simp) fun dy t2 hdy => ?_⟩
            · show (match up M' a (bx row t) p with | some (.lst ds) => some ds | _ => none).isSome = true
              rw [st2]; rfl
            · rw [up_up]
              refine take_ok (Bx.up hbx.ok) (by decide) (by decide) fun i2 t3 k0 k1 => ?_
              rw [up_up]
              refine ⟨szl, pick_ok (Bx.up hbx.ok) (by simp) (by simp) fun rm t4 hrm => ?_⟩
              rw [up_up]
              obtain ⟨dy, rfl, dy0, dy1⟩ : ∃ w : Int, dy = .int w ∧ 1 ≤ w ∧ w ≤ 60 := by
                simp only [List.mem_cons, List.not_mem_nil, or_false] at hdy
                rcases hdy with rfl | rfl | rfl | rfl | rfl | rfl <;> exact ⟨_, rfl, by decide, by decide⟩
              obtain ⟨rm, rfl, rm0, rm1⟩ : ∃ w : Int, rm = .int w ∧ 0 ≤ w ∧ w ≤ 1000 := by
                simp only [List.mem_cons, List.not_mem_nil, or_false] at hrm
                rcases hrm with rfl | rfl | rfl | rfl | rfl | rfl | rfl
                · exact ⟨_, rfl, by decide, by decide⟩
                · exact ⟨_, rfl, by decide, by decide⟩
                · exact ⟨_, rfl, by decide, by decide⟩
                · exact ⟨_, rfl, by decide, by decide⟩
                · exact ⟨_, rfl, by decide, by decide⟩
                · exact ⟨_, rfl, by omega, by omega⟩
                · exact ⟨_, rfl, by decide, by decide⟩
              obtain ⟨el, hel⟩ : ∃ el, el = D.tup [.str sx, .str sy, .int dy, .int rm] := ⟨_, rfl⟩
              refine ⟨szl, ?_⟩
              rw [← hel]
              have e : mthA .append (up M' a (bx row t4)) (.ref p) [el] = some (.non, up (up M' a (bx row t4)) p (.lst (acc ++ [el]))) := by
                show (match up M' a (bx row t4) p with
                  | some (.lst ds) => if ds.length < sizeLine then some (D.non, up (up M' a (bx row t4)) p (.lst (ds ++ [el]))) else none
                  | _ => none) = _
                rw [st2]
                exact if_pos (by omega)
              rw [e]
              have hin1 : D.str sx ∈ names := by rw [hnm]; simp
              have hin2 : D.str sy ∈ names := by rw [hnm2]; simp
              refine keep _ (acc ++ [el]) ?_ up_same (fun b b1 b2 => by rw [up_ne b2]; exact st1 _ b b1 b2) (by rw [List.length_append, List.length_singleton]; omega) ?_ ?_
              · exact ⟨hbx.ok, t4, by rw [up_ne hpa, up_same]⟩
              · intro d hd
                rcases List.mem_append.mp hd with hd | hd
                · exact hacc' d hd
                · rw [List.mem_singleton.mp hd, hel]
                  exact ⟨⟨sx, sy, dy, rm, rfl, hin1, hin2, hxy, dy0, dy1, rm0, rm1⟩, .inr ⟨rfl, List.mem_append_right _ (by simp [fs2])⟩⟩
              · rw [List.pairwise_append]
                refine ⟨hap, by simp, fun d hd d' hd' => ?_⟩
                rw [List.mem_singleton.mp hd', hel]
                obtain ⟨⟨u, v, iu, rv, rfl, hu, hv, _⟩, hcase⟩ := hacc d hd
                show ltD (.tup [.str u, .str v]) (.tup [.str sx, .str sy]) = true
                rcases hcase with hc | ⟨hc1, hc2⟩
                · refine pair_lt1 ?_
                  rw [hnm, List.pairwise_append] at hpw
                  exact hpw.2.2 _ hc _ (by simp)
                · have hc1 : D.str u = D.str sx := hc1
                  cases hc1
                  refine pair_lt2 ?_
                  rw [hnm2, List.pairwise_append] at hpw
                  exact hpw.2.2 _ hc2 _ (by simp)
          · rw [decide_eq_false hi]
            exact keep _ acc (Bx.up hbx.ok) (st2 t) (st1 t) (by omega) hacc' hap
      · rintro e M' ⟨done2, acc, x10, hnm2, rfl, hbx, hls, rest, hlen, hacc, hap⟩
        rw [List.append_nil] at hnm2
        refine hnx _ _ ⟨done ++ [.str sx], acc, _, _, by rw [hnm]; simp, rfl, hbx, hls, rest, ?_, fun d hd => ⟨(hacc d hd).1, ?_⟩, hap⟩
        · rw [List.length_append, List.length_singleton]
          have : done2.length ≤ 7 := by rw [← hnm2]; exact n8
          omega
        · rcases (hacc d hd).2 with h | h
          · exact List.mem_append_left _ h
          · rw [h.1]; simp
    · rintro e M' ⟨done, acc, x9, x10, hnm, rfl, hbx, hls, rest, hlen, hacc, hap⟩
      refine tail acc x9 x10 (fun d hd => (hacc d hd).1) (asc_of ?_) M' hbx hls rest
      rw [List.pairwise_map]
      exact hap
    · obtain ⟨h1, t, e⟩ := hb1
      exact ⟨h1, t, by rw [up_ne hpa]; exact e⟩
end K93

namespace K93
open PySem PySem.Spec PyProof.Rows L2 Z
local macro_rules | `(tactic| walk_at "z") => `(tactic| simp only [wpss, wps, wpe, wpt, wpl, wpv, wpb, wpo, wpc, wpp, seq3, next3, brk3, cnt3, drop3, ret3, retN3, if3, asg3, bindT, setAll, par3, sput3, aug3, iadd3, isub3, loc3, con3, op1, op2, tst, chain3, and3, or3, not3, ite3, andV3, orV3, notV3, nil3, cons3, tup3, lst3, lstM3, callG, cstG, nth, call3, opL, c1, c2, ofO, ofO2, Bt.ol, BOp.o2, COp.o2, getE, setE, wipeE, wipeE1, startE, bodyEnds, isi3, tru3, sl3, noP3, part3, iterL, wi, rng1A, rng2A, enumA, List.map_cons, List.map_nil])
theorem good_parts {a b c d e : D} (h : faultD (.tup [a, b, c, d, e]) = .non) : btwB a 0 60 = true ∧ yardsB b = true ∧ coachesB (namesOf b) c = true ∧ sacksB (namesOf b) (lastOf a) d = true ∧ (nmB e && memB e (namesOf b)) = true := by
  rw [faultD_eq] at h
  cases h1 : btwB a 0 60 with
  | false => rw [if_pos h1] at h; cases h
  | true =>
    rw [if_neg (by rw [h1]; simp)] at h
    cases h2 : yardsB b with
    | false => rw [if_pos h2] at h; cases h
    | true =>
      rw [if_neg (by rw [h2]; simp)] at h
      cases h3 : coachesB (namesOf b) c with
      | false => rw [if_pos h3] at h; cases h
      | true =>
        rw [if_neg (by rw [h3]; simp)] at h
        cases h4 : sacksB (namesOf b) (lastOf a) d with
        | false => rw [if_pos h4] at h; cases h
        | true =>
          rw [if_neg (by rw [h4]; simp)] at h
          cases h5 : (nmB e && memB e (namesOf b)) with
          | false => rw [if_pos h5] at h; cases h
          | true => exact ⟨rfl, rfl, rfl, rfl, rfl⟩
theorem pig : ∀ (l m : List Nat), l.Nodup → (∀ x ∈ l, x ∈ m) → l.length ≤ m.length
  | [], m, _, _ => Nat.zero_le _
  | x :: l, m, nd, h => by
    have hx := h x (by simp)
    rw [List.nodup_cons] at nd
    have := pig l (m.erase x) nd.2 fun y hy => (List.mem_erase_of_ne (fun e => nd.1 (by rw [← e]; exact hy))).mpr (h y (List.mem_cons_of_mem _ hy))
    rw [List.length_erase_of_mem hx] at this
    have : 0 < m.length := List.length_pos_of_mem hx
    rw [List.length_cons]
    omega
def strangers : Str := "qrstuvwxyz"
theorem strangers_eq : strangers.cps.toList = [113, 114, 115, 116, 117, 118, 119, 120, 121, 122] := by decide +kernel
def catD (one : Str) : D → D | .str c => .str (c ++ cutS one none (some 11)) | _ => .non
def fc : D → Nat | .str s => s.cps.toList.headD 0 | _ => 0
theorem one_cut {one : Str} (h : nmS one = true) : (∀ c ∈ (cutS one none (some 11)).cps.toList, 97 ≤ c ∧ c ≤ 122) ∧ (cutS one none (some 11)).length ≤ 11 := by
  unfold nmS at h
  simp only [Bool.and_eq_true, decide_eq_true_eq, List.all_eq_true] at h
  unfold cutS
  rw [HT.sIx_none, show HT.sIx one.length one.length (some 11) = min 11 one.length from HT.sIx_nat one.length one.length 11]
  simp only [List.toList_toArray, List.drop_zero, Nat.sub_zero]
  refine ⟨fun c hc => h.2 c (List.mem_of_mem_take hc), ?_⟩
  show (List.take (min 11 one.length) one.cps.toList).toArray.size ≤ 11
  rw [List.size_toArray, List.length_take]
  omega
theorem cat_nm {one : Str} {c : Nat} (h : nmS one = true) (hc : c ∈ strangers.cps.toList) : nmS ((⟨#[c]⟩ : Str) ++ cutS one none (some 11)) = true := by
  obtain ⟨h1, h2⟩ := one_cut h
  have hl : ((⟨#[c]⟩ : Str) ++ cutS one none (some 11)).length = 1 + (cutS one none (some 11)).length := by
    rw [slen, cps_app, List.length_append, ← slen (cutS one none (some 11))]; rfl
  rw [strangers_eq] at hc
  unfold nmS
  rw [decide_eq_true (by omega), decide_eq_true (by omega), Bool.true_and, Bool.true_and, List.all_eq_true, cps_app]
  intro d hd
  have : 97 ≤ d ∧ d ≤ 122 := by
    rcases List.mem_append.mp hd with hd | hd
    · have hd : d = c := by simpa using hd
      subst hd
      simp only [List.mem_cons, List.not_mem_nil, or_false] at hc
      omega
    · exact h1 d hd
  rw [decide_eq_true this.1, decide_eq_true this.2]; rfl
/-- some letter makes a name that is no office's -/
theorem stranger_is {names : List D} {one : Str} (h8 : names.length ≤ 8) : ∃ c ∈ strangers.cps.toList, memB (catD one (.str ⟨#[c]⟩)) names = false := by
  apply Classical.byContradiction
  intro hno
  have hall : ∀ c ∈ strangers.cps.toList, memB (catD one (.str ⟨#[c]⟩)) names = true := by
    intro c hc
    cases q : memB (catD one (.str ⟨#[c]⟩)) names with
    | true => rfl
    | false => exact absurd ⟨c, hc, q⟩ hno
  have := pig strangers.cps.toList (names.map fc) (by rw [strangers_eq]; decide) fun c hc => by
    have h := hall c hc
    obtain ⟨z, hz, he⟩ := List.any_eq_true.mp h
    refine List.mem_map.mpr ⟨z, hz, ?_⟩
    cases z with
    | str s =>
      have he : (s == (⟨#[c]⟩ : Str) ++ cutS one none (some 11)) = true := he
      rw [beq_iff_eq] at he
      rw [he]
      show (((⟨#[c]⟩ : Str) ++ cutS one none (some 11)).cps.toList).headD 0 = c
      rw [cps_app]; rfl
    | _ => exact absurd he Bool.false_ne_true
  rw [strangers_eq, List.length_map] at this
  have h10 : ([113, 114, 115, 116, 117, 118, 119, 120, 121, 122] : List Nat).length = 10 := rfl
  omega
end K93

namespace K93
open PySem PySem.Spec PyProof.Rows L2 Z
structure Wf (names : List D) (last : Int) (x1 x2 s : Str) : Prop where
  n1 : nmS x1 = true
  n2 : nmS x2 = true
  ns : nmS s = true
  m1 : memB (.str x1) names = true
  m2 : memB (.str x2) names = true
  ms : memB (.str s) names = false
  e12 : eqv (.str x1) (.str x2) = false
  lt : ltD (.str x1) (.str x2) = true
  l0 : 0 ≤ last
  l1 : last < 60
theorem dp_tup {ds : List D} : dpl (.tup ds) = ds.all dpl := dplL_all ds
theorem dp_lst {ds : List D} : dpl (.lst ds) = ds.all dpl := dplL_all ds
theorem dp_int {i : Int} : dpl (.int i) = true := rfl
theorem dp_bl {i : Bool} : dpl (.bl i) = true := rfl
theorem dp_non : dpl .non = true := rfl
theorem dp_c1 : dpl (.str "3") = true := by decide +kernel
theorem dp_c2 : dpl (.str "any") = true := by decide +kernel
theorem dp_c3 : dpl (.str "") = true := by decide +kernel
theorem dp_c4 : dpl (.str "Ab") = true := by decide +kernel
theorem dp_c5 : dpl (.str "a_") = true := by decide +kernel
theorem dp_c6 : dpl (.str "abcdefghijklm") = true := by decide +kernel
theorem dp_c7 : dpl (.str "0") = true := by decide +kernel
theorem nm_c3 : nmS "" = false := by decide +kernel
theorem nm_c4 : nmS "Ab" = false := by decide +kernel
theorem nm_c5 : nmS "a_" = false := by decide +kernel
theorem nm_c6 : nmS "abcdefghijklm" = false := by decide +kernel
theorem yards_eq {ds : List D} : yardsB (.tup ds) = (decide (1 ≤ ds.length) && decide (ds.length ≤ 8) && ds.all yardB && ascB (ds.map fst)) := rfl
theorem coaches_eq {names ds : List D} : coachesB names (.tup ds) = (decide (ds.length ≤ 30) && ds.all (coachB names) && ascB (ds.map cut2)) := rfl
theorem sacks_eq {names : List D} {last : Int} {ds : List D} : sacksB names last (.tup ds) = (decide (ds.length ≤ 100) && ds.all (handB names last) && ascB (ds.map cut2)) := rfl
theorem nmB_s {x : Str} : nmB (.str x) = nmS x := rfl
theorem btw_int {i l h : Int} : btwB (.int i) l h = (decide (l ≤ i) && decide (i ≤ h)) := rfl
theorem lt_irr {x : Str} : ltD (.str x) (.str x) = false := by
  show decide (x.cps.toList < x.cps.toList) = false
  exact decide_eq_false (List.lt_irrefl _)
theorem lt_asy {x y : Str} (h : ltD (.str x) (.str y) = true) : ltD (.str y) (.str x) = false := by
  cases q : ltD (.str y) (.str x) with
  | false => rfl
  | true => exact absurd (lt_str_trans h q) (by rw [lt_irr]; simp)
theorem eqv_self {x : Str} : eqv (.str x) (.str x) = true := beq_self_eq_true x
theorem eqv_sym {x y : Str} : eqv (.str x) (.str y) = eqv (.str y) (.str x) := by
  show (x == y) = (y == x)
  exact Bool.beq_comm
theorem ltL_pair {a b : Str} {c d : D} : ltD (.tup [.str a, c]) (.tup [.str b, d]) = if eqv (.str a) (.str b) = true then (if eqv c d = true then false else ltD c d) else ltD (.str a) (.str b) := by
  show ltL [.str a, c] [.str b, d] = _
  unfold ltL
  split
  · unfold ltL
    split
    · unfold ltL; rfl
    · rfl
  · rfl
theorem ltI {i j : Int} : ltD (.int i) (.int j) = decide (i < j) := rfl
theorem eqI {i j : Int} : eqv (.int i) (.int j) = (i == j) := rfl
section
variable {names : List D} {last : Int} {x1 x2 s : Str}
def w0 : List D := [.int (0 - 1), .int 61, .bl true, .bl false, .non, .str "3", .tup [.int 3]]
theorem w0_ok : ∀ v ∈ w0, dpl v = true ∧ wrongAt names last 0 v = true := by
  intro v hv
  simp only [w0, List.mem_cons, List.not_mem_nil, or_false] at hv
  rcases hv with rfl | rfl | rfl | rfl | rfl | rfl | rfl <;> exact ⟨by decide +kernel, by rfl⟩
def manyD : D := .tup (("abcdefghi" : Str).cps.toList.map fun c => .tup [.str ⟨#[c]⟩, .non])
def w1 (x1 x2 : Str) : List D := [.tup [], manyD, .tup [.tup [.str x1, .int 1], .tup [.str x1, .int 1]], .tup [.tup [.str x2, .int 1], .tup [.str x1, .int 1]], .tup [.tup [.str x1, .int (0 - 1)]], .tup [.tup [.str x1, .int 1001]], .tup [.tup [.str x1, .bl true]], .tup [.tup [.str x1, .str "any"]], .tup [.tup [.str x1]], .non]
theorem w1_ok (h : Wf names last x1 x2 s) : ∀ v ∈ w1 x1 x2, dpl v = true ∧ wrongAt names last 1 v = true := by
  intro v hv
  have d1 := nm_dpl h.n1
  have d2 := nm_dpl h.n2
  have g := lt_asy h.lt
  simp only [w1, List.mem_cons, List.not_mem_nil, or_false] at hv
  rcases hv with rfl | rfl | rfl | rfl | rfl | rfl | rfl | rfl | rfl | rfl
  · exact ⟨by rfl, by rfl⟩
  · exact ⟨by decide +kernel, show (!yardsB manyD) = true by decide +kernel⟩
  all_goals refine ⟨by simp [dp_tup, dp_int, dp_bl, dp_non, dp_c2, d1, d2], ?_⟩
  all_goals simp [wrongAt, yards_eq, yardB, nmB_s, Z.isNon, btwB, fst, ascB, lt_irr, g, h.n1, h.n2]
  rfl
def w1b (x1 : Str) : List D := [.tup [.tup [.str x1, .int 1, .int 1]], .tup [.tup [.str "", .int 1]], .tup [.tup [.str "Ab", .int 1]], .tup [.tup [.str "a_", .int 1]], .tup [.tup [.str "abcdefghijklm", .int 1]], .lst [.tup [.str x1, .int 1]], .tup [.lst [.str x1, .int 1]], .tup [.tup [.int 1, .int 1]]]
theorem w1b_ok (h : Wf names last x1 x2 s) : ∀ v ∈ w1b x1, dpl v = true ∧ wrongAt names last 1 v = true := by
  intro v hv
  have d1 := nm_dpl h.n1
  simp only [w1b, List.mem_cons, List.not_mem_nil, or_false] at hv
  rcases hv with rfl | rfl | rfl | rfl | rfl | rfl | rfl | rfl
  all_goals refine ⟨by simp [dp_tup, dp_lst, dp_int, dp_bl, dp_non, dp_c3, dp_c4, dp_c5, dp_c6, d1], ?_⟩
  all_goals first | rfl | simp [wrongAt, yards_eq, yardB, nmB_s, nmB, nm_c3, nm_c4, nm_c5, nm_c6]
def roadD (x1 x2 : Str) : D := .tup [.str x1, .str x2, .int 1, .int 1]
def w2 (x1 x2 s : Str) : List D := [.tup [roadD x1 x2, roadD x1 x2], .tup [.tup [.str x2, .str x1, .int 1, .int 1], roadD x1 x2], .tup [.tup [.str x1, .str x1, .int 1, .int 1]], .tup [.tup [.str x1, .str s, .int 1, .int 1]], .tup [.tup [.str s, .str x2, .int 1, .int 1]], .lst [roadD x1 x2], .non, .tup [.tup [.str x1, .str x2, .int 1]]]
theorem w2_ok (h : Wf names last x1 x2 s) : ∀ v ∈ w2 x1 x2 s, dpl v = true ∧ wrongAt names last 2 v = true := by
  intro v hv
  have d1 := nm_dpl h.n1
  have d2 := nm_dpl h.n2
  have ds := nm_dpl h.ns
  have g := lt_asy h.lt
  have e21 : eqv (.str x2) (.str x1) = false := by rw [eqv_sym]; exact h.e12
  simp only [w2, List.mem_cons, List.not_mem_nil, or_false] at hv
  rcases hv with rfl | rfl | rfl | rfl | rfl | rfl | rfl | rfl
  all_goals refine ⟨by simp [roadD, dp_tup, dp_lst, dp_int, dp_bl, dp_non, d1, d2, ds], ?_⟩
  all_goals first | rfl | simp [wrongAt, roadD, coaches_eq, coachB, nmB_s, btw_int, cut2, ascB, ltL_pair, eqv_self, lt_irr, g, e21, h.e12, h.n1, h.n2, h.ns, h.m1, h.m2, h.ms]
def w2b (x1 x2 : Str) : List D := [.tup [.str x1, .str x2, .int 0, .int 1], .tup [.str x1, .str x2, .int 61, .int 1], .tup [.str x1, .str x2, .bl true, .int 1], .tup [.str x1, .str x2, .int 1, .int (0 - 1)], .tup [.str x1, .str x2, .int 1, .int 1001], .tup [.str x1, .str x2, .int 1, .non], .tup [.str x1, .str x2, .int 1, .bl true]]
theorem w2b_ok (h : Wf names last x1 x2 s) : ∀ v ∈ w2b x1 x2, dpl (.tup [v]) = true ∧ wrongAt names last 2 (.tup [v]) = true := by
  intro v hv
  have d1 := nm_dpl h.n1
  have d2 := nm_dpl h.n2
  simp only [w2b, List.mem_cons, List.not_mem_nil, or_false] at hv
  rcases hv with rfl | rfl | rfl | rfl | rfl | rfl | rfl
  all_goals refine ⟨by simp [dp_tup, dp_lst, dp_int, dp_bl, dp_non, d1, d2], ?_⟩
  all_goals simp [wrongAt, coaches_eq, coachB, btwB]
def w3 (last : Int) (x1 x2 s : Str) : List D := [.tup [.tup [.str x1, .int 0, .int 1], .tup [.str x1, .int 0, .int 1]], .tup [.tup [.str x2, .int 0, .int 1], .tup [.str x1, .int 0, .int 1]], .tup [.tup [.str s, .int 0, .int 1]], .tup [.tup [.str x1, .int (last + 1), .int 1]], .tup [.tup [.str x1, .int (0 - 1), .int 1]], .tup [.tup [.str x1, .int 0, .int 0]], .tup [.tup [.str x1, .int 0, .int 1001]], .lst [.tup [.str x1, .int 0, .int 1]]]
theorem w3_ok (h : Wf names last x1 x2 s) : ∀ v ∈ w3 last x1 x2 s, dpl v = true ∧ wrongAt names last 3 v = true := by
  intro v hv
  have d1 := nm_dpl h.n1
  have d2 := nm_dpl h.n2
  have ds := nm_dpl h.ns
  have g := lt_asy h.lt
  have l0 := h.l0
  have e21 : eqv (.str x2) (.str x1) = false := by rw [eqv_sym]; exact h.e12
  simp only [w3, List.mem_cons, List.not_mem_nil, or_false] at hv
  rcases hv with rfl | rfl | rfl | rfl | rfl | rfl | rfl | rfl
  all_goals refine ⟨by simp [dp_tup, dp_lst, dp_int, dp_bl, dp_non, d1, d2, ds], ?_⟩
  all_goals first | rfl | simp [wrongAt, sacks_eq, handB, btw_int, cut2, ascB, ltL_pair, eqv_self, eqI, ltI, lt_irr, g, e21, h.ms, show ¬ last + 1 ≤ last by omega]
def w3b (x1 : Str) : List D := [.tup [.tup [.str x1, .bl false, .int 1]], .tup [.tup [.str x1, .int 0, .bl true]], .tup [.tup [.str x1, .int 0]], .tup [.tup [.str x1, .int 0, .int 1, .int 1]], .tup [.tup [.str x1, .str "0", .int 1]], .tup [.lst [.str x1, .int 0, .int 1]], .non, .tup [.tup [.str x1, .int 1, .int 1], .tup [.str x1, .int 0, .int 1]]]
theorem w3b_ok (h : Wf names last x1 x2 s) : ∀ v ∈ w3b x1, dpl v = true ∧ wrongAt names last 3 v = true := by
  intro v hv
  have d1 := nm_dpl h.n1
  simp only [w3b, List.mem_cons, List.not_mem_nil, or_false] at hv
  rcases hv with rfl | rfl | rfl | rfl | rfl | rfl | rfl | rfl
  all_goals refine ⟨by simp [dp_tup, dp_lst, dp_int, dp_bl, dp_non, dp_c7, d1], ?_⟩
  all_goals first | rfl | simp [wrongAt, sacks_eq, handB, btwB, cut2, ascB, ltL_pair, eqv_self, eqI, ltI]
def w4 (x1 s : Str) : List D := [.str s, .str "", .non, .int 0, .bl true, .lst [.str x1], .tup [.str x1], .str "Ab"]
theorem w4_ok (h : Wf names last x1 x2 s) : ∀ v ∈ w4 x1 s, dpl v = true ∧ wrongAt names last 4 v = true := by
  intro v hv
  have d1 := nm_dpl h.n1
  have ds := nm_dpl h.ns
  simp only [w4, List.mem_cons, List.not_mem_nil, or_false] at hv
  rcases hv with rfl | rfl | rfl | rfl | rfl | rfl | rfl | rfl
  all_goals refine ⟨by simp [dp_tup, dp_lst, dp_int, dp_bl, dp_non, dp_c3, dp_c4, d1, ds], ?_⟩
  all_goals first | rfl | simp [wrongAt, nmB_s, nm_c3, nm_c4, h.ms]
end
end K93

namespace K93
open PySem PySem.Spec PyProof.Rows L2 Z
local macro_rules | `(tactic| walk_at "z") => `(tactic| simp only [wpss, wps, wpe, wpt, wpl, wpv, wpb, wpo, wpc, wpp, seq3, next3, brk3, cnt3, drop3, ret3, retN3, if3, asg3, bindT, setAll, par3, sput3, aug3, iadd3, isub3, loc3, con3, op1, op2, tst, chain3, and3, or3, not3, ite3, andV3, orV3, notV3, nil3, cons3, tup3, lst3, lstM3, callG, cstG, nth, call3, opL, c1, c2, ofO, ofO2, Bt.ol, BOp.o2, COp.o2, getE, setE, wipeE, wipeE1, startE, bodyEnds, isi3, tru3, sl3, noP3, part3, iterL, wi, rng1A, rng2A, enumA, List.map_cons, List.map_nil])
/-- rows of one place, put at the end of the list -/
theorem rows_in {body : TS3} {Z0 : Ends3} {M1 : MH} {p : Addr} {names : List D} {last : Int} {E0 : Option D → En} (kk : Nat) (hk : kk < 5) (g : D → D) (items acc : List D) (e : En) (M : MH)
    (hv : ∀ v ∈ items, dpl (g v) = true ∧ wrongAt names last kk (g v) = true) (hlen : acc.length + items.length ≤ 1000) (hacc : ∀ d ∈ acc, WrongP names last d) (he : ∃ x, e = E0 x) (hM : M = up M1 p (.lst acc))
    (hset : ∀ x d, setE (E0 x) 14 d = E0 (some d))
    (step : ∀ v ∈ items, ∀ acc (nx : En → MH → Prop), acc.length < 1000 → nx (E0 (some v)) (up M1 p (.lst (acc ++ [.tup [.int kk, g v]]))) → body { nx := nx, rt := Z0.rt, bk := Z0.nx, ct := nx } (E0 (some v)) (up M1 p (.lst acc)))
    (done : ∀ acc' x, acc'.length = acc.length + items.length → (∀ d ∈ acc', WrongP names last d) → Z0.nx (E0 x) (up M1 p (.lst acc'))) : turns3 (.nm 14) body Z0 items e M := by
  have hfl : ∀ xs : List D, (xs.flatMap fun v => [D.tup [.int kk, g v]]) = xs.map fun v => D.tup [.int kk, g v] := flat_one _
  refine turns_acc (R := fun acc e M' => M' = up M1 p (.lst acc) ∧ (∃ x, e = E0 x) ∧ ∀ d ∈ acc, WrongP names last d) (fun v => [.tup [.int kk, g v]]) 1 1000 items acc e M (fun _ _ => Nat.le_refl _) (by omega) (fun v hv2 acc e M' nx hB hR hnx => ?_) ⟨hM, he, hacc⟩ (fun e' M' hR => ?_)
  · obtain ⟨rfl, ⟨x, rfl⟩, h3⟩ := hR
    refine ⟨E0 (some v), by show some (setE (E0 x) 14 v) = _; rw [hset], step v hv2 acc nx (by omega) (hnx _ _ ⟨rfl, ⟨_, rfl⟩, fun d hd => ?_⟩)⟩
    rcases List.mem_append.mp hd with hd | hd
    · exact h3 d hd
    · rw [List.mem_singleton.mp hd]
      exact ⟨kk, g v, rfl, hk, hv v hv2⟩
  · obtain ⟨rfl, ⟨x, rfl⟩, h3⟩ := hR
    exact done _ x (by rw [hfl, List.length_append, List.length_map]) h3
theorem loop_row {G : GT} {E : X3} {D0 : Ends3} {R : List Sx} {es : List Ex} {gEx : Ex} {M : MH} {p : Addr} {names : List D} {last : Int} {E0 : Option D → En} {x14 : Option D} (kk : Nat) (hk : kk < 5) (g : D → D) (items acc : List D)
    (hv : ∀ v ∈ items, dpl (g v) = true ∧ wrongAt names last kk (g v) = true) (hlen : acc.length + items.length ≤ 1000) (hacc : ∀ d ∈ acc, WrongP names last d) (hset : ∀ x d, setE (E0 x) 14 d = E0 (some d)) (h13 : ∀ x, getE (E0 x) 13 = some (.ref p))
    (hes : ∀ (M' : MH) (Q' : List D → MH → Prop), Q' items M' → wpl G es E (E0 x14) M' Q') (hg : ∀ v (M' : MH) (Q' : Q3), Q' (g v) M' → wpe G gEx E (E0 (some v)) M' Q')
    (next : ∀ acc' x, acc'.length = acc.length + items.length → (∀ d ∈ acc', WrongP names last d) → wpss G E R D0 (E0 x) (up M p (.lst acc'))) :
    wpss G E (.fors (.nm 14) .seq [.lst false es] [.expr (.mth .append (.loc 13) (.tup [.int kk, gEx]) [])] :: R) D0 (E0 x14) (up M p (.lst acc)) := by
  have z1 : 100000 < sizeLine := by decide
  simp only [wpss, wps, seq3, for3, wi, wpl, cons3, nil3, iterL, wpe, lst3]
  refine hes _ _ ⟨by omega, ?_⟩
  simp only [itemsA]
  refine rows_in (E0 := E0) kk hk g items acc _ _ hv hlen hacc ⟨_, rfl⟩ rfl hset (fun v hv2 acc nx hl h => ?_) (fun acc' x h1 h2 => next acc' x h1 h2)
  simp only [drop3]
  refine app_ok (h13 _) (x := .tup [.int kk, g v]) (fun k hk => ?_) up_same (by omega) ?_
  · simp only [cons3, nil3, tup3, con3]
    exact hg v _ _ ⟨szl, hk⟩
  · rw [up_up]
    exact h
section
variable {Q : Q3} {E : X3} {M : MH} {p : Addr} {names offices roads sacks : List D} {last : Int} {goal b : D} {x1 x2 s : Str}
def envW (p : Addr) (names offices roads sacks : List D) (last : Int) (goal b : D) (x1 x2 s : Str) (x15 x17 x18 : Option D) (x14 : Option D) : En :=
  [some b, some (.tup [.int last, .tup offices, .tup roads, .tup sacks, goal]), some (.int last), some (.tup offices), some (.tup roads), some (.tup sacks), some goal, some (.str x1), some (.str x2), some (.lst names), none, some (.str s), none, some (.ref p), x14, x15, none, x17, x18]
theorem wrong_end (hp : M p = none) (wf : Wf names last x1 x2 s) (q : ∀ ws, ws ≠ [] → ws.length ≤ 1000 → (∀ w ∈ ws, WrongP names last w) → Q (.lst ws) M) {acc : List D} {x15 x17 x18 x14} (hl : acc.length ≤ 500) (ha : ∀ d ∈ acc, WrongP names last d) :
    wpss G_law_wrong E (B_law_wrong.drop 14) (bodyEnds Q) (envW p names offices roads sacks last goal b x1 x2 s x15 x17 x18 x14) (up M p (.lst acc)) := by
  have z1 : 100000 < sizeLine := by decide
  unfold B_law_wrong envW
  simp only [List.drop_succ_cons, List.drop_zero]
  walk_at "z"
  refine comp3_map (items := w4 x1 s) (fun v => .tup [.int 4, v]) (fun k hk => ?_) (fun d hd => ⟨_, rfl, fun p l hp k hk => ?_⟩) ?_
  · walk_at "z"
    exact ⟨szl, szl, szl, hk⟩
  · walk_at "z"
    exact ⟨szl, hk⟩
  · have e1 : exL (up M p (.lst acc)) (.ref p) = some acc := by
      show (match up M p (.lst acc) p with | some (.lst ds) => some ds | _ => none) = _
      rw [up_same]
    have : add3 (.ref p) (.lst ((w4 x1 s).map fun v => .tup [.int 4, v])) (up M p (.lst acc)) (RT Q) := by
      show match exL (up M p (.lst acc)) (.ref p), exL (up M p (.lst acc)) (.lst ((w4 x1 s).map fun v => .tup [.int 4, v])) with
        | some a, some b => a.length + b.length ≤ sizeLine ∧ RT Q (.lst (a ++ b)) (up M p (.lst acc))
        | _, _ => False
      rw [e1]
      show acc.length + ((w4 x1 s).map fun v => D.tup [.int 4, v]).length ≤ sizeLine ∧ RT Q (.lst (acc ++ (w4 x1 s).map fun v => D.tup [.int 4, v])) (up M p (.lst acc))
      have h8 : ((w4 x1 s).map fun v => D.tup [.int 4, v]).length = 8 := by rw [List.length_map]; rfl
      refine ⟨by omega, rt_sub (M' := M) (Sub.up hp) (q _ ?_ (by rw [List.length_append]; omega) fun d hd => ?_)⟩
      · intro z
        have := congrArg List.length z
        rw [List.length_append, h8] at this
        simp at this
      · rcases List.mem_append.mp hd with hd | hd
        · exact ha d hd
        · obtain ⟨v, hv, rfl⟩ := List.mem_map.mp hd
          obtain ⟨g1, g2⟩ := w4_ok wf v hv
          exact ⟨4, v, rfl, by decide, g1, g2⟩
    exact this
theorem wrong_13 (hp : M p = none) (wf : Wf names last x1 x2 s) (q : ∀ ws, ws ≠ [] → ws.length ≤ 1000 → (∀ w ∈ ws, WrongP names last w) → Q (.lst ws) M) {acc : List D} {x15 x17 x18 x14} (hl : acc.length ≤ 400) (ha : ∀ d ∈ acc, WrongP names last d) :
    wpss G_law_wrong E (B_law_wrong.drop 13) (bodyEnds Q) (envW p names offices roads sacks last goal b x1 x2 s x15 x17 x18 x14) (up M p (.lst acc)) := by
  have h8 : (w3b x1).length = 8 := rfl
  refine loop_row (E0 := envW p names offices roads sacks last goal b x1 x2 s x15 x17 x18) (R := B_law_wrong.drop 14) 3 (by decide) id (w3b x1) acc (w3b_ok wf) (by omega) ha (fun _ _ => rfl) (fun _ => rfl) (fun M' Q' h => ?_) (fun v M' Q' h => ?_) (fun acc' x h1 h2 => wrong_end hp wf q (by omega) h2)
  · unfold envW
    walk_at "z"
    repeat (first | exact h | refine ⟨szl, ?_⟩)
  · unfold envW
    walk_at "z"
    exact h
theorem wrong_12 (hp : M p = none) (wf : Wf names last x1 x2 s) (q : ∀ ws, ws ≠ [] → ws.length ≤ 1000 → (∀ w ∈ ws, WrongP names last w) → Q (.lst ws) M) {acc : List D} {x15 : Option D} {x17 : Option D} {x14 : Option D} (hl : acc.length ≤ 390) (ha : ∀ d ∈ acc, WrongP names last d) :
    wpss G_law_wrong E (B_law_wrong.drop 12) (bodyEnds Q) (envW p names offices roads sacks last goal b x1 x2 s x15 x17 (some (.tup [.str x1, .int 0, .int 1])) x14) (up M p (.lst acc)) := by
  have h8 : (w3 last x1 x2 s).length = 8 := rfl
  refine loop_row (E0 := envW p names offices roads sacks last goal b x1 x2 s x15 x17 (some (.tup [.str x1, .int 0, .int 1]))) (R := B_law_wrong.drop 13) 3 (by decide) id (w3 last x1 x2 s) acc (w3_ok wf) (by omega) ha (fun _ _ => rfl) (fun _ => rfl) (fun M' Q' h => ?_) (fun v M' Q' h => ?_) (fun acc' x h1 h2 => wrong_13 hp wf q (by omega) h2)
  · unfold envW
    walk_at "z"
    simp only [add3, sub3]
    repeat (first | exact h | refine ⟨szl, ?_⟩)
  · unfold envW
    walk_at "z"
    exact h
theorem wrong_11 (hp : M p = none) (wf : Wf names last x1 x2 s) (q : ∀ ws, ws ≠ [] → ws.length ≤ 1000 → (∀ w ∈ ws, WrongP names last w) → Q (.lst ws) M) {acc : List D} {x15 : Option D} {x17 : Option D} {x18 : Option D} {x14 : Option D} (hl : acc.length ≤ 390) (ha : ∀ d ∈ acc, WrongP names last d) :
    wpss G_law_wrong E (B_law_wrong.drop 11) (bodyEnds Q) (envW p names offices roads sacks last goal b x1 x2 s x15 x17 x18 x14) (up M p (.lst acc)) := by
  have nxt := wrong_12 (offices := offices) (roads := roads) (sacks := sacks) (goal := goal) (b := b) (E := E) (x15 := x15) (x17 := x17) (x14 := x14) hp wf q (acc := acc) (by omega) ha
  obtain ⟨R, hR⟩ : ∃ R, R = B_law_wrong.drop 12 := ⟨_, rfl⟩
  have hB : B_law_wrong.drop 11 = _ :: B_law_wrong.drop 12 := rfl
  rw [← hR] at hB nxt
  rw [hB]
  clear hB hR
  unfold envW at nxt ⊢
  walk_at "z"
  exact ⟨szl, nxt⟩
theorem wrong_10 (hp : M p = none) (wf : Wf names last x1 x2 s) (q : ∀ ws, ws ≠ [] → ws.length ≤ 1000 → (∀ w ∈ ws, WrongP names last w) → Q (.lst ws) M) {acc : List D} {x15 : Option D} {x17 : Option D} {x18 : Option D} {x14 : Option D} (hl : acc.length ≤ 380) (ha : ∀ d ∈ acc, WrongP names last d) :
    wpss G_law_wrong E (B_law_wrong.drop 10) (bodyEnds Q) (envW p names offices roads sacks last goal b x1 x2 s x15 x17 x18 x14) (up M p (.lst acc)) := by
  have h8 : (w2b x1 x2).length = 7 := rfl
  refine loop_row (E0 := envW p names offices roads sacks last goal b x1 x2 s x15 x17 x18) (R := B_law_wrong.drop 11) 2 (by decide) (fun v => .tup [v]) (w2b x1 x2) acc (w2b_ok wf) (by omega) ha (fun _ _ => rfl) (fun _ => rfl) (fun M' Q' h => ?_) (fun v M' Q' h => ?_) (fun acc' x h1 h2 => wrong_11 hp wf q (by omega) h2)
  · unfold envW
    walk_at "z"
    simp only [sub3]
    repeat (first | exact h | refine ⟨szl, ?_⟩)
  · unfold envW
    walk_at "z"
    exact ⟨szl, h⟩
theorem wrong_9 (hp : M p = none) (wf : Wf names last x1 x2 s) (q : ∀ ws, ws ≠ [] → ws.length ≤ 1000 → (∀ w ∈ ws, WrongP names last w) → Q (.lst ws) M) {acc : List D} {x15 : Option D} {x18 : Option D} {x14 : Option D} (hl : acc.length ≤ 370) (ha : ∀ d ∈ acc, WrongP names last d) :
    wpss G_law_wrong E (B_law_wrong.drop 9) (bodyEnds Q) (envW p names offices roads sacks last goal b x1 x2 s x15 (some (roadD x1 x2)) x18 x14) (up M p (.lst acc)) := by
  have h8 : (w2 x1 x2 s).length = 8 := rfl
  refine loop_row (E0 := envW p names offices roads sacks last goal b x1 x2 s x15 (some (roadD x1 x2)) x18) (R := B_law_wrong.drop 10) 2 (by decide) id (w2 x1 x2 s) acc (w2_ok wf) (by omega) ha (fun _ _ => rfl) (fun _ => rfl) (fun M' Q' h => ?_) (fun v M' Q' h => ?_) (fun acc' x h1 h2 => wrong_10 hp wf q (by omega) h2)
  · unfold envW
    walk_at "z"
    repeat (first | exact h | refine ⟨szl, ?_⟩)
  · unfold envW
    walk_at "z"
    exact h
theorem wrong_8 (hp : M p = none) (wf : Wf names last x1 x2 s) (q : ∀ ws, ws ≠ [] → ws.length ≤ 1000 → (∀ w ∈ ws, WrongP names last w) → Q (.lst ws) M) {acc : List D} {x15 : Option D} {x17 : Option D} {x18 : Option D} {x14 : Option D} (hl : acc.length ≤ 370) (ha : ∀ d ∈ acc, WrongP names last d) :
    wpss G_law_wrong E (B_law_wrong.drop 8) (bodyEnds Q) (envW p names offices roads sacks last goal b x1 x2 s x15 x17 x18 x14) (up M p (.lst acc)) := by
  have nxt := wrong_9 (offices := offices) (roads := roads) (sacks := sacks) (goal := goal) (b := b) (E := E) (x15 := x15) (x18 := x18) (x14 := x14) hp wf q (acc := acc) (by omega) ha
  obtain ⟨R, hR⟩ : ∃ R, R = B_law_wrong.drop 9 := ⟨_, rfl⟩
  have hB : B_law_wrong.drop 8 = _ :: B_law_wrong.drop 9 := rfl
  rw [← hR] at hB nxt
  rw [hB]
  clear hB hR
  unfold envW at nxt ⊢
  walk_at "z"
  exact ⟨szl, nxt⟩
theorem wrong_7 (hp : M p = none) (wf : Wf names last x1 x2 s) (q : ∀ ws, ws ≠ [] → ws.length ≤ 1000 → (∀ w ∈ ws, WrongP names last w) → Q (.lst ws) M) {acc : List D} {x15 : Option D} {x17 : Option D} {x18 : Option D} {x14 : Option D} (hl : acc.length ≤ 360) (ha : ∀ d ∈ acc, WrongP names last d) :
    wpss G_law_wrong E (B_law_wrong.drop 7) (bodyEnds Q) (envW p names offices roads sacks last goal b x1 x2 s x15 x17 x18 x14) (up M p (.lst acc)) := by
  have h8 : (w1b x1).length = 8 := rfl
  refine loop_row (E0 := envW p names offices roads sacks last goal b x1 x2 s x15 x17 x18) (R := B_law_wrong.drop 8) 1 (by decide) id (w1b x1) acc (w1b_ok wf) (by omega) ha (fun _ _ => rfl) (fun _ => rfl) (fun M' Q' h => ?_) (fun v M' Q' h => ?_) (fun acc' x h1 h2 => wrong_8 hp wf q (by omega) h2)
  · unfold envW
    walk_at "z"
    repeat (first | exact h | refine ⟨szl, ?_⟩)
  · unfold envW
    walk_at "z"
    exact h
theorem wrong_6 (hp : M p = none) (wf : Wf names last x1 x2 s) (q : ∀ ws, ws ≠ [] → ws.length ≤ 1000 → (∀ w ∈ ws, WrongP names last w) → Q (.lst ws) M) {acc : List D} {x17 : Option D} {x18 : Option D} {x14 : Option D} (hl : acc.length ≤ 350) (ha : ∀ d ∈ acc, WrongP names last d) :
    wpss G_law_wrong E (B_law_wrong.drop 6) (bodyEnds Q) (envW p names offices roads sacks last goal b x1 x2 s (some manyD) x17 x18 x14) (up M p (.lst acc)) := by
  have h8 : (w1 x1 x2).length = 10 := rfl
  refine loop_row (E0 := envW p names offices roads sacks last goal b x1 x2 s (some manyD) x17 x18) (R := B_law_wrong.drop 7) 1 (by decide) id (w1 x1 x2) acc (w1_ok wf) (by omega) ha (fun _ _ => rfl) (fun _ => rfl) (fun M' Q' h => ?_) (fun v M' Q' h => ?_) (fun acc' x h1 h2 => wrong_7 hp wf q (by omega) h2)
  · unfold envW
    walk_at "z"
    simp only [sub3]
    repeat (first | exact h | refine ⟨szl, ?_⟩)
  · unfold envW
    walk_at "z"
    exact h
end
end K93

namespace K93
open PySem PySem.Spec PyProof.Rows L2 Z
local macro_rules | `(tactic| walk_at "z") => `(tactic| simp only [wpss, wps, wpe, wpt, wpl, wpv, wpb, wpo, wpc, wpp, seq3, next3, brk3, cnt3, drop3, ret3, retN3, if3, asg3, bindT, setAll, par3, sput3, aug3, iadd3, isub3, loc3, con3, op1, op2, tst, chain3, and3, or3, not3, ite3, andV3, orV3, notV3, nil3, cons3, tup3, lst3, lstM3, callG, cstG, nth, call3, opL, c1, c2, ofO, ofO2, Bt.ol, BOp.o2, COp.o2, getE, setE, wipeE, wipeE1, startE, bodyEnds, isi3, tru3, sl3, noP3, part3, iterL, wi, rng1A, rng2A, enumA, List.map_cons, List.map_nil])
theorem comp3_mapM {it : TL3} {tg : Tg} {te : T3} {own : List Nat} {e : En} {M : MH} {Q : Q3} {items : List D} (f : D → D) (hit : ∀ k : List D → MH → Prop, k items M → it e M k)
    (h : ∀ x ∈ items, ∃ e1, bindT tg x (wipeE e own) = some e1 ∧ ∀ p l, M p = none → ∀ (k : Q3), k (f x) (up M p (.lst l)) → te e1 (up M p (.lst l)) k)
    (q : ∀ p, M p = none → Q (.ref p) (up M p (.lst (items.map f)))) : comp3 true it tg yes3 te own e M Q := by
  refine hit _ fun p hp => ?_
  refine compW_fm (fun _ => true) f items [] (fun x hx => ?_) ?_
  · obtain ⟨e1, h1, h2⟩ := h x hx
    exact ⟨e1, h1, fun l k hk => hk, fun _ l => h2 p l hp⟩
  · rw [List.filter_eq_self.mpr fun _ _ => rfl, List.nil_append]
    exact q p hp
section
variable {Q : Q3} {E : X3} {M : MH} {names offices roads sacks : List D} {last : Int} {goal b : D} {x1 x2 s : Str}
theorem abc_ix {M : MH} {i : Nat} {Q : Q3} (h : i < 9) (q : ∀ c, ("abcdefghi" : Str).cps.toList[i]? = some c → Q (.str ⟨#[c]⟩) M) : ix3 (.str "abcdefghi") (.int (i : Nat)) M Q := by
  unfold ix3
  have hl : ("abcdefghi" : Str).cps.toList.length = 9 := by decide +kernel
  have hc := List.getElem?_eq_getElem (l := ("abcdefghi" : Str).cps.toList) (i := i) (by omega)
  have : ixAns M (.str "abcdefghi") (.int (i : Nat)) = some (.str ⟨#[("abcdefghi" : Str).cps.toList[i]]⟩) := by
    show (if ("abcdefghi" : Str).length ≤ sizeLine then (match atI ("abcdefghi" : Str).cps.toList (i : Nat) with | some c => some (D.str ⟨#[c]⟩) | none => none) else none) = _
    rw [if_pos (by decide +kernel), atI_nat hc]; rfl
  rw [this]
  exact q _ hc
def fMany : D → D := fun d => match d with | .int i => .tup [.str ⟨#[(("abcdefghi" : Str).cps.toList[i.toNat]?).getD 0]⟩, .non] | _ => .non
theorem fMany_i {i c : Nat} (h : ("abcdefghi" : Str).cps.toList[i]? = some c) : fMany (.int (i : Nat)) = .tup [.str ⟨#[c]⟩, .non] := by
  show D.tup [.str ⟨#[(("abcdefghi" : Str).cps.toList[((i : Nat) : Int).toNat]?).getD 0]⟩, .non] = _
  rw [Int.toNat_natCast, h]; rfl
theorem many_eq : manyD = D.tup ((rngD 0 9).map fMany) := by
  have e : ("abcdefghi" : Str).cps.toList = [97, 98, 99, 100, 101, 102, 103, 104, 105] := by decide +kernel
  unfold manyD fMany
  rw [e]; rfl
theorem wrong_5 {p : Addr} (hp : M p = none) (wf : Wf names last x1 x2 s) (q : ∀ ws, ws ≠ [] → ws.length ≤ 1000 → (∀ w ∈ ws, WrongP names last w) → Q (.lst ws) M) {acc : List D} {x15 x17 x18 x14 : Option D} (hl : acc.length ≤ 340) (ha : ∀ d ∈ acc, WrongP names last d) :
    wpss G_law_wrong E (B_law_wrong.drop 5) (bodyEnds Q) (envW p names offices roads sacks last goal b x1 x2 s x15 x17 x18 x14) (up M p (.lst acc)) := by
  have nxt := wrong_6 (offices := offices) (roads := roads) (sacks := sacks) (goal := goal) (b := b) (E := E) (x17 := x17) (x18 := x18) (x14 := x14) hp wf q (acc := acc) (by omega) ha
  obtain ⟨R, hR⟩ : ∃ R, R = B_law_wrong.drop 6 := ⟨_, rfl⟩
  have hB : B_law_wrong.drop 5 = _ :: B_law_wrong.drop 6 := rfl
  rw [← hR] at hB nxt
  rw [hB]
  clear hB hR
  unfold envW at nxt ⊢
  walk_at "z"
  rw [many_eq] at nxt
  refine comp3_map (items := rngD 0 9) fMany (fun k hk => ?_) (fun d hd => ⟨_, rfl, fun p l hp k hk => ?_⟩) ?_
  · walk_at "z"
    exact ⟨by decide, hk⟩
  · obtain ⟨i, hi, rfl⟩ := rngD_mem hd
    rw [show (0 : Int) + (i : Nat) = ((i : Nat) : Int) by omega] at hk ⊢
    walk_at "z"
    refine abc_ix hi fun c hc => ⟨szl, ?_⟩
    rw [fMany_i hc] at hk
    exact hk
  · simp only [tupA, asL]
    exact nxt
theorem wpss_asg {G : GT} {tg : Tg} {e : Ex} {R : List Sx} {D0 : Ends3} {en : En} (h : wpe G e E en M (fun d M1 => match bindT tg d en with | some e' => wpss G E R D0 e' M1 | none => False)) : wpss G E (.asg tg e :: R) D0 en M := h
theorem wpe_comp {G : GT} {m : Bool} {elt : Ex} {tg : Tg} {ik : IK} {its ifs : List Ex} {own : List (Str × Nat)} {en : En} {Q : Q3} (h : comp3 m (wi ik (wpl G its E)) tg (wpc G ifs noX) (wpe G elt noX) (own.map (·.2)) en M Q) : wpe G (.comp m elt tg ik its ifs own) E en M Q := h
theorem wpe_idx {G : GT} {a b : Ex} {en : En} {Q : Q3} (h : wpe G a E en M fun x M1 => wpe G b E en M1 fun y M2 => ix3 x y M2 Q) : wpe G (.idx a b) E en M Q := h
theorem wrong_4 (wf : Wf names last x1 x2 s) (q : ∀ ws, ws ≠ [] → ws.length ≤ 1000 → (∀ w ∈ ws, WrongP names last w) → Q (.lst ws) M) :
    wpss G_law_wrong E (B_law_wrong.drop 4) (bodyEnds Q) [some b, some (.tup [.int last, .tup offices, .tup roads, .tup sacks, goal]), some (.int last), some (.tup offices), some (.tup roads), some (.tup sacks), some goal, some (.str x1), some (.str x2), some (.lst names), none, some (.str s), none, none, none, none, none, none, none] M := by
  have hw : (w0.map fun v => D.tup [.int 0, v]).length = 7 := rfl
  have nxt := fun (p : Addr) hp => wrong_5 (offices := offices) (roads := roads) (sacks := sacks) (goal := goal) (b := b) (E := E) (x15 := none) (x17 := none) (x18 := none) (x14 := none) (p := p) hp wf q (acc := w0.map fun v => D.tup [.int 0, v]) (by omega) (fun d hd => by
    obtain ⟨v, hv, rfl⟩ := List.mem_map.mp hd
    obtain ⟨g1, g2⟩ := w0_ok (names := names) (last := last) v hv
    exact ⟨0, v, rfl, by decide, g1, g2⟩)
  obtain ⟨R, hR⟩ : ∃ R, R = B_law_wrong.drop 5 := ⟨_, rfl⟩
  have hB : B_law_wrong.drop 4 = _ :: B_law_wrong.drop 5 := rfl
  rw [← hR] at hB nxt
  rw [hB]
  clear hB hR
  unfold envW at nxt
  refine wpss_asg (wpe_comp ?_)
  refine comp3_mapM (items := w0) (fun v => .tup [.int 0, v]) (fun k hk => ?_) (fun d hd => ⟨_, rfl, fun p l hp k hk => ?_⟩) (fun p hp => nxt p hp)
  · walk_at "z"
    simp only [sub3]
    exact ⟨szl, szl, hk⟩
  · walk_at "z"
    exact ⟨szl, hk⟩
end
theorem p_law_wrong (ds : List D) (M : MH) (Q : Q3) (E : X3) (_ : ds.length = 2) (h : sp_law_wrong ds M Q E) : wpss G_law_wrong E B_law_wrong (bodyEnds Q) (startE N_law_wrong.length ds) M := by
  obtain ⟨b, last, offices, roads, sacks, goal, rfl, hg, h2, q⟩ := h
  show wpss G_law_wrong E B_law_wrong (bodyEnds Q) [some b, some (.tup [.int last, .tup offices, .tup roads, .tup sacks, goal]), none, none, none, none, none, none, none, none, none, none, none, none, none, none, none, none, none] M
  have z1 : 100000 < sizeLine := by decide
  obtain ⟨g1, g2, g3, g4, g5⟩ := good_parts hg.ok
  obtain ⟨xs, e, hx, hx8, hx1, hasc, hall⟩ := yardsB_is (show dpl (.tup offices) = true from hg.dp.1) g2
  have e : offices = xs := by injection e
  subst e
  obtain ⟨names, hnames⟩ : ∃ names, names = offices.map fst := ⟨_, rfl⟩
  have hns := names_strs hx
  rw [← hnames] at hns q
  have hpw := asc_pair (fun d hd => by obtain ⟨x, e, _⟩ := isStrs_get hns d hd; exact ⟨x, e⟩) (by rw [hnames]; exact hasc)
  obtain ⟨o1, o2, orest, rfl⟩ : ∃ o1 o2 r, offices = o1 :: o2 :: r := by
    match offices, h2 with
    | o1 :: o2 :: r, _ => exact ⟨o1, o2, r, rfl⟩
    | [_], h2 => simp at h2
    | [], h2 => simp at h2
  obtain ⟨x1, r1, rfl, sx1, n1⟩ := hx o1 (by simp)
  obtain ⟨x2, r2, rfl, sx2, n2⟩ := hx o2 (by simp)
  have hnm : names = .str x1 :: .str x2 :: orest.map fst := by rw [hnames]; rfl
  have hlt : ltD (.str x1) (.str x2) = true := by
    rw [hnm] at hpw
    exact (List.pairwise_cons.mp hpw).1 _ (by simp)
  have h8 : names.length ≤ 8 := by rw [hnames, List.length_map]; exact hx8
  have nxt := fun s (wf : Wf names last x1 x2 s) => wrong_4 (offices := .tup [.str x1, r1] :: .tup [.str x2, r2] :: orest) (roads := roads) (sacks := sacks) (goal := goal) (b := b) (E := E) wf q
  have step3 : wpss G_law_wrong E (B_law_wrong.drop 3) (bodyEnds Q) [some b, some (.tup [.int last, .tup (.tup [.str x1, r1] :: .tup [.str x2, r2] :: orest), .tup roads, .tup sacks, goal]), some (.int last), some (.tup (.tup [.str x1, r1] :: .tup [.str x2, r2] :: orest)), some (.tup roads), some (.tup sacks), some goal, some (.str x1), some (.str x2), some (.lst names), none, none, none, none, none, none, none, none, none] M := by
    obtain ⟨R, hR⟩ : ∃ R, R = B_law_wrong.drop 4 := ⟨_, rfl⟩
    have hB : B_law_wrong.drop 3 = _ :: B_law_wrong.drop 4 := rfl
    rw [← hR] at hB nxt
    rw [hB]
    clear hB hR
    refine wpss_asg (wpe_idx (wpe_comp ?_))
    have l1 : x1.length ≤ 12 := (nm_ok n1).2
    have sl1 : ∀ M, slA M (.str x1) none (some 11) = some (.str (cutS x1 none (some 11))) := fun M => if_pos (by omega)
    have hc := one_cut n1
    refine comp3_fm (items := charsD strangers) (fun d => !memB (catD x1 d) names) (catD x1) (fun k hk => ?_) (fun d hd => ⟨_, rfl, fun p l hp => ⟨fun k hk => ?_, fun hb k hk => ?_⟩⟩) ?_
    · walk_at "z"
      have : itemsA (.str "qrstuvwxyz") = some (charsD strangers) := by
        show (if strangers.length ≤ sizeLine then some (charsD strangers) else none) = _
        exact if_pos (by decide +kernel)
      rw [this]
      exact hk
    · obtain ⟨c, hc1, rfl⟩ := charsD_mem hd
      walk_at "z"
      rw [sl1]
      refine add_str (by have := hc.2; show 1 + _ ≤ _; omega) ?_
      exact nin_strs hns (nm_ok (cat_nm n1 hc1)).1 hk
    · obtain ⟨c, hc1, rfl⟩ := charsD_mem hd
      walk_at "z"
      rw [sl1]
      exact add_str (by have := hc.2; show 1 + _ ≤ _; omega) hk
    · obtain ⟨c, hc1, hc2⟩ := stranger_is (one := x1) h8
      obtain ⟨fl, hfl⟩ : ∃ fl, fl = ((charsD strangers).filter fun d => !memB (catD x1 d) names).map (catD x1) := ⟨_, rfl⟩
      have hin : catD x1 (.str ⟨#[c]⟩) ∈ fl := by
        rw [hfl]
        refine List.mem_map.mpr ⟨_, List.mem_filter.mpr ⟨List.mem_map.mpr ⟨c, hc1, rfl⟩, by rw [hc2]; rfl⟩, rfl⟩
      have hmem : ∀ d ∈ fl, ∃ s, d = .str s ∧ nmS s = true ∧ memB (.str s) names = false := by
        intro d hd
        rw [hfl] at hd
        obtain ⟨y, hy, rfl⟩ := List.mem_map.mp hd
        obtain ⟨hy1, hy2⟩ := List.mem_filter.mp hy
        obtain ⟨c', hc', rfl⟩ := charsD_mem hy1
        have hy2 : memB (catD x1 (.str ⟨#[c']⟩)) names = false := by simpa using hy2
        exact ⟨_, rfl, cat_nm n1 hc', hy2⟩
      rw [← hfl]
      cases fl with
      | nil => cases hin
      | cons s0 frest =>
        obtain ⟨s, rfl, ns, ms⟩ := hmem s0 (by simp)
        have wf : Wf names last x1 x2 s := ⟨n1, n2, ns, by rw [hnm]; exact memB_mem (by simp), by rw [hnm]; exact memB_mem (by simp), ms, lt_str_ne hlt, hlt, hg.l0, hg.l1⟩
        exact ix_lst (i := 0) rfl (nxt s wf)
  obtain ⟨R, hR⟩ : ∃ R, R = B_law_wrong.drop 3 := ⟨_, rfl⟩
  have hB : B_law_wrong = _ :: _ :: _ :: B_law_wrong.drop 3 := rfl
  rw [← hR] at hB step3
  rw [hB]
  clear hB hR
  have step2 : wpss G_law_wrong E (.asg (.nm 9) (.comp false (.idx (.loc 10) (.int 0)) (.nm 10) .seq [(.loc 3)] [] [("office", 10)]) :: R) (bodyEnds Q) [some b, some (.tup [.int last, .tup (.tup [.str x1, r1] :: .tup [.str x2, r2] :: orest), .tup roads, .tup sacks, goal]), some (.int last), some (.tup (.tup [.str x1, r1] :: .tup [.str x2, r2] :: orest)), some (.tup roads), some (.tup sacks), some goal, some (.str x1), some (.str x2), none, none, none, none, none, none, none, none, none, none] M := by
    refine wpss_asg (wpe_comp ?_)
    refine comp3_map (items := .tup [.str x1, r1] :: .tup [.str x2, r2] :: orest) fst (fun k hk => ?_) (fun d hd => ⟨_, rfl, fun p l hp k hk => ?_⟩) ?_
    · walk_at "z"
      exact hk
    · obtain ⟨y, rm, rfl, _⟩ := hx d hd
      walk_at "z"
      exact ix_tup (i := 0) rfl hk
    · rw [← hnames]
      exact step3
  obtain ⟨R2, hR2⟩ : ∃ R2, R2 = Sx.asg (.nm 9) (.comp false (.idx (.loc 10) (.int 0)) (.nm 10) .seq [(.loc 3)] [] [("office", 10)]) :: R := ⟨_, rfl⟩
  rw [← hR2] at step2 ⊢
  walk_at "z"
  simp only [asT]
  exact ix_tup (i := 0) rfl (ix_tup (i := 0) rfl (ix_tup (i := 1) rfl (ix_tup (i := 0) rfl ⟨szl, step2⟩)))
end K93

namespace K93
open PySem PySem.Spec PyProof.Rows L2 Z
local macro_rules | `(tactic| walk_at "z") => `(tactic| simp only [wpss, wps, wpe, wpt, wpl, wpv, wpb, wpo, wpc, wpp, seq3, next3, brk3, cnt3, drop3, ret3, retN3, if3, asg3, bindT, setAll, par3, sput3, aug3, iadd3, isub3, loc3, con3, op1, op2, tst, chain3, and3, or3, not3, ite3, andV3, orV3, notV3, nil3, cons3, tup3, lst3, lstM3, callG, cstG, nth, call3, opL, c1, c2, ofO, ofO2, Bt.ol, BOp.o2, COp.o2, getE, setE, wipeE, wipeE1, startE, bodyEnds, isi3, tru3, sl3, noP3, part3, iterL, wi, rng1A, rng2A, enumA, List.map_cons, List.map_nil])
def abc8 : Str := "abcdefgh"
theorem abc8_eq : abc8.cps.toList = (List.range 8).map fun i => 97 + i := by decide +kernel
theorem abc8_ix {M : MH} {n : Nat} {Q : Q3} (h : n < 8) (q : Q (gN n) M) : ix3 (.str "abcdefgh") (.int (n : Nat)) M Q := by
  unfold ix3
  have : ixAns M (.str "abcdefgh") (.int (n : Nat)) = some (gN n) := by
    show (if abc8.length ≤ sizeLine then (match atI abc8.cps.toList (n : Nat) with | some c => some (D.str ⟨#[c]⟩) | none => none) else none) = _
    have e : atI abc8.cps.toList (n : Nat) = some (97 + n) := by
      refine atI_nat ?_
      rw [abc8_eq, List.getElem?_map, List.getElem?_range h]; rfl
    rw [if_pos (by decide +kernel), e]; rfl
  rw [this]; exact q
def gRow (s : D) : List D := (gNames.filter fun g => !eqv g s).map fun g => .tup [s, g, .int 60, .int 1000]
theorem gPairs_len : gPairs.length = 56 := by decide +kernel
theorem gRow_len (s : D) : (gRow s).length ≤ 8 := by
  unfold gRow
  rw [List.length_map]
  exact Nat.le_trans (List.length_filter_le _ _) (by decide)
def gSack (k : Nat) : D := .tup [gNames.getD (k / 60) .non, .int ((k % 60 : Nat) : Int), .int 1000]
theorem isW_le (x y : Str) : isW x y ≤ 1 := by
  unfold isW; split <;> omega
theorem eq3_w {x y : Str} {M : MH} {Q : Q3} (q : ∀ b, (if b = true then 1 else 0 : Int) = (isW x y : Nat) → Q (.bl b) M) : eq3 (.str x) (.str y) M Q := by
  refine ⟨rfl, q _ ?_⟩
  show (if (x == y) = true then 1 else 0 : Int) = _
  unfold isW
  by_cases h : x = y
  · rw [if_pos (by simpa using h), if_pos h]; rfl
  · rw [if_neg (by simpa using h), if_neg h]; rfl
theorem p_law_great (ds : List D) (M : MH) (Q : Q3) (E : X3) (_ : ds.length = 1) (h : sp_law_great ds M Q E) : wpss G_law_great E B_law_great (bodyEnds Q) (startE N_law_great.length ds) M := by
  obtain ⟨x, rfl, q⟩ := h
  show wpss G_law_great E B_law_great (bodyEnds Q) [some (.str x), none, none, none, none, none, none, none] M
  have z1 : 100000 < sizeLine := by decide
  have hn8 : gNames.length = 8 := rfl
  have hr := isW_le x "roads"
  have hs := isW_le x "sacks"
  -- the end
  have fin : ∀ x4 x5, wpss G_law_great E (B_law_great.drop 4) (bodyEnds Q) [some (.str x), some (.lst gNames), none, some (.lst gPairs), x4, x5, some (.lst (gSacks (100 + isW x "sacks"))), none] M := by
    intro x4 x5
    unfold B_law_great
    simp only [List.drop_succ_cons, List.drop_zero]
    walk_at "z"
    refine comp3_map (items := gNames) (fun n => .tup [n, .int 1000]) (fun k hk => ?_) (fun d hd => ⟨_, rfl, fun p l hp k hk => ?_⟩) ?_
    · walk_at "z"
      exact hk
    · walk_at "z"
      exact ⟨szl, hk⟩
    · simp only [tupA, asL]
      refine eq3_w fun b hb => ?_
      simp only [intA, add3]
      rw [hb, show (50 : Int) + ((isW x "roads" : Nat) : Int) = ((50 + isW x "roads" : Nat) : Int) by omega, show (20 : Int) = ((20 : Nat) : Int) from rfl, sl_lst (by omega) (by rw [gPairs_len]; omega)]
      simp only []
      refine ix_lst (i := 7) (d := gN 7) rfl ⟨szl, rt_same ?_⟩
      have : 50 + isW x "roads" - 20 = 30 + isW x "roads" := by omega
      rw [this]
      exact q
  have step3 : ∀ x4 x5, wpss G_law_great E (B_law_great.drop 3) (bodyEnds Q) [some (.str x), some (.lst gNames), none, some (.lst gPairs), x4, x5, none, none] M := by
    intro x4 x5
    have fin := fin x4 x5
    obtain ⟨R, hR⟩ : ∃ R, R = B_law_great.drop 4 := ⟨_, rfl⟩
    have hB : B_law_great.drop 3 = _ :: B_law_great.drop 4 := rfl
    rw [← hR] at hB fin
    rw [hB]
    clear hB hR
    refine wpss_asg (wpe_comp ?_)
    refine comp3_map (items := rngD 0 (100 + isW x "sacks")) (fun d => match d with | .int i => gSack i.toNat | _ => .non) (fun k hk => ?_) (fun d hd => ⟨_, rfl, fun p l hp k hk => ?_⟩) ?_
    · walk_at "z"
      refine eq3_w fun b hb => ?_
      simp only [intA, add3]
      rw [hb, show (100 : Int) + ((isW x "sacks" : Nat) : Int) = ((100 + isW x "sacks" : Nat) : Int) by omega]
      refine ⟨by omega, ?_⟩
      rw [Int.toNat_natCast]
      exact hk
    · obtain ⟨i, hi, rfl⟩ := rngD_mem hd
      rw [show (0 : Int) + (i : Nat) = ((i : Nat) : Int) by omega] at hk ⊢
      walk_at "z"
      simp only [fdv3, intA, mod3]
      refine ⟨by decide, ?_⟩
      rw [show Int.fdiv ((i : Nat) : Int) 60 = ((i / 60 : Nat) : Int) by rw [Int.fdiv_eq_ediv_of_nonneg _ (by decide)]; rfl]
      have h60 : i / 60 < gNames.length := by rw [hn8]; omega
      refine ix_lst (List.getElem?_eq_getElem h60) ⟨by decide, ?_⟩
      rw [show Int.fmod ((i : Nat) : Int) 60 = ((i % 60 : Nat) : Int) by rw [Int.fmod_eq_emod_of_nonneg _ (by decide)]; rfl]
      refine ⟨szl, ?_⟩
      have : gSack i = .tup [gNames[i / 60], .int ((i % 60 : Nat) : Int), .int 1000] := by
        unfold gSack
        rw [List.getD_eq_getElem?_getD, List.getElem?_eq_getElem h60]; rfl
      simp only [Int.toNat_natCast, this] at hk
      exact hk
    · have : (rngD 0 (100 + isW x "sacks")).map (fun d => match d with | .int i => gSack i.toNat | _ => .non) = gSacks (100 + isW x "sacks") := by
        unfold gSacks
        rw [rngD0, List.map_map]; rfl
      rw [this]
      exact fin
  obtain ⟨R, hR⟩ : ∃ R, R = B_law_great.drop 3 := ⟨_, rfl⟩
  have hB : B_law_great = _ :: _ :: _ :: B_law_great.drop 3 := rfl
  rw [← hR] at hB step3
  rw [hB]
  clear hB hR
  refine wpss_asg (wpe_comp ?_)
  refine comp3_map (items := rngD 0 8) (fun d => match d with | .int i => gN i.toNat | _ => .non) (fun k hk => ?_) (fun d hd => ⟨_, rfl, fun p l hp k hk => ?_⟩) ?_
  · walk_at "z"
    exact ⟨by decide, hk⟩
  · obtain ⟨i, hi, rfl⟩ := rngD_mem hd
    rw [show (0 : Int) + (i : Nat) = ((i : Nat) : Int) by omega] at hk ⊢
    walk_at "z"
    exact abc8_ix hi hk
  · have : (rngD 0 8).map (fun d => match d with | .int i => gN i.toNat | _ => .non) = gNames := rfl
    rw [this]
    walk_at "z"
    refine ⟨szl, ?_⟩
    unfold for3
    walk_at "z"
    simp only [itemsA]
    refine turns_acc (R := fun acc e M' => M' = M ∧ ∃ x4 x5, e = [some (.str x), some (.lst gNames), none, some (.lst acc), x4, x5, none, none]) gRow 8 100 gNames [] _ _ (fun o _ => gRow_len o) (by decide) (fun s hs2 acc e M' nx hB hR hnx => ?_) ⟨rfl, _, _, rfl⟩ (fun e' M' hR => ?_)
    · obtain ⟨rfl, x4, x5, rfl⟩ := hR
      refine ⟨_, rfl, ?_⟩
      obtain ⟨n, hn, rfl⟩ : ∃ n, n < 8 ∧ s = gN n := by
        obtain ⟨n, hn, rfl⟩ := List.mem_map.mp hs2
        exact ⟨n, List.mem_range.mp hn, rfl⟩
      walk_at "z"
      refine comp3_fm (items := gNames) (fun g => !eqv g (gN n)) (fun g => .tup [gN n, g, .int 60, .int 1000]) (fun k hk => ?_) (fun d hd => ⟨_, rfl, fun p l hp => ⟨fun k hk => ?_, fun hb k hk => ?_⟩⟩) ?_
      · walk_at "z"
        exact hk
      · obtain ⟨m, hm, rfl⟩ := List.mem_map.mp hd
        walk_at "z"
        exact ne3_str hk
      · walk_at "z"
        exact ⟨szl, hk⟩
      · refine add_lst (by have := gRow_len (gN n); unfold gRow at this; omega) ?_
        exact hnx _ _ ⟨rfl, _, _, rfl⟩
    · obtain ⟨rfl, x4, x5, rfl⟩ := hR
      exact step3 x4 x5
end K93

namespace K93
open PySem PySem.Spec PyProof.Rows L2 Z
/-! data alike itself -/
mutual
theorem eqv_rf : ∀ (n : Nat) (d : D), lay n d = true → eqv d d = true
  | _, .non, _ => rfl
  | _, .bl b, _ => beq_self_eq_true b
  | _, .int i, _ => beq_self_eq_true i
  | _, .str x, _ => beq_self_eq_true x
  | n, .ref _, h => by cases n <;> simp [lay] at h
  | n, .flst _, h => by cases n <;> simp [lay] at h
  | n, .dK _ _, h => by cases n <;> simp [lay] at h
  | n, .dT _ _, h => by cases n <;> simp [lay] at h
  | 0, .tp _ _, h => by simp [lay] at h
  | 0, .lst _, h => by simp [lay] at h
  | n + 1, .tp _ ds, h => eqvL_rf n ds (show layL n ds = true from by simpa [lay] using h)
  | n + 1, .lst ds, h => eqvL_rf n ds (show layL n ds = true from by simpa [lay] using h)
theorem eqvL_rf : ∀ (n : Nat) (ds : List D), layL n ds = true → eqvL ds ds = true
  | _, [], _ => by simp [eqvL]
  | n, d :: ds, h => by
    obtain ⟨h1, h2⟩ := b2 (show (lay n d && layL n ds) = true from by simpa [layL] using h)
    show eqvL (d :: ds) (d :: ds) = true
    unfold eqvL
    rw [eqv_rf n d h1, eqvL_rf n ds h2]; rfl
end
theorem ne_self {d : D} {M : MH} {Q : Q3} (h : lay 60 d = true) (q : Q (.bl false) M) : ne3 d d M Q := by
  have hp : rdL M d = d := by
    cases d <;> first | rfl | simp [lay] at h
  unfold ne3 eqOk
  rw [hp, h, eqv_rf 60 d h]
  exact ⟨by simp, q⟩
theorem lay_lst {n : Nat} {ds : List D} : lay (n + 1) (.lst ds) = ds.all (lay n) := by
  show layL n ds = _
  exact layL_all n ds
theorem lay_tup {n : Nat} {ds : List D} : lay (n + 1) (.tup ds) = ds.all (lay n) := by
  show layL n ds = _
  exact layL_all n ds
theorem lay_int {n : Nat} {i : Int} : lay n (.int i) = true := by cases n <;> rfl
theorem lay_non {n : Nat} : lay n .non = true := by cases n <;> rfl
theorem lay_str {n : Nat} {x : Str} (h : PyData.strOk x = true) : lay n (.str x) = true := by cases n <;> exact h
theorem lay_room {n : Nat} {rm : D} (h : roomOk rm) : lay n rm = true := by
  rcases h with rfl | ⟨i, rfl, _⟩
  · exact lay_non
  · exact lay_int
theorem room_of {rm : D} (h : (Z.isNon rm || btwB rm 0 1000) = true) : roomOk rm := by
  cases rm with
  | non => exact .inl rfl
  | int i =>
    have h : (decide (0 ≤ i) && decide (i ≤ 1000)) = true := h
    simp only [Bool.and_eq_true, decide_eq_true_eq] at h
    exact .inr ⟨i, rfl, h.1, h.2⟩
  | _ => exact absurd h Bool.false_ne_true
theorem btw_is {d : D} {l h : Int} (e : btwB d l h = true) : ∃ i, d = .int i ∧ l ≤ i ∧ i ≤ h := by
  cases d with
  | int i =>
    have e : (decide (l ≤ i) && decide (i ≤ h)) = true := e
    simp only [Bool.and_eq_true, decide_eq_true_eq] at e
    exact ⟨i, rfl, e.1, e.2⟩
  | _ => exact absurd e Bool.false_ne_true
/-- what a good despatch is made of -/
structure Shape (names : List D) (last : Int) (offices roads sacks : List D) (goal : D) : Prop where
  nms : names = offices.map fst
  off : ∀ o ∈ offices, ∃ x rm, o = .tup [.str x, rm] ∧ nmS x = true ∧ roomOk rm
  road : ∀ r ∈ roads, ∃ x y i rm, r = .tup [.str x, .str y, .int i, .int rm] ∧ nmS x = true ∧ nmS y = true ∧ D.str x ∈ names ∧ D.str y ∈ names ∧ eqv (.str x) (.str y) = false ∧ 1 ≤ i ∧ i ≤ 60 ∧ 0 ≤ rm ∧ rm ≤ 1000
  sack : ∀ s ∈ sacks, ∃ x i v, s = .tup [.str x, .int i, .int v] ∧ nmS x = true
  goal : ∃ x, goal = .str x ∧ nmS x = true
  olen : 1 ≤ offices.length ∧ offices.length ≤ 8
  rlen : roads.length ≤ 30
  oasc : ascB (offices.map fst) = true
  rasc : ascB (roads.map cut2) = true
theorem mem_memB {x : Str} {names : List D} (h : memB (.str x) names = true) (hs : isStrs names = true) : D.str x ∈ names := by
  obtain ⟨z, hz, he⟩ := List.any_eq_true.mp h
  obtain ⟨y, rfl, _⟩ := isStrs_get hs z hz
  have he : (y == x) = true := he
  rw [beq_iff_eq] at he
  rw [← he]; exact hz
theorem shape_of {last : Int} {offices roads sacks : List D} {goal : D} (hg : GoodD last offices roads sacks goal) : Shape (offices.map fst) last offices roads sacks goal := by
  obtain ⟨g1, g2, g3, g4, g5⟩ := good_parts hg.ok
  obtain ⟨xs, e, hx, hx8, hx1, hasc, hall⟩ := yardsB_is (show dpl (.tup offices) = true from hg.dp.1) g2
  have e : offices = xs := by injection e
  subst e
  have hns := names_strs hx
  have g3 : (decide (roads.length ≤ 30) && roads.all (coachB (offices.map fst)) && ascB (roads.map cut2)) = true := g3
  have g4 : (decide (sacks.length ≤ 100) && sacks.all (handB (offices.map fst) last) && ascB (sacks.map cut2)) = true := g4
  simp only [Bool.and_eq_true, decide_eq_true_eq, List.all_eq_true] at g3 g4
  have dr : ∀ r ∈ roads, dpl r = true := by
    have := hg.dp.2.1
    rw [dplL_all, List.all_eq_true] at this
    exact this
  have dsx : ∀ r ∈ sacks, dpl r = true := by
    have := hg.dp.2.2.1
    rw [dplL_all, List.all_eq_true] at this
    exact this
  refine ⟨rfl, fun o ho => ?_, fun r hr => ?_, fun s hs => ?_, ?_, ⟨hx1, hx8⟩, g3.1.1, hasc, g3.2⟩
  · obtain ⟨y, rm, rfl, h1, h2⟩ := hx o ho
    have := List.all_eq_true.mp hall _ ho
    rw [yardB_eq] at this
    exact ⟨y, rm, rfl, h2, room_of (b2 this).2⟩
  · have hc := g3.1.2 r hr
    obtain ⟨x, y, c, d, rfl⟩ := coachB_is (dr r hr) hc
    rw [coachB_eq] at hc
    simp only [Bool.and_eq_true] at hc
    obtain ⟨i, rfl, i0, i1⟩ := btw_is hc.1.2
    obtain ⟨m, rfl, m0, m1⟩ := btw_is hc.2
    exact ⟨x, y, i, m, rfl, hc.1.1.1.1.1.1, hc.1.1.1.1.1.2, mem_memB hc.1.1.1.2 hns, mem_memB hc.1.1.2 hns, by simpa using hc.1.1.1.1.2, i0, i1, m0, m1⟩
  · have hc := g4.1.2 s hs
    obtain ⟨x, i, d, rfl⟩ := handB_is (dsx s hs) hc
    rw [handB_eq] at hc
    simp only [Bool.and_eq_true] at hc
    obtain ⟨m, rfl, m0, m1⟩ := btw_is hc.2
    exact ⟨x, i, m, rfl, hc.1.1.1⟩
  · cases goal with
    | str x => exact ⟨x, rfl, (b2 g5).1⟩
    | _ => exact absurd (b2 g5).1 Bool.false_ne_true
theorem lie_lay {n : Nat} {x : Str} {rm : D} {i : Nat} (hx : nmS x = true) (hr : roomOk rm) : lay (n + 2) (lieD (.str x) rm i) = true := by
  have h1 : ∀ n, lay n (.str x) = true := fun n => lay_str (nm_ok hx).1
  have h2 : ∀ n, lay n (.str "lie") = true := fun n => lay_str (by decide +kernel)
  unfold lieD
  simp [lay_tup, h1, h2, lay_int, lay_room hr]
theorem ride_lay {n : Nat} {x y : Str} {rm d : Int} {i : Nat} (hx : nmS x = true) (hy : nmS y = true) : lay (n + 2) (rideD (.str x) (.str y) (.int rm) d i) = true := by
  have h1 : ∀ n, lay n (.str x) = true := fun n => lay_str (nm_ok hx).1
  have h3 : ∀ n, lay n (.str y) = true := fun n => lay_str (nm_ok hy).1
  have h2 : ∀ n, lay n (.str "ride") = true := fun n => lay_str (by decide +kernel)
  unfold rideD
  simp [lay_tup, h1, h2, h3, lay_int]
theorem rides_lay {names : List D} {last : Int} {offices roads sacks : List D} {goal : D} (h : Shape names last offices roads sacks goal) : lay 60 (.lst (ridesD last goal offices roads)) = true := by
  rw [lay_lst, List.all_eq_true]
  intro d hd
  rcases List.mem_append.mp hd with hd | hd
  · obtain ⟨o, ho, hd⟩ := List.mem_flatMap.mp hd
    obtain ⟨x, rm, rfl, hx, hr⟩ := h.off o ho
    have hd : d ∈ (if eqv (.str x) goal then [] else (List.range last.toNat).map (lieD (.str x) rm)) := hd
    split at hd
    · cases hd
    · obtain ⟨i, _, rfl⟩ := List.mem_map.mp hd
      exact lie_lay hx hr
  · obtain ⟨o, ho, hd⟩ := List.mem_flatMap.mp hd
    obtain ⟨x, y, i, rm, rfl, hx, hy, _⟩ := h.road o ho
    have hd : d ∈ (if eqv (.str x) goal then [] else (List.range (last + 1 - i).toNat).map (rideD (.str x) (.str y) (.int rm) i)) := hd
    split at hd
    · cases hd
    · obtain ⟨j, _, rfl⟩ := List.mem_map.mp hd
      exact ride_lay hx hy
theorem shape_rides {names : List D} {last : Int} {offices roads sacks : List D} {goal : D} (h : Shape names last offices roads sacks goal) (l0 : 0 ≤ last) (l1 : last ≤ 60) : rideOk last goal offices roads := by
  refine ⟨l0, l1, h.olen.2, h.rlen, ?_, fun o ho => ?_, fun r hr => ?_⟩
  · obtain ⟨x, e, _⟩ := h.goal
    exact ⟨x, e⟩
  · obtain ⟨x, rm, e, _⟩ := h.off o ho
    exact ⟨x, rm, e⟩
  · obtain ⟨x, y, i, rm, e, _, _, _, _, _, i0, i1, _⟩ := h.road r hr
    exact ⟨x, _, i, _, e, i0, i1⟩
/-! the due despatch -/
def dueO (yard : D) (o : D) : D := .tup [fst o, yard]
def dueR (room : D) (r : D) : D := match r with | .tp .t ds => .tup (ds.take 3 ++ [room]) | d => d
theorem due_good {last : Int} {offices roads sacks : List D} {goal yard : D} {room : Int} (hg : GoodD last offices roads sacks goal) (hy : roomOk yard) (r0 : 0 ≤ room) (r1 : room ≤ 1000) :
    GoodD last (offices.map (dueO yard)) (roads.map (dueR (.int room))) sacks goal := by
  have h := shape_of hg
  obtain ⟨g1, g2, g3, g4, g5⟩ := good_parts hg.ok
  have hf : (offices.map (dueO yard)).map fst = offices.map fst := by
    rw [List.map_map]
    exact List.map_congr_left fun o ho => rfl
  have hn : namesOf (.tup (offices.map (dueO yard))) = namesOf (.tup offices) := hf
  have hc2 : (roads.map (dueR (.int room))).map cut2 = roads.map cut2 := by
    rw [List.map_map]
    refine List.map_congr_left fun r hr => ?_
    obtain ⟨x, y, i, rm, rfl, _⟩ := h.road r hr
    rfl
  have e2 : yardsB (.tup (offices.map (dueO yard))) = true := by
    rw [yards_eq, hf, h.oasc, List.length_map, decide_eq_true h.olen.1, decide_eq_true h.olen.2]
    have : (offices.map (dueO yard)).all yardB = true := by
      rw [List.all_eq_true]
      intro d hd
      obtain ⟨o, ho, rfl⟩ := List.mem_map.mp hd
      obtain ⟨x, rm, rfl, hx, _⟩ := h.off o ho
      show yardB (.tup [.str x, yard]) = true
      rw [yardB_eq, (room_ok hy).1, Bool.and_true]
      exact hx
    rw [this]; rfl
  have e3 : coachesB (namesOf (.tup offices)) (.tup (roads.map (dueR (.int room)))) = true := by
    rw [coaches_eq, hc2, h.rasc, List.length_map, decide_eq_true h.rlen]
    have : (roads.map (dueR (.int room))).all (coachB (namesOf (.tup offices))) = true := by
      rw [List.all_eq_true]
      intro d hd
      obtain ⟨r, hr, rfl⟩ := List.mem_map.mp hd
      obtain ⟨x, y, i, rm, rfl, hx, hy, mx, my, hne, i0, i1, _⟩ := h.road r hr
      show coachB (offices.map fst) (.tup [.str x, .str y, .int i, .int room]) = true
      rw [coachB_eq, hne, memB_mem mx, memB_mem my, btw_ok i0 i1, btw_ok r0 r1, nmB_s, nmB_s, hx, hy]; rfl
    rw [this]; rfl
  refine ⟨hg.l0, hg.l1, ⟨?_, ?_, hg.dp.2.2.1, hg.dp.2.2.2⟩, ?_, fun o ho => ?_, fun r hr => ?_⟩
  · rw [dplL_all, List.all_eq_true]
    intro d hd
    obtain ⟨o, ho, rfl⟩ := List.mem_map.mp hd
    obtain ⟨x, rm, rfl, hx, _⟩ := h.off o ho
    show (dpl (.str x) && (dpl yard && true)) = true
    rw [nm_dpl hx, (room_ok hy).2]; rfl
  · rw [dplL_all, List.all_eq_true]
    intro d hd
    obtain ⟨r, hr, rfl⟩ := List.mem_map.mp hd
    obtain ⟨x, y, i, rm, rfl, hx, hy, _⟩ := h.road r hr
    show (dpl (.str x) && (dpl (.str y) && true)) = true
    rw [nm_dpl hx, nm_dpl hy]; rfl
  · rw [faultD_eq, hn, g1, e2, e3, g4, g5]; simp
  · obtain ⟨o2, ho2, rfl⟩ := List.mem_map.mp ho
    obtain ⟨x, rm, rfl, hx, _⟩ := h.off o2 ho2
    exact ⟨x, yard, rfl⟩
  · obtain ⟨r2, hr2, rfl⟩ := List.mem_map.mp hr
    obtain ⟨x, y, i, rm, rfl, hx, hy, mx, my, hne, i0, i1, _⟩ := h.road r2 hr2
    exact ⟨x, _, i, _, rfl, i0, i1⟩
theorem good_lay {last : Int} {offices roads sacks : List D} {goal : D} (hg : GoodD last offices roads sacks goal) : lay 60 (.tup [.int last, .tup offices, .tup roads, .tup sacks, goal]) = true := by
  have h := shape_of hg
  have hs : ∀ {x : Str} n, nmS x = true → lay n (.str x) = true := fun n hx => lay_str (nm_ok hx).1
  have h1 : lay 59 (.tup offices) = true := by
    rw [lay_tup, List.all_eq_true]
    intro o ho
    obtain ⟨x, rm, rfl, hx, hr⟩ := h.off o ho
    simp [lay_tup, hs _ hx, lay_room hr]
  have h2 : lay 59 (.tup roads) = true := by
    rw [lay_tup, List.all_eq_true]
    intro o ho
    obtain ⟨x, y, i, rm, rfl, hx, hy, _⟩ := h.road o ho
    simp [lay_tup, hs _ hx, hs _ hy, lay_int]
  have h3 : lay 59 (.tup sacks) = true := by
    rw [lay_tup, List.all_eq_true]
    intro o ho
    obtain ⟨x, i, v, rfl, hx⟩ := h.sack o ho
    simp [lay_tup, hs _ hx, lay_int]
  obtain ⟨x, rfl, hx⟩ := h.goal
  rw [lay_tup]
  simp [lay_int, h1, h2, h3, hs _ hx]
end K93

namespace K93
open PySem PySem.Spec PyProof.Rows L2 Z
/-! the words of the faults -/
def wordOf : Nat → D
  | 0 => .str "last" | 1 => .str "offices" | 2 => .str "roads" | 3 => .str "sacks" | _ => .str "goal"
def five (last : Int) (offices roads sacks : List D) (goal : D) : List D := [.int last, .tup offices, .tup roads, .tup sacks, goal]
theorem fault_one {last : Int} {offices roads sacks : List D} {goal : D} (hg : GoodD last offices roads sacks goal) {k : Nat} {v : D} (hk : k < 5) (hv : wrongAt (offices.map fst) last k v = true) : faultD (.tup ((five last offices roads sacks goal).set k v)) = wordOf k := by
  obtain ⟨g1, g2, g3, g4, g5⟩ := good_parts hg.ok
  have hn : namesOf (.tup offices) = offices.map fst := rfl
  have hl : lastOf (.int last) = last := rfl
  rw [hn] at g3 g4 g5
  rw [hl] at g4
  match k, hk, hv with
  | 0, _, hv =>
    have hv : btwB v 0 60 = false := by simpa [wrongAt] using hv
    show faultD (.tup [v, .tup offices, .tup roads, .tup sacks, goal]) = _
    rw [faultD_eq, if_pos hv]; rfl
  | 1, _, hv =>
    have hv : yardsB v = false := by simpa [wrongAt] using hv
    show faultD (.tup [.int last, v, .tup roads, .tup sacks, goal]) = _
    rw [faultD_eq, g1, hv]; simp [wordOf]
  | 2, _, hv =>
    have hv : coachesB (offices.map fst) v = false := by simpa [wrongAt] using hv
    show faultD (.tup [.int last, .tup offices, v, .tup sacks, goal]) = _
    rw [faultD_eq, hn, g1, g2, hv]; simp [wordOf]
  | 3, _, hv =>
    have hv : sacksB (offices.map fst) last v = false := by simpa [wrongAt] using hv
    show faultD (.tup [.int last, .tup offices, .tup roads, v, goal]) = _
    rw [faultD_eq, hn, hl, g1, g2, g3, hv]; simp [wordOf]
  | 4, _, hv =>
    have hv : (!(nmB v && memB v (offices.map fst))) = true := hv
    rw [Bool.not_eq_true'] at hv
    show faultD (.tup [.int last, .tup offices, .tup roads, .tup sacks, v]) = _
    rw [faultD_eq, hn, hl, g1, g2, g3, g4, hv]; simp [wordOf]
/-- two wrong members: the first one's word -/
theorem fault_two {last : Int} {offices roads sacks : List D} {goal : D} (hg : GoodD last offices roads sacks goal) {k j : Nat} {v w : D} (hk : k < 5) (hj : j < 5) (hv : wrongAt (offices.map fst) last k v = true) (hw : wrongAt (offices.map fst) last j w = true) :
    faultD (.tup (((five last offices roads sacks goal).set k v).set j w)) = wordOf (min k j) := by
  obtain ⟨g1, g2, g3, g4, g5⟩ := good_parts hg.ok
  have hn : namesOf (.tup offices) = offices.map fst := rfl
  have hl : lastOf (.int last) = last := rfl
  rw [hn] at g3 g4 g5
  rw [hl] at g4
  by_cases e : j = k
  · subst e
    rw [List.set_set, Nat.min_self]
    exact fault_one hg hj hw
  · have key : ∀ (i : Nat) (u : D), i < 5 → wrongAt (offices.map fst) last i u = true → ∀ a b c d e, (i = 0 → a = u) → (i = 1 → b = u) → (i = 2 → c = u) → (i = 3 → d = u) → (i = 4 → e = u) → (0 < i → a = .int last) → (1 < i → b = .tup offices) → (2 < i → c = .tup roads) → (3 < i → d = .tup sacks) → faultD (.tup [a, b, c, d, e]) = wordOf i := by
      intro i u hi hu a b c d e p0 p1 p2 p3 p4 q0 q1 q2 q3
      match i, hi, hu with
      | 0, _, hu =>
        have hu : btwB u 0 60 = false := by simpa [wrongAt] using hu
        rw [p0 rfl, faultD_eq, if_pos hu]; rfl
      | 1, _, hu =>
        have hu : yardsB u = false := by simpa [wrongAt] using hu
        rw [p1 rfl, q0 (by decide), faultD_eq, g1, hu]; simp [wordOf]
      | 2, _, hu =>
        have hu : coachesB (offices.map fst) u = false := by simpa [wrongAt] using hu
        rw [p2 rfl, q0 (by decide), q1 (by decide), faultD_eq, hn, g1, g2, hu]; simp [wordOf]
      | 3, _, hu =>
        have hu : sacksB (offices.map fst) last u = false := by simpa [wrongAt] using hu
        rw [p3 rfl, q0 (by decide), q1 (by decide), q2 (by decide), faultD_eq, hn, hl, g1, g2, g3, hu]; simp [wordOf]
      | 4, _, hu =>
        have hu : (!(nmB u && memB u (offices.map fst))) = true := hu
        rw [Bool.not_eq_true'] at hu
        rw [p4 rfl, q0 (by decide), q1 (by decide), q2 (by decide), q3 (by decide), faultD_eq, hn, hl, g1, g2, g3, g4, hu]; simp [wordOf]
    have hset : ∀ (i1 i2 : Nat) (u1 u2 : D), i1 < 5 → i2 < 5 → i1 < i2 → ∀ L, (L = ((five last offices roads sacks goal).set i1 u1).set i2 u2 ∨ L = ((five last offices roads sacks goal).set i2 u2).set i1 u1) → wrongAt (offices.map fst) last i1 u1 = true → faultD (.tup L) = wordOf i1 := by
      intro i1 i2 u1 u2 h1 h2 h12 L hL hu
      have hL2 : L = ((five last offices roads sacks goal).set i1 u1).set i2 u2 := by
        rcases hL with h | h
        · exact h
        · rw [h, List.set_comm _ _ (by omega)]
      subst hL2
      match i1, i2, h1, h2, h12 with
      | 0, 1, _, _, _ | 0, 2, _, _, _ | 0, 3, _, _, _ | 0, 4, _, _, _ | 1, 2, _, _, _ | 1, 3, _, _, _ | 1, 4, _, _, _ | 2, 3, _, _, _ | 2, 4, _, _, _ | 3, 4, _, _, _ =>
        refine key _ u1 (by omega) hu _ _ _ _ _ ?_ ?_ ?_ ?_ ?_ ?_ ?_ ?_ ?_ <;> intro h <;> first | rfl | omega
      | i + 4, j, h1, h2, h12 => exact absurd h12 (by omega)
    rcases Nat.lt_or_gt_of_ne e with h | h
    · rw [Nat.min_eq_right (by omega)]
      exact hset j k w v hj hk h _ (.inr rfl) hw
    · rw [Nat.min_eq_left (by omega)]
      exact hset k j v w hk hj h _ (.inl rfl) hv
/-! the small one -/
theorem small_good {last : Int} (l0 : 0 ≤ last) (l1 : last < 60) : GoodD last [.tup [.str "abc", .non], .tup [.str "abd", .int 5]] [.tup [.str "abd", .str "abc", .int 2, .int 7]] [.tup [.str "abd", .int last, .int 3]] (.str "abc") := by
  refine ⟨l0, l1, ⟨by decide +kernel, by decide +kernel, ?_, by decide +kernel⟩, ?_, fun o ho => ?_, fun r hr => ?_⟩
  · show (dpl (.tup [.str "abd", .int last, .int 3]) && true) = true
    rw [dp_tup]
    simp only [List.all_cons, List.all_nil, dp_int, show dpl (.str "abd") = true by decide +kernel]; rfl
  · have e1 : btwB (.int last) 0 60 = true := btw_ok l0 (by omega)
    have e2 : yardsB (.tup [.tup [.str "abc", .non], .tup [.str "abd", .int 5]]) = true := by decide +kernel
    have hn : namesOf (.tup [.tup [.str "abc", .non], .tup [.str "abd", .int 5]]) = [.str "abc", .str "abd"] := rfl
    have e3 : coachesB [.str "abc", .str "abd"] (.tup [.tup [.str "abd", .str "abc", .int 2, .int 7]]) = true := by decide +kernel
    have e4 : sacksB [.str "abc", .str "abd"] last (.tup [.tup [.str "abd", .int last, .int 3]]) = true := by
      rw [sacks_eq]
      have : handB [.str "abc", .str "abd"] last (.tup [.str "abd", .int last, .int 3]) = true := by
        rw [handB_eq, btw_ok l0 (Int.le_refl _)]
        decide +kernel
      simp [this, ascB]
    have e5 : (nmB (.str "abc") && memB (.str "abc") [.str "abc", .str "abd"]) = true := by decide +kernel
    rw [faultD_eq, hn, e1, e2, e3, show lastOf (.int last) = last from rfl, e4, e5]; simp
  · simp only [List.mem_cons, List.not_mem_nil, or_false] at ho
    rcases ho with rfl | rfl <;> exact ⟨_, _, rfl⟩
  · simp only [List.mem_cons, List.not_mem_nil, or_false] at hr
    subst hr
    exact ⟨_, _, _, _, rfl, by decide, by decide⟩
/-! the great ones -/
theorem great_fault (r s : Nat) : faultD (greatD r s) = (if btwB (.int 60) 0 60 = false then .str "last" else if yardsB (.tup (gNames.map fun n => .tup [n, .int 1000])) = false then .str "offices"
    else if coachesB gNames (.tup ((gPairs.drop 20).take (30 + r))) = false then .str "roads" else if sacksB gNames 60 (.tup (gSacks (100 + s))) = false then .str "sacks"
    else if (nmB (gN 7) && memB (gN 7) gNames) = false then .str "goal" else .non) := rfl
theorem great_y : yardsB (.tup (gNames.map fun n => .tup [n, .int 1000])) = true := by decide +kernel
theorem great_c0 : coachesB gNames (.tup ((gPairs.drop 20).take 30)) = true := by decide +kernel
theorem great_c1 : coachesB gNames (.tup ((gPairs.drop 20).take 31)) = false := by decide +kernel
theorem great_s0 : sacksB gNames 60 (.tup (gSacks 100)) = true := by decide +kernel
theorem great_s1 : sacksB gNames 60 (.tup (gSacks 101)) = false := by decide +kernel
theorem great_g : (nmB (gN 7) && memB (gN 7) gNames) = true := by decide +kernel
theorem great_00 : faultD (greatD 0 0) = .non := by
  rw [great_fault, great_y, great_c0, great_s0, great_g]; rfl
theorem great_10 : faultD (greatD 1 0) = .str "roads" := by
  rw [great_fault, great_y, great_c1]; rfl
theorem great_01 : faultD (greatD 0 1) = .str "sacks" := by
  rw [great_fault, great_y, great_c0, great_s1]; rfl
theorem great_dpl (r s : Nat) (hr : r ≤ 1) (hs : s ≤ 1) : dpl (.tup (gNames.map fun n => .tup [n, .int 1000])) = true ∧ dpl (.tup ((gPairs.drop 20).take (30 + r))) = true ∧ dpl (.tup (gSacks (100 + s))) = true ∧ dpl (gN 7) = true := by
  refine ⟨by decide +kernel, ?_, ?_, by decide +kernel⟩
  · rcases Nat.le_one_iff_eq_zero_or_eq_one.mp hr with rfl | rfl <;> decide +kernel
  · rcases Nat.le_one_iff_eq_zero_or_eq_one.mp hs with rfl | rfl <;> decide +kernel
theorem great_rides : (ridesD 60 (gN 7) (gNames.map fun n => .tup [n, .int 1000]) ((gPairs.drop 20).take 30)).length = 420 + (((gPairs.drop 20).take 30).filter fun r => !eqv (fst r) (gN 7)).length := by decide +kernel
theorem great_rideOk : rideOk 60 (gN 7) (gNames.map fun n => .tup [n, .int 1000]) ((gPairs.drop 20).take 30) := by
  refine ⟨by decide, by decide, by decide, by decide, ⟨_, rfl⟩, fun o ho => ?_, fun r hr => ?_⟩
  · obtain ⟨n, hn, rfl⟩ := List.mem_map.mp ho
    obtain ⟨i, _, rfl⟩ := List.mem_map.mp hn
    exact ⟨_, _, rfl⟩
  · have hr := List.mem_of_mem_drop (List.mem_of_mem_take hr)
    obtain ⟨s, hs, hr⟩ := List.mem_flatMap.mp hr
    obtain ⟨g, hg, rfl⟩ := List.mem_map.mp hr
    obtain ⟨i, _, rfl⟩ := List.mem_map.mp hs
    exact ⟨_, _, _, _, rfl, by decide, by decide⟩
end K93

namespace K93
open PySem PySem.Spec PyProof.Rows L2 Z
local macro_rules | `(tactic| walk_at "z") => `(tactic| simp only [wpss, wps, wpe, wpt, wpl, wpv, wpb, wpo, wpc, wpp, seq3, next3, brk3, cnt3, drop3, ret3, retN3, if3, asg3, bindT, setAll, par3, sput3, aug3, iadd3, isub3, loc3, con3, op1, op2, tst, chain3, and3, or3, not3, ite3, andV3, orV3, notV3, nil3, cons3, tup3, lst3, lstM3, callG, cstG, nth, call3, opL, c1, c2, ofO, ofO2, Bt.ol, BOp.o2, COp.o2, getE, setE, wipeE, wipeE1, startE, bodyEnds, isi3, tru3, sl3, noP3, part3, iterL, wi, rng1A, rng2A, enumA, List.map_cons, List.map_nil])
theorem fault_ok {M : MH} {Q : Q3} {E : X3} {a b c d e : D} (ha : dpl a = true) (hb : dpl b = true) (hc : dpl c = true) (hd : dpl d = true) (he : dpl e = true) (q : Q (faultD (.tup [a, b, c, d, e])) M) : [D.tup [a, b, c, d, e]].length = 1 ∧ spdespatch_fault [.tup [a, b, c, d, e]] M Q E := ⟨rfl, a, b, c, d, e, rfl, ha, hb, hc, hd, he, q⟩
theorem isN_non {M : MH} {Q : Q3} (q : Q (.bl true) M) : isN3 .non .non M Q := q
theorem notN_non {M : MH} {Q : Q3} (q : Q (.bl false) M) : notN3 .non .non M Q := q
theorem eqv_self_str {x : Str} : eqv (.str x) (.str x) = true := beq_self_eq_true x
section
variable {Q : Q3} {E : X3} {y0 y1 y2 y3 y4 y5 y6 y7 y8 y9 y10 y11 y12 y13 y14 y15 y16 y17 y18 : Option D}
theorem law_t14 {M : MH} (q : ∀ M', Q (.bl true) M') : wpss Glaw E (Blaw.drop 14) (bodyEnds Q) [y0, y1, y2, y3, y4, y5, y6, y7, y8, y9, y10, y11, y12, y13, y14, y15, y16, y17, y18] M := by
  unfold Blaw Glaw
  simp only [List.drop_succ_cons, List.drop_zero]
  walk_at "z"
  refine ⟨by trivial, "", rfl, ?_⟩
  have w1 : isW ("" : Str) "roads" = 0 := by decide +kernel
  have w2 : isW ("" : Str) "sacks" = 0 := by decide +kernel
  rw [w1, w2]
  obtain ⟨d1, d2, d3, d4⟩ := great_dpl 0 0 (by decide) (by decide)
  unfold greatD
  simp only []
  refine fault_ok rfl d1 d2 d3 d4 ?_
  have hf := great_00
  unfold greatD at hf
  rw [hf]
  refine isN_non ?_
  simp only []
  refine ⟨by trivial, 60, _, _, _, _, rfl, great_rideOk, ?_⟩
  simp only [lenA_lst]
  refine comp3_fm (items := (gPairs.drop 20).take 30) (fun r => !eqv (fst r) (gN 7)) id (fun k hk => ?_) (fun d hd => ⟨_, rfl, fun p l hp => ⟨fun k hk => ?_, fun hb k hk => ?_⟩⟩) ?_
  · walk_at "z"
    exact ix_tup (i := 2) rfl hk
  · have hr := List.mem_of_mem_drop (List.mem_of_mem_take hd)
    obtain ⟨s, hs, hr⟩ := List.mem_flatMap.mp hr
    obtain ⟨g, hg, rfl⟩ := List.mem_map.mp hr
    obtain ⟨i, _, rfl⟩ := List.mem_map.mp hs
    walk_at "z"
    exact ix_tup (i := 0) rfl (ix_tup (i := 4) rfl (ne3_str hk))
  · walk_at "z"
    exact hk
  · rw [List.map_id]
    simp only [lenA_lst, add3]
    refine eq3_int ?_
    have hrd := great_rides
    have : ((ridesD 60 (gN 7) (gNames.map fun n => .tup [n, .int 1000]) ((gPairs.drop 20).take (30 + 0))).length : Int) = 420 + ((((gPairs.drop 20).take 30).filter fun r => !eqv (fst r) (gN 7)).length : Nat) := by
      rw [Nat.add_zero]
      omega
    rw [this, decide_eq_true rfl]
    exact rt_same (q _)
theorem law_t13 {M : MH} (q : ∀ M', Q (.bl true) M') : wpss Glaw E (Blaw.drop 13) (bodyEnds Q) [y0, y1, y2, y3, y4, y5, y6, y7, y8, y9, y10, y11, y12, y13, y14, y15, y16, y17, y18] M := by
  have nxt := fun y17 M => law_t14 (E := E) (M := M) (y0 := y0) (y1 := y1) (y2 := y2) (y3 := y3) (y4 := y4) (y5 := y5) (y6 := y6) (y7 := y7) (y8 := y8) (y9 := y9) (y10 := y10) (y11 := y11) (y12 := y12) (y13 := y13) (y14 := y14) (y15 := y15) (y16 := y16) (y17 := y17) (y18 := y18) q
  obtain ⟨R, hR⟩ : ∃ R, R = Blaw.drop 14 := ⟨_, rfl⟩
  have hB : Blaw.drop 13 = _ :: Blaw.drop 14 := rfl
  rw [← hR] at hB nxt
  rw [hB]
  clear hB hR
  unfold Glaw at nxt ⊢
  walk_at "z"
  unfold for3
  walk_at "z"
  refine ⟨szl, ?_⟩
  simp only [itemsA]
  refine turns_inv (fun r e M' => M' = M ∧ (∃ y17, e = [y0, y1, y2, y3, y4, y5, y6, y7, y8, y9, y10, y11, y12, y13, y14, y15, y16, y17, y18]) ∧ ∀ x ∈ r, x = D.str "roads" ∨ x = D.str "sacks") ?_ ?_ _ _ _ ⟨rfl, ⟨_, rfl⟩, by simp⟩
  · rintro x r e M' nx ⟨rfl, ⟨y17, rfl⟩, hr⟩ hnx
    have done : nx [y0, y1, y2, y3, y4, y5, y6, y7, y8, y9, y10, y11, y12, y13, y14, y15, y16, some x, y18] M' := hnx _ _ ⟨rfl, ⟨_, rfl⟩, fun y hy => hr y (List.mem_cons_of_mem _ hy)⟩
    refine ⟨_, rfl, ?_⟩
    walk_at "z"
    rcases hr x (by simp) with rfl | rfl
    · refine ⟨by trivial, _, rfl, ?_⟩
      have w1 : isW ("roads" : Str) "roads" = 1 := by decide +kernel
      have w2 : isW ("roads" : Str) "sacks" = 0 := by decide +kernel
      rw [w1, w2]
      obtain ⟨d1, d2, d3, d4⟩ := great_dpl 1 0 (by decide) (by decide)
      have hf := great_10
      unfold greatD at hf ⊢
      refine fault_ok rfl d1 d2 d3 d4 ?_
      rw [hf]
      refine ne3_str ?_
      rw [eqv_self_str]
      exact done
    · refine ⟨by trivial, _, rfl, ?_⟩
      have w1 : isW ("sacks" : Str) "roads" = 0 := by decide +kernel
      have w2 : isW ("sacks" : Str) "sacks" = 1 := by decide +kernel
      rw [w1, w2]
      obtain ⟨d1, d2, d3, d4⟩ := great_dpl 0 1 (by decide) (by decide)
      have hf := great_01
      unfold greatD at hf ⊢
      refine fault_ok rfl d1 d2 d3 d4 ?_
      rw [hf]
      refine ne3_str ?_
      rw [eqv_self_str]
      exact done
  · rintro e M' ⟨rfl, ⟨y17, rfl⟩, _⟩
    exact nxt y17 M'
end
end K93

namespace K93
open PySem PySem.Spec PyProof.Rows L2 Z
local macro_rules | `(tactic| walk_at "z") => `(tactic| simp only [wpss, wps, wpe, wpt, wpl, wpv, wpb, wpo, wpc, wpp, seq3, next3, brk3, cnt3, drop3, ret3, retN3, if3, asg3, bindT, setAll, par3, sput3, aug3, iadd3, isub3, loc3, con3, op1, op2, tst, chain3, and3, or3, not3, ite3, andV3, orV3, notV3, nil3, cons3, tup3, lst3, lstM3, callG, cstG, nth, call3, opL, c1, c2, ofO, ofO2, Bt.ol, BOp.o2, COp.o2, getE, setE, wipeE, wipeE1, startE, bodyEnds, isi3, tru3, sl3, noP3, part3, iterL, wi, rng1A, rng2A, enumA, List.map_cons, List.map_nil])
theorem fault_okL {M : MH} {Q : Q3} {E : X3} {L : List D} (hl : L.length = 5) (hd : ∀ x ∈ L, dpl x = true) (q : Q (faultD (.tup L)) M) : [D.tup L].length = 1 ∧ spdespatch_fault [.tup L] M Q E := by
  match L, hl, hd, q with
  | [a, b, c, d, e], _, hd, q => exact fault_ok (hd a (by simp)) (hd b (by simp)) (hd c (by simp)) (hd d (by simp)) (hd e (by simp)) q
theorem set_dpl {L : List D} {i : Nat} {v : D} (hd : ∀ x ∈ L, dpl x = true) (hv : dpl v = true) : ∀ x ∈ L.set i v, dpl x = true := by
  intro x hx
  rcases List.mem_or_eq_of_mem_set hx with h | h
  · exact hd x h
  · rw [h]; exact hv
theorem five_dpl {last : Int} {offices roads sacks : List D} {goal : D} (hg : GoodD last offices roads sacks goal) : ∀ x ∈ five last offices roads sacks goal, dpl x = true := by
  intro x hx
  simp only [five, List.mem_cons, List.not_mem_nil, or_false] at hx
  rcases hx with rfl | rfl | rfl | rfl | rfl
  · rfl
  · exact hg.dp.1
  · exact hg.dp.2.1
  · exact hg.dp.2.2.1
  · exact hg.dp.2.2.2
theorem with_ok {M : MH} {Q : Q3} {E : X3} {xs : List D} {i : Nat} {v : D} (hi : i < xs.length) (hx : xs.length ≤ 1000) (q : Q (.tup (xs.set i v)) M) : [D.tup xs, .int (i : Nat), v].length = 3 ∧ sp_law_with [.tup xs, .int (i : Nat), v] M Q E := ⟨rfl, xs, i, v, rfl, hi, hx, q⟩
def wordsL : List D := [.str "last", .str "offices", .str "roads", .str "sacks", .str "goal"]
theorem wordsL_get {k : Nat} (h : k < 5) : wordsL[k]? = some (wordOf k) := by
  match k, h with
  | 0, _ => rfl
  | 1, _ => rfl
  | 2, _ => rfl
  | 3, _ => rfl
  | 4, _ => rfl
theorem wordOf_str (k : Nat) : ∃ x, wordOf k = .str x := by
  match k with
  | 0 => exact ⟨_, rfl⟩
  | 1 => exact ⟨_, rfl⟩
  | 2 => exact ⟨_, rfl⟩
  | 3 => exact ⟨_, rfl⟩
  | k + 4 => exact ⟨_, rfl⟩
theorem ne_words {k : Nat} {M : MH} {Q : Q3} (q : Q (.bl false) M) : ne3 (wordOf k) (wordOf k) M Q := by
  obtain ⟨x, e⟩ := wordOf_str k
  rw [e]
  refine ne3_str ?_
  rw [eqv_self_str]; exact q
section
variable {Q : Q3} {E : X3} {y0 y3 y4 y5 y6 y7 y8 y9 y12 y13 y14 y15 y16 y17 y18 : Option D} {a : Addr} {row ws offices roads sacks : List D} {last : Int} {goal : D}
theorem law_t12 {M : MH} (hg : GoodD last offices roads sacks goal) (hb : Bx M a row) (h0 : ws ≠ []) (hl : ws.length ≤ 1000) (hw : ∀ w ∈ ws, WrongP (offices.map fst) last w) (q : ∀ M', Q (.bl true) M') :
    wpss Glaw E (Blaw.drop 12) (bodyEnds Q) [y0, some (.ref a), some (.tup (five last offices roads sacks goal)), y3, y4, y5, y6, y7, y8, y9, some (.lst wordsL), some (.lst ws), y12, y13, y14, y15, y16, y17, y18] M := by
  have nxt := fun y14 y15 y16 M => law_t13 (E := E) (M := M) (y0 := y0) (y1 := some (.ref a)) (y2 := some (.tup (five last offices roads sacks goal))) (y3 := y3) (y4 := y4) (y5 := y5) (y6 := y6) (y7 := y7) (y8 := y8) (y9 := y9) (y10 := some (.lst wordsL)) (y11 := some (.lst ws)) (y12 := y12) (y13 := y13) (y14 := y14) (y15 := y15) (y16 := y16) (y17 := y17) (y18 := y18) q
  obtain ⟨R, hR⟩ : ∃ R, R = Blaw.drop 13 := ⟨_, rfl⟩
  have hB : Blaw.drop 12 = _ :: Blaw.drop 13 := rfl
  rw [← hR] at hB nxt
  rw [hB]
  clear hB hR
  unfold Glaw at nxt ⊢
  walk_at "z"
  unfold for3
  walk_at "z"
  refine ⟨by decide, ?_⟩
  have h5 : ∀ {k v}, ((five last offices roads sacks goal).set k v).length = 5 := by
    intro k v; rw [List.length_set]; rfl
  refine turns_inv (fun r e M' => Bx M' a row ∧ ∃ y14 y15 y16, e = [y0, some (.ref a), some (.tup (five last offices roads sacks goal)), y3, y4, y5, y6, y7, y8, y9, some (.lst wordsL), some (.lst ws), y12, y13, y14, y15, y16, y17, y18]) ?_ ?_ _ _ _ ⟨hb, _, _, _, rfl⟩
  · rintro x r e M' nx ⟨hb, y14, y15, y16, rfl⟩ hnx
    refine ⟨_, rfl, ?_⟩
    walk_at "z"
    refine pick_ok hb h0 (by omega) fun one t1 h1 => ?_
    refine pick_ok (Bx.up hb.ok) h0 (by omega) fun two t2 h2 => ?_
    rw [up_up]
    obtain ⟨k, v, rfl, hk, dv, wv⟩ := hw one h1
    obtain ⟨j, u, rfl, hj, du, wu⟩ := hw two h2
    refine ix_tup (i := 0) rfl (ix_tup (i := 1) rfl (with_ok hk (show 5 ≤ 1000 by decide) ?_))
    refine ix_tup (i := 0) rfl (ix_tup (i := 1) rfl (with_ok (by rw [h5]; exact hj) (by rw [h5]; decide) ?_))
    refine fault_okL (by rw [List.length_set]; exact h5) (set_dpl (set_dpl (five_dpl hg) dv) du) ?_
    rw [fault_two hg hk hj wv wu]
    refine ix_tup (i := 0) rfl (ix_tup (i := 0) rfl ?_)
    have hm : minA (up M' a (bx row t2)) (.int (k : Nat)) (.int (j : Nat)) = some (.int ((min k j : Nat) : Int)) := by
      show some (D.int (if ((j : Nat) : Int) < (k : Nat) then (j : Nat) else (k : Nat))) = _
      by_cases h : j < k
      · rw [if_pos (by omega), Nat.min_eq_right (by omega)]
      · rw [if_neg (by omega), Nat.min_eq_left (by omega)]
    simp only [hm]
    refine ix_lst (wordsL_get (by omega)) (ne_words ?_)
    exact hnx _ _ ⟨Bx.up hb.ok, _, _, _, rfl⟩
  · rintro e M' ⟨hb, y14, y15, y16, rfl⟩
    exact nxt y14 y15 y16 M'
theorem law_t11 {M : MH} (hg : GoodD last offices roads sacks goal) (hb : Bx M a row) (h0 : ws ≠ []) (hl : ws.length ≤ 1000) (hw : ∀ w ∈ ws, WrongP (offices.map fst) last w) (q : ∀ M', Q (.bl true) M') :
    wpss Glaw E (Blaw.drop 11) (bodyEnds Q) [y0, some (.ref a), some (.tup (five last offices roads sacks goal)), y3, y4, y5, y6, y7, y8, y9, some (.lst wordsL), some (.lst ws), y12, y13, y14, y15, y16, y17, y18] M := by
  have nxt := fun y12 y13 => law_t12 (E := E) (y0 := y0) (y3 := y3) (y4 := y4) (y5 := y5) (y6 := y6) (y7 := y7) (y8 := y8) (y9 := y9) (y12 := y12) (y13 := y13) (y14 := y14) (y15 := y15) (y16 := y16) (y17 := y17) (y18 := y18) hg hb h0 hl hw q
  obtain ⟨R, hR⟩ : ∃ R, R = Blaw.drop 12 := ⟨_, rfl⟩
  have hB : Blaw.drop 11 = _ :: Blaw.drop 12 := rfl
  rw [← hR] at hB nxt
  rw [hB]
  clear hB hR
  unfold Glaw at nxt ⊢
  walk_at "z"
  unfold for3
  walk_at "z"
  simp only [itemsA]
  have h5 : ∀ {k v}, ((five last offices roads sacks goal).set k v).length = 5 := by
    intro k v; rw [List.length_set]; rfl
  refine turns_inv (fun r e M' => M' = M ∧ (∀ w ∈ r, WrongP (offices.map fst) last w) ∧ ∃ y12 y13, e = [y0, some (.ref a), some (.tup (five last offices roads sacks goal)), y3, y4, y5, y6, y7, y8, y9, some (.lst wordsL), some (.lst ws), y12, y13, y14, y15, y16, y17, y18]) ?_ ?_ _ _ _ ⟨rfl, hw, _, _, rfl⟩
  · rintro x r e M' nx ⟨rfl, hr, y12, y13, rfl⟩ hnx
    obtain ⟨k, v, rfl, hk, dv, wv⟩ := hr x (by simp)
    refine ⟨_, rfl, ?_⟩
    walk_at "z"
    refine with_ok hk (show 5 ≤ 1000 by decide) ?_
    refine fault_okL h5 (set_dpl (five_dpl hg) dv) ?_
    rw [fault_one hg hk wv]
    refine ix_lst (wordsL_get hk) (ne_words ?_)
    exact hnx _ _ ⟨rfl, fun w h => hr w (List.mem_cons_of_mem _ h), _, _, rfl⟩
  · rintro e M' ⟨rfl, _, y12, y13, rfl⟩
    exact nxt y12 y13
end
end K93

namespace K93
open PySem PySem.Spec PyProof.Rows L2 Z
local macro_rules | `(tactic| walk_at "z") => `(tactic| simp only [wpss, wps, wpe, wpt, wpl, wpv, wpb, wpo, wpc, wpp, seq3, next3, brk3, cnt3, drop3, ret3, retN3, if3, asg3, bindT, setAll, par3, sput3, aug3, iadd3, isub3, loc3, con3, op1, op2, tst, chain3, and3, or3, not3, ite3, andV3, orV3, notV3, nil3, cons3, tup3, lst3, lstM3, callG, cstG, nth, call3, opL, c1, c2, ofO, ofO2, Bt.ol, BOp.o2, COp.o2, getE, setE, wipeE, wipeE1, startE, bodyEnds, isi3, tru3, sl3, noP3, part3, iterL, wi, rng1A, rng2A, enumA, List.map_cons, List.map_nil])
def cut3 : D → D | .tp .t ds => .tup (ds.take 3) | d => d
theorem sl_cut3 {M : MH} {xs : List D} : slA M (.tup xs) none (some 3) = some (.tup (xs.take 3)) := by
  show some (D.tup (Z.cutD xs none (some 3))) = _
  unfold Z.cutD
  rw [HT.sIx_none, show HT.sIx xs.length xs.length (some 3) = min 3 xs.length from HT.sIx_nat xs.length xs.length 3, List.drop_zero, Nat.sub_zero]
  congr 2
  by_cases h : 3 ≤ xs.length
  · rw [Nat.min_eq_left h]
  · rw [Nat.min_eq_right (by omega), List.take_of_length_le (Nat.le_refl _), List.take_of_length_le (by omega)]
section
variable {Q : Q3} {E : X3} {y0 y3 y4 y5 y6 y7 y8 y9 y10 y11 y12 y13 y14 y15 y16 y17 y18 : Option D} {a : Addr} {row offices roads sacks : List D} {last : Int} {goal yard : D} {room : Int}
theorem law_t9 {M : MH} (hg : GoodD last offices roads sacks goal) (hb : Bx M a row) (h2 : 2 ≤ offices.length) (q : ∀ M', Q (.bl true) M') :
    wpss Glaw E (Blaw.drop 9) (bodyEnds Q) [y0, some (.ref a), some (.tup (five last offices roads sacks goal)), y3, y4, y5, y6, y7, y8, y9, y10, y11, y12, y13, y14, y15, y16, y17, y18] M := by
  have nxt := fun ws M hb h0 hl hw => law_t11 (E := E) (M := M) (row := row) (y0 := y0) (y3 := y3) (y4 := y4) (y5 := y5) (y6 := y6) (y7 := y7) (y8 := y8) (y9 := y9) (y12 := y12) (y13 := y13) (y14 := y14) (y15 := y15) (y16 := y16) (y17 := y17) (y18 := y18) (a := a) (ws := ws) hg hb h0 hl hw q
  obtain ⟨R, hR⟩ : ∃ R, R = Blaw.drop 11 := ⟨_, rfl⟩
  have hB : Blaw.drop 9 = _ :: _ :: Blaw.drop 11 := rfl
  rw [← hR] at hB nxt
  rw [hB]
  clear hB hR
  unfold Glaw at nxt ⊢
  walk_at "z"
  refine ⟨szl, by trivial, _, last, offices, roads, sacks, goal, rfl, hg, h2, fun ws h0 hl hw => ?_⟩
  exact nxt ws M hb h0 hl hw
theorem law_t8 {M : MH} (hg : GoodD last offices roads sacks goal) (hb : Bx M a row) (h2 : 2 ≤ offices.length) (hy : roomOk yard) (r0 : 0 ≤ room) (r1 : room ≤ 1000) (q : ∀ M', Q (.bl true) M') :
    wpss Glaw E (Blaw.drop 8) (bodyEnds Q) [y0, some (.ref a), some (.tup (five last offices roads sacks goal)), y3, some (.tup [.int last, .tup (offices.map fst), .tup [], .tup (roads.map cut3), .tup []]), y5, y6, some yard, some (.int room), some (.tup [.int last, .tup (offices.map (dueO yard)), .tup (roads.map (dueR (.int room))), .tup sacks, goal]), y10, y11, y12, y13, y14, y15, y16, y17, y18] M := by
  have nxt := law_t9 (E := E) (M := M) (y0 := y0) (y3 := y3) (y4 := some (.tup [.int last, .tup (offices.map fst), .tup [], .tup (roads.map cut3), .tup []])) (y5 := y5) (y6 := y6) (y7 := some yard) (y8 := some (.int room)) (y9 := some (.tup [.int last, .tup (offices.map (dueO yard)), .tup (roads.map (dueR (.int room))), .tup sacks, goal])) (y10 := y10) (y11 := y11) (y12 := y12) (y13 := y13) (y14 := y14) (y15 := y15) (y16 := y16) (y17 := y17) (y18 := y18) hg hb h2 q
  obtain ⟨R, hR⟩ : ∃ R, R = Blaw.drop 9 := ⟨_, rfl⟩
  have hB : Blaw.drop 8 = _ :: Blaw.drop 9 := rfl
  rw [← hR] at hB nxt
  rw [hB]
  clear hB hR
  have h := shape_of hg
  have hd := due_good hg hy r0 r1
  unfold Glaw at nxt ⊢
  walk_at "z"
  refine ix_tup (i := 3) rfl (ix_tup (i := 4) rfl ?_)
  refine ⟨by trivial, .int last, offices.map fst, .tup [], roads.map cut3, .tup [], yard, .int room, .tup sacks, goal, rfl, by rw [List.length_map]; have := h.olen.2; omega, by rw [List.length_map]; have := h.rlen; omega, fun r hr => ?_, ?_⟩
  · obtain ⟨r2, hr2, rfl⟩ := List.mem_map.mp hr
    obtain ⟨x, y, i, rm, rfl, _⟩ := h.road r2 hr2
    exact ⟨_, rfl, by simp⟩
  · have e1 : (offices.map fst).map (fun n => D.tup [n, yard]) = offices.map (dueO yard) := by
      rw [List.map_map]; rfl
    have e2 : (roads.map cut3).map (dueRoad (.int room)) = roads.map (dueR (.int room)) := by
      rw [List.map_map]
      refine List.map_congr_left fun r hr => ?_
      obtain ⟨x, y, i, rm, rfl, _⟩ := h.road r hr
      rfl
    rw [e1, e2]
    refine ne_self (good_lay hd) ?_
    simp only []
    refine fault_ok rfl hd.dp.1 hd.dp.2.1 hg.dp.2.2.1 hg.dp.2.2.2 ?_
    rw [hd.ok]
    exact notN_non nxt
theorem law_t4 {M : MH} (hg : GoodD last offices roads sacks goal) (hb : Bx M a row) (h2 : 2 ≤ offices.length) (q : ∀ M', Q (.bl true) M') :
    wpss Glaw E (Blaw.drop 4) (bodyEnds Q) [y0, some (.ref a), some (.tup (five last offices roads sacks goal)), y3, y4, y5, y6, y7, y8, y9, y10, y11, y12, y13, y14, y15, y16, y17, y18] M := by
  have nxt := fun yard room M hb hy r0 r1 => law_t8 (E := E) (M := M) (row := row) (yard := yard) (room := room) (a := a) (y0 := y0) (y3 := y3) (y5 := y5) (y6 := y6) (y10 := y10) (y11 := y11) (y12 := y12) (y13 := y13) (y14 := y14) (y15 := y15) (y16 := y16) (y17 := y17) (y18 := y18) hg hb h2 hy r0 r1 q
  obtain ⟨R, hR⟩ : ∃ R, R = Blaw.drop 8 := ⟨_, rfl⟩
  have hB : Blaw.drop 4 = _ :: _ :: _ :: _ :: Blaw.drop 8 := rfl
  rw [← hR] at hB nxt
  rw [hB]
  clear hB hR
  have h := shape_of hg
  unfold Glaw at nxt ⊢
  walk_at "z"
  refine ix_tup (i := 0) rfl ?_
  refine comp3_map (items := offices) fst (fun k hk => ?_) (fun d hd => ⟨_, rfl, fun p l hp k hk => ?_⟩) ?_
  · walk_at "z"
    exact ix_tup (i := 1) rfl hk
  · obtain ⟨x, rm, rfl, _⟩ := h.off d hd
    walk_at "z"
    exact ix_tup (i := 0) rfl hk
  · simp only [tupA, asL]
    refine ⟨szl, ?_⟩
    refine comp3_map (items := roads) cut3 (fun k hk => ?_) (fun d hd => ⟨_, rfl, fun p l hp k hk => ?_⟩) ?_
    · walk_at "z"
      exact ix_tup (i := 2) rfl hk
    · obtain ⟨x, y, i, rm, rfl, _⟩ := h.road d hd
      walk_at "z"
      rw [sl_cut3]
      exact hk
    · refine ⟨szl, szl, ?_⟩
      refine take_ok hb (by decide) (by decide) fun z t z0 z1 => ?_
      refine ⟨szl, pick_ok (Bx.up hb.ok) (by simp) (by simp) fun yard t2 hyd => ?_⟩
      rw [up_up]
      refine take_ok (Bx.up hb.ok) (by decide) (by decide) fun room t3 r0 r1 => ?_
      rw [up_up]
      have hy : roomOk yard := by
        simp only [List.mem_cons, List.not_mem_nil, or_false] at hyd
        rcases hyd with rfl | rfl | rfl
        · exact .inl rfl
        · exact .inr ⟨_, rfl, by decide, by decide⟩
        · exact .inr ⟨_, rfl, by omega, by omega⟩
      refine ix_tup (i := 0) rfl ?_
      refine comp3_map (items := offices) (dueO yard) (fun k hk => ?_) (fun d hd => ⟨_, rfl, fun p l hp k hk => ?_⟩) ?_
      · walk_at "z"
        exact ix_tup (i := 1) rfl hk
      · obtain ⟨x, rm, rfl, _⟩ := h.off d hd
        walk_at "z"
        exact ix_tup (i := 0) rfl ⟨szl, hk⟩
      · simp only [tupA, asL]
        refine comp3_map (items := roads) (dueR (.int room)) (fun k hk => ?_) (fun d hd => ⟨_, rfl, fun p l hp k hk => ?_⟩) ?_
        · walk_at "z"
          exact ix_tup (i := 2) rfl hk
        · obtain ⟨x, y, i, rm, rfl, _⟩ := h.road d hd
          walk_at "z"
          rw [sl_cut3]
          refine ⟨szl, ?_⟩
          simp only [add3]
          exact ⟨szl, hk⟩
        · refine ⟨szl, ?_⟩
          rw [show (3 : Int) = ((3 : Nat) : Int) from rfl, sl_hi (show 3 ≤ 5 by decide)]
          simp only [add3]
          refine ⟨szl, ?_⟩
          exact nxt yard room _ (Bx.up hb.ok) hy r0 (by omega)
end
end K93

namespace K93
open PySem PySem.Spec PyProof.Rows L2 Z
local macro_rules | `(tactic| walk_at "z") => `(tactic| simp only [wpss, wps, wpe, wpt, wpl, wpv, wpb, wpo, wpc, wpp, seq3, next3, brk3, cnt3, drop3, ret3, retN3, if3, asg3, bindT, setAll, par3, sput3, aug3, iadd3, isub3, loc3, con3, op1, op2, tst, chain3, and3, or3, not3, ite3, andV3, orV3, notV3, nil3, cons3, tup3, lst3, lstM3, callG, cstG, nth, call3, opL, c1, c2, ofO, ofO2, Bt.ol, BOp.o2, COp.o2, getE, setE, wipeE, wipeE1, startE, bodyEnds, isi3, tru3, sl3, noP3, part3, iterL, wi, rng1A, rng2A, enumA, List.map_cons, List.map_nil])
section
variable {Q : Q3} {E : X3} {y0 y3 y4 y5 y6 y7 y8 y9 y10 y11 y12 y13 y14 y15 y16 y17 y18 : Option D} {a : Addr} {row offices roads sacks : List D} {last : Int} {goal : D}
theorem law_t3 {M : MH} (hg : GoodD last offices roads sacks goal) (hb : Bx M a row) (h2 : 2 ≤ offices.length) (q : ∀ M', Q (.bl true) M') :
    wpss Glaw E (Blaw.drop 3) (bodyEnds Q) [y0, some (.ref a), some (.tup (five last offices roads sacks goal)), y3, y4, y5, y6, y7, y8, y9, y10, y11, y12, y13, y14, y15, y16, y17, y18] M := by
  have nxt := law_t4 (E := E) (M := M) (y0 := y0) (y3 := y3) (y4 := y4) (y5 := y5) (y6 := y6) (y7 := y7) (y8 := y8) (y9 := y9) (y10 := y10) (y11 := y11) (y12 := y12) (y13 := y13) (y14 := y14) (y15 := y15) (y16 := y16) (y17 := y17) (y18 := y18) hg hb h2 q
  obtain ⟨R, hR⟩ : ∃ R, R = Blaw.drop 4 := ⟨_, rfl⟩
  have hB : Blaw.drop 3 = _ :: Blaw.drop 4 := rfl
  rw [← hR] at hB nxt
  rw [hB]
  clear hB hR
  have h := shape_of hg
  have hr := shape_rides h hg.l0 (by have := hg.l1; omega)
  unfold Glaw at nxt ⊢
  walk_at "z"
  refine fault_ok rfl hg.dp.1 hg.dp.2.1 hg.dp.2.2.1 hg.dp.2.2.2 ?_
  rw [hg.ok]
  refine notN_non ?_
  simp only []
  refine ⟨by trivial, last, offices, roads, .tup sacks, goal, rfl, hr, ?_⟩
  refine ⟨by trivial, last, offices, roads, .tup sacks, goal, rfl, hr, ?_⟩
  exact ne_self (rides_lay h) nxt
end
theorem plaw (ds : List D) (M : MH) (Q : Q3) (E : X3) (_ : ds.length = 1) (h : splaw ds M Q E) : wpss Glaw E Blaw (bodyEnds Q) (startE Nlaw.length ds) M := by
  obtain ⟨ns, rfl, hns, rfl, q⟩ := h
  show wpss Glaw E Blaw (bodyEnds Q) [some (.flst (ns.map D.int)), none, none, none, none, none, none, none, none, none, none, none, none, none, none, none, none, none, none] M00
  have nxt := fun y3 (a : Addr) (row : List D) (M : MH) (last : Int) (offices roads sacks : List D) (goal : D) hg hb h2 => law_t3 (E := E) (M := M) (Q := Q) (a := a) (row := row) (last := last) (offices := offices) (roads := roads) (sacks := sacks) (goal := goal) (y0 := some (.flst (ns.map D.int))) (y3 := y3) (y4 := none) (y5 := none) (y6 := none) (y7 := none) (y8 := none) (y9 := none) (y10 := none) (y11 := none) (y12 := none) (y13 := none) (y14 := none) (y15 := none) (y16 := none) (y17 := none) (y18 := none) hg hb h2 q
  obtain ⟨R, hR⟩ : ∃ R, R = Blaw.drop 3 := ⟨_, rfl⟩
  have hB : Blaw = _ :: _ :: _ :: Blaw.drop 3 := rfl
  rw [← hR] at hB nxt
  rw [hB]
  clear hB hR
  unfold Glaw at nxt ⊢
  walk_at "z"
  refine ⟨by trivial, ns, rfl, hns, fun a row ok hm => ?_⟩
  have hb : Bx (up M00 a (bx row 0)) a row := Bx.up ok
  refine ⟨by trivial, a, row, rfl, hb, fun last offices roads sacks goal t hg => ?_⟩
  rw [up_up]
  have hb2 : Bx (up M00 a (bx row t)) a row := Bx.up ok
  refine ix_tup (i := 1) rfl ?_
  simp only [lenA_tp, lt3]
  by_cases h2 : (offices.length : Int) < 2
  · rw [decide_eq_true h2]
    refine ⟨szl, ?_⟩
    refine ix_tup (i := 0) rfl (ix_lst (i := 0) rfl ⟨szl, ix_lst (i := 1) rfl ⟨szl, szl, ix_lst (i := 1) rfl (ix_lst (i := 0) rfl ⟨szl, szl, ix_tup (i := 0) rfl ⟨szl, szl, ix_lst (i := 0) rfl ⟨szl, ?_⟩⟩⟩)⟩⟩)
    exact nxt _ a row _ last _ _ _ _ (small_good hg.l0 hg.l1) hb2 (by decide)
  · rw [decide_eq_false h2]
    exact nxt none a row _ last offices roads sacks goal hg hb2 (by omega)
theorem lawHolds (ns : List Int) (h : ns.length ≤ 63) : splaw [.flst (ns.map D.int)] M00 (fun v _ => v = .bl true) noX := ⟨ns, rfl, h, rfl, fun _ => rfl⟩
end K93

namespace K93
open PySem PySem.Spec PyProof.Rows L2 Z

structure FA (K : PySem.W.Frag) : Prop where
  dis_integer : DF K "is_integer" sis_integer
  dis_between : DF K "is_between" sis_between
  dis_day : DF K "is_day" sis_day
  dis_row : DF K "is_row" sis_row
  dis_name : DF K "is_name" sis_name
  dis_ascending : DF K "is_ascending" sis_ascending
  dis_room : DF K "is_room" sis_room
  dis_yard : DF K "is_yard" sis_yard
  dare_yards : DF K "are_yards" sare_yards
  dis_coach : DF K "is_coach" sis_coach
  dare_coaches : DF K "are_coaches" sare_coaches
  dis_handed : DF K "is_handed" sis_handed
  dare_sacks : DF K "are_sacks" sare_sacks
  ddespatch_fault : DF K "despatch_fault" sdespatch_fault
  drides_of : DF K "rides_of" srides_of
  ddespatch_of : DF K "despatch_of" sdespatch_of
  d_law_digits : DF K "_law_digits" s_law_digits
  d_law_box : DF K "_law_box" s_law_box
  d_law_take : DF K "_law_take" s_law_take
  d_law_pick : DF K "_law_pick" s_law_pick
  d_law_word : DF K "_law_word" s_law_word
  d_law_names : DF K "_law_names" s_law_names
  d_law_despatch : DF K "_law_despatch" s_law_despatch
  d_law_rides : DF K "_law_rides" s_law_rides
  d_law_with : DF K "_law_with" s_law_with
  d_law_wrong : DF K "_law_wrong" s_law_wrong
  d_law_great : DF K "_law_great" s_law_great
  dlaw : DF K "law" slaw
  cMAX_COACHES : DC K "MAX_COACHES" (D.int 30)
  cMAX_DAY : DC K "MAX_DAY" (D.int 60)
  cMAX_HANDED : DC K "MAX_HANDED" (D.int 100)
  cMAX_ROOM : DC K "MAX_ROOM" (D.int 1000)
  cMAX_YARDS : DC K "MAX_YARDS" (D.int 8)
  ball : DB K "all"
  bbool : DB K "bool"
  bint : DB K "int"
  bisinstance : DB K "isinstance"
  blen : DB K "len"
  blist : DB K "list"
  bmin : DB K "min"
  brange : DB K "range"
  bsorted : DB K "sorted"
  bstr : DB K "str"
  btuple : DB K "tuple"
section
variable {P : Program} {w : World} {K : PySem.W.Frag} {mg : Str → Option Value} {base h : Heap}
theorem ois_integer : scopeOk Nis_integer ["value"] (defScope sis_integer) = true := by decide +kernel
theorem tis_integer : chkSs Gis_integer Nis_integer (defScope sis_integer) Bis_integer (defBody sis_integer) = true := by decide +kernel
theorem cis_integer (X : K.In h) (g : h.Ns mainGlobals mg) (A : FA K) : Cal P w K mg base noXR 1 "is_integer" 1 spis_integer :=
  cal_mk (G := Gis_integer) X g A.dis_integer ois_integer rfl (fun _ _ _ _ _ _ us hl => match us, hl with | [_], _ => rfl) .nil .nil (.cons (A.bisinstance) (.cons (A.bint) (.cons (A.bbool) .nil))) tis_integer pis_integer
theorem ois_between : scopeOk Nis_between ["value", "low", "high"] (defScope sis_between) = true := by decide +kernel
theorem tis_between : chkSs Gis_between Nis_between (defScope sis_between) Bis_between (defBody sis_between) = true := by decide +kernel
theorem cis_between (X : K.In h) (g : h.Ns mainGlobals mg) (A : FA K) : Cal P w K mg base noXR 2 "is_between" 3 spis_between :=
  cal_mk (G := Gis_between) X g A.dis_between ois_between rfl (fun _ _ _ _ _ _ us hl => match us, hl with | [_, _, _], _ => rfl) (.cons ((cis_integer X g A).mono (by decide)) .nil) .nil .nil tis_between pis_between
theorem ois_day : scopeOk Nis_day ["value"] (defScope sis_day) = true := by decide +kernel
theorem tis_day : chkSs Gis_day Nis_day (defScope sis_day) Bis_day (defBody sis_day) = true := by decide +kernel
theorem cis_day (X : K.In h) (g : h.Ns mainGlobals mg) (A : FA K) : Cal P w K mg base noXR 3 "is_day" 1 spis_day :=
  cal_mk (G := Gis_day) X g A.dis_day ois_day rfl (fun _ _ _ _ _ _ us hl => match us, hl with | [_], _ => rfl) (.cons ((cis_between X g A).mono (by decide)) .nil) (.cons (A.cMAX_DAY) .nil) .nil tis_day pis_day
theorem ois_row : scopeOk Nis_row ["value", "size"] (defScope sis_row) = true := by decide +kernel
theorem tis_row : chkSs Gis_row Nis_row (defScope sis_row) Bis_row (defBody sis_row) = true := by decide +kernel
theorem cis_row (X : K.In h) (g : h.Ns mainGlobals mg) (A : FA K) : Cal P w K mg base noXR 1 "is_row" 2 spis_row :=
  cal_mk (G := Gis_row) X g A.dis_row ois_row rfl (fun _ _ _ _ _ _ us hl => match us, hl with | [_, _], _ => rfl) .nil .nil (.cons (A.bisinstance) (.cons (A.btuple) (.cons (A.blen) .nil))) tis_row pis_row
theorem ois_name : scopeOk Nis_name ["value"] (defScope sis_name) = true := by decide +kernel
theorem tis_name : chkSs Gis_name Nis_name (defScope sis_name) Bis_name (defBody sis_name) = true := by decide +kernel
theorem cis_name (X : K.In h) (g : h.Ns mainGlobals mg) (A : FA K) : Cal P w K mg base noXR 1 "is_name" 1 spis_name :=
  cal_mk (G := Gis_name) X g A.dis_name ois_name rfl (fun _ _ _ _ _ _ us hl => match us, hl with | [_], _ => rfl) .nil .nil (.cons (A.bisinstance) (.cons (A.bstr) (.cons (A.blen) (.cons (A.ball) .nil)))) tis_name pis_name
theorem ois_ascending : scopeOk Nis_ascending ["row"] (defScope sis_ascending) = true := by decide +kernel
theorem tis_ascending : chkSs Gis_ascending Nis_ascending (defScope sis_ascending) Bis_ascending (defBody sis_ascending) = true := by decide +kernel
theorem cis_ascending (X : K.In h) (g : h.Ns mainGlobals mg) (A : FA K) : Cal P w K mg base noXR 1 "is_ascending" 1 spis_ascending :=
  cal_mk (G := Gis_ascending) X g A.dis_ascending ois_ascending rfl (fun _ _ _ _ _ _ us hl => match us, hl with | [_], _ => rfl) .nil .nil (.cons (A.ball) (.cons (A.brange) (.cons (A.blen) .nil))) tis_ascending pis_ascending
theorem ois_room : scopeOk Nis_room ["value"] (defScope sis_room) = true := by decide +kernel
theorem tis_room : chkSs Gis_room Nis_room (defScope sis_room) Bis_room (defBody sis_room) = true := by decide +kernel
theorem cis_room (X : K.In h) (g : h.Ns mainGlobals mg) (A : FA K) : Cal P w K mg base noXR 3 "is_room" 1 spis_room :=
  cal_mk (G := Gis_room) X g A.dis_room ois_room rfl (fun _ _ _ _ _ _ us hl => match us, hl with | [_], _ => rfl) (.cons ((cis_between X g A).mono (by decide)) .nil) (.cons (A.cMAX_ROOM) .nil) .nil tis_room pis_room
theorem ois_yard : scopeOk Nis_yard ["value"] (defScope sis_yard) = true := by decide +kernel
theorem tis_yard : chkSs Gis_yard Nis_yard (defScope sis_yard) Bis_yard (defBody sis_yard) = true := by decide +kernel
theorem cis_yard (X : K.In h) (g : h.Ns mainGlobals mg) (A : FA K) : Cal P w K mg base noXR 4 "is_yard" 1 spis_yard :=
  cal_mk (G := Gis_yard) X g A.dis_yard ois_yard rfl (fun _ _ _ _ _ _ us hl => match us, hl with | [_], _ => rfl) (.cons ((cis_row X g A).mono (by decide)) (.cons ((cis_name X g A).mono (by decide)) (.cons ((cis_room X g A).mono (by decide)) .nil))) .nil .nil tis_yard pis_yard
theorem oare_yards : scopeOk Nare_yards ["offices"] (defScope sare_yards) = true := by decide +kernel
theorem tare_yards : chkSs Gare_yards Nare_yards (defScope sare_yards) Bare_yards (defBody sare_yards) = true := by decide +kernel
theorem care_yards (X : K.In h) (g : h.Ns mainGlobals mg) (A : FA K) : Cal P w K mg base noXR 5 "are_yards" 1 spare_yards :=
  cal_mk (G := Gare_yards) X g A.dare_yards oare_yards rfl (fun _ _ _ _ _ _ us hl => match us, hl with | [_], _ => rfl) (.cons ((cis_yard X g A).mono (by decide)) (.cons ((cis_ascending X g A).mono (by decide)) .nil)) (.cons (A.cMAX_YARDS) .nil) (.cons (A.bisinstance) (.cons (A.btuple) (.cons (A.blen) (.cons (A.ball) .nil)))) tare_yards pare_yards
theorem ois_coach : scopeOk Nis_coach ["value", "names"] (defScope sis_coach) = true := by decide +kernel
theorem tis_coach : chkSs Gis_coach Nis_coach (defScope sis_coach) Bis_coach (defBody sis_coach) = true := by decide +kernel
theorem cis_coach (X : K.In h) (g : h.Ns mainGlobals mg) (A : FA K) : Cal P w K mg base noXR 4 "is_coach" 2 spis_coach :=
  cal_mk (G := Gis_coach) X g A.dis_coach ois_coach rfl (fun _ _ _ _ _ _ us hl => match us, hl with | [_, _], _ => rfl) (.cons ((cis_row X g A).mono (by decide)) (.cons ((cis_name X g A).mono (by decide)) (.cons ((cis_between X g A).mono (by decide)) (.cons ((cis_room X g A).mono (by decide)) .nil)))) .nil .nil tis_coach pis_coach
theorem oare_coaches : scopeOk Nare_coaches ["roads", "names"] (defScope sare_coaches) = true := by decide +kernel
theorem tare_coaches : chkSs Gare_coaches Nare_coaches (defScope sare_coaches) Bare_coaches (defBody sare_coaches) = true := by decide +kernel
theorem care_coaches (X : K.In h) (g : h.Ns mainGlobals mg) (A : FA K) : Cal P w K mg base noXR 5 "are_coaches" 2 spare_coaches :=
  cal_mk (G := Gare_coaches) X g A.dare_coaches oare_coaches rfl (fun _ _ _ _ _ _ us hl => match us, hl with | [_, _], _ => rfl) (.cons ((cis_coach X g A).mono (by decide)) (.cons ((cis_ascending X g A).mono (by decide)) .nil)) (.cons (A.cMAX_COACHES) .nil) (.cons (A.bisinstance) (.cons (A.btuple) (.cons (A.blen) (.cons (A.ball) .nil)))) tare_coaches pare_coaches
theorem ois_handed : scopeOk Nis_handed ["value", "names", "last"] (defScope sis_handed) = true := by decide +kernel
theorem tis_handed : chkSs Gis_handed Nis_handed (defScope sis_handed) Bis_handed (defBody sis_handed) = true := by decide +kernel
theorem cis_handed (X : K.In h) (g : h.Ns mainGlobals mg) (A : FA K) : Cal P w K mg base noXR 3 "is_handed" 3 spis_handed :=
  cal_mk (G := Gis_handed) X g A.dis_handed ois_handed rfl (fun _ _ _ _ _ _ us hl => match us, hl with | [_, _, _], _ => rfl) (.cons ((cis_row X g A).mono (by decide)) (.cons ((cis_name X g A).mono (by decide)) (.cons ((cis_between X g A).mono (by decide)) .nil))) (.cons (A.cMAX_ROOM) .nil) .nil tis_handed pis_handed
theorem oare_sacks : scopeOk Nare_sacks ["sacks", "names", "last"] (defScope sare_sacks) = true := by decide +kernel
theorem tare_sacks : chkSs Gare_sacks Nare_sacks (defScope sare_sacks) Bare_sacks (defBody sare_sacks) = true := by decide +kernel
theorem care_sacks (X : K.In h) (g : h.Ns mainGlobals mg) (A : FA K) : Cal P w K mg base noXR 4 "are_sacks" 3 spare_sacks :=
  cal_mk (G := Gare_sacks) X g A.dare_sacks oare_sacks rfl (fun _ _ _ _ _ _ us hl => match us, hl with | [_, _, _], _ => rfl) (.cons ((cis_handed X g A).mono (by decide)) (.cons ((cis_ascending X g A).mono (by decide)) .nil)) (.cons (A.cMAX_HANDED) .nil) (.cons (A.bisinstance) (.cons (A.btuple) (.cons (A.blen) (.cons (A.ball) .nil)))) tare_sacks pare_sacks
theorem odespatch_fault : scopeOk Ndespatch_fault ["despatch"] (defScope sdespatch_fault) = true := by decide +kernel
theorem tdespatch_fault : chkSs Gdespatch_fault Ndespatch_fault (defScope sdespatch_fault) Bdespatch_fault (defBody sdespatch_fault) = true := by decide +kernel
theorem cdespatch_fault (X : K.In h) (g : h.Ns mainGlobals mg) (A : FA K) : Cal P w K mg base noXR 6 "despatch_fault" 1 spdespatch_fault :=
  cal_mk (G := Gdespatch_fault) X g A.ddespatch_fault odespatch_fault rfl (fun _ _ _ _ _ _ us hl => match us, hl with | [_], _ => rfl) (.cons ((cis_day X g A).mono (by decide)) (.cons ((care_yards X g A).mono (by decide)) (.cons ((care_coaches X g A).mono (by decide)) (.cons ((care_sacks X g A).mono (by decide)) (.cons ((cis_name X g A).mono (by decide)) .nil))))) .nil .nil tdespatch_fault pdespatch_fault
theorem orides_of : scopeOk Nrides_of ["despatch"] (defScope srides_of) = true := by decide +kernel
theorem trides_of : chkSs Grides_of Nrides_of (defScope srides_of) Brides_of (defBody srides_of) = true := by decide +kernel
theorem crides_of (X : K.In h) (g : h.Ns mainGlobals mg) (A : FA K) : Cal P w K mg base noXR 1 "rides_of" 1 sprides_of :=
  cal_mk (G := Grides_of) X g A.drides_of orides_of rfl (fun _ _ _ _ _ _ us hl => match us, hl with | [_], _ => rfl) .nil .nil (.cons (A.brange) .nil) trides_of prides_of
theorem odespatch_of : scopeOk Ndespatch_of ["archive", "yard", "room", "sacks", "goal"] (defScope sdespatch_of) = true := by decide +kernel
theorem tdespatch_of : chkSs Gdespatch_of Ndespatch_of (defScope sdespatch_of) Bdespatch_of (defBody sdespatch_of) = true := by decide +kernel
theorem cdespatch_of (X : K.In h) (g : h.Ns mainGlobals mg) (A : FA K) : Cal P w K mg base noXR 1 "despatch_of" 5 spdespatch_of :=
  cal_mk (G := Gdespatch_of) X g A.ddespatch_of odespatch_of rfl (fun _ _ _ _ _ _ us hl => match us, hl with | [_, _, _, _, _], _ => rfl) .nil .nil (.cons (A.btuple) .nil) tdespatch_of pdespatch_of
theorem o_law_digits : scopeOk N_law_digits ["cell", "count"] (defScope s_law_digits) = true := by decide +kernel
theorem t_law_digits : chkSs G_law_digits N_law_digits (defScope s_law_digits) B_law_digits (defBody s_law_digits) = true := by decide +kernel
theorem c_law_digits (X : K.In h) (g : h.Ns mainGlobals mg) (A : FA K) : Cal P w K mg base noXR 1 "_law_digits" 2 sp_law_digits :=
  cal_mk (G := G_law_digits) X g A.d_law_digits o_law_digits rfl (fun _ _ _ _ _ _ us hl => match us, hl with | [_, _], _ => rfl) .nil .nil (.cons (A.brange) (.cons (A.bint) .nil)) t_law_digits p_law_digits
theorem o_law_box : scopeOk N_law_box ["script"] (defScope s_law_box) = true := by decide +kernel
theorem t_law_box : chkSs G_law_box N_law_box (defScope s_law_box) B_law_box (defBody s_law_box) = true := by decide +kernel
theorem c_law_box (X : K.In h) (g : h.Ns mainGlobals mg) (A : FA K) : Cal P w K mg base noXR 2 "_law_box" 1 sp_law_box :=
  cal_mk (G := G_law_box) X g A.d_law_box o_law_box rfl (fun _ _ _ _ _ _ us hl => match us, hl with | [_], _ => rfl) (.cons ((c_law_digits X g A).mono (by decide)) .nil) .nil (.cons (A.blen) .nil) t_law_box p_law_box
theorem o_law_take : scopeOk N_law_take ["box", "many"] (defScope s_law_take) = true := by decide +kernel
theorem t_law_take : chkSs G_law_take N_law_take (defScope s_law_take) B_law_take (defBody s_law_take) = true := by decide +kernel
theorem c_law_take (X : K.In h) (g : h.Ns mainGlobals mg) (A : FA K) : Cal P w K mg base noXR 1 "_law_take" 2 sp_law_take :=
  cal_mk (G := G_law_take) X g A.d_law_take o_law_take rfl (fun _ _ _ _ _ _ us hl => match us, hl with | [_, _], _ => rfl) .nil .nil (.cons (A.bint) (.cons (A.blen) .nil)) t_law_take p_law_take
theorem o_law_pick : scopeOk N_law_pick ["box", "row"] (defScope s_law_pick) = true := by decide +kernel
theorem t_law_pick : chkSs G_law_pick N_law_pick (defScope s_law_pick) B_law_pick (defBody s_law_pick) = true := by decide +kernel
theorem c_law_pick (X : K.In h) (g : h.Ns mainGlobals mg) (A : FA K) : Cal P w K mg base noXR 2 "_law_pick" 2 sp_law_pick :=
  cal_mk (G := G_law_pick) X g A.d_law_pick o_law_pick rfl (fun _ _ _ _ _ _ us hl => match us, hl with | [_, _], _ => rfl) (.cons ((c_law_take X g A).mono (by decide)) .nil) .nil (.cons (A.blen) .nil) t_law_pick p_law_pick
theorem o_law_word : scopeOk N_law_word ["box", "size"] (defScope s_law_word) = true := by decide +kernel
theorem t_law_word : chkSs G_law_word N_law_word (defScope s_law_word) B_law_word (defBody s_law_word) = true := by decide +kernel
theorem c_law_word (X : K.In h) (g : h.Ns mainGlobals mg) (A : FA K) : Cal P w K mg base noXR 2 "_law_word" 2 sp_law_word :=
  cal_mk (G := G_law_word) X g A.d_law_word o_law_word rfl (fun _ _ _ _ _ _ us hl => match us, hl with | [_, _], _ => rfl) (.cons ((c_law_take X g A).mono (by decide)) .nil) .nil (.cons (A.brange) .nil) t_law_word p_law_word
theorem o_law_names : scopeOk N_law_names ["box", "many"] (defScope s_law_names) = true := by decide +kernel
theorem t_law_names : chkSs G_law_names N_law_names (defScope s_law_names) B_law_names (defBody s_law_names) = true := by decide +kernel
theorem c_law_names (X : K.In h) (g : h.Ns mainGlobals mg) (A : FA K) : Cal P w K mg base noXR 3 "_law_names" 2 sp_law_names :=
  cal_mk (G := G_law_names) X g A.d_law_names o_law_names rfl (fun _ _ _ _ _ _ us hl => match us, hl with | [_, _], _ => rfl) (.cons ((c_law_take X g A).mono (by decide)) (.cons ((c_law_pick X g A).mono (by decide)) (.cons ((c_law_word X g A).mono (by decide)) .nil))) .nil (.cons (A.blen) (.cons (A.brange) (.cons (A.bint) (.cons (A.bsorted) .nil)))) t_law_names p_law_names
theorem o_law_despatch : scopeOk N_law_despatch ["box", "most_days", "most_offices", "many"] (defScope s_law_despatch) = true := by decide +kernel
theorem t_law_despatch : chkSs G_law_despatch N_law_despatch (defScope s_law_despatch) B_law_despatch (defBody s_law_despatch) = true := by decide +kernel
theorem c_law_despatch (X : K.In h) (g : h.Ns mainGlobals mg) (A : FA K) : Cal P w K mg base noXR 4 "_law_despatch" 4 sp_law_despatch :=
  cal_mk (G := G_law_despatch) X g A.d_law_despatch o_law_despatch rfl (fun _ _ _ _ _ _ us hl => match us, hl with | [_, _, _, _], _ => rfl) (.cons ((c_law_take X g A).mono (by decide)) (.cons ((c_law_names X g A).mono (by decide)) (.cons ((c_law_pick X g A).mono (by decide)) .nil))) .nil (.cons (A.btuple) (.cons (A.brange) (.cons (A.bsorted) (.cons (A.blist) .nil)))) t_law_despatch p_law_despatch
theorem o_law_rides : scopeOk N_law_rides ["despatch"] (defScope s_law_rides) = true := by decide +kernel
theorem t_law_rides : chkSs G_law_rides N_law_rides (defScope s_law_rides) B_law_rides (defBody s_law_rides) = true := by decide +kernel
theorem c_law_rides (X : K.In h) (g : h.Ns mainGlobals mg) (A : FA K) : Cal P w K mg base noXR 1 "_law_rides" 1 sp_law_rides :=
  cal_mk (G := G_law_rides) X g A.d_law_rides o_law_rides rfl (fun _ _ _ _ _ _ us hl => match us, hl with | [_], _ => rfl) .nil .nil (.cons (A.brange) .nil) t_law_rides p_law_rides
theorem o_law_with : scopeOk N_law_with ["row", "at", "value"] (defScope s_law_with) = true := by decide +kernel
theorem t_law_with : chkSs G_law_with N_law_with (defScope s_law_with) B_law_with (defBody s_law_with) = true := by decide +kernel
theorem c_law_with (X : K.In h) (g : h.Ns mainGlobals mg) (A : FA K) : Cal P w K mg base noXR 1 "_law_with" 3 sp_law_with :=
  cal_mk (G := G_law_with) X g A.d_law_with o_law_with rfl (fun _ _ _ _ _ _ us hl => match us, hl with | [_, _, _], _ => rfl) .nil .nil .nil t_law_with p_law_with
theorem o_law_wrong : scopeOk N_law_wrong ["box", "good"] (defScope s_law_wrong) = true := by decide +kernel
theorem t_law_wrong : chkSs G_law_wrong N_law_wrong (defScope s_law_wrong) B_law_wrong (defBody s_law_wrong) = true := by decide +kernel
theorem c_law_wrong (X : K.In h) (g : h.Ns mainGlobals mg) (A : FA K) : Cal P w K mg base noXR 1 "_law_wrong" 2 sp_law_wrong :=
  cal_mk (G := G_law_wrong) X g A.d_law_wrong o_law_wrong rfl (fun _ _ _ _ _ _ us hl => match us, hl with | [_, _], _ => rfl) .nil .nil (.cons (A.btuple) (.cons (A.brange) .nil)) t_law_wrong p_law_wrong
theorem o_law_great : scopeOk N_law_great ["over"] (defScope s_law_great) = true := by decide +kernel
theorem t_law_great : chkSs G_law_great N_law_great (defScope s_law_great) B_law_great (defBody s_law_great) = true := by decide +kernel
theorem c_law_great (X : K.In h) (g : h.Ns mainGlobals mg) (A : FA K) : Cal P w K mg base noXR 1 "_law_great" 1 sp_law_great :=
  cal_mk (G := G_law_great) X g A.d_law_great o_law_great rfl (fun _ _ _ _ _ _ us hl => match us, hl with | [_], _ => rfl) .nil .nil (.cons (A.brange) (.cons (A.bint) (.cons (A.btuple) .nil))) t_law_great p_law_great
theorem olaw : scopeOk Nlaw ["script"] (defScope slaw) = true := by decide +kernel
theorem tlaw : chkSs Glaw Nlaw (defScope slaw) Blaw (defBody slaw) = true := by decide +kernel
theorem claw (X : K.In h) (g : h.Ns mainGlobals mg) (A : FA K) {f : Addr} {fd : FuncData} (F : Fun K "law" "law" slaw f fd) : FnOk P w K mg base (L2.CX P w) 7 f fd ["script"] (liftSp K noXR 1 splaw) :=
  law_mk (G := Glaw) X g F olaw rfl (.cons ((c_law_box X g A).mono (by decide)) (.cons ((c_law_despatch X g A).mono (by decide)) (.cons ((cdespatch_fault X g A).mono (by decide)) (.cons ((crides_of X g A).mono (by decide)) (.cons ((c_law_rides X g A).mono (by decide)) (.cons ((c_law_pick X g A).mono (by decide)) (.cons ((c_law_take X g A).mono (by decide)) (.cons ((cdespatch_of X g A).mono (by decide)) (.cons ((c_law_wrong X g A).mono (by decide)) (.cons ((c_law_with X g A).mono (by decide)) (.cons ((c_law_great X g A).mono (by decide)) .nil))))))))))) .nil (.cons (A.blen) (.cons (A.btuple) (.cons (A.brange) (.cons (A.bmin) .nil)))) tlaw plaw
end
theorem law_end2 {FAx : PySem.W.Frag → Prop} {l : PySem.W.OpenLaw} {n k : Nat} {q : Program} {loose : List Str} {XP : (Str → Option Value) → Heap → Prop} {YP : World → Heap → Prop} {d : DefRec} {K : Params → PySem.W.Frag} {XR : XRel} {sp : Sp3} {st : Stmt}
    (hd : d.name = "law") (hn : l.most = some n) (hn2 : n ≤ sizeLine) (hdf : d.params.defaults = []) (hr : Room k callerA) (hY : ∀ (w : World) (h : Heap), YP w h → (K w.params).In h)
    (hb : ∀ (s : Shared) (u kV doc pm : Value) (an : Option Addr) (cdv ct : Value), BindsTo s (PySem.W.fnOf "law" "law" (defArgs st) (defBody st) (defScope st) .none kV doc pm an cdv ct) ⟨[u], []⟩ [("script", u)])
    (dd : ∀ K, FAx K → DF K "law" st)
    (C : ∀ (w : World) (mg : Str → Option Value) (base h : Heap), (K w.params).In h → h.Ns mainGlobals mg → FAx (K w.params) → ∀ f fd, Fun (K w.params) "law" "law" st f fd → FnOk l.prog w (K w.params) mg base (L2.CX l.prog w) k f fd ["script"] (liftSp (K w.params) XR 1 sp))
    (hsp : ∀ ns : List Int, ns.length ≤ n → sp [.flst (ns.map D.int)] M00 (fun v _ => v = .bl true) noX) (A : ∀ w : World, FAx (K w.params)) : PySem.W.WalkO q loose XP YP l.row.toRowW d [] (fun f vs => PySem.call f vs) :=
  law_end (XR := XR) hd hn hn2 hdf hr hY hb (fun w => dd _ (A w)) (fun w mg base h KX G f fd F => C w mg base h KX G (A w) f fd F) hsp
end K93
open PySem PySem.W PyProof.Rows
set_option maxHeartbeats 0 in
theorem PySem.Challenge.cw_letterways_k93_faults_and_moves_of_despa_holds : PySem.Challenge.rw_letterways_k93_faults_and_moves_of_despa.Holds :=
  by
  w_on; o_law; k_head; (case hw => w_witness2)
  k_fill
  refine' K93.law_end2 (FAx := K93.FA) (l := PySem.Challenge.rw_letterways_k93_faults_and_moves_of_despa) (n := 63) (k := 7) (XR := Z.noXR) (sp := K93.splaw) (st := K93.slaw) rfl rfl (by decide) rfl ⟨rfl, by decide, by decide⟩ (fun w h Y => PySem.W.kIn_of Y) (fun _ _ _ _ _ _ _ _ => .of_eq rfl) (fun _ A => A.dlaw) (fun w mg base h KX G A f fd F => K93.claw KX G A F) (fun ns hl => K93.lawHolds ns hl) ?A
  case A =>
    intro w
    refine' K93.FA.mk ?dis_integer ?dis_between ?dis_day ?dis_row ?dis_name ?dis_ascending ?dis_room ?dis_yard ?dare_yards ?dis_coach ?dare_coaches ?dis_handed ?dare_sacks ?ddespatch_fault ?drides_of ?ddespatch_of ?d_law_digits ?d_law_box ?d_law_take ?d_law_pick ?d_law_word ?d_law_names ?d_law_despatch ?d_law_rides ?d_law_with ?d_law_wrong ?d_law_great ?dlaw ?cMAX_COACHES ?cMAX_DAY ?cMAX_HANDED ?cMAX_ROOM ?cMAX_YARDS ?ball ?bbool ?bint ?bisinstance ?blen ?blist ?bmin ?brange ?bsorted ?bstr ?btuple
    case dis_integer => (refine' Z.DF.mk ?a ?l ?c ?k; (case a => k_is); (case l => k_is); (case c => k_is); (case k => k_is))
    case dis_between => (refine' Z.DF.mk ?a ?l ?c ?k; (case a => k_is); (case l => k_is); (case c => k_is); (case k => k_is))
    case dis_day => (refine' Z.DF.mk ?a ?l ?c ?k; (case a => k_is); (case l => k_is); (case c => k_is); (case k => k_is))
    case dis_row => (refine' Z.DF.mk ?a ?l ?c ?k; (case a => k_is); (case l => k_is); (case c => k_is); (case k => k_is))
    case dis_name => (refine' Z.DF.mk ?a ?l ?c ?k; (case a => k_is); (case l => k_is); (case c => k_is); (case k => k_is))
    case dis_ascending => (refine' Z.DF.mk ?a ?l ?c ?k; (case a => k_is); (case l => k_is); (case c => k_is); (case k => k_is))
    case dis_room => (refine' Z.DF.mk ?a ?l ?c ?k; (case a => k_is); (case l => k_is); (case c => k_is); (case k => k_is))
    case dis_yard => (refine' Z.DF.mk ?a ?l ?c ?k; (case a => k_is); (case l => k_is); (case c => k_is); (case k => k_is))
    case dare_yards => (refine' Z.DF.mk ?a ?l ?c ?k; (case a => k_is); (case l => k_is); (case c => k_is); (case k => k_is))
    case dis_coach => (refine' Z.DF.mk ?a ?l ?c ?k; (case a => k_is); (case l => k_is); (case c => k_is); (case k => k_is))
    case dare_coaches => (refine' Z.DF.mk ?a ?l ?c ?k; (case a => k_is); (case l => k_is); (case c => k_is); (case k => k_is))
    case dis_handed => (refine' Z.DF.mk ?a ?l ?c ?k; (case a => k_is); (case l => k_is); (case c => k_is); (case k => k_is))
    case dare_sacks => (refine' Z.DF.mk ?a ?l ?c ?k; (case a => k_is); (case l => k_is); (case c => k_is); (case k => k_is))
    case ddespatch_fault => (refine' Z.DF.mk ?a ?l ?c ?k; (case a => k_is); (case l => k_is); (case c => k_is); (case k => k_is))
    case drides_of => (refine' Z.DF.mk ?a ?l ?c ?k; (case a => k_is); (case l => k_is); (case c => k_is); (case k => k_is))
    case ddespatch_of => (refine' Z.DF.mk ?a ?l ?c ?k; (case a => k_is); (case l => k_is); (case c => k_is); (case k => k_is))
    case d_law_digits => (refine' Z.DF.mk ?a ?l ?c ?k; (case a => k_is); (case l => k_is); (case c => k_is); (case k => k_is))
    case d_law_box => (refine' Z.DF.mk ?a ?l ?c ?k; (case a => k_is); (case l => k_is); (case c => k_is); (case k => k_is))
    case d_law_take => (refine' Z.DF.mk ?a ?l ?c ?k; (case a => k_is); (case l => k_is); (case c => k_is); (case k => k_is))
    case d_law_pick => (refine' Z.DF.mk ?a ?l ?c ?k; (case a => k_is); (case l => k_is); (case c => k_is); (case k => k_is))
    case d_law_word => (refine' Z.DF.mk ?a ?l ?c ?k; (case a => k_is); (case l => k_is); (case c => k_is); (case k => k_is))
    case d_law_names => (refine' Z.DF.mk ?a ?l ?c ?k; (case a => k_is); (case l => k_is); (case c => k_is); (case k => k_is))
    case d_law_despatch => (refine' Z.DF.mk ?a ?l ?c ?k; (case a => k_is); (case l => k_is); (case c => k_is); (case k => k_is))
    case d_law_rides => (refine' Z.DF.mk ?a ?l ?c ?k; (case a => k_is); (case l => k_is); (case c => k_is); (case k => k_is))
    case d_law_with => (refine' Z.DF.mk ?a ?l ?c ?k; (case a => k_is); (case l => k_is); (case c => k_is); (case k => k_is))
    case d_law_wrong => (refine' Z.DF.mk ?a ?l ?c ?k; (case a => k_is); (case l => k_is); (case c => k_is); (case k => k_is))
    case d_law_great => (refine' Z.DF.mk ?a ?l ?c ?k; (case a => k_is); (case l => k_is); (case c => k_is); (case k => k_is))
    case dlaw => (refine' Z.DF.mk ?a ?l ?c ?k; (case a => k_is); (case l => k_is); (case c => k_is); (case k => k_is))
    case cMAX_COACHES => (refine' Z.DC.int ?h ?r; (case h => k_is); (case r => exact ⟨_, rfl⟩))
    case cMAX_DAY => (refine' Z.DC.int ?h ?r; (case h => k_is); (case r => exact ⟨_, rfl⟩))
    case cMAX_HANDED => (refine' Z.DC.int ?h ?r; (case h => k_is); (case r => exact ⟨_, rfl⟩))
    case cMAX_ROOM => (refine' Z.DC.int ?h ?r; (case h => k_is); (case r => exact ⟨_, rfl⟩))
    case cMAX_YARDS => (refine' Z.DC.int ?h ?r; (case h => k_is); (case r => exact ⟨_, rfl⟩))
    case ball => (show PySem.W.nsIn _ _ _ = some none; k_is)
    case bbool => (show PySem.W.nsIn _ _ _ = some none; k_is)
    case bint => (show PySem.W.nsIn _ _ _ = some none; k_is)
    case bisinstance => (show PySem.W.nsIn _ _ _ = some none; k_is)
    case blen => (show PySem.W.nsIn _ _ _ = some none; k_is)
    case blist => (show PySem.W.nsIn _ _ _ = some none; k_is)
    case bmin => (show PySem.W.nsIn _ _ _ = some none; k_is)
    case brange => (show PySem.W.nsIn _ _ _ = some none; k_is)
    case bsorted => (show PySem.W.nsIn _ _ _ = some none; k_is)
    case bstr => (show PySem.W.nsIn _ _ _ = some none; k_is)
    case btuple => (show PySem.W.nsIn _ _ _ = some none; k_is)

