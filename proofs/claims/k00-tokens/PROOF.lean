import PyProof.Rows.All
import Wide.All
import OpenK.AllK
import Wide.FinOn
import HandS.ForMost
import HandS.ForExc
import HandS.StrMore
import HandS.Flow
import HandS.Wide
import HandS.WideMore
import HandS.Style
import HandS.Star
import HandS.IsInst
import HandS.Defaults
import HandS.SortRule
import HandS.Conv
import HandS.ReplaceList
import PyProof.StrLawsLast
import PyProof.ReprRoads
import HandS.Deep
import HandS.ReplaceLit
import KE.KStateDown
import HandS.Ends
import HandS.More
import HandS.Words
import HandS.WordsExc
import HandS.Head0
import HandS.Head1
import HandS.Head2
import HandS.HeadEnd
import HandS.HeadHook1
import HandS.HeadHook2
import PyProof.StrLawsRepr
import PySem.Challenge.RW_begunended_k00_whole_tokens_of_drawn_row
set_option Elab.async false
set_option linter.all false
set_option maxRecDepth 100000
set_option maxHeartbeats 0
/-! Sh: a shallow embedding of the language above the hand layer. Data are pure; lists and the like are numbers of a store. -/
namespace Sh
open PySem PySem.Spec PyProof.Rows L2

/-- data: tuples by their items, a list by its number in the store; rol: a list that nobody writes -/
inductive D where
  | non | bl (b : Bool) | int (i : Int) | str (s : List Nat) | tup (xs : List D) | rol (xs : List D) | obj (i : Nat)
  deriving Inhabited
inductive Cell where
  | lst (xs : List D)
  deriving Inhabited
abbrev Store := List Cell
structure Exc where
  cls : Nat
  arg : D
inductive Out (α : Type) where
  | ok (a : α) (S : Store)
  | exc (x : Exc) (S : Store)
  | bad
/-- the names' values by slot -/
abbrev Ev := List (Option D)
abbrev EM (α : Type) := Ev → Store → Out α
inductive SOut where
  | nx (e : Ev) (S : Store)
  | rt (d : D) (S : Store)
  | bk (e : Ev) (S : Store)
  | ct (e : Ev) (S : Store)
  | exc (x : Exc) (e : Ev) (S : Store)
  | bad
abbrev SM := Ev → Store → SOut

/-! ### what data stand for -/
def RolP (K : PySem.W.Frag) (H : Hp) (a : Addr) (vs : List V) : Prop :=
  (∃ o, H a = some (.frz o (.lst vs))) ∨
    ∃ (o : Obj) (its : Array Value) (n : Nat), K.lookup a = some o ∧ o.cls = .type "list" ∧ o.dict = none ∧ o.data = .seq its n ∧ its.size ≤ sizeLine ∧ Vals vs its.toList
mutual
def RelD (K : PySem.W.Frag) (H : Hp) (M : List Addr) : D → V → Prop
  | .non, v => v = .non
  | .bl b, v => v = .bl b
  | .int i, v => v = .int i
  | .str s, v => v = .str ⟨s.toArray⟩
  | .tup xs, v => ∃ a vs, v = .ref a ∧ SqT K H a vs ∧ RelDs K H M xs vs
  | .rol xs, v => ∃ a vs, v = .ref a ∧ RolP K H a vs ∧ RelDs K H M xs vs
  | .obj i, v => ∃ a, v = .ref a ∧ M[i]? = some a
def RelDs (K : PySem.W.Frag) (H : Hp) (M : List Addr) : List D → List V → Prop
  | [], vs => vs = []
  | x :: xs, vs => ∃ v r, vs = v :: r ∧ RelD K H M x v ∧ RelDs K H M xs r
end
structure Ext (M : List Addr) (H : Hp) (M' : List Addr) (H' : Hp) : Prop where
  pre : ∀ (i : Nat) (a : Addr), M[i]? = some a → M'[i]? = some a
  tup : ∀ a xs, H a = some (.tup xs) → H' a = some (.tup xs)
  frz : ∀ a o u, H a = some (.frz o u) → H' a = some (.frz o u)
theorem Ext.refl {M : List Addr} {H : Hp} : Ext M H M H := ⟨fun _ _ e => e, fun _ _ e => e, fun _ _ _ e => e⟩
theorem Ext.trans {M M1 M2 : List Addr} {H H1 H2 : Hp} (a : Ext M H M1 H1) (b : Ext M1 H1 M2 H2) : Ext M H M2 H2 :=
  ⟨fun i x e => b.pre i x (a.pre i x e), fun x xs e => b.tup x xs (a.tup x xs e), fun x o u e => b.frz x o u (a.frz x o u e)⟩
theorem Ext.sqT {K : PySem.W.Frag} {M M' : List Addr} {H H' : Hp} (x : Ext M H M' H') {a : Addr} {vs : List V} (h : SqT K H a vs) : SqT K H' a vs := by
  rcases h with (h | ⟨o, h⟩) | h
  · exact .inl (.inl (x.tup a vs h))
  · exact .inl (.inr ⟨o, x.frz a o _ h⟩)
  · exact .inr h
theorem Ext.rolP {K : PySem.W.Frag} {M M' : List Addr} {H H' : Hp} (x : Ext M H M' H') {a : Addr} {vs : List V} (h : RolP K H a vs) : RolP K H' a vs := by
  rcases h with ⟨o, h⟩ | h
  · exact .inl ⟨o, x.frz a o _ h⟩
  · exact .inr h
theorem RolP.sqL {K : PySem.W.Frag} {H : Hp} {a : Addr} {vs : List V} (h : RolP K H a vs) : SqL K H a vs := by
  rcases h with ⟨o, h⟩ | h
  · exact .inl (.inr ⟨o, h⟩)
  · exact .inr h
section
variable {K : PySem.W.Frag} {M M' : List Addr} {H H' : Hp}
mutual
theorem RelD.mono (x : Ext M H M' H') : ∀ (d : D) (v : V), RelD K H M d v → RelD K H' M' d v
  | .non, v, h => h
  | .bl _, v, h => h
  | .int _, v, h => h
  | .str _, v, h => h
  | .tup xs, v, h => by
    obtain ⟨a, vs, e, h1, h2⟩ := h
    exact ⟨a, vs, e, x.sqT h1, RelDs.mono x xs vs h2⟩
  | .rol xs, v, h => by
    obtain ⟨a, vs, e, h1, h2⟩ := h
    exact ⟨a, vs, e, x.rolP h1, RelDs.mono x xs vs h2⟩
  | .obj i, v, h => by
    obtain ⟨a, e, h1⟩ := h
    exact ⟨a, e, x.pre i a h1⟩
theorem RelDs.mono (x : Ext M H M' H') : ∀ (ds : List D) (vs : List V), RelDs K H M ds vs → RelDs K H' M' ds vs
  | [], vs, h => h
  | d :: ds, vs, h => by
    obtain ⟨v, r, e, h1, h2⟩ := h
    exact ⟨v, r, e, RelD.mono x d v h1, RelDs.mono x ds r h2⟩
end
theorem RelDs.length : ∀ {ds : List D} {vs : List V}, RelDs K H M ds vs → vs.length = ds.length
  | [], _, h => by
    have e : _ = [] := h
    subst e; rfl
  | d :: ds, _, ⟨v, r, e, _, h2⟩ => by
    subst e
    show r.length + 1 = ds.length + 1
    rw [RelDs.length h2]
theorem RelDs.get : ∀ {ds : List D} {vs : List V} {i : Nat} {d : D}, RelDs K H M ds vs → ds[i]? = some d → ∃ v, vs[i]? = some v ∧ RelD K H M d v
  | [], _, _, _, _, e => by simp at e
  | x :: ds, _, 0, d, ⟨v, r, e, h1, h2⟩, q => by
    subst e
    simp at q
    subst q
    exact ⟨v, rfl, h1⟩
  | x :: ds, _, i + 1, d, ⟨v, r, e, h1, h2⟩, q => by
    subst e
    simp at q
    obtain ⟨w, e1, e2⟩ := RelDs.get h2 q
    exact ⟨w, by simpa using e1, e2⟩
theorem RelDs.append : ∀ {ds es : List D} {vs ws : List V}, RelDs K H M ds vs → RelDs K H M es ws → RelDs K H M (ds ++ es) (vs ++ ws)
  | [], _, _, _, h, h' => by
    have e : _ = [] := h
    subst e; exact h'
  | x :: ds, _, _, _, ⟨v, r, e, h1, h2⟩, h' => by
    subst e
    exact ⟨v, _, rfl, h1, RelDs.append h2 h'⟩
theorem RelDs.set : ∀ {ds : List D} {vs : List V} {d : D} {v : V} (i : Nat), RelDs K H M ds vs → RelD K H M d v → RelDs K H M (ds.set i d) (vs.set i v)
  | [], _, _, _, _, h, _ => by
    have e : _ = [] := h
    subst e; exact rfl
  | x :: ds, _, d, v, 0, ⟨w, r, e, h1, h2⟩, h' => by
    subst e
    exact ⟨v, _, rfl, h', h2⟩
  | x :: ds, _, d, v, i + 1, ⟨w, r, e, h1, h2⟩, h' => by
    subst e
    exact ⟨w, _, rfl, h1, RelDs.set i h2 h'⟩
theorem RelDs.take : ∀ {ds : List D} {vs : List V} (n : Nat), RelDs K H M ds vs → RelDs K H M (ds.take n) (vs.take n)
  | _, _, 0, _ => rfl
  | [], _, n + 1, h => by
    have e : _ = [] := h
    subst e; exact rfl
  | x :: ds, _, n + 1, ⟨v, r, e, h1, h2⟩ => by
    subst e
    exact ⟨v, _, rfl, h1, RelDs.take n h2⟩
theorem RelDs.drop : ∀ {ds : List D} {vs : List V} (n : Nat), RelDs K H M ds vs → RelDs K H M (ds.drop n) (vs.drop n)
  | _, _, 0, h => h
  | [], _, n + 1, h => by
    have e : _ = [] := h
    subst e; exact rfl
  | x :: ds, _, n + 1, ⟨v, r, e, h1, h2⟩ => by
    subst e
    exact RelDs.drop n h2
end

/-! ### the store -/
def CellOk (K : PySem.W.Frag) (H : Hp) (M : List Addr) (a : Addr) : Cell → Prop
  | .lst xs => ∃ vs, H a = some (.lst vs) ∧ RelDs K H M xs vs
structure Sto (K : PySem.W.Frag) (H : Hp) (M : List Addr) (S : Store) : Prop where
  len : M.length = S.length
  nd : M.Nodup
  ok : ∀ (i : Nat) (c : Cell) (a : Addr), S[i]? = some c → M[i]? = some a → CellOk K H M a c
section
variable {K : PySem.W.Frag} {M M' : List Addr} {H H' : Hp} {S : Store}
theorem CellOk.there {a : Addr} {c : Cell} (h : CellOk K H M a c) : ∃ o, H a = some o := by
  cases c with
  | lst xs => obtain ⟨vs, e, _⟩ := h; exact ⟨_, e⟩
theorem CellOk.notup {a : Addr} {c : Cell} (h : CellOk K H M a c) : (∀ xs, H a ≠ some (.tup xs)) ∧ ∀ o u, H a ≠ some (.frz o u) := by
  cases c with
  | lst xs =>
    obtain ⟨vs, e, _⟩ := h
    rw [e]
    exact ⟨fun _ z => by simp at z, fun _ _ z => by simp at z⟩
theorem CellOk.mono {a : Addr} {c : Cell} (x : Ext M H M' H') (e : H' a = H a) (h : CellOk K H M a c) : CellOk K H' M' a c := by
  cases c with
  | lst xs =>
    obtain ⟨vs, h1, h2⟩ := h
    exact ⟨vs, e.trans h1, RelDs.mono x _ _ h2⟩
theorem Sto.addr (h : Sto K H M S) {i : Nat} {c : Cell} (e : S[i]? = some c) : ∃ a, M[i]? = some a ∧ CellOk K H M a c := by
  have hl : i < M.length := by
    rw [h.len]
    exact (List.getElem?_eq_some_iff.mp e).1
  exact ⟨M[i], List.getElem?_eq_getElem hl, h.ok i c _ e (List.getElem?_eq_getElem hl)⟩
theorem Sto.cell (h : Sto K H M S) {i : Nat} {a : Addr} (e : M[i]? = some a) : ∃ c, S[i]? = some c ∧ CellOk K H M a c := by
  have hl : i < S.length := by
    rw [← h.len]
    exact (List.getElem?_eq_some_iff.mp e).1
  exact ⟨S[i], List.getElem?_eq_getElem hl, h.ok i _ a (List.getElem?_eq_getElem hl) e⟩
theorem Sto.ne (h : Sto K H M S) {i : Nat} {a p : Addr} (e : M[i]? = some a) (hp : H p = none) : a ≠ p := by
  obtain ⟨c, _, hc⟩ := h.cell e
  obtain ⟨o, ho⟩ := hc.there
  exact ne_of_none ho hp
theorem Ext.fresh {p : Addr} {o : HO} (hp : H p = none) (hM : ∀ (i : Nat) (a : Addr), M[i]? = some a → M'[i]? = some a) : Ext M H M' (upd H p o) :=
  ⟨hM, fun a xs e => by rw [upd_ne (ne_of_none e hp)]; exact e, fun a ob u e => by rw [upd_ne (ne_of_none e hp)]; exact e⟩
/-- a new object that the store does not hold (a tuple) -/
theorem Sto.beside {p : Addr} {o : HO} (h : Sto K H M S) (hp : H p = none) : Sto K (upd H p o) M S ∧ Ext M H M (upd H p o) := by
  have x : Ext M H M (upd H p o) := Ext.fresh hp fun _ _ e => e
  exact ⟨⟨h.len, h.nd, fun i c a e1 e2 => (h.ok i c a e1 e2).mono x (upd_ne (h.ne e2 hp))⟩, x⟩
theorem pre_push {p : Addr} : ∀ (i : Nat) (a : Addr), M[i]? = some a → (M ++ [p])[i]? = some a := fun i a e => by
  rw [List.getElem?_append_left (List.getElem?_eq_some_iff.mp e).1]; exact e
/-- a new list -/
theorem Sto.push {p : Addr} {xs : List D} {vs : List V} (h : Sto K H M S) (hp : H p = none) (r : RelDs K H M xs vs) :
    Sto K (upd H p (.lst vs)) (M ++ [p]) (S ++ [.lst xs]) ∧ Ext M H (M ++ [p]) (upd H p (.lst vs)) ∧ (M ++ [p])[S.length]? = some p := by
  have x : Ext M H (M ++ [p]) (upd H p (.lst vs)) := Ext.fresh hp pre_push
  have ep : (M ++ [p])[S.length]? = some p := by rw [← h.len]; simp
  refine ⟨⟨by simp [h.len], ?_, fun i c a e1 e2 => ?_⟩, x, ep⟩
  · rw [List.nodup_append]
    refine ⟨h.nd, by simp, fun a ha b hb => ?_⟩
    have e : b = p := by simpa using hb
    subst e
    obtain ⟨i, hi, e2⟩ := List.mem_iff_getElem.mp ha
    exact h.ne (by rw [List.getElem?_eq_getElem hi, e2]) hp
  · by_cases hi : i < S.length
    · rw [List.getElem?_append_left hi] at e1
      rw [List.getElem?_append_left (by rw [h.len]; exact hi)] at e2
      exact (h.ok i c a e1 e2).mono x (upd_ne (h.ne e2 hp))
    · have hl := (List.getElem?_eq_some_iff.mp e1).1
      have e : i = S.length := by
        simp at hl
        omega
      subst e
      rw [ep] at e2
      have e1' : Cell.lst xs = c := by simpa using e1
      cases e2
      subst e1'
      exact ⟨vs, upd_same, RelDs.mono x _ _ r⟩
/-- a list that is written -/
theorem Sto.set {i : Nat} {a : Addr} {xs ys : List D} {vs : List V} (h : Sto K H M S) (e : S[i]? = some (.lst ys)) (ea : M[i]? = some a) (r : RelDs K H M xs vs) :
    Sto K (upd H a (.lst vs)) M (S.set i (.lst xs)) ∧ Ext M H M (upd H a (.lst vs)) := by
  have hc := h.ok i _ a e ea
  have x : Ext M H M (upd H a (.lst vs)) := by
    refine ⟨fun _ _ e => e, fun b zs q => ?_, fun b o u q => ?_⟩
    · rw [upd_ne]
      · exact q
      · rintro rfl
        exact hc.notup.1 _ q
    · rw [upd_ne]
      · exact q
      · rintro rfl
        exact hc.notup.2 _ _ q
  refine ⟨⟨by simp [h.len], h.nd, fun j c b e1 e2 => ?_⟩, x⟩
  by_cases hj : i = j
  · subst hj
    rw [ea] at e2
    cases e2
    rw [List.getElem?_set_self (List.getElem?_eq_some_iff.mp e).1] at e1
    cases e1
    exact ⟨vs, upd_same, RelDs.mono x _ _ r⟩
  · rw [List.getElem?_set_ne hj] at e1
    refine (h.ok j c b e1 e2).mono x (upd_ne ?_)
    rintro rfl
    obtain ⟨h1, q1⟩ := List.getElem?_eq_some_iff.mp ea
    obtain ⟨h2, q2⟩ := List.getElem?_eq_some_iff.mp e2
    exact hj ((List.getElem_inj h.nd).mp (q1.trans q2.symm))
end

/-! ### the names -/
structure EnvR (K : PySem.W.Frag) (H : Hp) (M : List Addr) (e : Ev) (σ : L2.St) : Prop where
  len : e.length = σ.length
  at_ : ∀ (i : Nat) (d : D), e[i]? = some (some d) → ∃ v, σ[i]? = some (some v) ∧ RelD K H M d v
section
variable {K : PySem.W.Frag} {M M' : List Addr} {H H' : Hp} {ev : Ev} {σ : L2.St}
theorem EnvR.mono (x : Ext M H M' H') (h : EnvR K H M ev σ) : EnvR K H' M' ev σ :=
  ⟨h.len, fun i d e => let ⟨v, e1, e2⟩ := h.at_ i d e; ⟨v, e1, RelD.mono x d v e2⟩⟩
theorem EnvR.set {d : D} {v : V} (i : Nat) (h : EnvR K H M ev σ) (r : RelD K H M d v) : EnvR K H M (ev.set i (some d)) (σ.set i (some v)) := by
  refine ⟨by simp [h.len], fun j c e => ?_⟩
  by_cases hj : i = j
  · subst hj
    have hl : i < ev.length := by
      have := (List.getElem?_eq_some_iff.mp e).1
      simpa using this
    rw [List.getElem?_set_self hl] at e
    cases e
    exact ⟨v, List.getElem?_set_self (by rw [← h.len]; exact hl), r⟩
  · rw [List.getElem?_set_ne hj] at e
    rw [List.getElem?_set_ne hj]
    exact h.at_ j c e
theorem EnvR.wipe (i : Nat) (h : EnvR K H M ev σ) : EnvR K H M (ev.set i none) (σ.set i none) := by
  refine ⟨by simp [h.len], fun j c e => ?_⟩
  by_cases hj : i = j
  · subst hj
    have hl : i < ev.length := by
      have := (List.getElem?_eq_some_iff.mp e).1
      simpa using this
    rw [List.getElem?_set_self hl] at e
    cases e
  · rw [List.getElem?_set_ne hj] at e
    rw [List.getElem?_set_ne hj]
    exact h.at_ j c e
end

/-! ### readings -/
abbrev XW := Exc → Ev → List Addr → Store → L2.St → Hp → Prop
def Kt (K : PySem.W.Frag) (M : List Addr) (H : Hp) (d : D) (S : Store) (Q : VK) : Prop :=
  ∀ M' H' v, Ext M H M' H' → Sto K H' M' S → RelD K H' M' d v → Q v H'
def Kx (K : PySem.W.Frag) (W : XW) (M : List Addr) (H : Hp) (x : Exc) (ev : Ev) (S : Store) (σ : L2.St) : Prop :=
  ∀ M' H', Ext M H M' H' → Sto K H' M' S → EnvR K H' M' ev σ → W x ev M' S σ H'
def OutP {α : Type} (o : Out α) (p : α → Store → Prop) (q : Exc → Store → Prop) : Prop :=
  match o with
  | .ok a S => p a S
  | .exc x S => q x S
  | .bad => False
/-- an expression -/
def T (K : PySem.W.Frag) (W : XW) (e : EM D) : TE := fun σ H Q => ∃ M ev S, Sto K H M S ∧ EnvR K H M ev σ ∧
  OutP (e ev S) (fun d S' => Kt K M H d S' Q) (fun x S' => Kx K W M H x ev S' σ)
/-- a test -/
def Tt (K : PySem.W.Frag) (W : XW) (e : EM Bool) : TT := fun σ H Q => ∃ M ev S, Sto K H M S ∧ EnvR K H M ev σ ∧
  OutP (e ev S) (fun b S' => ∀ M' H', Ext M H M' H' → Sto K H' M' S' → Q b H') (fun x S' => Kx K W M H x ev S' σ)
/-- arguments -/
def Ta (K : PySem.W.Frag) (W : XW) (e : EM (List D)) : TA := fun σ H Q => ∃ M ev S, Sto K H M S ∧ EnvR K H M ev σ ∧
  OutP (e ev S) (fun ds S' => ∀ M' H' vs, Ext M H M' H' → Sto K H' M' S' → RelDs K H' M' ds vs → Q vs H') (fun x S' => Kx K W M H x ev S' σ)
def SOutP (o : SOut) (n : Ev → Store → Prop) (r : D → Store → Prop) (b c : Ev → Store → Prop) (q : Exc → Ev → Store → Prop) : Prop :=
  match o with
  | .nx e S => n e S
  | .rt d S => r d S
  | .bk e S => b e S
  | .ct e S => c e S
  | .exc x e S => q x e S
  | .bad => False
def Kn (K : PySem.W.Frag) (M : List Addr) (H : Hp) (ev : Ev) (S : Store) (Q : L2.St → Hp → Prop) : Prop :=
  ∀ M' H' σ', Ext M H M' H' → Sto K H' M' S → EnvR K H' M' ev σ' → Q σ' H'
def Kxs (K : PySem.W.Frag) (W : XW) (M : List Addr) (H : Hp) (x : Exc) (ev : Ev) (S : Store) : Prop :=
  ∀ M' H' σ', Ext M H M' H' → Sto K H' M' S → EnvR K H' M' ev σ' → W x ev M' S σ' H'
/-- a statement -/
def Ts (K : PySem.W.Frag) (W : XW) (m : SM) : TS := fun D σ H => ∃ M ev S, Sto K H M S ∧ EnvR K H M ev σ ∧
  SOutP (m ev S) (fun e S' => Kn K M H e S' D.nx) (fun d S' => Kt K M H d S' D.rt) (fun e S' => Kn K M H e S' D.bk) (fun e S' => Kn K M H e S' D.ct) (fun x e S' => Kxs K W M H x e S')
section
variable {K : PySem.W.Frag} {W : XW} {M M1 : List Addr} {H H1 : Hp}
theorem Kt.ext {d : D} {S : Store} {Q : VK} (x : Ext M H M1 H1) (h : Kt K M H d S Q) : Kt K M1 H1 d S Q := fun M' H' v e => h M' H' v (x.trans e)
theorem Kx.ext {x : Exc} {ev : Ev} {S : Store} {σ : L2.St} (e : Ext M H M1 H1) (h : Kx K W M H x ev S σ) : Kx K W M1 H1 x ev S σ := fun M' H' e' => h M' H' (e.trans e')
theorem Kn.ext {ev : Ev} {S : Store} {Q : L2.St → Hp → Prop} (e : Ext M H M1 H1) (h : Kn K M H ev S Q) : Kn K M1 H1 ev S Q := fun M' H' σ' e' => h M' H' σ' (e.trans e')
theorem Kxs.ext {x : Exc} {ev : Ev} {S : Store} (e : Ext M H M1 H1) (h : Kxs K W M H x ev S) : Kxs K W M1 H1 x ev S := fun M' H' σ' e' => h M' H' σ' (e.trans e')
end
def ob {α β : Type} (o : Out α) (f : α → Store → Out β) : Out β :=
  match o with
  | .ok a S => f a S
  | .exc x S => .exc x S
  | .bad => .bad
def oo {α : Type} (o : Option (α × Store)) : Out α :=
  match o with
  | some (a, S) => .ok a S
  | none => .bad
theorem _root_.L2.PE.imp {X : Cx} {e : Expr} {t t' : TE} (h : PE X e t) (f : ∀ σ H Q, t' σ H Q → t σ H Q) : PE X e t' := ⟨fun pins s σ H Q I q => h.run pins s σ H Q I (f σ H Q q)⟩
theorem _root_.L2.PT.imp {X : Cx} {e : Expr} {t t' : TT} (h : PT X e t) (f : ∀ σ H Q, t' σ H Q → t σ H Q) : PT X e t' := ⟨fun pins s σ H Q I q => h.run pins s σ H Q I (f σ H Q q)⟩
theorem _root_.L2.PA.imp {X : Cx} {e : List Expr} {t t' : TA} (h : PA X e t) (f : ∀ σ H Q, t' σ H Q → t σ H Q) : PA X e t' := ⟨fun pos pins s σ H Q I q => h.run pos pins s σ H Q I (f σ H Q q)⟩
theorem _root_.L2.PS.imp {X : Cx} {e : Stmt} {t t' : TS} (h : PS X e t) (f : ∀ D σ H, t' D σ H → t D σ H) : PS X e t' := ⟨fun pins s σ H D I q => h.run pins s σ H D I (f D σ H q)⟩
theorem _root_.L2.PSs.imp {X : Cx} {e : List Stmt} {t t' : TS} (h : PSs X e t) (f : ∀ D σ H, t' D σ H → t D σ H) : PSs X e t' := ⟨fun pins s σ H D I q => h.run pins s σ H D I (f D σ H q)⟩
end Sh

/-! Sh2: expressions. -/
namespace Sh
open PySem PySem.Spec PyProof.Rows L2

abbrev LINE : Nat := 16777216
theorem line_eq : sizeLine = LINE := sizeLine_eq

/-! ### names and constants -/
def eVar (i : Nat) : EM D := fun ev S => match ev[i]? with
  | some (some d) => .ok d S
  | _ => .bad
def eC (d : D) : EM D := fun _ S => .ok d S
section
variable {X : Cx} {W : XW}
theorem v_var {i : Nat} {x : Str} {pos : Pos} (hN : X.N[i]? = some x) (hv : Vis X.env.scope x) (hd : (x == ("__debug__" : Str)) = false := by decide) (hcd : (x == ("__classdict__" : Str)) = false := by decide) : PE X (.Name x pos) (T X.K W (eVar i)) := by
  refine (pe_var hN hv hd hcd).imp fun σ H Q h => ?_
  obtain ⟨M, ev, S, st, er, h⟩ := h
  unfold eVar at h
  split at h
  · rename_i d e
    obtain ⟨v, e1, r⟩ := er.at_ i d e
    exact ⟨v, e1, h M H v .refl st r⟩
  · exact h.elim
theorem v_const {e : Expr} {v : V} {d : D} (h : PE X e (tC v)) (r : ∀ H M, RelD X.K H M d v) : PE X e (T X.K W (eC d)) := by
  refine h.imp fun σ H Q h => ?_
  obtain ⟨M, ev, S, st, er, h⟩ := h
  exact h M H v .refl st (r H M)
theorem v_int {i j pos} : PE X (.Constant (.int i) j pos) (T X.K W (eC (.int i))) := v_const pe_int fun _ _ => rfl
theorem v_bl {b j pos} : PE X (.Constant (.bool b) j pos) (T X.K W (eC (.bl b))) := v_const pe_bl fun _ _ => rfl
theorem v_non {j pos} : PE X (.Constant .none j pos) (T X.K W (eC .non)) := v_const pe_non fun _ _ => rfl
theorem v_str {x : Str} {s : List Nat} {j pos} (e : x.cps.toList = s) : PE X (.Constant (.str x) j pos) (T X.K W (eC (.str s))) := v_const pe_str fun _ _ => by
  subst e
  show V.str x = V.str ⟨x.cps.toList.toArray⟩
  rfl
/-- a module's constant -/
theorem v_glob {x : Str} {v : V} {u : Value} {d : D} {pos : Pos} (hg : Gl X x) (hm : X.mg x = some u) (rv : RelV v u) (r : ∀ H M, RelD X.K H M d v) (hd : (x == ("__debug__" : Str)) = false := by decide) : PE X (.Name x pos) (T X.K W (eC d)) :=
  v_const (pe_glob hg hm rv hd) r
end

/-! ### operators by values -/
abbrev F1 := D → Store → Option (D × Store)
abbrev F2 := D → D → Store → Option (D × Store)
abbrev FL := List D → Store → Option (D × Store)
def Op2 (K : PySem.W.Frag) (r : R2) (f : F2) : Prop := ∀ M H S d1 d2 x y d S' Q, Sto K H M S → RelD K H M d1 x → RelD K H M d2 y → f d1 d2 S = some (d, S') → Kt K M H d S' Q → r x y H Q
def Op1 (K : PySem.W.Frag) (r : V → Hp → VK → Prop) (f : F1) : Prop := ∀ M H S d1 x d S' Q, Sto K H M S → RelD K H M d1 x → f d1 S = some (d, S') → Kt K M H d S' Q → r x H Q
def OpL (K : PySem.W.Frag) (r : List V → Hp → VK → Prop) (f : FL) : Prop := ∀ M H S ds xs d S' Q, Sto K H M S → RelDs K H M ds xs → f ds S = some (d, S') → Kt K M H d S' Q → r xs H Q
/-- a method: the object, then the arguments -/
def OpM (K : PySem.W.Frag) (r : V → List V → Hp → VK → Prop) (f : D → FL) : Prop := ∀ M H S d1 ds x xs d S' Q, Sto K H M S → RelD K H M d1 x → RelDs K H M ds xs → f d1 ds S = some (d, S') → Kt K M H d S' Q → r x xs H Q

def eOp (f : F2) (a b : EM D) : EM D := fun ev S => ob (a ev S) fun x S1 => ob (b ev S1) fun y S2 => oo (f x y S2)
def eUn (f : F1) (a : EM D) : EM D := fun ev S => ob (a ev S) fun x S1 => oo (f x S1)
section
variable {X : Cx} {W : XW} {a b : Expr} {ea eb : EM D} {pos : Pos}
theorem bin2 {r : R2} {f : F2} (hf : Op2 X.K r f) : ∀ σ H Q, T X.K W (eOp f ea eb) σ H Q → tOp r (T X.K W ea) (T X.K W eb) σ H Q := by
  intro σ H Q h
  obtain ⟨M, ev, S, st, er, h⟩ := h
  refine ⟨M, ev, S, st, er, ?_⟩
  unfold eOp at h
  generalize ea ev S = o1 at h ⊢
  cases o1 with
  | bad => exact h.elim
  | exc x S1 => exact h
  | ok d1 S1 =>
    intro M1 H1 x x1 st1 r1
    refine ⟨M1, ev, S1, st1, er.mono x1, ?_⟩
    have h : OutP (ob (eb ev S1) fun y S2 => oo (f d1 y S2)) _ _ := h
    generalize eb ev S1 = o2 at h ⊢
    cases o2 with
    | bad => exact h.elim
    | exc x S2 => exact Kx.ext x1 h
    | ok d2 S2 =>
      intro M2 H2 y x2 st2 r2
      have h : OutP (oo (f d1 d2 S2)) _ _ := h
      generalize hf2 : f d1 d2 S2 = o3 at h
      cases o3 with
      | none => exact h.elim
      | some p => exact hf M2 H2 S2 d1 d2 x y p.1 p.2 Q st2 (RelD.mono x2 _ _ r1) r2 hf2 (Kt.ext (x1.trans x2) h)
theorem v_op {op : Operator} {r : R2} {f : F2} (ho : OpR X (binaryOp op) r) (hf : Op2 X.K r f) (ha : PE X a (T X.K W ea)) (hb : PE X b (T X.K W eb)) : PE X (.BinOp a op b pos) (T X.K W (eOp f ea eb)) :=
  (pe_op ho ha hb).imp (bin2 hf)
theorem v_cmp {op : CmpOp} {r : R2} {f : F2} (ho : OpR X (compareOp op) r) (hf : Op2 X.K r f) (ha : PE X a (T X.K W ea)) (hb : PE X b (T X.K W eb)) (hm : behindInMarks op b = false) : PE X (.Compare a [op] [b] pos) (T X.K W (eOp f ea eb)) :=
  (pe_cmpR ho ha hb hm).imp (bin2 hf)
theorem v_ix {r : R2} {f : F2} (ho : IxR X r) (hf : Op2 X.K r f) (ha : PE X a (T X.K W ea)) (hb : PE X b (T X.K W eb)) (hs : PlainIx b) : PE X (.Subscript a b pos) (T X.K W (eOp f ea eb)) :=
  (pe_ix ho ha hb hs).imp (bin2 hf)
theorem un1 {r : V → Hp → VK → Prop} {f : F1} (hf : Op1 X.K r f) : ∀ σ H Q, T X.K W (eUn f ea) σ H Q → tUn r (T X.K W ea) σ H Q := by
  intro σ H Q h
  obtain ⟨M, ev, S, st, er, h⟩ := h
  refine ⟨M, ev, S, st, er, ?_⟩
  unfold eUn at h
  generalize ea ev S = o1 at h ⊢
  cases o1 with
  | bad => exact h.elim
  | exc x S1 => exact h
  | ok d1 S1 =>
    intro M1 H1 x x1 st1 r1
    have h : OutP (oo (f d1 S1)) _ _ := h
    generalize hf2 : f d1 S1 = o3 at h
    cases o3 with
    | none => exact h.elim
    | some p => exact hf M1 H1 S1 d1 x p.1 p.2 Q st1 r1 hf2 (Kt.ext x1 h)
theorem v_un {op : UnaryOp} {r : V → Hp → VK → Prop} {f : F1} (ho : UnR X (unaryOp op) r) (hf : Op1 X.K r f) (ha : PE X a (T X.K W ea)) : PE X (.UnaryOp op a pos) (T X.K W (eUn f ea)) :=
  (pe_un ho ha).imp (un1 hf)
end

/-! ### truth, tests -/
def truD : D → Store → Option Bool
  | .non, _ => some false
  | .bl b, _ => some b
  | .int i, _ => some (i != 0)
  | .str s, _ => if s.length ≤ LINE then some (!s.isEmpty) else none
  | .tup xs, _ => some (!xs.isEmpty)
  | .rol xs, _ => some (!xs.isEmpty)
  | .obj i, S => match S[i]? with
    | some (.lst xs) => some (!xs.isEmpty)
    | none => none
theorem isEmpty_ds {K : PySem.W.Frag} {H : Hp} {M : List Addr} {xs : List D} {vs : List V} (h : RelDs K H M xs vs) : xs.isEmpty = vs.isEmpty := by
  have := h.length
  cases xs <;> cases vs <;> simp_all
theorem truD_ok {K : PySem.W.Frag} {H : Hp} {M : List Addr} {S : Store} {d : D} {v : V} {b : Bool} (st : Sto K H M S) (r : RelD K H M d v) (h : truD d S = some b) : TruV K v H b := by
  cases d with
  | non => cases r; cases h; rfl
  | bl c => cases r; cases h; rfl
  | int i => cases r; cases h; rfl
  | str s =>
    cases r
    have h : (if s.length ≤ LINE then some (!s.isEmpty) else none) = some b := h
    split at h
    · rename_i hl
      cases h
      refine ⟨by rw [line_eq]; simpa [Str.length] using hl, ?_⟩
      cases s with
      | nil => rfl
      | cons c s =>
        show true = (((c :: s).toArray.size : Int) != 0)
        simp
        omega
    · cases h
  | tup xs =>
    obtain ⟨a, vs, rfl, h1, h2⟩ := r
    cases h
    exact .inr (.inl ⟨vs, h1, by rw [isEmpty_ds h2]⟩)
  | rol xs =>
    obtain ⟨a, vs, rfl, h1, h2⟩ := r
    cases h
    exact .inl ⟨vs, h1.sqL, by rw [isEmpty_ds h2]⟩
  | obj i =>
    obtain ⟨a, rfl, h1⟩ := r
    obtain ⟨c, e, hc⟩ := st.cell h1
    have h : (match S[i]? with | some (.lst xs) => some (!xs.isEmpty) | none => none) = some b := h
    rw [e] at h
    cases c with
    | lst xs =>
      obtain ⟨vs, e1, e2⟩ := hc
      cases h
      exact .inl ⟨vs, .of e1, by rw [isEmpty_ds e2]⟩
def oB (o : Option Bool) (S : Store) : Out Bool := match o with
  | some b => .ok b S
  | none => .bad
/-- an expression's truth -/
def qTru (a : EM D) : EM Bool := fun ev S => ob (a ev S) fun x S1 => oB (truD x S1) S1
/-- a comparison as a test: its value is a bool -/
def qCmp (f : F2) (a b : EM D) : EM Bool := fun ev S => ob (eOp f a b ev S) fun x S1 => match x with
  | .bl k => .ok k S1
  | _ => .bad
def qAnd (a b : EM Bool) : EM Bool := fun ev S => ob (a ev S) fun k S1 => if k = true then b ev S1 else .ok false S1
def qOr (a b : EM Bool) : EM Bool := fun ev S => ob (a ev S) fun k S1 => if k = true then .ok true S1 else b ev S1
def qNot (a : EM Bool) : EM Bool := fun ev S => ob (a ev S) fun k S1 => .ok (!k) S1
section
variable {X : Cx} {W : XW} {a b : Expr} {ea eb : EM D} {qa qb : EM Bool} {rest : List Expr} {pos : Pos}
theorem q_tru (ha : PE X a (T X.K W ea)) (he : ∀ whole, isTrue a X.env whole = (do let v ← whole; standAt a.pos; holding [v] (truthy v)) := by intro _; rfl) : PT X a (Tt X.K W (qTru ea)) := by
  refine (pt_truth ha he).imp fun σ H Q h => ?_
  obtain ⟨M, ev, S, st, er, h⟩ := h
  refine ⟨M, ev, S, st, er, ?_⟩
  unfold qTru at h
  generalize ea ev S = o1 at h ⊢
  cases o1 with
  | bad => exact h.elim
  | exc x S1 => exact h
  | ok d1 S1 =>
    intro M1 H1 x x1 st1 r1
    have h : OutP (oB (truD d1 S1) S1) _ _ := h
    generalize hk : truD d1 S1 = o2 at h
    cases o2 with
    | none => exact h.elim
    | some k => exact ⟨k, truD_ok st1 r1 hk, h M1 H1 x1 st1⟩
theorem qcmp_val {r : R2} {f : F2} (hf : Op2 X.K r f) : ∀ σ H Q, Tt X.K W (qCmp f ea eb) σ H Q → tTest (tOp r (T X.K W ea) (T X.K W eb)) σ H Q := by
  intro σ H Q h
  refine bin2 hf σ H _ ?_
  obtain ⟨M, ev, S, st, er, h⟩ := h
  refine ⟨M, ev, S, st, er, ?_⟩
  unfold qCmp at h
  generalize eOp f ea eb ev S = o1 at h ⊢
  cases o1 with
  | bad => exact h.elim
  | exc x S1 => exact h
  | ok d1 S1 =>
    intro M1 H1 x x1 st1 r1
    cases d1 with
    | bl k =>
      cases r1
      exact ⟨k, rfl, h M1 H1 x1 st1⟩
    | _ => exact (show False from h).elim
theorem q_cmp {op : CmpOp} {r : R2} {f : F2} (ho : OpR X (compareOp op) r) (hf : Op2 X.K r f) (ha : PE X a (T X.K W ea)) (hb : PE X b (T X.K W eb)) (hm : behindInMarks op b = false) : PT X (.Compare a [op] [b] pos) (Tt X.K W (qCmp f ea eb)) :=
  (pt_cmpR ho ha hb hm).imp (qcmp_val hf)
theorem qand_ok : ∀ σ H Q, Tt X.K W (qAnd qa qb) σ H Q → tAnd (Tt X.K W qa) (Tt X.K W qb) σ H Q := by
  intro σ H Q h
  obtain ⟨M, ev, S, st, er, h⟩ := h
  refine ⟨M, ev, S, st, er, ?_⟩
  unfold qAnd at h
  generalize qa ev S = o1 at h ⊢
  cases o1 with
  | bad => exact h.elim
  | exc x S1 => exact h
  | ok k S1 =>
    intro M1 H1 x1 st1
    cases k with
    | true =>
      rw [if_pos rfl]
      have h : OutP (qb ev S1) _ _ := h
      refine ⟨M1, ev, S1, st1, er.mono x1, ?_⟩
      generalize qb ev S1 = o2 at h ⊢
      cases o2 with
      | bad => exact h.elim
      | exc x S2 => exact Kx.ext x1 h
      | ok k2 S2 => exact fun M2 H2 x2 st2 => h M2 H2 (x1.trans x2) st2
    | false => exact h M1 H1 x1 st1
theorem qor_ok : ∀ σ H Q, Tt X.K W (qOr qa qb) σ H Q → tOr (Tt X.K W qa) (Tt X.K W qb) σ H Q := by
  intro σ H Q h
  obtain ⟨M, ev, S, st, er, h⟩ := h
  refine ⟨M, ev, S, st, er, ?_⟩
  unfold qOr at h
  generalize qa ev S = o1 at h ⊢
  cases o1 with
  | bad => exact h.elim
  | exc x S1 => exact h
  | ok k S1 =>
    intro M1 H1 x1 st1
    cases k with
    | false =>
      rw [if_neg (by decide)]
      have h : OutP (qb ev S1) _ _ := h
      refine ⟨M1, ev, S1, st1, er.mono x1, ?_⟩
      generalize qb ev S1 = o2 at h ⊢
      cases o2 with
      | bad => exact h.elim
      | exc x S2 => exact Kx.ext x1 h
      | ok k2 S2 => exact fun M2 H2 x2 st2 => h M2 H2 (x1.trans x2) st2
    | true => exact h M1 H1 x1 st1
theorem q_and1 (ha : PT X a (Tt X.K W qa)) : PW X (.BoolOp .And [a] pos) (Tt X.K W qa) := pw_and1 ha
theorem q_or1 (ha : PT X a (Tt X.K W qa)) : PW X (.BoolOp .Or [a] pos) (Tt X.K W qa) := pw_or1 ha
theorem q_and (ha : PT X a (Tt X.K W qa)) (hb : PW X (.BoolOp .And (b :: rest) pos) (Tt X.K W qb)) : PW X (.BoolOp .And (a :: b :: rest) pos) (Tt X.K W (qAnd qa qb)) :=
  ⟨fun wh pins s σ H Q I q => (pw_and ha hb).run wh pins s σ H Q I (qand_ok σ H Q q)⟩
theorem q_or (ha : PT X a (Tt X.K W qa)) (hb : PW X (.BoolOp .Or (b :: rest) pos) (Tt X.K W qb)) : PW X (.BoolOp .Or (a :: b :: rest) pos) (Tt X.K W (qOr qa qb)) :=
  ⟨fun wh pins s σ H Q I q => (pw_or ha hb).run wh pins s σ H Q I (qor_ok σ H Q q)⟩
theorem q_not (ha : PT X a (Tt X.K W qa)) : PT X (.UnaryOp .Not a pos) (Tt X.K W (qNot qa)) := by
  refine (pt_not ha).imp fun σ H Q h => ?_
  obtain ⟨M, ev, S, st, er, h⟩ := h
  refine ⟨M, ev, S, st, er, ?_⟩
  unfold qNot at h
  generalize qa ev S = o1 at h ⊢
  cases o1 with
  | bad => exact h.elim
  | exc x S1 => exact h
  | ok k S1 => exact fun M1 H1 x1 st1 => h M1 H1 x1 st1
end
/-- a or b, a and b as values, by truth -/
def eOr (a b : EM D) : EM D := fun ev S => ob (a ev S) fun x S1 => ob (oB (truD x S1) S1) fun k S2 => if k = true then .ok x S2 else b ev S2
def eAnd (a b : EM D) : EM D := fun ev S => ob (a ev S) fun x S1 => ob (oB (truD x S1) S1) fun k S2 => if k = true then b ev S2 else .ok x S2
/-- not a as a value -/
def eNot (a : EM D) : EM D := fun ev S => ob (a ev S) fun x S1 => ob (oB (truD x S1) S1) fun k S2 => .ok (.bl (!k)) S2
def eIf (q : EM Bool) (a b : EM D) : EM D := fun ev S => ob (q ev S) fun k S1 => if k = true then a ev S1 else b ev S1
section
variable {X : Cx} {W : XW} {a b c : Expr} {ea eb : EM D} {qa : EM Bool} {rest : List Expr} {pos : Pos}
theorem T.ext {K : PySem.W.Frag} {M M1 : List Addr} {H H1 : Hp} {S1 : Store} {ev : Ev} {σ : L2.St} {Q : VK} (st1 : Sto K H1 M1 S1) (er : EnvR K H M ev σ) (x1 : Ext M H M1 H1) (h : OutP (ea ev S1) (fun d S' => Kt K M H d S' Q) (fun x S' => Kx K W M H x ev S' σ)) : T K W ea σ H1 Q := by
  refine ⟨M1, ev, S1, st1, er.mono x1, ?_⟩
  generalize ea ev S1 = o at h ⊢
  cases o with
  | bad => exact h.elim
  | exc x S2 => exact Kx.ext x1 h
  | ok d S2 => exact Kt.ext x1 h
theorem v_one {op} (h : PE X a (T X.K W ea)) : PE X (.BoolOp op [a] pos) (T X.K W ea) := pe_one h
theorem v_or (ha : PE X a (T X.K W ea)) (hb : PE X (.BoolOp .Or (b :: rest) pos) (T X.K W eb)) : PE X (.BoolOp .Or (a :: b :: rest) pos) (T X.K W (eOr ea eb)) := by
  refine (pe_orT ha hb).imp fun σ H Q h => ?_
  obtain ⟨M, ev, S, st, er, h⟩ := h
  refine ⟨M, ev, S, st, er, ?_⟩
  unfold eOr at h
  generalize ea ev S = o1 at h ⊢
  cases o1 with
  | bad => exact h.elim
  | exc x S1 => exact h
  | ok d1 S1 =>
    intro M1 H1 x x1 st1 r1
    have h : OutP (ob (oB (truD d1 S1) S1) fun k S2 => if k = true then .ok d1 S2 else eb ev S2) _ _ := h
    generalize hk : truD d1 S1 = o2 at h
    cases o2 with
    | none => exact h.elim
    | some k =>
      refine ⟨k, truD_ok st1 r1 hk, ?_⟩
      cases k with
      | true => rw [if_pos rfl]; exact h M1 H1 x x1 st1 r1
      | false => rw [if_neg (by decide)]; exact T.ext st1 er x1 h
theorem v_and (ha : PE X a (T X.K W ea)) (hb : PE X (.BoolOp .And (b :: rest) pos) (T X.K W eb)) : PE X (.BoolOp .And (a :: b :: rest) pos) (T X.K W (eAnd ea eb)) := by
  refine (pe_andT ha hb).imp fun σ H Q h => ?_
  obtain ⟨M, ev, S, st, er, h⟩ := h
  refine ⟨M, ev, S, st, er, ?_⟩
  unfold eAnd at h
  generalize ea ev S = o1 at h ⊢
  cases o1 with
  | bad => exact h.elim
  | exc x S1 => exact h
  | ok d1 S1 =>
    intro M1 H1 x x1 st1 r1
    have h : OutP (ob (oB (truD d1 S1) S1) fun k S2 => if k = true then eb ev S2 else .ok d1 S2) _ _ := h
    generalize hk : truD d1 S1 = o2 at h
    cases o2 with
    | none => exact h.elim
    | some k =>
      refine ⟨k, truD_ok st1 r1 hk, ?_⟩
      cases k with
      | false => rw [if_neg (by decide)]; exact h M1 H1 x x1 st1 r1
      | true => rw [if_pos rfl]; exact T.ext st1 er x1 h
theorem v_not (ha : PE X a (T X.K W ea)) : PE X (.UnaryOp .Not a pos) (T X.K W (eNot ea)) := by
  refine (pe_notT ha).imp fun σ H Q h => ?_
  obtain ⟨M, ev, S, st, er, h⟩ := h
  refine ⟨M, ev, S, st, er, ?_⟩
  unfold eNot at h
  generalize ea ev S = o1 at h ⊢
  cases o1 with
  | bad => exact h.elim
  | exc x S1 => exact h
  | ok d1 S1 =>
    intro M1 H1 x x1 st1 r1
    have h : OutP (ob (oB (truD d1 S1) S1) fun k S2 => .ok (D.bl (!k)) S2) _ _ := h
    generalize hk : truD d1 S1 = o2 at h
    cases o2 with
    | none => exact h.elim
    | some k => exact ⟨k, truD_ok st1 r1 hk, h M1 H1 _ x1 st1 rfl⟩
theorem v_if (hc : PT X c (Tt X.K W qa)) (ha : PE X a (T X.K W ea)) (hb : PE X b (T X.K W eb)) : PE X (.IfExp c a b pos) (T X.K W (eIf qa ea eb)) := by
  refine (pe_ifExp hc ha hb).imp fun σ H Q h => ?_
  obtain ⟨M, ev, S, st, er, h⟩ := h
  refine ⟨M, ev, S, st, er, ?_⟩
  unfold eIf at h
  generalize qa ev S = o1 at h ⊢
  cases o1 with
  | bad => exact h.elim
  | exc x S1 => exact h
  | ok k S1 =>
    intro M1 H1 x1 st1
    cases k with
    | true => rw [if_pos rfl]; exact T.ext st1 er x1 h
    | false => rw [if_neg (by decide)]; exact T.ext st1 er x1 h
end

/-! ### argument lists, displays, calls -/
def aNil : EM (List D) := fun _ S => .ok [] S
def aCons (a : EM D) (r : EM (List D)) : EM (List D) := fun ev S => ob (a ev S) fun x S1 => ob (r ev S1) fun xs S2 => .ok (x :: xs) S2
/-- the items of what a star stands ahead of -/
def seqD : D → Store → Option (List D)
  | .tup xs, _ => some xs
  | .rol xs, _ => some xs
  | .obj i, S => match S[i]? with
    | some (.lst xs) => some xs
    | none => none
  | _, _ => none
theorem seqD_ok {K : PySem.W.Frag} {H : Hp} {M : List Addr} {S : Store} {d : D} {v : V} {xs : List D} (st : Sto K H M S) (r : RelD K H M d v) (h : seqD d S = some xs) : ∃ p vs, v = .ref p ∧ (SqL K H p vs ∨ SqT K H p vs) ∧ RelDs K H M xs vs := by
  cases d with
  | tup ys =>
    obtain ⟨a, vs, rfl, h1, h2⟩ := r
    cases h
    exact ⟨a, vs, rfl, .inr h1, h2⟩
  | rol ys =>
    obtain ⟨a, vs, rfl, h1, h2⟩ := r
    cases h
    exact ⟨a, vs, rfl, .inl h1.sqL, h2⟩
  | obj i =>
    obtain ⟨a, rfl, h1⟩ := r
    obtain ⟨c, e, hc⟩ := st.cell h1
    have h : (match S[i]? with | some (.lst xs) => some xs | none => none) = some xs := h
    rw [e] at h
    cases c with
    | lst ys =>
      obtain ⟨vs, e1, e2⟩ := hc
      cases h
      exact ⟨a, vs, rfl, .inl (.of e1), e2⟩
  | _ => cases h
def oS {α : Type} (o : Option α) (S : Store) : Out α := match o with
  | some b => .ok b S
  | none => .bad
def aStar (a : EM D) (r : EM (List D)) : EM (List D) := fun ev S => ob (a ev S) fun x S1 => ob (oS (seqD x S1) S1) fun xs S2 => ob (r ev S2) fun ys S3 => .ok (xs ++ ys) S3
def eTup (r : EM (List D)) : EM D := fun ev S => ob (r ev S) fun xs S1 => if xs.length ≤ LINE then .ok (.tup xs) S1 else .bad
def eLst (r : EM (List D)) : EM D := fun ev S => ob (r ev S) fun xs S1 => if xs.length ≤ LINE then .ok (.obj S1.length) (S1 ++ [.lst xs]) else .bad
section
variable {X : Cx} {W : XW} {e : Expr} {es : List Expr} {ea : EM D} {er : EM (List D)} {pos p : Pos}
theorem a_nil : PA X [] (Ta X.K W aNil) := by
  refine pa_nil.imp fun σ H Q h => ?_
  obtain ⟨M, ev, S, st, er, h⟩ := h
  exact h M H [] .refl st rfl
theorem Ta.ext {K : PySem.W.Frag} {M M1 : List Addr} {H H1 : Hp} {S1 : Store} {ev : Ev} {σ : L2.St} {Q : List V → Hp → Prop} (st1 : Sto K H1 M1 S1) (en : EnvR K H M ev σ) (x1 : Ext M H M1 H1)
    (h : OutP (er ev S1) (fun ds S' => ∀ M' H' vs, Ext M H M' H' → Sto K H' M' S' → RelDs K H' M' ds vs → Q vs H') (fun x S' => Kx K W M H x ev S' σ)) : Ta K W er σ H1 Q := by
  refine ⟨M1, ev, S1, st1, en.mono x1, ?_⟩
  generalize er ev S1 = o at h ⊢
  cases o with
  | bad => exact h.elim
  | exc x S2 => exact Kx.ext x1 h
  | ok d S2 => exact fun M' H' vs e => h M' H' vs (x1.trans e)
theorem acons_ok : ∀ σ H Q, Ta X.K W (aCons ea er) σ H Q → tCons (T X.K W ea) (Ta X.K W er) σ H Q := by
  intro σ H Q h
  obtain ⟨M, ev, S, st, en, h⟩ := h
  refine ⟨M, ev, S, st, en, ?_⟩
  unfold aCons at h
  generalize ea ev S = o1 at h ⊢
  cases o1 with
  | bad => exact h.elim
  | exc x S1 => exact h
  | ok d1 S1 =>
    intro M1 H1 x x1 st1 r1
    refine ⟨M1, ev, S1, st1, en.mono x1, ?_⟩
    have h : OutP (ob (er ev S1) fun xs S2 => .ok (d1 :: xs) S2) _ _ := h
    generalize er ev S1 = o2 at h ⊢
    cases o2 with
    | bad => exact h.elim
    | exc x S2 => exact Kx.ext x1 h
    | ok ds S2 => exact fun M2 H2 vs x2 st2 r2 => h M2 H2 (x :: vs) (x1.trans x2) st2 ⟨x, vs, rfl, RelD.mono x2 _ _ r1, r2⟩
theorem a_cons (ha : PE X e (T X.K W ea)) (hr : PA X es (Ta X.K W er)) (hs : starEach (e :: es) X.env = (false, eval e X.env) :: starEach es X.env := by rfl) : PA X (e :: es) (Ta X.K W (aCons ea er)) :=
  (pa_cons ha hr hs).imp acons_ok
theorem T.weak {K : PySem.W.Frag} {σ : L2.St} {H : Hp} {Q Q' : VK} (h : T K W ea σ H Q) (f : ∀ v H', Q v H' → Q' v H') : T K W ea σ H Q' := by
  obtain ⟨M, ev, S, st, en, h⟩ := h
  refine ⟨M, ev, S, st, en, ?_⟩
  generalize ea ev S = o1 at h ⊢
  cases o1 with
  | bad => exact h
  | exc x S1 => exact h
  | ok d1 S1 => exact fun M1 H1 v x1 st1 r1 => f v H1 (h M1 H1 v x1 st1 r1)
theorem tanil_ok {K : PySem.W.Frag} : ∀ σ H Q, Ta K W aNil σ H Q → tNil σ H Q := by
  intro σ H Q h
  obtain ⟨M, ev, S, st, en, h⟩ := h
  exact h M H [] .refl st rfl
theorem a_star (ha : PE X e (T X.K W ea)) (hr : PA X es (Ta X.K W er)) : PA X (.Starred e p :: es) (Ta X.K W (aStar ea er)) := by
  refine (StX.pa_star ha hr).imp fun σ H Q h => ?_
  obtain ⟨M, ev, S, st, en, h⟩ := h
  refine ⟨M, ev, S, st, en, ?_⟩
  unfold aStar at h
  generalize ea ev S = o1 at h ⊢
  cases o1 with
  | bad => exact h.elim
  | exc x S1 => exact h
  | ok d1 S1 =>
    intro M1 H1 x x1 st1 r1
    have h : OutP (ob (oS (seqD d1 S1) S1) fun xs S2 => ob (er ev S2) fun ys S3 => .ok (xs ++ ys) S3) _ _ := h
    generalize hk : seqD d1 S1 = o2 at h
    cases o2 with
    | none => exact h.elim
    | some ds =>
      obtain ⟨p, vs, e1, e2, r2⟩ := seqD_ok st1 r1 hk
      refine ⟨p, vs, e1, e2.symm, M1, ev, S1, st1, en.mono x1, ?_⟩
      have h : OutP (ob (er ev S1) fun ys S3 => .ok (ds ++ ys) S3) _ _ := h
      generalize er ev S1 = o3 at h ⊢
      cases o3 with
      | bad => exact h.elim
      | exc x S2 => exact Kx.ext x1 h
      | ok es' S2 => exact fun M2 H2 ws x2 st2 r3 => h M2 H2 (vs ++ ws) (x1.trans x2) st2 (RelDs.append (RelDs.mono x2 _ _ r2) r3)
theorem tup_ok : ∀ σ H Q, T X.K W (eTup er) σ H Q → tTup (Ta X.K W er) σ H Q := by
  intro σ H Q h
  obtain ⟨M, ev, S, st, en, h⟩ := h
  refine ⟨M, ev, S, st, en, ?_⟩
  unfold eTup at h
  generalize er ev S = o1 at h ⊢
  cases o1 with
  | bad => exact h.elim
  | exc x S1 => exact h
  | ok ds S1 =>
    intro M1 H1 vs x1 st1 r1
    have h : OutP (if ds.length ≤ LINE then .ok (D.tup ds) S1 else .bad) _ _ := h
    split at h
    · rename_i hl
      refine ⟨by rw [line_eq, r1.length]; exact hl, fun q hq => ?_⟩
      obtain ⟨st2, x2⟩ := st1.beside (o := .tup vs) hq
      exact h M1 _ _ (x1.trans x2) st2 ⟨q, vs, rfl, .of upd_same, RelDs.mono x2 _ _ r1⟩
    · exact h.elim
theorem v_tup {k} (h : PA X es (Ta X.K W er)) : PE X (.Tuple es k pos) (T X.K W (eTup er)) := (pe_tup h).imp tup_ok
theorem v_lst (h : PA X es (Ta X.K W er)) : PE X (.List es pos) (T X.K W (eLst er)) := by
  refine (pe_lst h).imp fun σ H Q h => ?_
  obtain ⟨M, ev, S, st, en, h⟩ := h
  refine ⟨M, ev, S, st, en, ?_⟩
  unfold eLst at h
  generalize er ev S = o1 at h ⊢
  cases o1 with
  | bad => exact h.elim
  | exc x S1 => exact h
  | ok ds S1 =>
    intro M1 H1 vs x1 st1 r1
    have h : OutP (if ds.length ≤ LINE then .ok (D.obj S1.length) (S1 ++ [.lst ds]) else .bad) _ _ := h
    split at h
    · rename_i hl
      refine ⟨by rw [line_eq, r1.length]; exact hl, fun q hq => ?_⟩
      obtain ⟨st2, x2, e2⟩ := st1.push hq r1
      exact h _ _ _ (x1.trans x2) st2 ⟨q, rfl, e2⟩
    · exact h.elim
end
/-- a built-in's call -/
def eB (f : FL) (r : EM (List D)) : EM D := fun ev S => ob (r ev S) fun xs S1 => oo (f xs S1)
/-- a built-in type's method -/
def eM (f : D → FL) (a : EM D) (r : EM (List D)) : EM D := fun ev S => ob (a ev S) fun x S1 => ob (r ev S1) fun xs S2 => oo (f x xs S2)
/-- a def of the text -/
abbrev Fn := List D → Store → Out D
def eCall (f : Fn) (r : EM (List D)) : EM D := fun ev S => ob (r ev S) fun xs S1 => f xs S1
section
variable {X : Cx} {W : XW} {e o : Expr} {es : List Expr} {ea : EM D} {er : EM (List D)} {pos p apos : Pos} {x m : Str} {id TT : String}
theorem b_ok {r : List V → Hp → VK → Prop} {f : FL} (hf : OpL X.K r f) : ∀ σ H Q, T X.K W (eB f er) σ H Q → tCB r (Ta X.K W er) σ H Q := by
  intro σ H Q h
  obtain ⟨M, ev, S, st, en, h⟩ := h
  refine ⟨M, ev, S, st, en, ?_⟩
  unfold eB at h
  generalize er ev S = o1 at h ⊢
  cases o1 with
  | bad => exact h.elim
  | exc x S1 => exact h
  | ok ds S1 =>
    intro M1 H1 vs x1 st1 r1
    have h : OutP (oo (f ds S1)) _ _ := h
    generalize hf2 : f ds S1 = o3 at h
    cases o3 with
    | none => exact h.elim
    | some q => exact hf M1 H1 S1 ds vs q.1 q.2 Q st1 r1 hf2 (Kt.ext x1 h)
theorem v_callB {r : List V → Hp → VK → Prop} {f : FL} (hc : CallR X (.builtin id) r) (hf : OpL X.K r f) (hg : Gl X x) (hm : X.mg x = none) (hv : bootBuiltins x = some (.builtin id)) (ha : PA X (e :: es) (Ta X.K W er)) (hn : x ≠ "__name__" := by decide) (hdb : (x == ("__debug__" : Str)) = false := by decide)
    (he : starEach (e :: es) X.env = (false, eval e X.env) :: starEach es X.env := by rfl) (hpl : (backTo pos (starEach es X.env)).any (·.1) = false := by rfl) : PE X (.Call (.Name x p) (e :: es) [] pos) (T X.K W (eB f er)) :=
  (pe_callB hc hg hm hv ha hn hdb he hpl).imp (b_ok hf)
theorem v_callTy {r : List V → Hp → VK → Prop} {f : FL} (hc : CallR X (.type TT) r) (hf : OpL X.K r f) (hg : Gl X x) (hm : X.mg x = none) (hv : bootBuiltins x = some (.type TT)) (ha : PA X (e :: es) (Ta X.K W er)) (hn : x ≠ "__name__" := by decide) (hdb : (x == ("__debug__" : Str)) = false := by decide)
    (he : starEach (e :: es) X.env = (false, eval e X.env) :: starEach es X.env := by rfl) (hpl : (backTo pos (starEach es X.env)).any (·.1) = false := by rfl) : PE X (.Call (.Name x p) (e :: es) [] pos) (T X.K W (eB f er)) :=
  (pe_callTy hc hg hm hv ha hn hdb he hpl).imp (b_ok hf)
end
end Sh

/-! Sh3: methods, slices, walks, statements, comprehensions. -/
namespace Sh
open PySem PySem.Spec PyProof.Rows L2

/-! ### a built-in type's method -/
def isTy (t : String) : D → Store → Bool
  | .str _, _ => t == "str"
  | .int _, _ => t == "int"
  | .rol _, _ => t == "list"
  | .obj i, S => match S[i]? with
    | some (.lst _) => t == "list"
    | none => false
  | _, _ => false
theorem isTy_ok {K : PySem.W.Frag} {H : Hp} {M : List Addr} {S : Store} {t : String} {d : D} {v : V} (st : Sto K H M S) (r : RelD K H M d v) (h : isTy t d S = true) : tyV K t v H := by
  cases d with
  | str s => cases r; exact beq_iff_eq.mp h
  | int s => cases r; exact beq_iff_eq.mp h
  | rol xs =>
    obtain ⟨a, vs, rfl, h1, h2⟩ := r
    exact .inl ⟨beq_iff_eq.mp h, vs, h1.sqL⟩
  | obj i =>
    obtain ⟨a, rfl, h1⟩ := r
    obtain ⟨c, e, hc⟩ := st.cell h1
    have h : (match S[i]? with | some (.lst _) => t == "list" | none => false) = true := h
    rw [e] at h
    cases c with
    | lst ys =>
      obtain ⟨vs, e1, e2⟩ := hc
      exact .inl ⟨beq_iff_eq.mp h, vs, .of e1⟩
  | _ => cases h
def eMt (t : String) (f : D → FL) (a : EM D) (r : EM (List D)) : EM D := fun ev S => ob (a ev S) fun x S1 => if isTy t x S1 = true then ob (r ev S1) fun xs S2 => oo (f x xs S2) else .bad
def eMt0 (t : String) (f : D → FL) (a : EM D) : EM D := fun ev S => ob (a ev S) fun x S1 => if isTy t x S1 = true then oo (f x [] S1) else .bad
section
variable {X : Cx} {W : XW} {e o : Expr} {es : List Expr} {ea : EM D} {er : EM (List D)} {pos p apos cpos : Pos} {name : Str} {id TT : String} {r : V → List V → Hp → VK → Prop} {f : D → FL}
theorem v_mt0 (pa : PlainAttrs TT) (slot : Slot TT name id) (hty : typeOf (.builtin id) = pure (.type "method_descriptor")) (hm : MtR X id r) (hf : OpM X.K r f) (ho : PE X o (T X.K W ea))
    (hbase : attributeBase o name X.env (eval o X.env) = eval o X.env := by rfl) (hline : (apos.endLine == cpos.line) = true := by rfl) : PE X (.Call (.Attribute o name apos) [] [] cpos) (T X.K W (eMt0 TT f ea)) := by
  refine (pe_bm0 pa slot hty hm ho hbase hline).imp fun σ H Q h => ?_
  obtain ⟨M, ev, S, st, en, h⟩ := h
  refine ⟨M, ev, S, st, en, ?_⟩
  unfold eMt0 at h
  generalize ea ev S = o1 at h ⊢
  cases o1 with
  | bad => exact h.elim
  | exc x S1 => exact h
  | ok d1 S1 =>
    intro M1 H1 x x1 st1 r1
    have h : OutP (if isTy TT d1 S1 = true then oo (f d1 [] S1) else .bad) _ _ := h
    split at h
    · rename_i ht
      refine ⟨isTy_ok st1 r1 ht, ?_⟩
      generalize hf2 : f d1 [] S1 = o3 at h
      cases o3 with
      | none => exact h.elim
      | some q => exact hf M1 H1 S1 d1 [] x [] q.1 q.2 Q st1 r1 rfl hf2 (Kt.ext x1 h)
    · exact h.elim
theorem v_mt (pa : PlainAttrs TT) (slot : Slot TT name id) (hty : typeOf (.builtin id) = pure (.type "method_descriptor")) (hm : MtR X id r) (hf : OpM X.K r f) (ho : PE X o (T X.K W ea)) (ha : PA X (e :: es) (Ta X.K W er))
    (hbase : attributeBase o name X.env (eval o X.env) = eval o X.env := by rfl)
    (hfew : ((backTo cpos (starEach (e :: es) X.env)).all (fun x => !x.1) && (backToKw cpos (keywordEach [] X.env)).all (fun x => x.1.isSome)
      && decide ((e :: es).length + ([] : List Keyword).length + (if ([] : List Keyword).isEmpty then 0 else 1) < 30)) = true := by rfl)
    (hline : (apos.endLine == cpos.line) = true := by rfl) (hs : starEach (e :: es) X.env = (false, eval e X.env) :: starEach es X.env := by rfl) (hplain : (backTo cpos (starEach es X.env)).any (·.1) = false := by rfl) :
    PE X (.Call (.Attribute o name apos) (e :: es) [] cpos) (T X.K W (eMt TT f ea er)) := by
  refine (pe_bm pa slot hty hm ho ha hbase hfew hline hs hplain).imp fun σ H Q h => ?_
  obtain ⟨M, ev, S, st, en, h⟩ := h
  refine ⟨M, ev, S, st, en, ?_⟩
  unfold eMt at h
  generalize ea ev S = o1 at h ⊢
  cases o1 with
  | bad => exact h.elim
  | exc x S1 => exact h
  | ok d1 S1 =>
    intro M1 H1 x x1 st1 r1
    have h : OutP (if isTy TT d1 S1 = true then ob (er ev S1) fun xs S2 => oo (f d1 xs S2) else .bad) _ _ := h
    split at h
    · rename_i ht
      refine ⟨isTy_ok st1 r1 ht, M1, ev, S1, st1, en.mono x1, ?_⟩
      generalize er ev S1 = o2 at h ⊢
      cases o2 with
      | bad => exact h.elim
      | exc x S2 => exact Kx.ext x1 h
      | ok ds S2 =>
        intro M2 H2 xs x2 st2 r2
        have h : OutP (oo (f d1 ds S2)) _ _ := h
        generalize hf2 : f d1 ds S2 = o3 at h
        cases o3 with
        | none => exact h.elim
        | some q => exact hf M2 H2 S2 d1 ds x xs q.1 q.2 Q st2 (RelD.mono x2 _ _ r1) r2 hf2 (Kt.ext (x1.trans x2) h)
    · exact h.elim
end

/-! ### slices -/
def eNoPart : EM (Option Int) := fun _ S => .ok none S
def ePart (a : EM D) : EM (Option Int) := fun ev S => ob (a ev S) fun x S1 => match x with
  | .int i => .ok (some i) S1
  | _ => .bad
def To (K : PySem.W.Frag) (W : XW) (e : EM (Option Int)) : TO := fun σ H Q => ∃ M ev S, Sto K H M S ∧ EnvR K H M ev σ ∧
  OutP (e ev S) (fun b S' => ∀ M' H', Ext M H M' H' → Sto K H' M' S' → Q b H') (fun x S' => Kx K W M H x ev S' σ)
abbrev F3 := D → Option Int → Option Int → Store → Option (D × Store)
def Op3 (K : PySem.W.Frag) (r : V → Option Int → Option Int → Hp → VK → Prop) (f : F3) : Prop := ∀ M H S d1 x lo hi d S' Q, Sto K H M S → RelD K H M d1 x → f d1 lo hi S = some (d, S') → Kt K M H d S' Q → r x lo hi H Q
def eSl (f : F3) (a : EM D) (lo hi : EM (Option Int)) : EM D := fun ev S => ob (a ev S) fun x S1 => ob (lo ev S1) fun l S2 => ob (hi ev S2) fun u S3 => oo (f x l u S3)
theorem _root_.L2.PO.imp {X : Cx} {e : Option Expr} {t t' : TO} (h : PO X e t) (f : ∀ σ H Q, t' σ H Q → t σ H Q) : PO X e t' := ⟨fun pins s σ H Q I q => h.run pins s σ H Q I (f σ H Q q)⟩
section
variable {X : Cx} {W : XW} {e : Expr} {ea : EM D} {lo hi : Option Expr} {el eh : EM (Option Int)} {pos p2 : Pos}
theorem o_none : PO X none (To X.K W eNoPart) := by
  refine po_none.imp fun σ H Q h => ?_
  obtain ⟨M, ev, S, st, en, h⟩ := h
  exact h M H .refl st
theorem o_some (ha : PE X e (T X.K W ea)) : PO X (some e) (To X.K W (ePart ea)) := by
  refine (po_some ha).imp fun σ H Q h => ?_
  obtain ⟨M, ev, S, st, en, h⟩ := h
  refine ⟨M, ev, S, st, en, ?_⟩
  unfold ePart at h
  generalize ea ev S = o1 at h ⊢
  cases o1 with
  | bad => exact h.elim
  | exc x S1 => exact h
  | ok d1 S1 =>
    intro M1 H1 x x1 st1 r1
    cases d1 with
    | int i => cases r1; exact ⟨i, rfl, h M1 H1 x1 st1⟩
    | _ => exact (show False from h).elim
theorem To.ext {K : PySem.W.Frag} {M M1 : List Addr} {H H1 : Hp} {S1 : Store} {ev : Ev} {σ : L2.St} {Q : Option Int → Hp → Prop} (st1 : Sto K H1 M1 S1) (en : EnvR K H M ev σ) (x1 : Ext M H M1 H1)
    (h : OutP (el ev S1) (fun b S' => ∀ M' H', Ext M H M' H' → Sto K H' M' S' → Q b H') (fun x S' => Kx K W M H x ev S' σ)) : To K W el σ H1 Q := by
  refine ⟨M1, ev, S1, st1, en.mono x1, ?_⟩
  generalize el ev S1 = o at h ⊢
  cases o with
  | bad => exact h.elim
  | exc x S2 => exact Kx.ext x1 h
  | ok d S2 => exact fun M' H' e => h M' H' (x1.trans e)
theorem v_slice {r : V → Option Int → Option Int → Hp → VK → Prop} {f : F3} (hr : SlR X r) (hf : Op3 X.K r f) (he : PE X e (T X.K W ea)) (hl : PO X lo (To X.K W el)) (hu : PO X hi (To X.K W eh)) : PE X (.Subscript e (.Slice lo hi none p2) pos) (T X.K W (eSl f ea el eh)) := by
  refine (pe_slice hr he hl hu).imp fun σ H Q h => ?_
  obtain ⟨M, ev, S, st, en, h⟩ := h
  refine ⟨M, ev, S, st, en, ?_⟩
  unfold eSl at h
  generalize ea ev S = o1 at h ⊢
  cases o1 with
  | bad => exact h.elim
  | exc x S1 => exact h
  | ok d1 S1 =>
    intro M1 H1 x x1 st1 r1
    have h : OutP (ob (el ev S1) fun l S2 => ob (eh ev S2) fun u S3 => oo (f d1 l u S3)) _ _ := h
    refine ⟨M1, ev, S1, st1, en.mono x1, ?_⟩
    generalize el ev S1 = o2 at h ⊢
    cases o2 with
    | bad => exact h.elim
    | exc x S2 => exact Kx.ext x1 h
    | ok l S2 =>
      intro M2 H2 x2 st2
      have h : OutP (ob (eh ev S2) fun u S3 => oo (f d1 l u S3)) _ _ := h
      refine ⟨M2, ev, S2, st2, en.mono (x1.trans x2), ?_⟩
      generalize eh ev S2 = o3 at h ⊢
      cases o3 with
      | bad => exact h.elim
      | exc x S3 => exact Kx.ext (x1.trans x2) h
      | ok u S3 =>
        intro M3 H3 x3 st3
        have h : OutP (oo (f d1 l u S3)) _ _ := h
        generalize hf2 : f d1 l u S3 = o4 at h
        cases o4 with
        | none => exact h.elim
        | some q => exact hf M3 H3 S3 d1 x l u q.1 q.2 Q st3 (RelD.mono (x2.trans x3) _ _ r1) hf2 (Kt.ext ((x1.trans x2).trans x3) h)
end

/-! ### targets -/
abbrev GM := D → Ev → Option Ev
abbrev GMs := List D → Ev → Option Ev
def gNm (i : Nat) : GM := fun d ev => some (ev.set i (some d))
def gsNil : GMs := fun ds ev => match ds with
  | [] => some ev
  | _ => none
def gsCons (g : GM) (r : GMs) : GMs := fun ds ev => match ds with
  | d :: ds => match g d ev with
    | some ev' => r ds ev'
    | none => none
  | [] => none
def gTp (n : Nat) (r : GMs) : GM := fun d ev => match d with
  | .tup xs => if xs.length = n then r xs ev else none
  | _ => none
theorem wipe_at (σ : L2.St) : ∀ (zs : List Nat) (j : Nat), (wipe σ zs)[j]? = if j ∈ zs then (σ[j]?).map (fun _ => none) else σ[j]?
  | [], j => by simp [wipe]
  | z :: zs, j => by
    unfold wipe
    rw [List.getElem?_set]
    by_cases hj : z = j
    · subst hj
      rw [if_pos rfl, wipe_length]
      by_cases hl : z < σ.length
      · simp [hl]
      · simp [hl]
    · rw [if_neg hj, wipe_at σ zs j]
      have : (j ∈ z :: zs) ↔ (j ∈ zs) := by simp [Ne.symm hj]
      simp only [this]
theorem wipe_set {σ : L2.St} {i : Nat} {o : Option V} {zs : List Nat} (h : i ∈ zs) : wipe (σ.set i o) zs = wipe σ zs := by
  apply List.ext_getElem?
  intro j
  rw [wipe_at, wipe_at, List.getElem?_set]
  by_cases hj : i = j
  · subst hj
    rw [if_pos rfl, if_pos h, if_pos h]
    by_cases hl : i < σ.length
    · simp [hl]
    · simp [hl]
  · rw [if_neg hj]
/-- only the slots vs have changed -/
def Only (vs : List Nat) (σ σ' : L2.St) : Prop := ∀ zs : List Nat, (∀ z ∈ vs, z ∈ zs) → wipe σ' zs = wipe σ zs
def Tg (K : PySem.W.Frag) (g : GM) (vs : List Nat) : TG := fun v σ H Q => ∃ M ev S d, Sto K H M S ∧ EnvR K H M ev σ ∧ RelD K H M d v ∧ ∃ ev', g d ev = some ev' ∧
  ∀ M' H' σ', Ext M H M' H' → Sto K H' M' S → EnvR K H' M' ev' σ' → Only vs σ σ' → Q σ' H'
def Tgs (K : PySem.W.Frag) (g : GMs) (vs : List Nat) : TGs := fun us σ H Q => ∃ M ev S ds, Sto K H M S ∧ EnvR K H M ev σ ∧ RelDs K H M ds us ∧ ∃ ev', g ds ev = some ev' ∧
  ∀ M' H' σ', Ext M H M' H' → Sto K H' M' S → EnvR K H' M' ev' σ' → Only vs σ σ' → Q σ' H'
theorem _root_.L2.PG.imp {X : Cx} {e : Expr} {t t' : TG} (h : PG X e t) (f : ∀ v σ H Q, t' v σ H Q → t v σ H Q) : PG X e t' := ⟨fun pins s σ H v u Q I r q => h.run pins s σ H v u Q I r (f v σ H Q q)⟩
theorem _root_.L2.PGs.imp {X : Cx} {e : List Expr} {t t' : TGs} (h : PGs X e t) (f : ∀ v σ H Q, t' v σ H Q → t v σ H Q) : PGs X e t' := ⟨fun pins s σ H v u Q I r q => h.run pins s σ H v u Q I r (f v σ H Q q)⟩
section
variable {X : Cx} {pos : Pos}
theorem t_name {i : Nat} {x : Str} (hN : X.N.Nodup) (hi : X.N[i]? = some x) (hx : Loc X.env.scope x) (hf : X.fn x = true ∨ X.env.scope.names.lookup x = some .local := by first | exact .inl rfl | exact .inr rfl | assumption) : PG X (.Name x pos) (Tg X.K (gNm i) [i]) := by
  refine (pg_name hN hi hx hf).imp fun v σ H Q h => ?_
  obtain ⟨M, ev, S, d, st, en, r, ev', e, k⟩ := h
  cases e
  exact k M H _ .refl st (en.set i r) fun zs hz => wipe_set (hz i (by simp))
theorem ts_nil : PGs X [] (Tgs X.K gsNil []) := by
  refine pgs_nil.imp fun vs σ H Q h => ?_
  obtain ⟨M, ev, S, ds, st, en, r, ev', e, k⟩ := h
  cases ds with
  | nil =>
    cases e
    exact ⟨r, k M H σ .refl st en fun _ _ => rfl⟩
  | cons _ _ => cases e
theorem ts_cons {e : Expr} {es : List Expr} {g : GM} {gs : GMs} {vs ws : List Nat} (h1 : PG X e (Tg X.K g vs)) (h2 : PGs X es (Tgs X.K gs ws))
    (hs : (assignEach (e :: es) X.env).map (·.2) = assign e X.env :: (assignEach es X.env).map (·.2) := by rfl) : PGs X (e :: es) (Tgs X.K (gsCons g gs) (vs ++ ws)) := by
  refine (pgs_cons h1 h2 hs).imp fun us σ H Q h => ?_
  obtain ⟨M, ev, S, ds, st, en, r, ev', e, k⟩ := h
  cases ds with
  | nil => cases e
  | cons d ds =>
    obtain ⟨v, vr, rfl, r1, r2⟩ := r
    have e : (match g d ev with | some ev' => gs ds ev' | none => none) = some ev' := e
    generalize hg : g d ev = o at e
    cases o with
    | none => cases e
    | some ev1 =>
      refine ⟨v, vr, rfl, M, ev, S, d, st, en, r1, ev1, hg, fun M1 H1 σ1 x1 st1 en1 o1 => ?_⟩
      exact ⟨M1, ev1, S, ds, st1, en1, RelDs.mono x1 _ _ r2, ev', e, fun M2 H2 σ2 x2 st2 en2 o2 => k M2 H2 σ2 (x1.trans x2) st2 en2 fun zs hz =>
        (o2 zs fun z h => hz z (List.mem_append_right _ h)).trans (o1 zs fun z h => hz z (List.mem_append_left _ h))⟩
theorem t_tup {es : List Expr} {k : Nat} {gs : GMs} {vs : List Nat} {n : Nat} (hc : X.calm = true) (h : PGs X es (Tgs X.K gs vs))
    (hn : (assignEach es X.env).length = n := by rfl) (hst : (assignEach es X.env).findIdx? (·.1) = none := by rfl) : PG X (.Tuple es k pos) (Tg X.K (gTp n gs) vs) := by
  refine (pg_tup hc h hn hst).imp fun v σ H Q h => ?_
  obtain ⟨M, ev, S, d, st, en, r, ev', e, k⟩ := h
  cases d with
  | tup xs =>
    obtain ⟨a, us, rfl, h1, h2⟩ := r
    have e : (if xs.length = n then gs xs ev else none) = some ev' := e
    split at e
    · rename_i hl
      exact ⟨a, us, rfl, h1, by rw [h2.length]; exact hl, M, ev, S, xs, st, en, h2, ev', e, k⟩
    · cases e
  | _ => cases e
end

/-! ### statements -/
def sNil : SM := fun ev S => .nx ev S
def sCons (a b : SM) : SM := fun ev S => match a ev S with
  | .nx e S' => b e S'
  | r => r
def sSet (a : EM D) (g : GM) : SM := fun ev S => match a ev S with
  | .ok d S' => match g d ev with
    | some ev' => .nx ev' S'
    | none => .bad
  | .exc x S' => .exc x ev S'
  | .bad => .bad
def sExpr (a : EM D) : SM := fun ev S => match a ev S with
  | .ok _ S' => .nx ev S'
  | .exc x S' => .exc x ev S'
  | .bad => .bad
def sRet (a : EM D) : SM := fun ev S => match a ev S with
  | .ok d S' => .rt d S'
  | .exc x S' => .exc x ev S'
  | .bad => .bad
def sRetN : SM := fun _ S => .rt .non S
def sIf (q : EM Bool) (a b : SM) : SM := fun ev S => match q ev S with
  | .ok k S' => if k = true then a ev S' else b ev S'
  | .exc x S' => .exc x ev S'
  | .bad => .bad
def sBreak : SM := fun ev S => .bk ev S
def sCont : SM := fun ev S => .ct ev S
def sNever : SM := fun _ _ => .bad
/-- name op= e -/
def sAug (i : Nat) (f : F2) (a : EM D) : SM := fun ev S => match ev[i]? with
  | some (some x) => match a ev S with
    | .ok d S' => match f x d S' with
      | some (z, S2) => .nx (ev.set i (some z)) S2
      | none => .bad
    | .exc x S' => .exc x ev S'
    | .bad => .bad
  | _ => .bad
/-- o[i] = e -/
abbrev FS := D → D → D → Store → Option Store
def sSub (f : FS) (o i a : EM D) : SM := fun ev S => match a ev S with
  | .ok v S1 => match o ev S1 with
    | .ok x S2 => match i ev S2 with
      | .ok y S3 => match f x y v S3 with
        | some S4 => .nx ev S4
        | none => .bad
      | .exc z S' => .exc z ev S'
      | .bad => .bad
    | .exc z S' => .exc z ev S'
    | .bad => .bad
  | .exc z S' => .exc z ev S'
  | .bad => .bad
/-- a, b = x, y -/
def sPar2 (i j : Nat) (r : EM (List D)) : SM := fun ev S => match r ev S with
  | .ok [v, w] S' => .nx ((ev.set i (some v)).set j (some w)) S'
  | .ok _ _ => .bad
  | .exc x S' => .exc x ev S'
  | .bad => .bad
def sPar3 (i j l : Nat) (r : EM (List D)) : SM := fun ev S => match r ev S with
  | .ok [u, v, w] S' => .nx (((ev.set i (some u)).set j (some v)).set l (some w)) S'
  | .ok _ _ => .bad
  | .exc x S' => .exc x ev S'
  | .bad => .bad
def SetR (K : PySem.W.Frag) (r : TSet) (f : FS) : Prop := ∀ M H S d1 d2 d3 x y z S' Q, Sto K H M S → RelD K H M d1 x → RelD K H M d2 y → RelD K H M d3 z → f d1 d2 d3 S = some S' → (∀ M' H', Ext M H M' H' → Sto K H' M' S' → Q H') → r x y z H Q
section
variable {X : Cx} {W : XW} {st : Stmt} {rest : List Stmt} {m1 m2 : SM} {e tg : Expr} {ea eo ei : EM D} {er : EM (List D)} {g : GM} {qa : EM Bool} {pos : Pos}
theorem Ts.ext {K : PySem.W.Frag} {M M1 : List Addr} {H H1 : Hp} {S1 : Store} {ev : Ev} {σ : L2.St} {D' : Ends} (st1 : Sto K H1 M1 S1) (en1 : EnvR K H1 M1 ev σ) (x1 : Ext M H M1 H1)
    (h : SOutP (m1 ev S1) (fun e S' => Kn K M H e S' D'.nx) (fun d S' => Kt K M H d S' D'.rt) (fun e S' => Kn K M H e S' D'.bk) (fun e S' => Kn K M H e S' D'.ct) (fun x e S' => Kxs K W M H x e S')) : Ts K W m1 D' σ H1 := by
  refine ⟨M1, ev, S1, st1, en1, ?_⟩
  generalize m1 ev S1 = o at h ⊢
  cases o with
  | nx e S' => exact Kn.ext x1 h
  | rt d S' => exact Kt.ext x1 h
  | bk e S' => exact Kn.ext x1 h
  | ct e S' => exact Kn.ext x1 h
  | exc x e S' => exact Kxs.ext x1 h
  | bad => exact h
theorem Kx.to {K : PySem.W.Frag} {M : List Addr} {H : Hp} {x : Exc} {ev : Ev} {S : Store} (h : Kxs K W M H x ev S) {σ : L2.St} : Kx K W M H x ev S σ := fun M' H' e1 e2 e3 => h M' H' σ e1 e2 e3
theorem ss_nil : PSs X [] (Ts X.K W sNil) := by
  refine pss_nil.imp fun D σ H h => ?_
  obtain ⟨M, ev, S, st, en, h⟩ := h
  exact h M H σ .refl st en
theorem cons_ok : ∀ D σ H, Ts X.K W (sCons m1 m2) D σ H → tSeq (Ts X.K W m1) (Ts X.K W m2) D σ H := by
  intro D σ H h
  obtain ⟨M, ev, S, sto, en, h⟩ := h
  refine ⟨M, ev, S, sto, en, ?_⟩
  unfold sCons at h
  generalize m1 ev S = o at h ⊢
  cases o with
  | nx e S' => exact fun M1 H1 σ1 x1 st1 en1 => Ts.ext st1 en1 x1 h
  | rt d S' => exact h
  | bk e S' => exact h
  | ct e S' => exact h
  | exc x e S' => exact h
  | bad => exact h
theorem ss_cons (h1 : PS X st (Ts X.K W m1)) (h2 : PSs X rest (Ts X.K W m2)) : PSs X (st :: rest) (Ts X.K W (sCons m1 m2)) := (pss_cons h1 h2).imp cons_ok
theorem ss_one (h1 : PS X st (Ts X.K W m1)) : PSs X [st] (Ts X.K W m1) := pss_one h1
theorem s_pass : PS X (.Pass pos) (Ts X.K W sNil) := by
  refine ps_pass.imp fun D σ H h => ?_
  obtain ⟨M, ev, S, st, en, h⟩ := h
  exact h M H σ .refl st en
theorem s_break : PS X (.Break pos) (Ts X.K W sBreak) := by
  refine ps_break.imp fun D σ H h => ?_
  obtain ⟨M, ev, S, st, en, h⟩ := h
  exact h M H σ .refl st en
theorem s_continue : PS X (.Continue pos) (Ts X.K W sCont) := by
  refine ps_continue.imp fun D σ H h => ?_
  obtain ⟨M, ev, S, st, en, h⟩ := h
  exact h M H σ .refl st en
theorem s_never : PS X st (Ts X.K W sNever) := ps_never.imp fun D σ H h => by
  obtain ⟨M, ev, S, _, _, h⟩ := h
  exact h
theorem ss_never {sts : List Stmt} : PSs X sts (Ts X.K W sNever) := pss_never.imp fun D σ H h => by
  obtain ⟨M, ev, S, _, _, h⟩ := h
  exact h
theorem s_expr (he : PE X e (T X.K W ea)) (hs : swapsWith e none pos.line X.env = pure false := by rfl) : PS X (.Expr e pos) (Ts X.K W (sExpr ea)) := by
  refine (ps_expr he hs).imp fun D σ H h => ?_
  obtain ⟨M, ev, S, st, en, h⟩ := h
  refine ⟨M, ev, S, st, en, ?_⟩
  unfold sExpr at h
  generalize ea ev S = o at h ⊢
  cases o with
  | bad => exact h
  | exc x S1 => exact Kx.to h
  | ok d S1 => exact fun M1 H1 v x1 st1 _ => h M1 H1 σ x1 st1 (en.mono x1)
theorem ret_ok : ∀ D σ H, Ts X.K W (sRet ea) D σ H → tRet (T X.K W ea) D σ H := by
  intro D σ H h
  obtain ⟨M, ev, S, st, en, h⟩ := h
  refine ⟨M, ev, S, st, en, ?_⟩
  unfold sRet at h
  generalize ea ev S = o at h ⊢
  cases o with
  | bad => exact h
  | exc x S1 => exact Kx.to h
  | ok d S1 => exact h
theorem s_ret (he : PE X e (T X.K W ea)) : PS X (.Return (some e) pos) (Ts X.K W (sRet ea)) := (ps_ret he).imp ret_ok
theorem s_retN : PS X (.Return none pos) (Ts X.K W sRetN) := by
  refine ps_retN.imp fun D σ H h => ?_
  obtain ⟨M, ev, S, st, en, h⟩ := h
  exact h M H .non .refl st rfl
theorem s_if {c : Expr} {a b : List Stmt} (hc : PT X c (Tt X.K W qa)) (ha : PSs X a (Ts X.K W m1)) (hb : PSs X b (Ts X.K W m2)) : PS X (.If c a b pos) (Ts X.K W (sIf qa m1 m2)) := by
  refine (ps_if hc ha hb).imp fun D σ H h => ?_
  obtain ⟨M, ev, S, st, en, h⟩ := h
  refine ⟨M, ev, S, st, en, ?_⟩
  unfold sIf at h
  generalize qa ev S = o at h ⊢
  cases o with
  | bad => exact h
  | exc x S1 => exact Kx.to h
  | ok k S1 =>
    intro M1 H1 x1 st1
    cases k with
    | true => rw [if_pos rfl]; exact Ts.ext st1 (en.mono x1) x1 h
    | false => rw [if_neg (by decide)]; exact Ts.ext st1 (en.mono x1) x1 h
theorem set_ok {vs : List Nat} : ∀ D σ H, Ts X.K W (sSet ea g) D σ H → tAsg (T X.K W ea) (Tg X.K g vs) D σ H := by
  intro D σ H h
  obtain ⟨M, ev, S, st, en, h⟩ := h
  refine ⟨M, ev, S, st, en, ?_⟩
  unfold sSet at h
  generalize ea ev S = o at h ⊢
  cases o with
  | bad => exact h
  | exc x S1 => exact Kx.to h
  | ok d S1 =>
    intro M1 H1 v x1 st1 r1
    have h : SOutP (match g d ev with | some ev' => .nx ev' S1 | none => .bad) _ _ _ _ _ := h
    generalize hg : g d ev = o2 at h
    cases o2 with
    | none => exact h.elim
    | some ev' => exact ⟨M1, ev, S1, d, st1, en.mono x1, r1, ev', hg, fun M2 H2 σ2 x2 st2 en2 _ => h M2 H2 σ2 (x1.trans x2) st2 en2⟩
theorem s_asg {vs : List Nat} (he : PE X e (T X.K W ea)) (hg : PG X tg (Tg X.K g vs)) (hs : swapsWithSole [tg] e pos.line X.env = pure false := by rfl) (hw : swappedStores [tg] e X.env = pure none := by rfl)
    (h1 : (assignEach [tg] X.env).map (·.2) = [assign tg X.env] := by rfl) : PS X (.Assign [tg] e pos) (Ts X.K W (sSet ea g)) :=
  (ps_asg he hg hs hw h1).imp set_ok
theorem gnm_ok {i : Nat} : ∀ D σ H, Ts X.K W (sSet ea (gNm i)) D σ H → tAsg (T X.K W ea) (gName i) D σ H := by
  intro D σ H h
  obtain ⟨M, ev, S, st, en, h⟩ := h
  refine ⟨M, ev, S, st, en, ?_⟩
  unfold sSet at h
  generalize ea ev S = o at h ⊢
  cases o with
  | bad => exact h
  | exc x S1 => exact Kx.to h
  | ok d S1 => exact fun M1 H1 v x1 st1 r1 => h M1 H1 _ x1 st1 ((en.mono x1).set i r1)
theorem s_set {i : Nat} {x : Str} {pos' : Pos} (hN : X.N.Nodup) (hi : X.N[i]? = some x) (hx : Loc X.env.scope x) (he : PE X e (T X.K W ea)) (hs : swapsWith e (some (.Name x pos')) pos.line X.env = pure false := by rfl) (hf : X.fn x = true ∨ X.env.scope.names.lookup x = some .local := by first | exact .inl rfl | exact .inr rfl | assumption) :
    PS X (.Assign [.Name x pos'] e pos) (Ts X.K W (sSet ea (gNm i))) :=
  (ps_set hN hi hx he hs hf).imp gnm_ok
theorem s_aug {i : Nat} {x : Str} {op : Operator} {r : R2} {f : F2} {pos' : Pos} (hN : X.N.Nodup) (hi : X.N[i]? = some x) (hx : Loc X.env.scope x) (he : PE X e (T X.K W ea)) (ho : OpR X (inplaceOp op) r) (hf2 : Op2 X.K r f) (hf : X.fn x = true ∨ X.env.scope.names.lookup x = some .local := by first | exact .inl rfl | exact .inr rfl | assumption) :
    PS X (.AugAssign (.Name x pos') op e pos) (Ts X.K W (sAug i f ea)) := by
  refine (ps_aug (ti := r) hN hi hx he (fun pins s σ H x y v u Q I r1 r2 h => ho pins s σ H x y v u Q I r1 r2 h) hf).imp fun D σ H h => ?_
  obtain ⟨M, ev, S, st, en, h⟩ := h
  unfold sAug at h
  split at h
  · rename_i d e1
    obtain ⟨v, e2, rv⟩ := en.at_ i d e1
    refine ⟨v, e2, M, ev, S, st, en, ?_⟩
    generalize ea ev S = o at h ⊢
    cases o with
    | bad => exact h
    | exc x S1 => exact Kx.to h
    | ok d1 S1 =>
      intro M1 H1 y x1 st1 r1
      have h : SOutP (match f d d1 S1 with | some (z, S2) => .nx (ev.set i (some z)) S2 | none => .bad) _ _ _ _ _ := h
      generalize hf3 : f d d1 S1 = o2 at h
      cases o2 with
      | none => exact h.elim
      | some q => exact hf2 M1 H1 S1 d d1 v y q.1 q.2 _ st1 (RelD.mono x1 _ _ rv) r1 hf3 fun M2 H2 z x2 st2 r2 => h M2 H2 _ (x1.trans x2) st2 ((en.mono (x1.trans x2)).set i r2)
  · exact h.elim
theorem s_sub {o i : Expr} {t : TSet} {f : FS} {pos' : Pos} (hv : PE X e (T X.K W ea)) (ho : PE X o (T X.K W eo)) (hi : PE X i (T X.K W ei)) (hs : PSet X t) (hf : SetR X.K t f)
    (h1 : swapsWithSole [.Subscript o i pos'] e pos.line X.env = pure false := by rfl) (h2 : swappedStores [.Subscript o i pos'] e X.env = pure none := by rfl)
    (h3 : (assignEach [.Subscript o i pos'] X.env).map (·.2) = [assign (.Subscript o i pos') X.env] := by rfl)
    (ha : ∀ v, assign (.Subscript o i pos') X.env v = (do
      let ov ← holding [v] (eval o X.env)
      let iv ← holding [v, ov] (eval i X.env)
      standAt pos'
      holding [v, ov, iv] (setItem ov iv v)
      release [v, ov, iv] []) := by intro _; rfl) : PS X (.Assign [.Subscript o i pos'] e pos) (Ts X.K W (sSub f eo ei ea)) := by
  refine (ps_asg hv (pg_sub ho hi hs ha) h1 h2 h3).imp fun D σ H h => ?_
  obtain ⟨M, ev, S, st, en, h⟩ := h
  refine ⟨M, ev, S, st, en, ?_⟩
  unfold sSub at h
  generalize ea ev S = o1 at h ⊢
  cases o1 with
  | bad => exact h
  | exc x S1 => exact Kx.to h
  | ok d1 S1 =>
    intro M1 H1 v x1 st1 r1
    refine ⟨M1, ev, S1, st1, en.mono x1, ?_⟩
    simp only at h
    generalize eo ev S1 = o2 at h ⊢
    cases o2 with
    | bad => exact h
    | exc x S2 => exact Kx.ext x1 (Kx.to h)
    | ok d2 S2 =>
      intro M2 H2 x x2 st2 r2
      refine ⟨M2, ev, S2, st2, en.mono (x1.trans x2), ?_⟩
      simp only at h
      generalize ei ev S2 = o3 at h ⊢
      cases o3 with
      | bad => exact h
      | exc x S3 => exact Kx.ext (x1.trans x2) (Kx.to h)
      | ok d3 S3 =>
        intro M3 H3 y x3 st3 r3
        simp only at h
        generalize hf2 : f d2 d3 d1 S3 = o4 at h
        cases o4 with
        | none => exact h.elim
        | some S4 =>
          refine hf M3 H3 S3 d2 d3 d1 x y v S4 _ st3 (RelD.mono x3 _ _ r2) r3 (RelD.mono (x2.trans x3) _ _ r1) hf2 fun M4 H4 x4 st4 => ?_
          have xx := (((x1.trans x2).trans x3).trans x4)
          exact h M4 H4 σ xx st4 (en.mono xx)
theorem s_par2 {i j : Nat} {x y : Str} {a b : Expr} {px py pt : Pos} {kt k2 pt2} (hc : X.calm = true) (hN : X.N.Nodup) (hi : X.N[i]? = some x) (hj : X.N[j]? = some y) (hij : i ≠ j)
    (hx : X.env.scope.names.lookup x = some .local) (hy : X.env.scope.names.lookup y = some .local) (ha : PA X [a, b] (Ta X.K W er))
    (hw : swappedStores [.Tuple [.Name x px, .Name y py] kt pt] (.Tuple [a, b] k2 pt2) X.env = pure (some [x, y]))
    (hs : swapsWithSole [.Tuple [.Name x px, .Name y py] kt pt] (.Tuple [a, b] k2 pt2) pos.line X.env = pure false := by rfl) :
    PS X (.Assign [.Tuple [.Name x px, .Name y py] kt pt] (.Tuple [a, b] k2 pt2) pos) (Ts X.K W (sPar2 i j er)) := by
  refine (ps_par hc hN hi hj hij hx hy ha hw hs).imp fun D σ H h => ?_
  obtain ⟨M, ev, S, st, en, h⟩ := h
  refine ⟨M, ev, S, st, en, ?_⟩
  unfold sPar2 at h
  generalize er ev S = o at h ⊢
  match o, h with
  | .bad, h => exact h
  | .exc x S1, h => exact Kx.to h
  | .ok [v, w] _, h =>
    intro M1 H1 vs x1 st1 r
    obtain ⟨v', _, e1, r1, w', _, e2, r2, e3⟩ := r
    subst e2 e1
    have e3 : _ = [] := e3
    subst e3
    exact ⟨v', w', rfl, h M1 H1 _ x1 st1 (((en.mono x1).set i r1).set j r2)⟩
  | .ok [] _, h => exact h.elim
  | .ok [_] _, h => exact h.elim
  | .ok (_ :: _ :: _ :: _) _, h => exact h.elim
theorem s_par3 {i j l : Nat} {x y z : Str} {a b c : Expr} {px py pz pt : Pos} {kt k2 pt2} (hc : X.calm = true) (hN : X.N.Nodup) (hi : X.N[i]? = some x) (hj : X.N[j]? = some y) (hl : X.N[l]? = some z) (hij : i ≠ j) (hil : i ≠ l) (hjl : j ≠ l)
    (hx : X.env.scope.names.lookup x = some .local) (hy : X.env.scope.names.lookup y = some .local) (hz : X.env.scope.names.lookup z = some .local) (ha : PA X [a, b, c] (Ta X.K W er))
    (hw : swappedStores [.Tuple [.Name x px, .Name y py, .Name z pz] kt pt] (.Tuple [a, b, c] k2 pt2) X.env = pure (some [x, y, z]))
    (hs : swapsWithSole [.Tuple [.Name x px, .Name y py, .Name z pz] kt pt] (.Tuple [a, b, c] k2 pt2) pos.line X.env = pure false := by rfl) :
    PS X (.Assign [.Tuple [.Name x px, .Name y py, .Name z pz] kt pt] (.Tuple [a, b, c] k2 pt2) pos) (Ts X.K W (sPar3 i j l er)) := by
  refine (ps_par3 hc hN hi hj hl hij hil hjl hx hy hz ha hw hs).imp fun D σ H h => ?_
  obtain ⟨M, ev, S, st, en, h⟩ := h
  refine ⟨M, ev, S, st, en, ?_⟩
  unfold sPar3 at h
  generalize er ev S = o at h ⊢
  match o, h with
  | .bad, h => exact h
  | .exc x S1, h => exact Kx.to h
  | .ok [u, v, w] _, h =>
    intro M1 H1 vs x1 st1 r
    obtain ⟨u', _, e0, r0, v', _, e1, r1, w', _, e2, r2, e3⟩ := r
    subst e2 e1 e0
    have e3 : _ = [] := e3
    subst e3
    exact ⟨u', v', w', rfl, h M1 H1 _ x1 st1 ((((en.mono x1).set i r0).set j r1).set l r2)⟩
  | .ok [] _, h => exact h.elim
  | .ok [_] _, h => exact h.elim
  | .ok [_, _] _, h => exact h.elim
  | .ok (_ :: _ :: _ :: _ :: _) _, h => exact h.elim
end
end Sh

/-! Sh4: while, for, comprehensions, defs. -/
namespace Sh
open PySem PySem.Spec PyProof.Rows L2

/-! ### while -/
def sWhile (q : EM Bool) (b : SM) : Nat → SM
  | 0 => fun _ _ => .bad
  | n + 1 => fun ev S => match q ev S with
    | .ok k S1 => if k = true then (match b ev S1 with
        | .nx e S2 => sWhile q b n e S2
        | .ct e S2 => sWhile q b n e S2
        | .bk e S2 => .nx e S2
        | .rt d S2 => .rt d S2
        | .exc x e S2 => .exc x e S2
        | .bad => .bad) else .nx ev S1
    | .exc x S1 => .exc x ev S1
    | .bad => .bad
section
variable {X : Cx} {W : XW} {qa : EM Bool} {m : SM} {pos : Pos}
theorem s_while {c : Expr} {body : List Stmt} (n : Nat) (hp : PassesOwn (model X.prog X.w) X.A X.env X.xe) (hc : PT X c (Tt X.K W qa)) (hb : PSs X body (Ts X.K W m)) : PS X (.While c body [] pos) (Ts X.K W (sWhile qa m n)) := by
  refine (ps_while hp hc hb).imp fun D σ H h => ?_
  refine ⟨fun k σ H => Ts X.K W (sWhile qa m k) D σ H, ⟨n, h⟩, fun k σ H h => ?_⟩
  obtain ⟨M, ev, S, st, en, h⟩ := h
  cases k with
  | zero => exact h.elim
  | succ k =>
    refine ⟨M, ev, S, st, en, ?_⟩
    unfold sWhile at h
    generalize qa ev S = o at h ⊢
    cases o with
    | bad => exact h
    | exc x S1 => exact Kx.to h
    | ok c S1 =>
      intro M1 H1 x1 st1
      cases c with
      | false => exact h M1 H1 σ x1 st1 (en.mono x1)
      | true =>
        rw [if_pos rfl]
        refine ⟨fun σ' H' => Ts X.K W (sWhile qa m k) D σ' H', fun σ' H' z => ⟨k, Nat.lt_succ_self k, z⟩, M1, ev, S1, st1, en.mono x1, ?_⟩
        simp only [if_true] at h
        generalize m ev S1 = o2 at h ⊢
        cases o2 with
        | nx e S2 => exact fun M2 H2 σ2 x2 st2 en2 => Ts.ext st2 en2 (x1.trans x2) h
        | ct e S2 => exact fun M2 H2 σ2 x2 st2 en2 => Ts.ext st2 en2 (x1.trans x2) h
        | bk e S2 => exact Kn.ext x1 h
        | rt d S2 => exact Kt.ext x1 h
        | exc x e S2 => exact Kxs.ext x1 h
        | bad => exact h
end

/-! ### what is walked -/
inductive Wk where
  | lst (o : Nat) | tup (xs : List D) | rol (xs : List D) | rng (lo : Int) (n : Nat) | str (s : List Nat) | enl (o : Nat) | enr (xs : List D)
def cellAt (S : Store) (o : Nat) : Option (List D) := match S[o]? with
  | some (.lst xs) => some xs
  | none => none
/-- none: stuck; some none: the end -/
def wkAt (w : Wk) (S : Store) (i : Nat) : Option (Option D) :=
  match w with
  | .lst o => (cellAt S o).map fun xs => xs[i]?
  | .tup xs => some xs[i]?
  | .rol xs => some xs[i]?
  | .rng lo n => some (if i < n then some (.int (lo + i)) else none)
  | .str s => some (s[i]?.map fun c => .str [c])
  | .enl o => (cellAt S o).map fun xs => xs[i]?.map fun x => .tup [.int i, x]
  | .enr xs => some (xs[i]?.map fun x => .tup [.int i, x])
def WkR (K : PySem.W.Frag) (H : Hp) (M : List Addr) : Wk → It → Prop
  | .lst o, J => ∃ a, M[o]? = some a ∧ J = Itl K a
  | .tup xs, J => ∃ a vs, SqT K H a vs ∧ RelDs K H M xs vs ∧ J = Itt K a
  | .rol xs, J => ∃ a vs, RolP K H a vs ∧ RelDs K H M xs vs ∧ J = Itl K a
  | .rng lo n, J => J = Itr lo n
  | .str s, J => J = Its ⟨s.toArray⟩
  | .enl o, J => ∃ a, M[o]? = some a ∧ J = Ite K a
  | .enr xs, J => ∃ a vs, RolP K H a vs ∧ RelDs K H M xs vs ∧ J = Ite K a
section
variable {K : PySem.W.Frag} {M M' : List Addr} {H H' : Hp} {S : Store} {w : Wk} {J : It}
theorem WkR.mono (x : Ext M H M' H') (h : WkR K H M w J) : WkR K H' M' w J := by
  cases w with
  | lst o => obtain ⟨a, e, h⟩ := h; exact ⟨a, x.pre _ _ e, h⟩
  | tup xs => obtain ⟨a, vs, e, r, h⟩ := h; exact ⟨a, vs, x.sqT e, RelDs.mono x _ _ r, h⟩
  | rol xs => obtain ⟨a, vs, e, r, h⟩ := h; exact ⟨a, vs, x.rolP e, RelDs.mono x _ _ r, h⟩
  | rng lo n => exact h
  | str s => exact h
  | enl o => obtain ⟨a, e, h⟩ := h; exact ⟨a, x.pre _ _ e, h⟩
  | enr xs => obtain ⟨a, vs, e, r, h⟩ := h; exact ⟨a, vs, x.rolP e, RelDs.mono x _ _ r, h⟩
theorem cellAt_ok {o : Nat} {a : Addr} {xs : List D} (st : Sto K H M S) (e : M[o]? = some a) (h : cellAt S o = some xs) : ∃ vs, SqL K H a vs ∧ RelDs K H M xs vs := by
  obtain ⟨c, e1, hc⟩ := st.cell e
  unfold cellAt at h
  rw [e1] at h
  cases c with
  | lst ys =>
    obtain ⟨vs, h1, h2⟩ := hc
    cases h
    exact ⟨vs, .of h1, h2⟩
theorem RelDs.stop {ds : List D} {vs : List V} {i : Nat} (r : RelDs K H M ds vs) (e : ds[i]? = none) : vs.length ≤ i := by
  rw [r.length]
  exact List.getElem?_eq_none_iff.mp e
theorem wk_stop (st : Sto K H M S) (h : WkR K H M w J) {i : Nat} (e : wkAt w S i = some none) : J.stop i H := by
  cases w with
  | lst o =>
    obtain ⟨a, h1, rfl⟩ := h
    have e : (cellAt S o).map (fun xs => xs[i]?) = some none := e
    obtain ⟨xs, e1, e2⟩ := Option.map_eq_some_iff.mp e
    obtain ⟨vs, s1, s2⟩ := cellAt_ok st h1 e1
    exact ⟨vs, s1, s2.stop e2⟩
  | tup xs =>
    obtain ⟨a, vs, s1, s2, rfl⟩ := h
    have e2 : xs[i]? = none := Option.some.inj e
    exact ⟨vs, s1, s2.stop e2⟩
  | rol xs =>
    obtain ⟨a, vs, s1, s2, rfl⟩ := h
    have e2 : xs[i]? = none := Option.some.inj e
    exact ⟨vs, s1.sqL, s2.stop e2⟩
  | rng lo n =>
    have h : J = Itr lo n := h
    subst h
    have e2 : (if i < n then some (D.int (lo + i)) else none) = none := Option.some.inj e
    by_cases hl : i < n
    · rw [if_pos hl] at e2; cases e2
    · exact Nat.le_of_not_lt hl
  | str s =>
    have h : J = Its ⟨s.toArray⟩ := h
    subst h
    have e2 : s[i]?.map (fun c => D.str [c]) = none := Option.some.inj e
    rw [Option.map_eq_none_iff] at e2
    show s.toArray.size ≤ i
    simpa using List.getElem?_eq_none_iff.mp e2
  | enl o =>
    obtain ⟨a, h1, rfl⟩ := h
    have e : (cellAt S o).map (fun xs => xs[i]?.map fun x => D.tup [.int i, x]) = some none := e
    obtain ⟨xs, e1, e2⟩ := Option.map_eq_some_iff.mp e
    rw [Option.map_eq_none_iff] at e2
    obtain ⟨vs, s1, s2⟩ := cellAt_ok st h1 e1
    exact ⟨vs, s1, s2.stop e2⟩
  | enr xs =>
    obtain ⟨a, vs, s1, s2, rfl⟩ := h
    have e2 : xs[i]?.map (fun x => D.tup [.int i, x]) = none := Option.some.inj e
    rw [Option.map_eq_none_iff] at e2
    exact ⟨vs, s1.sqL, s2.stop e2⟩
theorem enum_go {a : Addr} {i : Nat} {x : D} {xs : List D} {vs : List V} (st : Sto K H M S) (s1 : SqL K H a vs) (s2 : RelDs K H M xs vs) (e : xs[i]? = some x) :
    (Ite K a).go i H ∧ ∀ v H', (Ite K a).yld i H v H' → Ext M H M H' ∧ Sto K H' M S ∧ RelD K H' M (.tup [.int i, x]) v := by
  obtain ⟨y, e1, r⟩ := s2.get e
  refine ⟨⟨vs, y, s1, e1⟩, fun v H' hy => ?_⟩
  obtain ⟨T, z, rfl, hT, rfl, hz⟩ := hy
  have ez : z = y := Option.some.inj ((hz vs s1).symm.trans e1)
  subst ez
  obtain ⟨st2, x2⟩ := st.beside (o := .tup [.int (i : Nat), z]) hT
  exact ⟨x2, st2, T, _, rfl, .of upd_same, _, _, rfl, rfl, _, _, rfl, RelD.mono x2 _ _ r, rfl⟩
theorem wk_go (st : Sto K H M S) (h : WkR K H M w J) {i : Nat} {d : D} (e : wkAt w S i = some (some d)) : J.go i H ∧ ∀ v H', J.yld i H v H' → Ext M H M H' ∧ Sto K H' M S ∧ RelD K H' M d v := by
  cases w with
  | lst o =>
    obtain ⟨a, h1, rfl⟩ := h
    have e : (cellAt S o).map (fun xs => xs[i]?) = some (some d) := e
    obtain ⟨xs, e1, e2⟩ := Option.map_eq_some_iff.mp e
    obtain ⟨vs, s1, s2⟩ := cellAt_ok st h1 e1
    obtain ⟨y, e3, r⟩ := s2.get e2
    refine ⟨⟨vs, y, s1, e3⟩, fun v H' hy => ?_⟩
    obtain ⟨rfl, hz⟩ := hy
    have ez : v = y := Option.some.inj ((hz vs s1).symm.trans e3)
    subst ez
    exact ⟨.refl, st, r⟩
  | tup xs =>
    obtain ⟨a, vs, s1, s2, rfl⟩ := h
    have e2 : xs[i]? = some d := Option.some.inj e
    obtain ⟨y, e3, r⟩ := s2.get e2
    refine ⟨⟨vs, y, s1, e3⟩, fun v H' hy => ?_⟩
    obtain ⟨rfl, hz⟩ := hy
    have ez : v = y := Option.some.inj ((hz vs s1).symm.trans e3)
    subst ez
    exact ⟨.refl, st, r⟩
  | rol xs =>
    obtain ⟨a, vs, s1, s2, rfl⟩ := h
    have e2 : xs[i]? = some d := Option.some.inj e
    obtain ⟨y, e3, r⟩ := s2.get e2
    refine ⟨⟨vs, y, s1.sqL, e3⟩, fun v H' hy => ?_⟩
    obtain ⟨rfl, hz⟩ := hy
    have ez : v = y := Option.some.inj ((hz vs s1.sqL).symm.trans e3)
    subst ez
    exact ⟨.refl, st, r⟩
  | rng lo n =>
    have h : J = Itr lo n := h
    subst h
    have e2 : (if i < n then some (D.int (lo + i)) else none) = some d := Option.some.inj e
    by_cases hl : i < n
    · rw [if_pos hl] at e2
      cases e2
      refine ⟨hl, fun v H' hy => ?_⟩
      obtain ⟨rfl, rfl⟩ := hy
      exact ⟨.refl, st, rfl⟩
    · rw [if_neg hl] at e2; cases e2
  | str s =>
    have h : J = Its ⟨s.toArray⟩ := h
    subst h
    have e2 : s[i]?.map (fun c => D.str [c]) = some d := Option.some.inj e
    obtain ⟨c, e3, e4⟩ := Option.map_eq_some_iff.mp e2
    have hl : i < s.length := (List.getElem?_eq_some_iff.mp e3).1
    refine ⟨by show i < s.toArray.size; simpa using hl, fun v H' hy => ?_⟩
    obtain ⟨rfl, c', h1, rfl⟩ := hy
    have h1 : s.toArray[i]? = some c' := h1
    have h1 : s[i]? = some c' := by simpa using h1
    rw [e3] at h1
    cases h1
    subst e4
    exact ⟨.refl, st, rfl⟩
  | enl o =>
    obtain ⟨a, h1, rfl⟩ := h
    have e : (cellAt S o).map (fun xs => xs[i]?.map fun x => D.tup [.int i, x]) = some (some d) := e
    obtain ⟨xs, e1, e2⟩ := Option.map_eq_some_iff.mp e
    obtain ⟨x, e3, rfl⟩ := Option.map_eq_some_iff.mp e2
    obtain ⟨vs, s1, s2⟩ := cellAt_ok st h1 e1
    exact enum_go st s1 s2 e3
  | enr xs =>
    obtain ⟨a, vs, s1, s2, rfl⟩ := h
    have e2 : xs[i]?.map (fun x => D.tup [.int i, x]) = some d := Option.some.inj e
    obtain ⟨x, e3, rfl⟩ := Option.map_eq_some_iff.mp e2
    exact enum_go st s1.sqL s2 e3
end
def Ti (K : PySem.W.Frag) (W : XW) (e : EM Wk) : TI := fun σ H R => ∃ M ev S, Sto K H M S ∧ EnvR K H M ev σ ∧
  OutP (e ev S) (fun w S' => ∀ M' H' J, Ext M H M' H' → Sto K H' M' S' → WkR K H' M' w J → R J H') (fun x S' => Kx K W M H x ev S' σ)
theorem _root_.L2.PI.imp {X : Cx} {tg e : Expr} {t t' : TI} (h : PI X tg e t) (f : ∀ σ H Q, t' σ H Q → t σ H Q) : PI X tg e t' := ⟨fun pins s σ H Q I q => h.run pins s σ H Q I (f σ H Q q)⟩
theorem _root_.L2.PI.or {X : Cx} {tg e : Expr} {t t' : TI} (h : PI X tg e t) (h' : PI X tg e t') : PI X tg e (fun σ H R => t σ H R ∨ t' σ H R) := ⟨fun pins s σ H Q I q => q.elim (h.run pins s σ H Q I) (h'.run pins s σ H Q I)⟩
def wkOf (d : D) (S : Store) : Option Wk := match d with
  | .obj i => match S[i]? with
    | some (.lst _) => some (.lst i)
    | none => none
  | .tup xs => some (.tup xs)
  | .rol xs => some (.rol xs)
  | .str s => some (.str s)
  | _ => none
def iSeq (a : EM D) : EM Wk := fun ev S => ob (a ev S) fun d S1 => oS (wkOf d S1) S1
def iRng1 (r : EM (List D)) : EM Wk := fun ev S => ob (r ev S) fun xs S1 => match xs with
  | [.int j] => if -(2 ^ 62) ≤ j ∧ j < 2 ^ 62 then .ok (.rng 0 j.toNat) S1 else .bad
  | _ => .bad
def iRng2 (r : EM (List D)) : EM Wk := fun ev S => ob (r ev S) fun xs S1 => match xs with
  | [.int i, .int j] => if -(2 ^ 62) ≤ i ∧ i < 2 ^ 62 ∧ -(2 ^ 62) ≤ j ∧ j < 2 ^ 62 then .ok (.rng i (j - i).toNat) S1 else .bad
  | _ => .bad
def enOf (d : D) (S : Store) : Option Wk := match d with
  | .obj i => match S[i]? with
    | some (.lst _) => some (.enl i)
    | none => none
  | .rol xs => some (.enr xs)
  | _ => none
def iEnu (r : EM (List D)) : EM Wk := fun ev S => ob (r ev S) fun xs S1 => match xs with
  | [d] => oS (enOf d S1) S1
  | _ => .bad
section
variable {X : Cx} {W : XW} {tg e a b : Expr} {ea : EM D} {er : EM (List D)} {p pos : Pos}
theorem i_seq (ha : PE X e (T X.K W ea)) : PI X tg e (Ti X.K W (iSeq ea)) := by
  refine ((pi_list ha).or ((pi_tup ha).or (pi_str ha))).imp fun σ H R h => ?_
  obtain ⟨M, ev, S, st, en, h⟩ := h
  unfold iSeq at h
  generalize ho : ea ev S = o at h
  cases o with
  | bad => exact h.elim
  | exc x S1 =>
    refine .inl ⟨M, ev, S, st, en, ?_⟩
    rw [ho]; exact h
  | ok d S1 =>
    have h : OutP (oS (wkOf d S1) S1) _ _ := h
    generalize hw : wkOf d S1 = ow at h
    cases ow with
    | none => exact h.elim
    | some w =>
      cases d with
      | obj i =>
        refine .inl ⟨M, ev, S, st, en, ?_⟩
        rw [ho]
        intro M1 H1 v x1 st1 r1
        obtain ⟨a, rfl, h1⟩ := r1
        obtain ⟨c, e1, hc⟩ := st1.cell h1
        have hw : (match S1[i]? with | some (.lst _) => some (Wk.lst i) | none => none) = some w := hw
        rw [e1] at hw
        cases c with
        | lst xs =>
          cases hw
          obtain ⟨vs, h2, h3⟩ := hc
          exact ⟨a, rfl, ⟨vs, .of h2⟩, h M1 H1 _ x1 st1 ⟨a, h1, rfl⟩⟩
      | tup xs =>
        refine .inr (.inl ⟨M, ev, S, st, en, ?_⟩)
        rw [ho]
        intro M1 H1 v x1 st1 r1
        obtain ⟨a, vs, rfl, h1, h2⟩ := r1
        cases hw
        exact ⟨a, rfl, ⟨vs, h1⟩, h M1 H1 _ x1 st1 ⟨a, vs, h1, h2, rfl⟩⟩
      | rol xs =>
        refine .inl ⟨M, ev, S, st, en, ?_⟩
        rw [ho]
        intro M1 H1 v x1 st1 r1
        obtain ⟨a, vs, rfl, h1, h2⟩ := r1
        cases hw
        exact ⟨a, rfl, ⟨vs, h1.sqL⟩, h M1 H1 _ x1 st1 ⟨a, vs, h1, h2, rfl⟩⟩
      | str s =>
        refine .inr (.inr ⟨M, ev, S, st, en, ?_⟩)
        rw [ho]
        intro M1 H1 v x1 st1 r1
        cases r1
        cases hw
        exact ⟨_, rfl, h M1 H1 _ x1 st1 rfl⟩
      | _ => cases hw
theorem i_rng1 (hg : Gl X "range") (hm : X.mg "range" = none) (ha : PA X [a] (Ta X.K W er)) (hs : starEach [a] X.env = [(false, eval a X.env)] := by rfl) : PI X tg (.Call (.Name "range" p) [a] [] pos) (Ti X.K W (iRng1 er)) := by
  refine (pi_range1 hg hm ha hs).imp fun σ H R h => ?_
  obtain ⟨M, ev, S, st, en, h⟩ := h
  refine ⟨M, ev, S, st, en, ?_⟩
  unfold iRng1 at h
  generalize er ev S = o at h ⊢
  match o, h with
  | .bad, h => exact h
  | .exc x S1, h => exact h
  | .ok [.int j] S1, h =>
    intro M1 H1 vs x1 st1 r1
    obtain ⟨v, r, rfl, e1, e2⟩ := r1
    have e2 : r = [] := e2
    subst e2
    have e1 : v = .int j := e1
    subst e1
    have h : OutP (if -(2 ^ 62) ≤ j ∧ j < 2 ^ 62 then .ok (Wk.rng 0 j.toNat) S1 else .bad) _ _ := h
    split at h
    · rename_i hb
      exact ⟨j, rfl, hb.1, hb.2, h M1 H1 _ x1 st1 rfl⟩
    · exact h.elim
theorem i_rng2 (hg : Gl X "range") (hm : X.mg "range" = none) (ha : PA X [a, b] (Ta X.K W er)) (hs : starEach [a, b] X.env = [(false, eval a X.env), (false, eval b X.env)] := by rfl) (hs2 : starEach [b] X.env = [(false, eval b X.env)] := by rfl) : PI X tg (.Call (.Name "range" p) [a, b] [] pos) (Ti X.K W (iRng2 er)) := by
  refine (pi_range2 hg hm ha hs hs2).imp fun σ H R h => ?_
  obtain ⟨M, ev, S, st, en, h⟩ := h
  refine ⟨M, ev, S, st, en, ?_⟩
  unfold iRng2 at h
  generalize er ev S = o at h ⊢
  match o, h with
  | .bad, h => exact h
  | .exc x S1, h => exact h
  | .ok [.int i, .int j] S1, h =>
    intro M1 H1 vs x1 st1 r1
    obtain ⟨v, r, rfl, e1, v2, r2, e2, e3, e4⟩ := r1
    have e4 : r2 = [] := e4
    subst e4
    have e1 : v = .int i := e1
    have e3 : v2 = .int j := e3
    subst e1 e2 e3
    have h : OutP (if -(2 ^ 62) ≤ i ∧ i < 2 ^ 62 ∧ -(2 ^ 62) ≤ j ∧ j < 2 ^ 62 then .ok (Wk.rng i (j - i).toNat) S1 else .bad) _ _ := h
    split at h
    · rename_i hb
      exact ⟨i, j, rfl, hb, h M1 H1 _ x1 st1 rfl⟩
    · exact h.elim
theorem i_enu {elts : List Expr} {kk : Nat} {tpos : Pos} (hg : Gl X "enumerate") (hm : X.mg "enumerate" = none) (ha : PA X [e] (Ta X.K W er)) (hs : starEach [e] X.env = [(false, eval e X.env)] := by rfl) : PI X (.Tuple elts kk tpos) (.Call (.Name "enumerate" p) [e] [] pos) (Ti X.K W (iEnu er)) := by
  refine (pi_enum hg hm ha hs).imp fun σ H R h => ?_
  obtain ⟨M, ev, S, st, en, h⟩ := h
  refine ⟨M, ev, S, st, en, ?_⟩
  unfold iEnu at h
  generalize er ev S = o at h ⊢
  match o, h with
  | .bad, h => exact h
  | .exc x S1, h => exact h
  | .ok [d] S1, h =>
    intro M1 H1 vs x1 st1 r1
    obtain ⟨v, r, rfl, e1, e2⟩ := r1
    have e2 : r = [] := e2
    subst e2
    have h : OutP (oS (enOf d S1) S1) _ _ := h
    generalize hw : enOf d S1 = ow at h
    cases ow with
    | none => exact h.elim
    | some w =>
      cases d with
      | obj i =>
        obtain ⟨a, rfl, h1⟩ := e1
        obtain ⟨c, e1, hc⟩ := st1.cell h1
        have hw : (match S1[i]? with | some (.lst _) => some (Wk.enl i) | none => none) = some w := hw
        rw [e1] at hw
        cases c with
        | lst xs =>
          cases hw
          obtain ⟨vs, h2, h3⟩ := hc
          exact ⟨a, vs, rfl, .of h2, h M1 H1 _ x1 st1 ⟨a, h1, rfl⟩⟩
      | rol xs =>
        obtain ⟨a, vs, rfl, h1, h2⟩ := e1
        cases hw
        exact ⟨a, vs, rfl, h1.sqL, h M1 H1 _ x1 st1 ⟨a, vs, h1, h2, rfl⟩⟩
      | _ => cases hw
end

/-! ### for -/
def sForL (w : Wk) (g : GM) (b : SM) : Nat → Nat → SM
  | 0, _ => fun _ _ => .bad
  | n + 1, i => fun ev S => match wkAt w S i with
    | none => .bad
    | some none => .nx ev S
    | some (some d) => match g d ev with
      | none => .bad
      | some ev1 => match b ev1 S with
        | .nx e S2 => sForL w g b n (i + 1) e S2
        | .ct e S2 => sForL w g b n (i + 1) e S2
        | .bk e S2 => .nx e S2
        | .rt d S2 => .rt d S2
        | .exc x e S2 => .exc x e S2
        | .bad => .bad
def sFor (n : Nat) (iw : EM Wk) (g : GM) (b : SM) : SM := fun ev S => match iw ev S with
  | .ok w S1 => sForL w g b n 0 ev S1
  | .exc x S1 => .exc x ev S1
  | .bad => .bad
section
variable {X : Cx} {W : XW} {iw : EM Wk} {g : GM} {m : SM} {pos : Pos} {tg iter : Expr} {body : List Stmt} {vs : List Nat}
theorem s_for (n : Nat) (hp : PassesOwn (model X.prog X.w) X.A X.env X.xe) (hc : X.calm = true) (hi : PI X tg iter (Ti X.K W iw)) (hg : PG X tg (Tg X.K g vs)) (hb : PSs X body (Ts X.K W m))
    (hs : ∀ x, foldedSetIterable iter X.env x = pure x := by intro _; rfl) : PS X (.For tg iter body [] pos) (Ts X.K W (sFor n iw g m)) := by
  refine (ps_for hp hc hi hg hb hs).imp fun D σ H h => ?_
  obtain ⟨M, ev, S, st, en, h⟩ := h
  refine ⟨M, ev, S, st, en, ?_⟩
  unfold sFor at h
  generalize iw ev S = o at h ⊢
  cases o with
  | bad => exact h
  | exc x S1 => exact Kx.to h
  | ok w S1 =>
    intro M1 H1 J x1 st1 wr
    refine ⟨fun i k σ' H' => ∃ M' ev' S', Ext M H M' H' ∧ Sto X.K H' M' S' ∧ EnvR X.K H' M' ev' σ' ∧ WkR X.K H' M' w J ∧
      SOutP (sForL w g m k i ev' S') (fun e S' => Kn X.K M H e S' D.nx) (fun d S' => Kt X.K M H d S' D.rt) (fun e S' => Kn X.K M H e S' D.bk) (fun e S' => Kn X.K M H e S' D.ct) (fun x e S' => Kxs X.K W M H x e S'),
      ⟨n, M1, ev, S1, x1, st1, en.mono x1, wr, h⟩, fun i k σ' H' hW => ?_⟩
    obtain ⟨M2, ev2, S2, x2, st2, en2, wr2, h2⟩ := hW
    cases k with
    | zero => exact h2.elim
    | succ k =>
      unfold sForL at h2
      generalize hw : wkAt w S2 i = ow at h2
      match ow, h2 with
      | none, h2 => exact h2.elim
      | some none, h2 => exact .inl ⟨wk_stop st2 wr2 hw, h2 M2 H' σ' x2 st2 en2⟩
      | some (some d), h2 =>
        obtain ⟨go, yl⟩ := wk_go st2 wr2 hw
        refine .inr ⟨go, fun σ'' H'' => ∃ M' ev' S', Ext M H M' H'' ∧ Sto X.K H'' M' S' ∧ EnvR X.K H'' M' ev' σ'' ∧ WkR X.K H'' M' w J ∧
          SOutP (sForL w g m k (i + 1) ev' S') (fun e S' => Kn X.K M H e S' D.nx) (fun d S' => Kt X.K M H d S' D.rt) (fun e S' => Kn X.K M H e S' D.bk) (fun e S' => Kn X.K M H e S' D.ct) (fun x e S' => Kxs X.K W M H x e S'),
          fun _ _ z => ⟨k, Nat.lt_succ_self k, z⟩, fun v H3 hy => ?_⟩
        obtain ⟨x3, st3, r3⟩ := yl v H3 hy
        simp only at h2
        generalize hgd : g d ev2 = og at h2
        cases og with
        | none => exact h2.elim
        | some ev3 =>
          refine ⟨M2, ev2, S2, d, st3, en2.mono x3, r3, ev3, hgd, fun M4 H4 σ4 x4 st4 en4 _ => ?_⟩
          have xx : Ext M H M4 H4 := (x2.trans x3).trans x4
          have wr4 := WkR.mono (x3.trans x4) wr2
          refine ⟨M4, ev3, S2, st4, en4, ?_⟩
          simp only at h2
          generalize m ev3 S2 = o5 at h2 ⊢
          cases o5 with
          | nx e S5 => exact fun M5 H5 σ5 x5 st5 en5 => ⟨M5, e, S5, xx.trans x5, st5, en5, wr4.mono x5, h2⟩
          | ct e S5 => exact fun M5 H5 σ5 x5 st5 en5 => ⟨M5, e, S5, xx.trans x5, st5, en5, wr4.mono x5, h2⟩
          | bk e S5 => exact Kn.ext xx h2
          | rt d S5 => exact Kt.ext xx h2
          | exc x e S5 => exact Kxs.ext xx h2
          | bad => exact h2
end
end Sh

/-! Sh5: comprehensions, defs and their calls. -/
namespace Sh
open PySem PySem.Spec PyProof.Rows L2

abbrev W0 : XW := fun _ _ _ _ _ _ => False
def wipeE (e : Ev) : List Nat → Ev
  | [] => e
  | v :: vs => (wipeE e vs).set v none
theorem EnvR.wipes {K : PySem.W.Frag} {H : Hp} {M : List Addr} {ev : Ev} {σ : L2.St} (h : EnvR K H M ev σ) : ∀ vs : List Nat, EnvR K H M (wipeE ev vs) (L2.wipe σ vs)
  | [] => h
  | v :: vs => (EnvR.wipes h vs).wipe v
def qYes : EM Bool := fun _ S => .ok true S
def lcLoop (w : Wk) (g : GM) (q : EM Bool) (e : EM D) (ev : Ev) (n0 : Nat) : Nat → Nat → Store → Out D
  | 0, _, _ => .bad
  | n + 1, i, S => match wkAt w S i with
    | none => .bad
    | some none => .ok (.obj n0) S
    | some (some d) => match g d ev with
      | none => .bad
      | some ev1 => match q ev1 S with
        | .ok k S1 => if k = true then (match e ev1 S1 with
            | .ok y S2 => match S2[n0]? with
              | some (.lst acc) => if acc.length < LINE then lcLoop w g q e ev n0 n (i + 1) (S2.set n0 (.lst (acc ++ [y]))) else .bad
              | none => .bad
            | _ => .bad) else lcLoop w g q e ev n0 n (i + 1) S1
        | _ => .bad
/-- [e for g in iw if q], own: the comprehension's own slots -/
def eLc (n : Nat) (iw : EM Wk) (g : GM) (q : EM Bool) (e : EM D) (own : List Nat) : EM D := fun ev S => ob (iw ev S) fun w S1 => lcLoop w g q e (wipeE ev own) S1.length n 0 (S1 ++ [.lst []])
theorem _root_.L2.PTs.imp {X : Cx} {e : List Expr} {t t' : TT} (h : PTs X e t) (f : ∀ σ H Q, t' σ H Q → t σ H Q) : PTs X e t' := ⟨fun pins s σ H Q I q => h.run pins s σ H Q I (f σ H Q q)⟩
theorem qs_nil {X : Cx} {W : XW} : PTs X [] (Tt X.K W qYes) := pts_nil.imp fun σ H Q h => by
  obtain ⟨M, ev, S, st, _, h⟩ := h
  exact h M H .refl st
theorem qs_one {X : Cx} {W : XW} {c : Expr} {q : EM Bool} (h : PT X c (Tt X.K W q)) : PTs X [c] (Tt X.K W q) := pts_one h
theorem lc_ok {K : PySem.W.Frag} {W : XW} {iw : EM Wk} {g : GM} {q : EM Bool} {e : EM D} {vs own : List Nat} {n : Nat} (hv : ∀ z ∈ vs, z ∈ own) : ∀ σ H Q, T K W (eLc n iw g q e own) σ H Q → tLc (Ti K W iw) (Tg K g vs) (Tt K W0 q) (T K W0 e) own σ H Q := by
  intro σ H Q h
  obtain ⟨M, ev, S, st, en, h⟩ := h
  refine ⟨M, ev, S, st, en, ?_⟩
  unfold eLc at h
  generalize iw ev S = o at h ⊢
  cases o with
  | bad => exact h
  | exc x S1 => exact h
  | ok w S1 =>
    intro M1 H1 J x1 st1 wr D hD
    have h : OutP (lcLoop w g q e (wipeE ev own) S1.length n 0 (S1 ++ [.lst []])) _ _ := h
    obtain ⟨stp, xp, ep⟩ := st1.push (xs := []) (vs := []) hD rfl
    refine ⟨fun i k H' => ∃ M' S', Ext M H M' H' ∧ Sto K H' M' S' ∧ M'[S1.length]? = some D ∧ WkR K H' M' w J ∧
      OutP (lcLoop w g q e (wipeE ev own) S1.length k i S') (fun d S' => Kt K M H d S' Q) (fun x S' => Kx K W M H x ev S' σ), ⟨n, _, _, x1.trans xp, stp, ep, wr.mono xp, h⟩, fun i k H' hW => ?_⟩
    obtain ⟨M2, S2, x2, st2, e2, wr2, h2⟩ := hW
    cases k with
    | zero => exact h2.elim
    | succ k =>
      unfold lcLoop at h2
      generalize hw : wkAt w S2 i = ow at h2
      match ow, h2 with
      | none, h2 => exact h2.elim
      | some none, h2 => exact .inl ⟨wk_stop st2 wr2 hw, h2 M2 H' _ x2 st2 ⟨D, rfl, e2⟩⟩
      | some (some d), h2 =>
        obtain ⟨go, yl⟩ := wk_go st2 wr2 hw
        refine .inr ⟨go, fun H'' => ∃ M' S', Ext M H M' H'' ∧ Sto K H'' M' S' ∧ M'[S1.length]? = some D ∧ WkR K H'' M' w J ∧
          OutP (lcLoop w g q e (wipeE ev own) S1.length k (i + 1) S') (fun d S' => Kt K M H d S' Q) (fun x S' => Kx K W M H x ev S' σ),
          fun _ z => ⟨k, Nat.lt_succ_self k, z⟩, fun v H3 hy => ?_⟩
        obtain ⟨x3, st3, r3⟩ := yl v H3 hy
        simp only at h2
        generalize hgd : g d (wipeE ev own) = og at h2
        cases og with
        | none => exact h2.elim
        | some ev3 =>
          refine ⟨M2, wipeE ev own, S2, d, st3, (en.wipes own).mono (x2.trans x3), r3, ev3, hgd, fun M4 H4 σ4 x4 st4 en4 on4 => ?_⟩
          have xx : Ext M H M4 H4 := (x2.trans x3).trans x4
          have wr4 := WkR.mono (x3.trans x4) wr2
          have e4 : M4[S1.length]? = some D := x4.pre _ _ e2
          refine ⟨?_, M4, ev3, S2, st4, en4, ?_⟩
          · rw [on4 own hv]
            apply List.ext_getElem?
            intro j
            rw [wipe_at, wipe_at]
            split
            · cases hσ : σ[j]? with
              | none => rfl
              | some _ => rfl
            · rfl
          · simp only at h2
            generalize q ev3 S2 = o5 at h2 ⊢
            match o5, h2 with
            | .bad, h2 => exact h2.elim
            | .exc _ _, h2 => exact h2.elim
            | .ok true S5, h2 =>
              intro M5 H5 x5 st5
              rw [if_pos rfl]
              refine ⟨M5, ev3, S5, st5, en4.mono x5, ?_⟩
              simp only [if_true] at h2
              generalize e ev3 S5 = o6 at h2 ⊢
              match o6, h2 with
              | .bad, h2 => exact h2.elim
              | .exc _ _, h2 => exact h2.elim
              | .ok y S6, h2 =>
                intro M6 H6 v6 x6 st6 r6
                have e6 : M6[S1.length]? = some D := (x5.trans x6).pre _ _ e4
                simp only at h2
                obtain ⟨c, ec, hc⟩ := st6.cell e6
                rw [ec] at h2
                cases c with
                | lst acc =>
                  obtain ⟨va, h6, r7⟩ := hc
                  simp only at h2
                  split at h2
                  · rename_i hl
                    refine ⟨va, h6, by rw [line_eq, r7.length]; exact hl, ?_⟩
                    obtain ⟨st7, x7⟩ := st6.set ec e6 (RelDs.append (es := [y]) (ws := [v6]) r7 ⟨v6, [], rfl, r6, rfl⟩)
                    exact ⟨M6, _, ((xx.trans x5).trans x6).trans x7, st7, e6, wr4.mono ((x5.trans x6).trans x7), h2⟩
                  · exact h2.elim
            | .ok false S5, h2 =>
              intro M5 H5 x5 st5
              rw [if_neg (by decide)]
              simp only [Bool.false_eq_true, if_false] at h2
              exact ⟨M5, S5, xx.trans x5, st5, x5.pre _ _ e4, wr4.mono x5, h2⟩
section
variable {X : Cx} {W : XW} {elt tg iter : Expr} {ifs : List Expr} {scope : Scope} {own : List (Str × Nat)} {pos : Pos} {iw : EM Wk} {g : GM} {q : EM Bool} {e : EM D} {vs : List Nat}
theorem v_lc (n : Nat) (hc : X.calm = true) (hN : X.N.Nodup) (hi : PI X tg iter (Ti X.K W iw)) (ok : BlkOk X.N X.env.scope scope own) (hv : ∀ z ∈ vs, z ∈ own.map (·.2))
    (hg : ∀ (s : Shared) (H : Hp) (C : Addr) (cl : List (Str × Addr)) (fp : List Addr), PG (X.blk s H scope (compEnvC scope cl C X.env) fp) tg (Tg X.K g vs)) (ht : ∀ (s : Shared) (H : Hp) (C : Addr) (cl : List (Str × Addr)) (fp : List Addr), PTs (X.blk s H scope (compEnvC scope cl C X.env) fp) ifs (Tt X.K W0 q))
    (he : ∀ (s : Shared) (H : Hp) (C : Addr) (cl : List (Str × Addr)) (fp : List Addr), PE (X.blk s H scope (compEnvC scope cl C X.env) fp) elt (T X.K W0 e)) (hs : ∀ x, foldedSetIterable iter X.env x = pure x := by intro _; rfl) :
    PE X (.ListComp elt [⟨tg, iter, ifs, 0⟩] scope pos) (T X.K W (eLc n iw g q e (own.map (·.2)))) :=
  (pe_lc hc hN hi ok hg ht he hs).imp (lc_ok hv)
theorem s_setLc {i : Nat} {y : Str} {py : Pos} {spos : Pos} (n : Nat) (hc : X.calm = true) (hN : X.N.Nodup) (hy : X.N[i]? = some y) (hyl : X.env.scope.names.lookup y = some .local)
    (hsw : swapsWith (.ListComp elt [⟨tg, iter, ifs, 0⟩] scope pos) (some (.Name y py)) spos.line X.env = pure true) (hi : PI X tg iter (Ti X.K W iw)) (ok : BlkOk X.N X.env.scope scope own) (hv : ∀ z ∈ vs, z ∈ own.map (·.2))
    (hg : ∀ (s : Shared) (H : Hp) (C : Addr) (cl : List (Str × Addr)) (fp : List Addr), PG (X.blk s H scope (compEnvC scope cl C X.env) fp) tg (Tg X.K g vs)) (ht : ∀ (s : Shared) (H : Hp) (C : Addr) (cl : List (Str × Addr)) (fp : List Addr), PTs (X.blk s H scope (compEnvC scope cl C X.env) fp) ifs (Tt X.K W0 q))
    (he : ∀ (s : Shared) (H : Hp) (C : Addr) (cl : List (Str × Addr)) (fp : List Addr), PE (X.blk s H scope (compEnvC scope cl C X.env) fp) elt (T X.K W0 e)) (hs : ∀ x, foldedSetIterable iter X.env x = pure x := by intro _; rfl) :
    PS X (.Assign [.Name y py] (.ListComp elt [⟨tg, iter, ifs, 0⟩] scope pos) spos) (Ts X.K W (sSet (eLc n iw g q e (own.map (·.2))) (gNm i))) :=
  (ps_setLc hc hN hy hyl hsw hi ok hg ht he hs).imp fun D σ H h => lc_ok hv σ H _ (gnm_ok D σ H h)
end

/-! ### defs -/
/-- the promise of a def that raises nothing: it hands back what its function does -/
def spOf (K : PySem.W.Frag) (n : Nat) (f : Fn) : Sp := fun vs H Q _ => ∃ M ds S, Sto K H M S ∧ RelDs K H M ds vs ∧ ds.length = n ∧ OutP (f ds S) (fun d S' => Kt K M H d S' Q) (fun _ _ => False)
def fnOf (n : Nat) (m : SM) : Fn := fun ds S => match m (ds.map some ++ List.replicate (n - ds.length) none) S with
  | .rt d S' => .ok d S'
  | .nx _ S' => .ok .non S'
  | .exc x _ S' => .exc x S'
  | _ => .bad
theorem env_start {K : PySem.W.Frag} {H : Hp} {M : List Addr} {ds : List D} {vs : List V} {N : List Str} (r : RelDs K H M ds vs) : EnvR K H M (ds.map some ++ List.replicate (N.length - ds.length) none) (L2.start N vs) := by
  have hl := r.length
  unfold L2.start
  refine ⟨by simp [hl], fun i d e => ?_⟩
  by_cases hi : i < ds.length
  · rw [List.getElem?_append_left (by simpa using hi), List.getElem?_map] at e
    cases hd : ds[i]? with
    | none => rw [hd] at e; cases e
    | some d' =>
      rw [hd] at e
      have e' : d' = d := by simpa using e
      subst e'
      obtain ⟨v, e1, r1⟩ := r.get hd
      refine ⟨v, ?_, r1⟩
      rw [List.getElem?_append_left (by rw [List.length_map, hl]; exact hi), List.getElem?_map, e1]
      rfl
  · rw [List.getElem?_append_right (by simpa using Nat.le_of_not_lt hi), List.getElem?_replicate] at e
    split at e <;> cases e
/-- a def of the text does what its function does, where nothing is being written out (repr) around it -/
structure FnG (P : Program) (w : World) (K : PySem.W.Frag) (mg : Str → Option Value) (base : Heap) (k : Nat) (f : Addr) (fd : FuncData) (ps : List Str) (fn : Fn) : Prop where
  run : ∀ (A : Around) (outer : List Env) (s : Shared) (H : Hp) (args : Args) (us : List Value) (vs : List V) (Q : VK), Room k A → A.guards = some [] → Env0 P w K mg base A outer s H → BindsTo s fd args (ps.zip us) → Vals vs us →
    spOf K ps.length fn vs H Q E0 → codeAny (model P w) A (.call (.ref f) args) (CR CX0 outer P w H s Q E0) s
section
variable {P : Program} {w : World} {K : PySem.W.Frag} {mg : Str → Option Value} {base : Heap}
theorem FnG.mono {j k : Nat} {f : Addr} {fd : FuncData} {ps : List Str} {fn : Fn} (F : FnG P w K mg base j f fd ps fn) (h : j ≤ k) : FnG P w K mg base k f fd ps fn :=
  ⟨fun A outer s H args us vs Q hr => F.run A outer s H args us vs Q (hr.mono h)⟩
theorem body_ok {N : List Str} {m : SM} {n : Nat} {vs : List V} {H : Hp} {Q : VK} {D' : Ends} (hnx : ∀ σ H', D'.nx σ H' = Q .non H') (hrt : D'.rt = Q) (h : spOf K n (fnOf N.length m) vs H Q E0) : Ts K W0 m D' (L2.start N vs) H := by
  obtain ⟨M, ds, S', st, r, e, o⟩ := h
  refine ⟨M, _, S', st, env_start r, ?_⟩
  unfold fnOf at o
  generalize m (ds.map some ++ List.replicate (N.length - ds.length) none) S' = o1 at o ⊢
  cases o1 with
  | nx ev S1 =>
    intro M1 H1 σ1 x1 st1 _
    rw [hnx]
    exact o M1 H1 .non x1 st1 rfl
  | rt d S1 =>
    intro M1 H1 v x1 st1 r1
    rw [hrt]
    exact o M1 H1 v x1 st1 r1
  | bk _ _ => exact o.elim
  | ct _ _ => exact o.elim
  | exc x ev S1 => exact o.elim
  | bad => exact o
theorem fn_ok {x qual : Str} {st : Stmt} {f : Addr} {fd : FuncData} {N ps : List Str} {k : Nat} {m : SM} (F : FunD K x qual (defArgs st) (defBody st) (defScope st) [] [] f fd) (S : FnScope N ps (defScope st))
    (h : ∀ (cdv : Value) (A : Around) (outer : List Env) (s : Shared) (H : Hp), Room k (A.deeper (envOfC qual (defScope st) s.heap.objs.size f cdv)) → (A.deeper (envOfC qual (defScope st) s.heap.objs.size f cdv)).guards = some [] →
      PSs (cxOf CX0 P w K mg base N qual (defScope st) f cdv A outer s H E0).nox (defBody st) (Ts K W0 m)) : FnG P w K mg base (k + 1) f fd ps (fnOf N.length m) := by
  obtain ⟨oc, od, dV, kV, doc, pm, an, cdv, ct, osl, efd, lk, hcd, _, _⟩ := F.ex
  subst efd
  refine ⟨fun A outer s H args us vs Q hr hgd e0 hb r hsp => ?_⟩
  have hl : vs.length = ps.length := by
    obtain ⟨_, ds, _, _, r1, e1, _⟩ := hsp
    rw [r1.length, e1]
  have ks : K.In s.heap := e0.mod.kin.keeps fun b o e => (e0.bs b o e).1
  have nl : s.heap.NoLimit := e0.mod.nolimit.keeps fun b o e => (e0.bs b o e).1
  have kinds : ∀ y ∈ ps.zip us, (defScope st).names.lookup y.1 = some .local ∨ ((defScope st).names.lookup y.1 = some .cell ∧ ((cellsFrom (s.heap.objs.size + 1) (defScope st).names []).lookup y.1).isSome = true) := by
    intro y hy
    have hm : y.1 ∈ ps := (List.of_mem_zip (a := y.1) (b := y.2) hy).1
    rcases S.par y.1 hm with q | q
    · exact .inl q
    · exact .inr ⟨q, PySem.W.cellsFrom_some _ _ _ (.inl q)⟩
  refine codeAny_call_function hr.depth (ks _ _ lk) rfl S.co S.gen rfl (PySem.W.codeRec_of ks hcd) (hb _ _ _ _ ?_)
  refine wpAny_newFunctionEnv_cells S.kind kinds fun env he s1 x => ?_
  subst he
  refine ⟨nl.keeps x.toInCall.keep, codeAny_func ?_⟩
  have I : Inv (cxOf CX0 P w K mg base N qual (defScope st) f cdv A outer s H E0) [] (L2.start N vs) H s1 := inv_start S hr.hd e0 hl r x
  have body := (h cdv A outer s H (hr.deeper _) hgd).nox
  refine wpAny_mono (body.run [] s1 (L2.start N vs) H { nx := fun _ H' => Q .non H', rt := Q } I (body_ok (fun _ _ => rfl) rfl hsp)) (fun fl s' hs => ?_) fun e s' hs => hs
  cases fl with
  | ret u =>
    obtain ⟨v, σ', H', J, rv, q⟩ := hs
    exact ⟨v, H', J.os, J.bare, J.base, J.hok, rv, q⟩
  | next =>
    obtain ⟨σ', H', J, q⟩ := hs
    exact ⟨V.non, H', J.os, J.bare, J.base, J.hok, rfl, q⟩
  | brk =>
    obtain ⟨_, _, _, q⟩ := hs
    exact False.elim q
  | cont =>
    obtain ⟨_, _, _, q⟩ := hs
    exact False.elim q
end
def noX (o : Out D) : Out D := match o with
  | .ok d S => .ok d S
  | _ => .bad
def eCall0 (f : Fn) (r : EM (List D)) : EM D := fun ev S => ob (r ev S) fun xs S1 => noX (f xs S1)
theorem aNil_len : ∀ ev S ds S', aNil ev S = .ok ds S' → ds.length = 0 := by
  intro ev S ds S' h
  cases h; rfl
theorem aCons_len {a : EM D} {r : EM (List D)} {n : Nat} (hr : ∀ ev S ds S', r ev S = .ok ds S' → ds.length = n) : ∀ ev S ds S', aCons a r ev S = .ok ds S' → ds.length = n + 1 := by
  intro ev S ds S' h
  unfold aCons at h
  generalize a ev S = o at h
  cases o with
  | bad => cases h
  | exc _ _ => cases h
  | ok d S1 =>
    have h : ob (r ev S1) (fun xs S2 => Out.ok (d :: xs) S2) = .ok ds S' := h
    generalize ho : r ev S1 = o at h
    cases o with
    | bad => cases h
    | exc _ _ => cases h
    | ok xs S2 =>
      cases h
      rw [List.length_cons, hr ev S1 xs _ ho]
section
variable {X : Cx} {W : XW} {k : Nat} {f : Addr} {fd : FuncData} {ps : List Str} {fn : Fn} {x : Str} {p pos kpos : Pos} {e : Expr} {es : List Expr} {er : EM (List D)}
theorem call0_ok {n : Nat} (hn : ∀ ev S ds S', er ev S = .ok ds S' → ds.length = n) : ∀ σ H Q, T X.K W (eCall0 fn er) σ H Q → Ta X.K W er σ H fun vs H1 => spOf X.K n fn vs H1 Q E0 := by
  intro σ H Q h
  obtain ⟨M, ev, S, st, en, h⟩ := h
  refine ⟨M, ev, S, st, en, ?_⟩
  unfold eCall0 at h
  generalize ho : er ev S = o1 at h ⊢
  cases o1 with
  | bad => exact h.elim
  | exc x S1 => exact h
  | ok ds S1 =>
    intro M1 H1 vs x1 st1 r1
    refine ⟨M1, ds, S1, st1, r1, hn ev S ds S1 ho, ?_⟩
    have h : OutP (noX (fn ds S1)) _ _ := h
    unfold noX at h
    generalize fn ds S1 = o2 at h ⊢
    cases o2 with
    | bad => exact h
    | exc x S2 => exact h.elim
    | ok d S2 => exact Kt.ext x1 h
/-- the callee runs -/
theorem run_g {pins : List (Addr × Obj)} {σ : L2.St} {H : Hp} {s : Shared} {Q : VK} {us : List Value} {kw : List (Str × Value)} {ws : List Value} {vs : List V} (F : FnG X.prog X.w X.K X.mg X.base k f fd ps fn) (hr : Room k X.A) (hgd : X.A.guards = some [])
    (hb : BindsTo s fd ⟨us, kw⟩ (ps.zip ws)) (I : Inv X pins σ H s) (r : Vals vs ws) (h : spOf X.K ps.length fn vs H Q E0) : wpAny (model X.prog X.w) X.A (call (.ref f) us kw) (EP X pins σ Q) X.xe s := by
  refine wpAny_call (codeAny_mono (F.run X.A X.stack s H ⟨us, kw⟩ ws vs Q hr hgd I.env0 hb r h) fun res s' hq => ?_)
  cases res with
  | error e => exact False.elim hq
  | ok fl =>
    cases fl with
    | ret u => exact I.after hq
    | next => exact False.elim hq
    | brk => exact False.elim hq
    | cont => exact False.elim hq
theorem sp_len {n : Nat} {vs : List V} {K : PySem.W.Frag} {H : Hp} {Q : VK} (h : spOf K n fn vs H Q E0) : vs.length = n := by
  obtain ⟨_, ds, _, _, r1, e1, _⟩ := h
  rw [r1.length, e1]
theorem v_call {n : Nat} (F : FnG X.prog X.w X.K X.mg X.base k f fd ps fn) (hr : Room k X.A) (hgd : X.A.guards = some []) (hg : Gl X x) (hm : X.mg x = some (.ref f)) (hk : PySem.W.keepIn X.K (.ref f) = true) (hb : Binds X.K fd ps [])
    (ha : PA X (e :: es) (Ta X.K W er)) (hn : ∀ ev S ds S', er ev S = .ok ds S' → ds.length = n) (hps : ps.length = n := by rfl) (hdb : (x == ("__debug__" : Str)) = false := by decide) (he : starEach (e :: es) X.env = (false, eval e X.env) :: starEach es X.env := by rfl) (hpl : (backTo pos (starEach es X.env)).any (·.1) = false := by rfl) :
    PE X (.Call (.Name x p) (e :: es) [] pos) (T X.K W (eCall0 fn er)) := by
  subst hps
  refine ⟨fun pins s σ H Q I h => ?_⟩
  refine wpAny_Call_Name_kw (ld_glob I hg hm ?_ hdb)
  refine PySem.W.callWith_K (h₀ := X.base) I.ok.mod.kin hk (thn (ha.run pos pins s σ H _ I (call0_ok hn σ H Q h)) fun us s1 w => ?_) he hpl
  obtain ⟨vs, H1, I1, r, q⟩ := w
  refine ⟨I1.kIn, run_g (ws := us) F hr hgd ?_ I1 r q⟩
  have z := hb s1 us I1.kIn (by rw [List.append_nil, ← r.length]; exact sp_len q)
  rw [List.append_nil] at z
  exact z
theorem v_call_nil (F : FnG X.prog X.w X.K X.mg X.base k f fd ps fn) (hr : Room k X.A) (hgd : X.A.guards = some []) (hg : Gl X x) (hm : X.mg x = some (.ref f)) (hk : PySem.W.keepIn X.K (.ref f) = true) (hb : Binds X.K fd ps [])
    (hps : ps.length = 0 := by rfl) (hdb : (x == ("__debug__" : Str)) = false := by decide) : PE X (.Call (.Name x p) [] [] pos) (T X.K W (eCall0 fn aNil)) := by
  refine ⟨fun pins s σ H Q I h => ?_⟩
  refine wpAny_Call_Name_kw (ld_glob I hg hm ?_ hdb)
  have h2 := call0_ok aNil_len σ H Q h
  refine PySem.W.callWith_K0 I.kIn hk (run_g (us := []) (ws := []) (vs := []) F hr hgd ?_ I .nil ?_)
  · have z := hb s [] I.kIn (by rw [hps]; rfl)
    exact z
  · rw [hps]
    obtain ⟨M, ev, S, st, en, h2⟩ := h2
    exact h2 M H [] .refl st rfl
theorem v_call_kw1 {nm : Str} (F : FnG X.prog X.w X.K X.mg X.base k f fd [nm] fn) (hr : Room k X.A) (hgd : X.A.guards = some []) (hg : Gl X x) (hm : X.mg x = some (.ref f)) (hk : PySem.W.keepIn X.K (.ref f) = true)
    (hb : ∀ (s : Shared) (u : Value), BindsTo s fd ⟨[], [(nm, u)]⟩ [(nm, u)]) {ea : EM D} (ha : PE X e (T X.K W ea)) (hdb : (x == ("__debug__" : Str)) = false := by decide)
    (hall : (backToKw pos (keywordEach [⟨some nm, e, kpos⟩] X.env)).all (·.1.isSome) = true := by rfl) (hks : (backToKw pos (keywordEach [⟨some nm, e, kpos⟩] X.env)).filterMap (·.1) = [nm] := by rfl)
    (hpl : ((backTo pos (starEach [] X.env)).any (·.1) || (backToKw pos (keywordEach [⟨some nm, e, kpos⟩] X.env)).any (·.1.isNone)) = false := by rfl) :
    PE X (.Call (.Name x p) [] [⟨some nm, e, kpos⟩] pos) (T X.K W (eCall0 fn (aCons ea aNil))) := by
  refine ⟨fun pins s σ H Q I h => ?_⟩
  refine wpAny_Call_Name_kw (ld_glob I hg hm ?_ hdb)
  have pk : PK X [⟨some nm, e, kpos⟩] (tCons (T X.K W ea) tNil) := pk_cons ha pk_nil
  have h2 : tCons (T X.K W ea) tNil σ H fun vs H1 => spOf X.K [nm].length fn vs H1 Q E0 :=
    T.weak (acons_ok σ H _ (call0_ok (aCons_len aNil_len) σ H Q h)) fun v H1 q => tanil_ok σ H1 _ q
  refine PySem.W.callWith_KW0 (h₀ := X.base) I.ok.mod.kin hk hall (thn (pk.run pos pins s σ H _ I h2) fun us s1 w => ?_) hpl
  obtain ⟨vs, H1, I1, r, q⟩ := w
  refine ⟨I1.kIn, ?_⟩
  rw [hks]
  have hl := sp_len q
  match vs, us, r, hl, q with
  | [v], [u], .cons r1 .nil, _, q => exact run_g (us := []) (ws := [u]) (vs := [v]) F hr hgd (hb s1 u) I1 (.cons r1 .nil) q
end
end Sh

/-! Sh6: lists of signs. -/
namespace Sh
open PySem PySem.Spec PyProof.Rows L2

abbrev tx (s : List Nat) : Str := ⟨s.toArray⟩
theorem tx_len (s : List Nat) : (tx s).length = s.length := by simp [tx, Str.length]
theorem tx_list (s : List Nat) : (tx s).cps.toList = s := rfl
theorem tx_of (x : Str) : tx x.cps.toList = x := rfl
theorem tx_append (s t : List Nat) : tx s ++ tx t = tx (s ++ t) := by
  show Str.append (tx s) (tx t) = tx (s ++ t)
  simp [Str.append, tx]
theorem tx_inj {s t : List Nat} (h : tx s = tx t) : s = t := congrArg (fun x : Str => x.cps.toList) h
theorem nbeq (a b : Nat) : Nat.beq a b = (a == b) := by
  rw [Bool.eq_iff_iff, Nat.beq_eq]
  simp
/-- does p stand at the head of a text -/
def isPre : List Nat → List Nat → Bool
  | [], _ => true
  | _ :: _, [] => false
  | a :: p, b :: s => Nat.beq a b && isPre p s
theorem isPre_take : ∀ (p s : List Nat), isPre p s = (s.take p.length == p)
  | [], s => by cases s <;> rfl
  | a :: p, [] => rfl
  | a :: p, b :: s => by
    show (Nat.beq a b && isPre p s) = ((b :: s.take p.length) == (a :: p))
    rw [isPre_take p s, List.cons_beq_cons]
    congr 1
    rw [nbeq, Bool.eq_iff_iff]
    simp only [beq_iff_eq]
    exact ⟨Eq.symm, Eq.symm⟩
def findL (p : List Nat) : List Nat → Option Nat
  | [] => if p.isEmpty then some 0 else none
  | c :: r => if isPre p (c :: r) = true then some 0 else (findL p r).map (· + 1)
def lastL (c : Nat) : List Nat → Option Nat
  | [] => none
  | d :: r => match lastL c r with
    | some k => some (k + 1)
    | none => if Nat.beq d c = true then some 0 else none
def cntL (c : Nat) : List Nat → Nat
  | [] => 0
  | d :: r => (if Nat.beq d c = true then 1 else 0) + cntL c r
theorem at_pre {s p : List Nat} (i : Nat) (hi : i ≤ s.length) : StrLaws.At (tx s) (tx p) (tx s).length i ↔ isPre p (s.drop i) = true := by
  rw [isPre_take]
  unfold StrLaws.At
  rw [StrLaws.subAt_eq, tx_len, tx_len]
  show _ ∧ ((s.drop i).take p.length == p) = true ↔ _
  constructor
  · exact fun h => h.2
  · intro h
    refine ⟨?_, h⟩
    have e : ((s.drop i).take p.length) = p := by simpa using h
    have l := congrArg List.length e
    rw [List.length_take, List.length_drop] at l
    omega
theorem findL_spec (p : List Nat) (hp : p ≠ []) : ∀ s : List Nat, (findL p s = none ∧ ∀ i, i ≤ s.length → isPre p (s.drop i) = false) ∨ ∃ k, findL p s = some k ∧ k < s.length ∧ isPre p (s.drop k) = true ∧ ∀ j, j < k → isPre p (s.drop j) = false
  | [] => by
    left
    cases p with
    | nil => exact absurd rfl hp
    | cons a p =>
      refine ⟨rfl, fun i _ => ?_⟩
      simp [isPre]
  | c :: r => by
    unfold findL
    by_cases h : isPre p (c :: r) = true
    · right
      rw [if_pos h]
      exact ⟨0, rfl, Nat.zero_lt_succ _, h, fun j hj => absurd hj (Nat.not_lt_zero j)⟩
    · rw [if_neg h]
      rcases findL_spec p hp r with ⟨e, n⟩ | ⟨k, e, h0, h1, h2⟩
      · left
        rw [e]
        refine ⟨rfl, fun i hi => ?_⟩
        cases i with
        | zero => simpa using h
        | succ i => exact n i (by simpa using hi)
      · right
        rw [e]
        refine ⟨k + 1, rfl, Nat.succ_lt_succ h0, h1, fun j hj => ?_⟩
        cases j with
        | zero => simpa using h
        | succ j => exact h2 j (by omega)
theorem find3_list {s p : List Nat} {i : Nat} (hp : p ≠ []) (hi : i ≤ s.length) : Txt.find3 (tx s) (tx p) (i : Int) = (match findL p (s.drop i) with | some k => ((i + k : Nat) : Int) | none => -1) := by
  have fi : fromIndex (tx s).length (i : Int) = i := by
    unfold fromIndex
    rw [if_neg (by omega)]
    omega
  unfold Txt.find3
  rw [fi]
  have sp := findL_spec p hp (s.drop i)
  rcases StrLaws.occ_head_from (tx s) (tx p) i 1 (Nat.le_refl 1) with ⟨e, n⟩ | ⟨k, r, e, h1, h2, h3⟩
  · rw [e]
    rcases sp with ⟨e2, _⟩ | ⟨k, e2, h0, h4, _⟩
    · rw [e2]
    · exfalso
      rw [List.length_drop] at h0
      rw [List.drop_drop] at h4
      exact n (i + k) (by omega) ((at_pre (i + k) (by omega)).mpr h4)
  · rw [e]
    have hk : k ≤ s.length := by
      have := h2.1
      rw [tx_len, tx_len] at this
      omega
    rcases sp with ⟨e2, h4⟩ | ⟨j, e2, h0, h4, h5⟩
    · exfalso
      have h6 := h4 (k - i) (by rw [List.length_drop]; omega)
      rw [List.drop_drop, show i + (k - i) = k by omega] at h6
      rw [(at_pre k hk).mp h2] at h6
      cases h6
    · rw [e2]
      show (k : Int) = ((i + j : Nat) : Int)
      rw [List.drop_drop] at h4
      rw [List.length_drop] at h0
      have a1 : ¬ k < i + j := fun hlt => by
        have h6 := h5 (k - i) (by omega)
        rw [List.drop_drop, show i + (k - i) = k by omega, (at_pre k hk).mp h2] at h6
        cases h6
      have a2 : ¬ i + j < k := fun hlt => h3 (i + j) (by omega) hlt ((at_pre (i + j) (by omega)).mpr h4)
      have : k = i + j := by omega
      rw [this]
theorem starts3_list {s p : List Nat} {i : Nat} (hi : i ≤ s.length) : Txt.startswith3 (tx s) (tx p) (i : Int) = isPre p (s.drop i) := by
  have fi : fromIndex (tx s).length (i : Int) = i := by
    unfold fromIndex
    rw [if_neg (by omega)]
    omega
  unfold Txt.startswith3
  rw [fi, Bool.eq_iff_iff, ← at_pre i hi]
  unfold StrLaws.At
  rw [Bool.and_eq_true, decide_eq_true_eq]
/-! one sign counted, the last one found -/
theorem sub_one {s : List Nat} {c i : Nat} (hi : i < s.length) : Builtin.Str.subAt (tx s) (tx [c]) i = Nat.beq (s[i]'hi) c := by
  rw [StrLaws.subAt_eq]
  show ((s.drop i).take 1 == [c]) = _
  rw [List.drop_eq_getElem_cons hi]
  show ([s[i]'hi] == [c]) = _
  rw [List.cons_beq_cons]
  show ((s[i]'hi == c) && ([] == ([] : List Nat))) = _
  have : (([] : List Nat) == []) = true := rfl
  rw [this, Bool.and_true, nbeq]
theorem cntL_drop {s : List Nat} {c i : Nat} (hi : i < s.length) : cntL c (s.drop i) = (if Nat.beq (s[i]'hi) c = true then 1 else 0) + cntL c (s.drop (i + 1)) := by
  rw [List.drop_eq_getElem_cons hi]
  rfl
theorem occ_count {s : List Nat} {c hi lim : Nat} (hh : hi ≤ s.length) (hlim : s.length < lim) : ∀ (n k : Nat) (f : Array Nat) (fr : Nat), k + n = hi + 1 → fr ≤ k → f.size ≤ k → k ≤ hi →
    ((forIn (List.range' k n) (f, fr) (StrLaws.occBody (tx s) (tx [c]) hi lim)).run.fst.toList).length = f.size + cntL c ((s.take hi).drop k) := by
  intro n
  induction n with
  | zero => intro k f fr h1 h2 h3 h4; omega
  | succ n ih =>
    intro k f fr h1 h2 h3 h4
    rw [List.range'_succ, List.forIn_cons]
    by_cases hk : k = hi
    · -- the last place: nothing can stand there
      subst hk
      have hn : n = 0 := by omega
      subst hn
      have nb : ¬ (((f.size < lim ∧ fr ≤ k) ∧ k + (tx [c]).length ≤ k) ∧ Builtin.Str.subAt (tx s) (tx [c]) k = true) := fun z => by
        have := z.1.2
        rw [tx_len] at this
        have h5 : k + 1 ≤ k := this
        omega
      unfold StrLaws.occBody
      rw [if_neg nb]
      have e : (s.take k).drop k = [] := List.drop_eq_nil_of_le (by rw [List.length_take]; exact Nat.min_le_left _ _)
      rw [e]
      simp [cntL]
    · have hlt : k < hi := by omega
      have hks : k < s.length := by omega
      have hkt : k < (s.take hi).length := by rw [List.length_take]; omega
      have eg : (s.take hi)[k]'hkt = s[k]'hks := List.getElem_take
      rw [cntL_drop hkt, eg]
      have len1 : (tx [c]).length = 1 := rfl
      by_cases hb : Nat.beq (s[k]'hks) c = true
      · have yes : (((f.size < lim ∧ fr ≤ k) ∧ k + (tx [c]).length ≤ hi) ∧ Builtin.Str.subAt (tx s) (tx [c]) k = true) := by
          refine ⟨⟨⟨by omega, h2⟩, by rw [len1]; omega⟩, ?_⟩
          rw [sub_one hks]; exact hb
        have e1 : StrLaws.occBody (tx s) (tx [c]) hi lim k (f, fr) = pure (ForInStep.yield (f.push k, k + (tx [c]).length)) := by
          unfold StrLaws.occBody
          rw [if_pos yes]
        rw [e1, if_pos hb]
        have := ih (k + 1) (f.push k) (k + (tx [c]).length) (by omega) (by rw [len1]; omega) (by rw [Array.size_push]; omega) (by omega)
        rw [Array.size_push] at this
        show ((forIn (List.range' (k + 1) n) (f.push k, k + (tx [c]).length) (StrLaws.occBody (tx s) (tx [c]) hi lim)).run.fst.toList).length = _
        rw [this]
        omega
      · have no : ¬ (((f.size < lim ∧ fr ≤ k) ∧ k + (tx [c]).length ≤ hi) ∧ Builtin.Str.subAt (tx s) (tx [c]) k = true) := fun z => by
          rw [sub_one hks] at z
          exact hb z.2
        have e1 : StrLaws.occBody (tx s) (tx [c]) hi lim k (f, fr) = pure (ForInStep.yield (f, fr)) := by
          unfold StrLaws.occBody
          rw [if_neg no]
        rw [e1, if_neg hb]
        have := ih (k + 1) f fr (by omega) (by omega) (by omega) (by omega)
        show ((forIn (List.range' (k + 1) n) (f, fr) (StrLaws.occBody (tx s) (tx [c]) hi lim)).run.fst.toList).length = _
        rw [this]
        omega
theorem idx_of {n i : Nat} (h : i ≤ n) : fromIndex n (i : Int) = i ∧ toIndexW n (i : Int) = i := by
  unfold fromIndex toIndexW
  rw [if_neg (by omega)]
  omega
theorem count4_list {s : List Nat} {c i j : Nat} (hij : i ≤ j) (hj : j ≤ s.length) : Txt.countIn (tx s) (tx [c]) (i : Int) (j : Int) = ((cntL c ((s.take j).drop i) : Nat) : Int) := by
  unfold Txt.countIn
  rw [tx_len, (idx_of (show i ≤ s.length by omega)).1, (idx_of hj).2, StrLaws.occ_eq]
  have := occ_count (s := s) (c := c) (hi := j) (lim := s.length + 1) hj (by omega) (j + 1 - i) i #[] i (by omega) (Nat.le_refl _) (Nat.zero_le _) hij
  rw [this]
  simp
theorem lastL_spec (c : Nat) : ∀ s : List Nat, (lastL c s = none ∧ ∀ (i : Nat) (hi : i < s.length), s[i] ≠ c) ∨ ∃ (k : Nat) (hk : k < s.length), lastL c s = some k ∧ s[k] = c ∧ ∀ (j : Nat) (hj : j < s.length), k < j → s[j] ≠ c
  | [] => .inl ⟨rfl, fun i hi => absurd hi (Nat.not_lt_zero i)⟩
  | d :: r => by
    unfold lastL
    rcases lastL_spec c r with ⟨e, n⟩ | ⟨k, hk, e, h1, h2⟩
    · rw [e]
      by_cases hd : Nat.beq d c = true
      · right
        refine ⟨0, Nat.zero_lt_succ _, by simp [hd], Nat.eq_of_beq_eq_true hd, fun j hj h0 => ?_⟩
        cases j with
        | zero => omega
        | succ j => exact n j (by simpa using hj)
      · left
        refine ⟨by simp [hd], fun i hi => ?_⟩
        cases i with
        | zero =>
          intro z
          have z : d = c := z
          subst z
          exact hd (Nat.beq_refl d)
        | succ i => exact n i (by simpa using hi)
    · right
      rw [e]
      refine ⟨k + 1, Nat.succ_lt_succ hk, rfl, h1, fun j hj h0 => ?_⟩
      cases j with
      | zero => omega
      | succ j => exact h2 j (by simpa using hj) (by omega)
/-- what is found last lies in the range -/
theorem lastIn {x y : Str} {hi : Nat} (lo : Nat) : ∀ (n : Nat) (st : Option Nat) (a : Nat), (∀ b, st = some b → lo ≤ b) → (forIn (List.range' lo n) st (StrLaws.lastBody x y hi)).run = some a → lo ≤ a := by
  have gen : ∀ (l : List Nat) (st : Option Nat) (a : Nat), (∀ m ∈ l, lo ≤ m) → (∀ b, st = some b → lo ≤ b) → (forIn l st (StrLaws.lastBody x y hi)).run = some a → lo ≤ a := by
    intro l
    induction l with
    | nil => exact fun st a _ h e => h a e
    | cons m l ih =>
      intro st a hl h e
      rw [List.forIn_cons] at e
      unfold StrLaws.lastBody at e
      split at e
      · exact ih (some m) a (fun z hz => hl z (List.mem_cons_of_mem _ hz)) (fun b hb => by cases hb; exact hl m List.mem_cons_self) e
      · exact ih st a (fun z hz => hl z (List.mem_cons_of_mem _ hz)) h e
  exact fun n st a h e => gen _ st a (fun m hm => (List.mem_range'_1.mp hm).1) h e
theorem rfind4_list {s : List Nat} {c i j : Nat} (hij : i ≤ j) (hj : j ≤ s.length) : Txt.rfindIn (tx s) (tx [c]) (i : Int) (j : Int) = (match lastL c ((s.take j).drop i) with | some k => ((i + k : Nat) : Int) | none => -1) := by
  have fi := (idx_of (show i ≤ s.length by omega)).1
  have tj := (idx_of hj).2
  unfold Txt.rfindIn
  rw [tx_len, fi, tj, StrLaws.last_eq]
  have key := StrLaws.last_run (tx s) (tx [c]) j (List.range' i (j + 1 - i)) [] none (fun _ z => nomatch z) (fun _ z => nomatch z) (by first | exact List.pairwise_lt_range' | simpa using List.pairwise_lt_range' (s := i) (n := j + 1 - i))
  rw [List.nil_append] at key
  have len1 : (tx [c]).length = 1 := rfl
  have sl : ((s.take j).drop i).length = j - i := by rw [List.length_drop, List.length_take]; omega
  have get : ∀ (m : Nat) (hm : m < ((s.take j).drop i).length) (hs : i + m < s.length), ((s.take j).drop i)[m]'hm = s[i + m]'hs := fun m hm hs => by
    rw [List.getElem_drop, List.getElem_take]
  have atc : ∀ m, i ≤ m → m < j → ∀ hs : m < s.length, StrLaws.At (tx s) (tx [c]) j m ↔ s[m]'hs = c := fun m h1 h2 hs => by
    unfold StrLaws.At
    rw [sub_one hs, len1, Nat.beq_eq]
    exact ⟨fun z => z.2, fun z => ⟨by omega, z⟩⟩
  have rng : ∀ m, StrLaws.At (tx s) (tx [c]) j m → m < j := fun m z => by
    have := z.1
    rw [len1] at this
    omega
  rcases lastL_spec c ((s.take j).drop i) with ⟨e, n⟩ | ⟨k, hk, e, h1, h2⟩
  · rw [e]
    cases hr : (forIn (List.range' i (j + 1 - i)) none (StrLaws.lastBody (tx s) (tx [c]) j)).run with
    | none => rfl
    | some a =>
      rw [hr] at key
      exfalso
      have ha := key.1
      have haj := rng a ha
      have hm : a ∈ List.range' i (j + 1 - i) ∨ ¬ i ≤ a := by
        rw [List.mem_range'_1]
        omega
      have hia : i ≤ a := by
        rcases hm with hm | hm
        · exact (List.mem_range'_1.mp hm).1
        · -- a comes out of the range
          exact Classical.byContradiction fun _ => absurd (lastIn i (j + 1 - i) none a (fun _ z => nomatch z) hr) hm
      have q := (atc a hia haj (by omega)).mp ha
      have := n (a - i) (by rw [sl]; omega)
      rw [get (a - i) (by rw [sl]; omega) (by omega)] at this
      exact this (by simpa [show i + (a - i) = a by omega] using q)
  · rw [e]
    rw [sl] at hk
    have hks : i + k < s.length := by omega
    have q : s[i + k]'hks = c := by rw [← get k (by rw [sl]; exact hk) hks]; exact h1
    have hA := (atc (i + k) (by omega) (by omega) hks).mpr q
    cases hr : (forIn (List.range' i (j + 1 - i)) none (StrLaws.lastBody (tx s) (tx [c]) j)).run with
    | none =>
      rw [hr] at key
      exact absurd hA (key (i + k) (by rw [List.mem_range'_1]; omega))
    | some a =>
      rw [hr] at key
      show ((a : Nat) : Int) = ((i + k : Nat) : Int)
      have haj := rng a key.1
      have hge : ¬ a < i + k := fun hlt => key.2 (i + k) (by rw [List.mem_range'_1]; omega) hlt hA
      have hle : ¬ i + k < a := fun hlt => by
        have q2 := (atc a (by omega) haj (by omega)).mp key.1
        have := h2 (a - i) (by rw [sl]; omega) (by omega)
        rw [get (a - i) (by rw [sl]; omega) (by omega)] at this
        exact this (by simpa [show i + (a - i) = a by omega] using q2)
      rw [show a = i + k by omega]
end Sh

/-! Sh7: the operations by values. -/
namespace Sh
open PySem PySem.Spec PyProof.Rows L2

/-! ### + -/
def addD : F2
  | .int i, .int j, S => some (.int (i + j), S)
  | .str s, .str t, S => if s.length + t.length ≤ LINE then some (.str (s ++ t), S) else none
  | .tup xs, .tup ys, S => if xs.isEmpty = false ∧ xs.length + ys.length ≤ LINE then some (.tup (xs ++ ys), S) else none
  | .obj i, .obj j, S => match cellAt S i, cellAt S j with
    | some xs, some ys => if xs.length + ys.length ≤ LINE then some (.obj S.length, S ++ [.lst (xs ++ ys)]) else none
    | _, _ => none
  | _, _, _ => none
def rAddA (K : PySem.W.Frag) : R2 := fun x y H Q => rI0 (fun i j => .int (i + j)) x y H Q ∨ (∃ i j, x = .str i ∧ y = .str j ∧ i.length + j.length ≤ sizeLine ∧ Q (.str (i ++ j)) H) ∨ rCat x y H Q ∨ rCatT K x y H Q
theorem op_addA {X : Cx} : OpR X (binaryOp .Add) (rAddA X.K) := op_add.or (op_add_str.or (op_cat.or op_catT))
theorem cellAt_lst {K : PySem.W.Frag} {M : List Addr} {H : Hp} {S : Store} {o : Nat} {a : Addr} {xs : List D} (st : Sto K H M S) (e : M[o]? = some a) (h : cellAt S o = some xs) : S[o]? = some (.lst xs) ∧ ∃ vs, H a = some (.lst vs) ∧ RelDs K H M xs vs := by
  obtain ⟨c, e1, hc⟩ := st.cell e
  unfold cellAt at h
  rw [e1] at h
  cases c with
  | lst ys =>
    cases h
    exact ⟨e1, hc⟩
theorem o2_add {K : PySem.W.Frag} : Op2 K (rAddA K) addD := by
  intro M H S d1 d2 x y d S' Q st r1 r2 h k
  match d1, d2, h with
  | .int i, .int j, h =>
    cases r1; cases r2; cases h
    exact .inl ⟨i, j, rfl, rfl, k M H _ .refl st rfl⟩
  | .str s, .str t, h =>
    cases r1; cases r2
    have h : (if s.length + t.length ≤ LINE then some (D.str (s ++ t), S) else none) = some (d, S') := h
    split at h
    · rename_i hl
      cases h
      refine .inr (.inl ⟨tx s, tx t, rfl, rfl, by rw [tx_len, tx_len, line_eq]; exact hl, ?_⟩)
      rw [tx_append]
      exact k M H _ .refl st rfl
    · cases h
  | .tup xs, .tup ys, h =>
    obtain ⟨a, vs, rfl, h1, h2⟩ := r1
    obtain ⟨b, ws, rfl, h3, h4⟩ := r2
    have h : (if xs.isEmpty = false ∧ xs.length + ys.length ≤ LINE then some (D.tup (xs ++ ys), S) else none) = some (d, S') := h
    split at h
    · rename_i hl
      cases h
      refine .inr (.inr (.inr ⟨a, b, vs, ws, rfl, rfl, h1, h3, ?_, by rw [h2.length, h4.length, line_eq]; exact hl.2, fun e => ?_, fun e p hp => ?_⟩))
      · intro e
        subst e
        have := h2.length
        cases xs with
        | nil => exact absurd hl.1 (by simp)
        | cons _ _ => simp at this
      · subst e
        have := h4.length
        cases ys with
        | nil =>
          rw [List.append_nil] at k
          exact k M H _ .refl st ⟨a, vs, rfl, h1, h2⟩
        | cons _ _ => simp at this
      · obtain ⟨st2, x2⟩ := st.beside (o := .tup (vs ++ ws)) hp
        exact k M _ _ x2 st2 ⟨p, _, rfl, .of upd_same, RelDs.append (RelDs.mono x2 _ _ h2) (RelDs.mono x2 _ _ h4)⟩
    · cases h
  | .obj i, .obj j, h =>
    obtain ⟨a, rfl, h1⟩ := r1
    obtain ⟨b, rfl, h2⟩ := r2
    have h : (match cellAt S i, cellAt S j with
      | some xs, some ys => if xs.length + ys.length ≤ LINE then some (D.obj S.length, S ++ [.lst (xs ++ ys)]) else none
      | _, _ => none) = some (d, S') := h
    generalize hc1 : cellAt S i = o1 at h
    generalize hc2 : cellAt S j = o2 at h
    match o1, o2, h with
    | some xs, some ys, h =>
      have h : (if xs.length + ys.length ≤ LINE then some (D.obj S.length, S ++ [.lst (xs ++ ys)]) else none) = some (d, S') := h
      obtain ⟨_, vs, e1, q1⟩ := cellAt_lst st h1 hc1
      obtain ⟨_, ws, e2, q2⟩ := cellAt_lst st h2 hc2
      split at h
      · rename_i hl
        cases h
        refine .inr (.inr (.inl ⟨a, b, vs, ws, rfl, rfl, e1, e2, by rw [q1.length, q2.length, line_eq]; exact hl, fun p hp => ?_⟩))
        obtain ⟨st2, x2, e3⟩ := st.push hp (RelDs.append q1 q2)
        exact k _ _ _ x2 st2 ⟨p, rfl, e3⟩
      · cases h

/-! ### other operators -/
def subD : F2
  | .int i, .int j, S => some (.int (i - j), S)
  | _, _, _ => none
theorem o2_sub {K : PySem.W.Frag} : Op2 K (rI0 fun i j => .int (i - j)) subD := by
  intro M H S d1 d2 x y d S' Q st r1 r2 h k
  match d1, d2, h with
  | .int i, .int j, h =>
    cases r1; cases r2; cases h
    exact ⟨i, j, rfl, rfl, k M H _ .refl st rfl⟩
def repN (s : List Nat) : Nat → List Nat
  | 0 => []
  | n + 1 => s ++ repN s n
def mulD : F2
  | .int i, .int j, S => if i.natAbs.log2 + j.natAbs.log2 < 1000000 then some (.int (i * j), S) else none
  | .str s, .int n, S => if n ≤ 1000 ∧ -1000 ≤ n ∧ s.length ≤ 1000 then some (.str (repN s n.toNat), S) else none
  | _, _, _ => none
theorem repN_fold (s : List Nat) : ∀ (n : Nat) (acc : Array Nat), ((List.replicate n (tx s).cps).foldl (· ++ ·) acc) = acc ++ (repN s n).toArray
  | 0, acc => by simp [repN]
  | n + 1, acc => by
    rw [List.replicate_succ, List.foldl_cons, repN_fold s n]
    simp [repN]
theorem repN_len (s : List Nat) : ∀ n, (repN s n).length = n * s.length
  | 0 => by simp [repN]
  | n + 1 => by
    rw [repN, List.length_append, repN_len s n, Nat.add_mul, Nat.one_mul, Nat.add_comm]
/-- a text times a number -/
def rMulS : R2 := fun x y H Q => ∃ (s : List Nat) (n : Int), x = .str (tx s) ∧ y = .int n ∧ n ≤ 1000 ∧ -1000 ≤ n ∧ s.length ≤ 1000 ∧ Q (.str (tx (repN s n.toNat))) H
theorem op_mulS {X : Cx} : OpR X (binaryOp .Mult) rMulS := by
  intro pins s σ H x y v u Q I rx ry h
  obtain ⟨l, n, rfl, rfl, h1, h2, h3, q⟩ := h
  obtain ⟨t, rfl⟩ := rx
  obtain ⟨t', rfl⟩ := ry
  have fin : ∀ (y : Str) (t'' : Tok) (k : Nat), y = tx (repN l n.toNat) → EP X pins σ Q (.str y t'') { s with toks := k } := fun y t'' k e => by
    subst e
    exact ⟨.str _, H, I.tok k, ⟨t'', rfl⟩, q⟩
  have e2 : (2 : Nat) ^ 24 = 16777216 := by decide
  have hm : l.length * n.toNat ≤ 1000 * 1000 := Nat.mul_le_mul h3 (by omega)
  have rr : (decide (n < -(2 ^ 63 : Int)) || decide (n ≥ 2 ^ 63)) = false := by
    rw [Bool.or_eq_false_iff]
    exact ⟨decide_eq_false (by omega), decide_eq_false (by omega)⟩
  have big : ¬ n < 1 → (n == 1 || (tx l).length == 0) = false → ¬ (((tx l).length : Int) > (2 ^ 63 - 1) / n) := fun hn _ hg => by
    rw [tx_len] at hg
    have : (2 ^ 63 - 1) / 1000 ≤ (2 ^ 63 - 1) / n := by
      apply Int.le_ediv_of_mul_le (by omega)
      have : (2 ^ 63 - 1) / 1000 * n ≤ (2 ^ 63 - 1) / 1000 * 1000 := Int.mul_le_mul_of_nonneg_left (by omega) (by decide)
      omega
    omega
  have fits : ¬ n < 1 → (n == 1 || (tx l).length == 0) = false → Builtin.Str.tooLong ((tx l).length * n.toNat) = false := fun _ _ => by
    unfold Builtin.Str.tooLong
    rw [tx_len, sizeLine_eq]
    exact decide_eq_false (by omega)
  refine PySem.P.mul_str rr big fits ?_
  by_cases hn : n < 1
  · rw [if_pos hn]
    refine ⟨?_, fin _ _ _ ?_⟩
    · show (Str.empty).length ≤ sizeLine
      exact Nat.zero_le _
    · have : n.toNat = 0 := by omega
      rw [this]; rfl
  · rw [if_neg hn]
    by_cases h1' : (n == 1 || (tx l).length == 0) = true
    · rw [if_pos h1']
      refine fin _ _ s.toks ?_
      rw [Bool.or_eq_true] at h1'
      rcases h1' with h1' | h1'
      · have : n = 1 := by simpa using h1'
        subst this
        show tx l = tx (l ++ [])
        rw [List.append_nil]
      · rw [tx_len] at h1'
        have : l = [] := List.length_eq_zero_iff.mp (by simpa using h1')
        subst this
        have z : ∀ k, repN [] k = [] := fun k => by
          induction k with
          | zero => rfl
          | succ k ih => exact ih
        rw [z]
    · rw [if_neg h1']
      have e : (⟨(List.replicate n.toNat (tx l).cps).foldl (· ++ ·) #[]⟩ : Str) = tx (repN l n.toNat) := by
        rw [repN_fold]
        simp [tx]
      rw [e]
      refine ⟨?_, fin _ _ _ rfl⟩
      rw [tx_len, repN_len, line_eq, Nat.mul_comm]
      show l.length * n.toNat ≤ 16777216
      omega
theorem o2_mul {K : PySem.W.Frag} : Op2 K (fun x y H Q => rI CMulW (fun i j => .int (i * j)) x y H Q ∨ rMulS x y H Q) mulD := by
  intro M H S d1 d2 x y d S' Q st r1 r2 h k
  match d1, d2, h with
  | .int i, .int j, h =>
    cases r1; cases r2
    have h : (if i.natAbs.log2 + j.natAbs.log2 < 1000000 then some (D.int (i * j), S) else none) = some (d, S') := h
    split at h
    · rename_i hc
      cases h
      exact .inl ⟨i, j, rfl, rfl, hc, k M H _ .refl st rfl⟩
    · cases h
  | .str s, .int n, h =>
    cases r1; cases r2
    have h : (if n ≤ 1000 ∧ -1000 ≤ n ∧ s.length ≤ 1000 then some (D.str (repN s n.toNat), S) else none) = some (d, S') := h
    split at h
    · rename_i hc
      cases h
      exact .inr ⟨s, n, rfl, rfl, hc.1, hc.2.1, hc.2.2, k M H _ .refl st rfl⟩
    · cases h
theorem op_mulA {X : Cx} : OpR X (binaryOp .Mult) (fun x y H Q => rI CMulW (fun i j => .int (i * j)) x y H Q ∨ rMulS x y H Q) := op_mulW.or op_mulS
def fdivD : F2
  | .int i, .int j, S => if 0 < j ∧ j.natAbs.log2 < 9000 then some (.int (i / j), S) else none
  | _, _, _ => none
theorem o2_fdiv {K : PySem.W.Frag} : Op2 K (rI CDivW fun i j => .int (i / j)) fdivD := by
  intro M H S d1 d2 x y d S' Q st r1 r2 h k
  match d1, d2, h with
  | .int i, .int j, h =>
    cases r1; cases r2
    have h : (if 0 < j ∧ j.natAbs.log2 < 9000 then some (D.int (i / j), S) else none) = some (d, S') := h
    split at h
    · rename_i hc
      cases h
      exact ⟨i, j, rfl, rfl, hc, k M H _ .refl st rfl⟩
    · cases h
def modD : F2
  | .int i, .int j, S => if 0 < j then some (.int (i % j), S) else none
  | _, _, _ => none
theorem o2_mod {K : PySem.W.Frag} : Op2 K (rI (fun _ j => 0 < j) fun i j => .int (i % j)) modD := by
  intro M H S d1 d2 x y d S' Q st r1 r2 h k
  match d1, d2, h with
  | .int i, .int j, h =>
    cases r1; cases r2
    have h : (if 0 < j then some (D.int (i % j), S) else none) = some (d, S') := h
    split at h
    · rename_i hc
      cases h
      exact ⟨i, j, rfl, rfl, hc, k M H _ .refl st rfl⟩
    · cases h
def powD : F2
  | .int i, .int j, S => if 0 ≤ j ∧ (Builtin.Int.intBits i : Int) * j ≤ 2 ^ 27 then some (.int (i ^ j.toNat), S) else none
  | _, _, _ => none
theorem op_powW {X : Cx} : OpR X (binaryOp .Pow) (rI (fun i j => 0 ≤ j ∧ (Builtin.Int.intBits i : Int) * j ≤ 2 ^ 27) fun i j => .int (i ^ j.toNat)) := opI fun _ _ _ _ _ _ _ hc q => pow_int hc.1 hc.2 q
theorem o2_pow {K : PySem.W.Frag} : Op2 K (rI (fun i j => 0 ≤ j ∧ (Builtin.Int.intBits i : Int) * j ≤ 2 ^ 27) fun i j => .int (i ^ j.toNat)) powD := by
  intro M H S d1 d2 x y d S' Q st r1 r2 h k
  match d1, d2, h with
  | .int i, .int j, h =>
    cases r1; cases r2
    have h : (if 0 ≤ j ∧ (Builtin.Int.intBits i : Int) * j ≤ 2 ^ 27 then some (D.int (i ^ j.toNat), S) else none) = some (d, S') := h
    split at h
    · rename_i hc
      cases h
      exact ⟨i, j, rfl, rfl, hc, k M H _ .refl st rfl⟩
    · cases h
def negD : F1
  | .int i, S => some (.int (-i), S)
  | _, _ => none
theorem o1_neg {K : PySem.W.Frag} : Op1 K (rU fun i => .int (-i)) negD := by
  intro M H S d1 x d S' Q st r1 h k
  match d1, h with
  | .int i, h =>
    cases r1; cases h
    exact ⟨i, rfl, k M H _ .refl st rfl⟩

/-! ### comparisons -/
def leqN : List Nat → List Nat → Bool
  | [], [] => true
  | a :: s, b :: t => Nat.beq a b && leqN s t
  | _, _ => false
theorem leqN_eq : ∀ s t : List Nat, leqN s t = decide (s = t)
  | [], [] => rfl
  | [], _ :: _ => by simp [leqN]
  | _ :: _, [] => by simp [leqN]
  | a :: s, b :: t => by
    rw [leqN, leqN_eq s t, nbeq, Bool.eq_iff_iff]
    simp
def scalD : D → D → Option Bool
  | .non, .non => some true
  | .non, .int _ => some false
  | .int _, .non => some false
  | .non, .bl _ => some false
  | .bl _, .non => some false
  | .non, .str _ => some false
  | .str _, .non => some false
  | .int i, .int j => some (decide (i = j))
  | .bl i, .bl j => some (i == j)
  | .str s, .str t => some (leqN s t)
  | .int _, .str _ => some false
  | .str _, .int _ => some false
  | .bl _, .str _ => some false
  | .str _, .bl _ => some false
  | _, _ => none
theorem scalD_ok {K : PySem.W.Frag} {M : List Addr} {H : Hp} {d1 d2 : D} {x y : V} {b : Bool} (r1 : RelD K H M d1 x) (r2 : RelD K H M d2 y) (h : scalD d1 d2 = some b) : L2.scal x y = true ∧ decide (x = y) = b := by
  match d1, d2, h with
  | .non, .non, h => cases r1; cases r2; cases h; exact ⟨rfl, by simp⟩
  | .non, .int _, h => cases r1; cases r2; cases h; exact ⟨rfl, by simp⟩
  | .int _, .non, h => cases r1; cases r2; cases h; exact ⟨rfl, by simp⟩
  | .non, .bl _, h => cases r1; cases r2; cases h; exact ⟨rfl, by simp⟩
  | .bl _, .non, h => cases r1; cases r2; cases h; exact ⟨rfl, by simp⟩
  | .non, .str _, h => cases r1; cases r2; cases h; exact ⟨rfl, by simp⟩
  | .str _, .non, h => cases r1; cases r2; cases h; exact ⟨rfl, by simp⟩
  | .int i, .int j, h => cases r1; cases r2; cases h; exact ⟨rfl, by simp⟩
  | .bl i, .bl j, h => cases r1; cases r2; cases h; exact ⟨rfl, by simp [Bool.beq_eq_decide_eq]⟩
  | .str s, .str t, h =>
    cases r1; cases r2; cases h
    refine ⟨rfl, ?_⟩
    rw [leqN_eq, Bool.eq_iff_iff]
    simp
  | .int _, .str _, h => cases r1; cases r2; cases h; exact ⟨rfl, by simp⟩
  | .str _, .int _, h => cases r1; cases r2; cases h; exact ⟨rfl, by simp⟩
  | .bl _, .str _, h => cases r1; cases r2; cases h; exact ⟨rfl, by simp⟩
  | .str _, .bl _, h => cases r1; cases r2; cases h; exact ⟨rfl, by simp⟩
def eqD : F2 := fun x y S => (scalD x y).map fun b => (.bl b, S)
def neD : F2 := fun x y S => (scalD x y).map fun b => (.bl (!b), S)
theorem o2_eq {K : PySem.W.Frag} : Op2 K rEq eqD := by
  intro M H S d1 d2 x y d S' Q st r1 r2 h k
  obtain ⟨b, hb, e⟩ := Option.map_eq_some_iff.mp h
  cases e
  obtain ⟨h1, h2⟩ := scalD_ok r1 r2 hb
  exact ⟨h1, by rw [h2]; exact k M H _ .refl st rfl⟩
theorem o2_ne {K : PySem.W.Frag} : Op2 K rNe neD := by
  intro M H S d1 d2 x y d S' Q st r1 r2 h k
  obtain ⟨b, hb, e⟩ := Option.map_eq_some_iff.mp h
  cases e
  obtain ⟨h1, h2⟩ := scalD_ok r1 r2 hb
  exact ⟨h1, by rw [h2]; exact k M H _ .refl st rfl⟩
/-- two ints -/
def cmpD (p : Int → Int → Bool) : F2
  | .int i, .int j, S => some (.bl (p i j), S)
  | _, _, _ => none
theorem o2_cmp {K : PySem.W.Frag} (p : Int → Int → Bool) : Op2 K (rI0 fun i j => .bl (p i j)) (cmpD p) := by
  intro M H S d1 d2 x y d S' Q st r1 r2 h k
  match d1, d2, h with
  | .int i, .int j, h =>
    cases r1; cases r2; cases h
    exact ⟨i, j, rfl, rfl, k M H _ .refl st rfl⟩
abbrev ltD : F2 := cmpD fun i j => decide (i < j)
abbrev leD : F2 := cmpD fun i j => decide (i ≤ j)
abbrev gtD : F2 := cmpD fun i j => decide (j < i)
abbrev geD : F2 := cmpD fun i j => decide (j ≤ i)
/-! in -/
def memN (c : Nat) : List Nat → Bool
  | [] => false
  | d :: r => Nat.beq d c || memN c r
theorem memN_eq (c : Nat) : ∀ s : List Nat, memN c s = decide (c ∈ s)
  | [] => by simp [memN]
  | d :: r => by
    have e : (c ∈ d :: r) ↔ (d = c ∨ c ∈ r) := by
      rw [List.mem_cons]
      exact ⟨fun h => h.imp Eq.symm id, fun h => h.imp Eq.symm id⟩
    have p : memN c (d :: r) = (Nat.beq d c || memN c r) := rfl
    rw [p, memN_eq c r, nbeq, Bool.eq_iff_iff, Bool.or_eq_true, decide_eq_true_eq, decide_eq_true_eq, beq_iff_eq, e]
/-- flat data, as == has them (a number is no truth here) -/
def eqFl : D → D → Option Bool := scalD
def inFl (x : D) : List D → Option Bool
  | [] => some false
  | y :: ys => match scalD y x, inFl x ys with
    | some b, some c => some (b || c)
    | _, _ => none
theorem flat_of {K : PySem.W.Frag} {M : List Addr} {H : Hp} {d1 d2 : D} {x y : V} {b : Bool} (r1 : RelD K H M d1 x) (r2 : RelD K H M d2 y) (h : scalD d1 d2 = some b) : flatV x = true ∧ flatV y = true ∧ eqV x y = b := by
  match d1, d2, h with
  | .non, .non, h => cases r1; cases r2; cases h; exact ⟨rfl, rfl, rfl⟩
  | .non, .int _, h => cases r1; cases r2; cases h; exact ⟨rfl, rfl, rfl⟩
  | .int _, .non, h => cases r1; cases r2; cases h; exact ⟨rfl, rfl, rfl⟩
  | .non, .bl _, h => cases r1; cases r2; cases h; exact ⟨rfl, rfl, rfl⟩
  | .bl _, .non, h => cases r1; cases r2; cases h; exact ⟨rfl, rfl, rfl⟩
  | .non, .str _, h => cases r1; cases r2; cases h; exact ⟨rfl, rfl, rfl⟩
  | .str _, .non, h => cases r1; cases r2; cases h; exact ⟨rfl, rfl, rfl⟩
  | .int i, .int j, h =>
    cases r1; cases r2; cases h
    refine ⟨rfl, rfl, ?_⟩
    show (i == j) = decide (i = j)
    rw [Bool.beq_eq_decide_eq]
  | .bl i, .bl j, h => cases r1; cases r2; cases h; exact ⟨rfl, rfl, rfl⟩
  | .str s, .str t, h =>
    cases r1; cases r2; cases h
    refine ⟨rfl, rfl, ?_⟩
    show (tx s == tx t) = leqN s t
    rw [leqN_eq, Bool.eq_iff_iff]
    simp [tx]
  | .int _, .str _, h => cases r1; cases r2; cases h; exact ⟨rfl, rfl, rfl⟩
  | .str _, .int _, h => cases r1; cases r2; cases h; exact ⟨rfl, rfl, rfl⟩
  | .bl _, .str _, h => cases r1; cases r2; cases h; exact ⟨rfl, rfl, rfl⟩
  | .str _, .bl _, h => cases r1; cases r2; cases h; exact ⟨rfl, rfl, rfl⟩
theorem inFl_ok {K : PySem.W.Frag} {M : List Addr} {H : Hp} {d : D} {x : V} (r : RelD K H M d x) (fx : flatV x = true) : ∀ {ys : List D} {vs : List V} {b : Bool}, RelDs K H M ys vs → inFl d ys = some b → vs.all flatV = true ∧ inV x vs = b
  | [], _, b, rs, h => by
    have e : _ = [] := rs
    subst e
    cases h
    exact ⟨rfl, rfl⟩
  | y :: ys, _, b, ⟨v, vr, e, r1, r2⟩, h => by
    subst e
    have h : (match scalD y d, inFl d ys with | some b, some c => some (b || c) | _, _ => none) = some b := h
    generalize h1 : scalD y d = o1 at h
    generalize h2 : inFl d ys = o2 at h
    match o1, o2, h with
    | some b1, some b2, h =>
      cases h
      obtain ⟨f1, f2, f3⟩ := flat_of r1 r h1
      obtain ⟨g1, g2⟩ := inFl_ok r fx r2 h2
      refine ⟨by rw [List.all_cons, f1, g1]; rfl, ?_⟩
      show (eqV v x || vr.any fun y => eqV y x) = _
      rw [f3]
      show (b1 || inV x vr) = _
      rw [g2]
def rInA (K : PySem.W.Frag) : R2 := fun x y H Q => (∃ (c : Nat) (z : Str), x = .str ⟨#[c]⟩ ∧ y = .str z ∧ Q (.bl (decide (c ∈ z.cps.toList))) H) ∨ rIn K false x y H Q
def rNotInA (K : PySem.W.Frag) : R2 := fun x y H Q => (∃ (c : Nat) (z : Str), x = .str ⟨#[c]⟩ ∧ y = .str z ∧ Q (.bl (!decide (c ∈ z.cps.toList))) H) ∨ rIn K true x y H Q
theorem op_inA {X : Cx} : OpR X (compareOp .In) (rInA X.K) := op_in_sign.or op_in_seq
theorem op_notInA {X : Cx} : OpR X (compareOp .NotIn) (rNotInA X.K) := op_notIn_sign.or op_notIn_seq
def flatD : D → Bool
  | .non | .bl _ | .int _ | .str _ => true
  | _ => false
theorem flatD_ok {K : PySem.W.Frag} {M : List Addr} {H : Hp} {d : D} {x : V} (r : RelD K H M d x) (h : flatD d = true) : flatV x = true := by
  cases d <;> first | (cases r; rfl) | cases h
def inD1 (x y : D) (S : Store) : Option Bool := match y with
  | .str z => match x with
    | .str [c] => some (memN c z)
    | _ => none
  | y => if flatD x = true then (seqD y S).bind (inFl x) else none
def inD : F2 := fun x y S => (inD1 x y S).map fun b => (.bl b, S)
def notInD : F2 := fun x y S => (inD1 x y S).map fun b => (.bl (!b), S)
theorem inD_ok {K : PySem.W.Frag} {M : List Addr} {H : Hp} {S : Store} {d1 d2 : D} {x y : V} {b : Bool} (st : Sto K H M S) (r1 : RelD K H M d1 x) (r2 : RelD K H M d2 y) (h : inD1 d1 d2 S = some b) :
    (∃ (c : Nat) (z : Str), x = .str ⟨#[c]⟩ ∧ y = .str z ∧ decide (c ∈ z.cps.toList) = b) ∨ ∃ p xs, y = .ref p ∧ (SqL K H p xs ∨ SqT K H p xs) ∧ flatV x = true ∧ xs.all flatV = true ∧ inV x xs = b := by
  have other : (if flatD d1 = true then (seqD d2 S).bind (inFl d1) else none) = some b → ∃ p xs, y = .ref p ∧ (SqL K H p xs ∨ SqT K H p xs) ∧ flatV x = true ∧ xs.all flatV = true ∧ inV x xs = b := fun h => by
    split at h
    · rename_i hf
      obtain ⟨ys, e1, e2⟩ := Option.bind_eq_some_iff.mp h
      obtain ⟨p, vs, e3, e4, e5⟩ := seqD_ok st r2 e1
      have fx := flatD_ok r1 hf
      obtain ⟨g1, g2⟩ := inFl_ok r1 fx e5 e2
      exact ⟨p, vs, e3, e4, fx, g1, g2⟩
    · cases h
  cases d2 with
  | str z =>
    cases r2
    match d1, h with
    | .str [c], h =>
      cases r1
      cases h
      exact .inl ⟨c, tx z, rfl, rfl, (memN_eq c z).symm⟩
  | non => exact .inr (other h)
  | bl _ => exact .inr (other h)
  | int _ => exact .inr (other h)
  | tup _ => exact .inr (other h)
  | rol _ => exact .inr (other h)
  | obj _ => exact .inr (other h)
theorem o2_in {K : PySem.W.Frag} : Op2 K (rInA K) inD := by
  intro M H S d1 d2 x y d S' Q st r1 r2 h k
  obtain ⟨b, hb, e⟩ := Option.map_eq_some_iff.mp h
  cases e
  have fin : Q (.bl b) H := k M H _ .refl st rfl
  rcases inD_ok st r1 r2 hb with ⟨c, z, e1, e2, e3⟩ | ⟨p, xs, e1, e2, f1, f2, e3⟩
  · exact .inl ⟨c, z, e1, e2, by rw [e3]; exact fin⟩
  · refine .inr ⟨p, xs, e1, e2, f1, f2, ?_⟩
    rw [if_neg (by decide), e3]
    exact fin
theorem o2_notIn {K : PySem.W.Frag} : Op2 K (rNotInA K) notInD := by
  intro M H S d1 d2 x y d S' Q st r1 r2 h k
  obtain ⟨b, hb, e⟩ := Option.map_eq_some_iff.mp h
  cases e
  have fin : Q (.bl (!b)) H := k M H _ .refl st rfl
  rcases inD_ok st r1 r2 hb with ⟨c, z, e1, e2, e3⟩ | ⟨p, xs, e1, e2, f1, f2, e3⟩
  · exact .inl ⟨c, z, e1, e2, by rw [e3]; exact fin⟩
  · refine .inr ⟨p, xs, e1, e2, f1, f2, ?_⟩
    rw [if_pos rfl, e3]
    exact fin

/-! ### subscripts and slices -/
def atD (xs : List D) (i : Int) : Option D := atI xs i
def ixD : F2 := fun x y S => match y with
  | .int i => match x with
    | .str s => if s.length ≤ LINE then (atI s i).map fun c => (.str [c], S) else none
    | x => ((seqD x S).bind fun xs => atI xs i).map fun d => (d, S)
  | _ => none
theorem atI_rel {K : PySem.W.Frag} {M : List Addr} {H : Hp} {ds : List D} {vs : List V} {i : Int} {d : D} (r : RelDs K H M ds vs) (h : atI ds i = some d) : ∃ v, atI vs i = some v ∧ RelD K H M d v := by
  unfold atI at h ⊢
  rw [r.length]
  obtain ⟨j, e1, e2⟩ := Option.bind_eq_some_iff.mp h
  obtain ⟨v, e3, e4⟩ := r.get e2
  exact ⟨v, by rw [e1]; exact e3, e4⟩
theorem o2_ix {K : PySem.W.Frag} : Op2 K (rIx K) ixD := by
  intro M H S d1 d2 x y d S' Q st r1 r2 h k
  cases d2 with
  | int i =>
    cases r2
    have other : ((seqD d1 S).bind fun xs => atI xs i).map (fun d => (d, S)) = some (d, S') → rIx K x (.int i) H Q := fun h => by
      obtain ⟨d', e1, e2⟩ := Option.map_eq_some_iff.mp h
      cases e2
      obtain ⟨ys, e3, e4⟩ := Option.bind_eq_some_iff.mp e1
      obtain ⟨p, vs, e5, e6, e7⟩ := seqD_ok st r1 e3
      obtain ⟨v, e8, e9⟩ := atI_rel e7 e4
      subst e5
      have fin : Q v H := k M H _ .refl st e9
      rcases e6 with e6 | e6
      · exact .inl ⟨p, vs, i, v, rfl, rfl, e6, e8, fin⟩
      · exact .inr (.inl ⟨p, vs, i, v, rfl, rfl, e6, e8, fin⟩)
    cases d1 with
    | str s =>
      cases r1
      have h : (if s.length ≤ LINE then (atI s i).map fun c => (D.str [c], S) else none) = some (d, S') := h
      split at h
      · rename_i hl
        obtain ⟨c, e1, e2⟩ := Option.map_eq_some_iff.mp h
        cases e2
        exact .inr (.inr ⟨tx s, i, c, rfl, rfl, by rw [tx_len, line_eq]; exact hl, e1, k M H _ .refl st rfl⟩)
      · cases h
    | non => exact other h
    | bl _ => exact other h
    | int _ => exact other h
    | tup _ => exact other h
    | rol _ => exact other h
    | obj _ => exact other h
  | _ => cases h
def cutL {α : Type} (xs : List α) (lo hi : Option Int) : List α := (xs.drop (HT.sIx xs.length 0 lo)).take (HT.sIx xs.length xs.length hi - HT.sIx xs.length 0 lo)
theorem cutL_rel {K : PySem.W.Frag} {M : List Addr} {H : Hp} {ds : List D} {vs : List V} (r : RelDs K H M ds vs) (lo hi : Option Int) : RelDs K H M (cutL ds lo hi) (cutV vs lo hi) := by
  unfold cutL cutV
  rw [r.length]
  exact RelDs.take _ (RelDs.drop _ r)
def slD : F3 := fun x lo hi S => match x with
  | .str s => if s.length ≤ LINE then some (.str (cutL s lo hi), S) else none
  | .rol xs => some (.obj S.length, S ++ [.lst (cutL xs lo hi)])
  | .obj i => (cellAt S i).map fun xs => (.obj S.length, S ++ [.lst (cutL xs lo hi)])
  | _ => none
theorem cutS_eq (s : List Nat) (lo hi : Option Int) : cutS (tx s) lo hi = tx (cutL s lo hi) := by
  unfold cutS cutL
  rw [tx_len]
def rSlA (K : PySem.W.Frag) : V → Option Int → Option Int → Hp → VK → Prop := fun x lo hi H Q => rSlL K x lo hi H Q ∨ rSlS x lo hi H Q
theorem sl_all {X : Cx} : SlR X (rSlA X.K) := sl_list.or sl_str
theorem o3_sl {K : PySem.W.Frag} : Op3 K (rSlA K) slD := by
  intro M H S d1 x lo hi d S' Q st r1 h k
  cases d1 with
  | str s =>
    cases r1
    have h : (if s.length ≤ LINE then some (D.str (cutL s lo hi), S) else none) = some (d, S') := h
    split at h
    · rename_i hl
      cases h
      refine .inr ⟨tx s, rfl, by rw [tx_len, line_eq]; exact hl, ?_⟩
      rw [cutS_eq]
      exact k M H _ .refl st rfl
    · cases h
  | rol xs =>
    obtain ⟨a, vs, rfl, h1, h2⟩ := r1
    cases h
    refine .inl ⟨a, vs, rfl, h1.sqL, fun p hp => ?_⟩
    obtain ⟨st2, x2, e2⟩ := st.push hp (cutL_rel h2 lo hi)
    exact k _ _ _ x2 st2 ⟨p, rfl, e2⟩
  | obj i =>
    obtain ⟨a, rfl, h1⟩ := r1
    obtain ⟨xs, e1, e2⟩ := Option.map_eq_some_iff.mp h
    cases e2
    obtain ⟨_, vs, e3, e4⟩ := cellAt_lst st h1 e1
    refine .inl ⟨a, vs, rfl, .of e3, fun p hp => ?_⟩
    obtain ⟨st2, x2, e5⟩ := st.push hp (cutL_rel e4 lo hi)
    exact k _ _ _ x2 st2 ⟨p, rfl, e5⟩
  | _ => cases h
/-- xs[i] = e -/
def setD : FS := fun o i v S => match o with
  | .obj n => match i with
    | .int k => (cellAt S n).bind fun xs => (ixN xs.length k).map fun j => S.set n (.lst (xs.set j v))
    | _ => none
  | _ => none
theorem os_set {K : PySem.W.Frag} : SetR K rSetL setD := by
  intro M H S d1 d2 d3 x y z S' Q st r1 r2 r3 h k
  cases d1 with
  | obj n =>
    cases d2 with
    | int i =>
      obtain ⟨a, rfl, h1⟩ := r1
      cases r2
      obtain ⟨xs, e1, e2⟩ := Option.bind_eq_some_iff.mp h
      obtain ⟨j, e3, e4⟩ := Option.map_eq_some_iff.mp e2
      cases e4
      obtain ⟨c1, vs, e5, e6⟩ := cellAt_lst st h1 e1
      refine ⟨a, vs, i, j, rfl, rfl, e5, by rw [e6.length]; exact e3, ?_⟩
      obtain ⟨st2, x2⟩ := st.set c1 h1 (RelDs.set j e6 r3)
      exact k M _ x2 st2
    | _ => cases h
  | _ => cases h
end Sh

/-! Sh8: built-in functions, methods of texts and lists. -/
namespace Sh
open PySem PySem.Spec PyProof.Rows L2

/-! ### built-in functions -/
theorem rel1 {K : PySem.W.Frag} {H : Hp} {M : List Addr} {d : D} {xs : List V} (r : RelDs K H M [d] xs) : ∃ x, xs = [x] ∧ RelD K H M d x := by
  obtain ⟨v, r', e1, e2, e3⟩ := r
  have e3 : r' = [] := e3
  subst e3
  exact ⟨v, e1, e2⟩
theorem rel2 {K : PySem.W.Frag} {H : Hp} {M : List Addr} {d e : D} {xs : List V} (r : RelDs K H M [d, e] xs) : ∃ x y, xs = [x, y] ∧ RelD K H M d x ∧ RelD K H M e y := by
  obtain ⟨v, r', e1, e2, r2⟩ := r
  obtain ⟨y, e3, e4⟩ := rel1 r2
  subst e3
  exact ⟨v, y, e1, e2, e4⟩
theorem rel3 {K : PySem.W.Frag} {H : Hp} {M : List Addr} {d e f : D} {xs : List V} (r : RelDs K H M [d, e, f] xs) : ∃ x y z, xs = [x, y, z] ∧ RelD K H M d x ∧ RelD K H M e y ∧ RelD K H M f z := by
  obtain ⟨v, r', e1, e2, r2⟩ := r
  obtain ⟨y, z, e3, e4, e5⟩ := rel2 r2
  subst e3
  exact ⟨v, y, z, e1, e2, e4, e5⟩
/-- one argument -/
def f1 (f : D → Store → Option (D × Store)) : FL := fun ds S => match ds with
  | [d] => f d S
  | _ => none
def f2 (f : D → D → Store → Option (D × Store)) : FL := fun ds S => match ds with
  | [d, e] => f d e S
  | _ => none
theorem ol1 {K : PySem.W.Frag} {r : List V → Hp → VK → Prop} {f : D → Store → Option (D × Store)} (h : ∀ M H S d1 x d S' Q, Sto K H M S → RelD K H M d1 x → f d1 S = some (d, S') → Kt K M H d S' Q → r [x] H Q) : OpL K r (f1 f) := by
  intro M H S ds xs d S' Q st rs e k
  match ds, e with
  | [d1], e =>
    obtain ⟨x, rfl, r1⟩ := rel1 rs
    exact h M H S d1 x d S' Q st r1 e k
theorem ol2 {K : PySem.W.Frag} {r : List V → Hp → VK → Prop} {f : D → D → Store → Option (D × Store)} (h : ∀ M H S d1 d2 x y d S' Q, Sto K H M S → RelD K H M d1 x → RelD K H M d2 y → f d1 d2 S = some (d, S') → Kt K M H d S' Q → r [x, y] H Q) : OpL K r (f2 f) := by
  intro M H S ds xs d S' Q st rs e k
  match ds, e with
  | [d1, d2], e =>
    obtain ⟨x, y, rfl, r1, r2⟩ := rel2 rs
    exact h M H S d1 d2 x y d S' Q st r1 r2 e k
def lenD0 (x : D) (S : Store) : Option (D × Store) := match x with
  | .str s => if s.length ≤ LINE then some (.int s.length, S) else none
  | x => (seqD x S).map fun xs => (.int xs.length, S)
abbrev lenD : FL := f1 lenD0
theorem ol_len {K : PySem.W.Frag} : OpL K (fun xs H Q => ∃ x n, xs = [x] ∧ LenV K x H n ∧ Q (.int n) H) lenD := by
  refine ol1 fun M H S d1 x d S' Q st r1 e k => ?_
  have other : (seqD d1 S).map (fun xs => (D.int xs.length, S)) = some (d, S') → ∃ x' n, [x] = [x'] ∧ LenV K x' H n ∧ Q (.int n) H := fun e => by
    obtain ⟨ys, e1, e2⟩ := Option.map_eq_some_iff.mp e
    cases e2
    obtain ⟨p, vs, rfl, e4, e5⟩ := seqD_ok st r1 e1
    refine ⟨_, vs.length, rfl, ?_, ?_⟩
    · rcases e4 with e4 | e4
      · exact .inl ⟨vs, e4, rfl⟩
      · exact .inr ⟨vs, e4, rfl⟩
    · rw [e5.length]
      exact k M H _ .refl st rfl
  cases d1 with
  | str s =>
    cases r1
    have e : (if s.length ≤ LINE then some (D.int s.length, S) else none) = some (d, S') := e
    split at e
    · rename_i hl
      cases e
      exact ⟨_, s.length, rfl, ⟨by rw [tx_len, line_eq]; exact hl, (tx_len s).symm⟩, k M H _ .refl st rfl⟩
    · cases e
  | non => exact other e
  | bl _ => exact other e
  | int _ => exact other e
  | tup _ => exact other e
  | rol _ => exact other e
  | obj _ => exact other e
def intD0 (x : D) (S : Store) : Option (D × Store) := match x with
  | .int i => some (.int i, S)
  | .bl b => some (.int (if b = true then 1 else 0), S)
  | .str s => if s.length ≤ 640 then (PySem.intText? (tx s)).map fun n => (.int n, S) else none
  | _ => none
abbrev intD : FL := f1 intD0
def rIntA : List V → Hp → VK → Prop := fun xs H Q => ((∃ i, xs = [.int i] ∧ Q (.int i) H) ∨ ∃ k, xs = [.bl k] ∧ Q (.int (if k then 1 else 0)) H) ∨ ∃ a n, xs = [.str a] ∧ PySem.intText? a = some n ∧ a.length ≤ 640 ∧ Q (.int n) H
theorem call_intA {X : Cx} : CallR X (.type "int") rIntA := call_int1.or call_int_str
theorem ol_int {K : PySem.W.Frag} : OpL K rIntA intD := by
  refine ol1 fun M H S d1 x d S' Q st r1 e k => ?_
  cases d1 with
  | int i => cases r1; cases e; exact .inl (.inl ⟨i, rfl, k M H _ .refl st rfl⟩)
  | bl b => cases r1; cases e; exact .inl (.inr ⟨b, rfl, k M H _ .refl st rfl⟩)
  | str s =>
    cases r1
    have e : (if s.length ≤ 640 then (PySem.intText? (tx s)).map fun n => (D.int n, S) else none) = some (d, S') := e
    split at e
    · rename_i hl
      obtain ⟨n, e1, e2⟩ := Option.map_eq_some_iff.mp e
      cases e2
      exact .inr ⟨tx s, n, rfl, e1, by rw [tx_len]; exact hl, k M H _ .refl st rfl⟩
    · cases e
  | _ => cases e
def numT (i : Int) : List Nat := (Str.ofString (toString i)).cps.toList
def strD0 (x : D) (S : Store) : Option (D × Store) := match x with
  | .int i => if i.natAbs.log2 < 1920 then some (.str (numT i), S) else none
  | _ => none
abbrev strD : FL := f1 strD0
theorem ol_str {K : PySem.W.Frag} : OpL K (fun xs H Q => ∃ i, xs = [.int i] ∧ i.natAbs.log2 < 1920 ∧ Q (.str (toString i)) H) strD := by
  refine ol1 fun M H S d1 x d S' Q st r1 e k => ?_
  cases d1 with
  | int i =>
    cases r1
    have e : (if i.natAbs.log2 < 1920 then some (D.str (numT i), S) else none) = some (d, S') := e
    split at e
    · rename_i hl
      cases e
      exact ⟨i, rfl, hl, k M H _ .refl st rfl⟩
    · cases e
  | _ => cases e
def absD0 (x : D) (S : Store) : Option (D × Store) := match x with
  | .int i => some (.int (if i < 0 then -i else i), S)
  | _ => none
abbrev absD : FL := f1 absD0
theorem ol_abs {K : PySem.W.Frag} : OpL K (fun xs H Q => ∃ i, xs = [.int i] ∧ Q (.int (if i < 0 then -i else i)) H) absD := by
  refine ol1 fun M H S d1 x d S' Q st r1 e k => ?_
  cases d1 with
  | int i => cases r1; cases e; exact ⟨i, rfl, k M H _ .refl st rfl⟩
  | _ => cases e
def max2D0 (x y : D) (S : Store) : Option (D × Store) := match x with
  | .int i => match y with
    | .int j => some (.int (if j > i then j else i), S)
    | _ => none
  | _ => none
def min2D0 (x y : D) (S : Store) : Option (D × Store) := match x with
  | .int i => match y with
    | .int j => some (.int (if j < i then j else i), S)
    | _ => none
  | _ => none
abbrev max2D : FL := f2 max2D0
abbrev min2D : FL := f2 min2D0
theorem ol_max2 {K : PySem.W.Frag} : OpL K (fun xs H Q => ∃ i j, xs = [.int i, .int j] ∧ Q (.int (if j > i then j else i)) H) max2D := by
  refine ol2 fun M H S d1 d2 x y d S' Q st r1 r2 e k => ?_
  cases d1 with
  | int i =>
    cases d2 with
    | int j => cases r1; cases r2; cases e; exact ⟨i, j, rfl, k M H _ .refl st rfl⟩
    | _ => cases e
  | _ => cases e
theorem ol_min2 {K : PySem.W.Frag} : OpL K (fun xs H Q => ∃ i j, xs = [.int i, .int j] ∧ Q (.int (if j < i then j else i)) H) min2D := by
  refine ol2 fun M H S d1 d2 x y d S' Q st r1 r2 e k => ?_
  cases d1 with
  | int i =>
    cases d2 with
    | int j => cases r1; cases r2; cases e; exact ⟨i, j, rfl, k M H _ .refl st rfl⟩
    | _ => cases e
  | _ => cases e
/-- a list of ints, of truths, of texts -/
def intsD : List D → Option (List Int)
  | [] => some []
  | .int i :: r => (intsD r).map (i :: ·)
  | _ => none
def blsD : List D → Option (List Bool)
  | [] => some []
  | .bl i :: r => (blsD r).map (i :: ·)
  | _ => none
def strsD : List D → Option (List (List Nat))
  | [] => some []
  | .str i :: r => (strsD r).map (i :: ·)
  | _ => none
theorem intsD_ok {K : PySem.W.Frag} {H : Hp} {M : List Addr} : ∀ {ds : List D} {vs : List V} {ns : List Int}, RelDs K H M ds vs → intsD ds = some ns → vs = ns.map V.int
  | [], _, _, r, e => by
    have r : _ = [] := r
    subst r; cases e; rfl
  | .int i :: ds, _, ns, ⟨v, r, e1, e2, e3⟩, e => by
    obtain ⟨ms, h1, h2⟩ := Option.map_eq_some_iff.mp (show (intsD ds).map (i :: ·) = some ns from e)
    subst e1 h2
    cases e2
    rw [intsD_ok e3 h1]; rfl
  | .non :: _, _, _, _, e => by cases e
  | .bl _ :: _, _, _, _, e => by cases e
  | .str _ :: _, _, _, _, e => by cases e
  | .tup _ :: _, _, _, _, e => by cases e
  | .rol _ :: _, _, _, _, e => by cases e
  | .obj _ :: _, _, _, _, e => by cases e
theorem blsD_ok {K : PySem.W.Frag} {H : Hp} {M : List Addr} : ∀ {ds : List D} {vs : List V} {ns : List Bool}, RelDs K H M ds vs → blsD ds = some ns → vs = ns.map V.bl
  | [], _, _, r, e => by
    have r : _ = [] := r
    subst r; cases e; rfl
  | .bl i :: ds, _, ns, ⟨v, r, e1, e2, e3⟩, e => by
    obtain ⟨ms, h1, h2⟩ := Option.map_eq_some_iff.mp (show (blsD ds).map (i :: ·) = some ns from e)
    subst e1 h2
    cases e2
    rw [blsD_ok e3 h1]; rfl
  | .non :: _, _, _, _, e => by cases e
  | .int _ :: _, _, _, _, e => by cases e
  | .str _ :: _, _, _, _, e => by cases e
  | .tup _ :: _, _, _, _, e => by cases e
  | .rol _ :: _, _, _, _, e => by cases e
  | .obj _ :: _, _, _, _, e => by cases e
theorem strsD_ok {K : PySem.W.Frag} {H : Hp} {M : List Addr} : ∀ {ds : List D} {vs : List V} {ns : List (List Nat)}, RelDs K H M ds vs → strsD ds = some ns → vs = (ns.map tx).map V.str
  | [], _, _, r, e => by
    have r : _ = [] := r
    subst r; cases e; rfl
  | .str i :: ds, _, ns, ⟨v, r, e1, e2, e3⟩, e => by
    obtain ⟨ms, h1, h2⟩ := Option.map_eq_some_iff.mp (show (strsD ds).map (i :: ·) = some ns from e)
    subst e1 h2
    cases e2
    rw [strsD_ok e3 h1]; rfl
  | .non :: _, _, _, _, e => by cases e
  | .int _ :: _, _, _, _, e => by cases e
  | .bl _ :: _, _, _, _, e => by cases e
  | .tup _ :: _, _, _, _, e => by cases e
  | .rol _ :: _, _, _, _, e => by cases e
  | .obj _ :: _, _, _, _, e => by cases e
/-- the items of a list (no tuple) -/
def lstD : D → Store → Option (List D)
  | .rol xs, _ => some xs
  | .obj i, S => cellAt S i
  | _, _ => none
theorem lstD_ok {K : PySem.W.Frag} {H : Hp} {M : List Addr} {S : Store} {d : D} {v : V} {xs : List D} (st : Sto K H M S) (r : RelD K H M d v) (h : lstD d S = some xs) : ∃ p vs, v = .ref p ∧ SqL K H p vs ∧ RelDs K H M xs vs := by
  cases d with
  | rol ys =>
    obtain ⟨a, vs, rfl, h1, h2⟩ := r
    cases h
    exact ⟨a, vs, rfl, h1.sqL, h2⟩
  | obj i =>
    obtain ⟨a, rfl, h1⟩ := r
    obtain ⟨_, vs, e3, e4⟩ := cellAt_lst st h1 h
    exact ⟨a, vs, rfl, .of e3, e4⟩
  | _ => cases h
def sumD0 (x : D) (S : Store) : Option (D × Store) := ((lstD x S).bind intsD).map fun ns => (.int ns.sum, S)
abbrev sumD : FL := f1 sumD0
theorem ol_sum {K : PySem.W.Frag} : OpL K (rSum K) sumD := by
  refine ol1 fun M H S d1 x d S' Q st r1 e k => ?_
  obtain ⟨ns, e1, e2⟩ := Option.map_eq_some_iff.mp e
  obtain ⟨xs, e3, e4⟩ := Option.bind_eq_some_iff.mp e1
  cases e2
  obtain ⟨p, vs, rfl, h1, h2⟩ := lstD_ok st r1 e3
  refine ⟨p, ns, rfl, by rw [← intsD_ok h2 e4]; exact h1, k M H _ .refl st rfl⟩
def allD0 (x : D) (S : Store) : Option (D × Store) := ((lstD x S).bind blsD).map fun ns => (.bl (ns.all id), S)
abbrev allD : FL := f1 allD0
theorem ol_all {K : PySem.W.Frag} : OpL K (rAll K) allD := by
  refine ol1 fun M H S d1 x d S' Q st r1 e k => ?_
  obtain ⟨ns, e1, e2⟩ := Option.map_eq_some_iff.mp e
  obtain ⟨xs, e3, e4⟩ := Option.bind_eq_some_iff.mp e1
  cases e2
  obtain ⟨p, vs, rfl, h1, h2⟩ := lstD_ok st r1 e3
  refine ⟨p, ns, rfl, by rw [← blsD_ok h2 e4]; exact h1, k M H _ .refl st rfl⟩
def listD0 (x : D) (S : Store) : Option (D × Store) := (seqD x S).map fun xs => (.obj S.length, S ++ [.lst xs])
abbrev listD : FL := f1 listD0
theorem ol_list {K : PySem.W.Frag} : OpL K (fun xs H Q => ∃ p ys, xs = [.ref p] ∧ (SqL K H p ys ∨ SqT K H p ys) ∧ ∀ l, H l = none → Q (.ref l) (upd H l (.lst ys))) listD := by
  refine ol1 fun M H S d1 x d S' Q st r1 e k => ?_
  obtain ⟨xs, e1, e2⟩ := Option.map_eq_some_iff.mp e
  cases e2
  obtain ⟨p, vs, rfl, e4, e5⟩ := seqD_ok st r1 e1
  refine ⟨p, vs, rfl, e4, fun l hl => ?_⟩
  obtain ⟨st2, x2, e6⟩ := st.push hl e5
  exact k _ _ _ x2 st2 ⟨l, rfl, e6⟩
def tupleD0 (x : D) (S : Store) : Option (D × Store) := match x with
  | .tup xs => some (.tup xs, S)
  | x => (lstD x S).map fun xs => (.tup xs, S)
abbrev tupleD : FL := f1 tupleD0
theorem ol_tuple {K : PySem.W.Frag} : OpL K (fun xs H Q => ∃ p ys, xs = [.ref p] ∧ ((SqL K H p ys ∧ ∀ l, H l = none → Q (.ref l) (upd H l (.tup ys))) ∨ (SqT K H p ys ∧ Q (.ref p) H))) tupleD := by
  refine ol1 fun M H S d1 x d S' Q st r1 e k => ?_
  have other : (lstD d1 S).map (fun xs => (D.tup xs, S)) = some (d, S') → ∃ p ys, [x] = [V.ref p] ∧ ((SqL K H p ys ∧ ∀ l, H l = none → Q (.ref l) (upd H l (.tup ys))) ∨ (SqT K H p ys ∧ Q (.ref p) H)) := fun e => by
    obtain ⟨xs, e1, e2⟩ := Option.map_eq_some_iff.mp e
    cases e2
    obtain ⟨p, vs, rfl, h1, h2⟩ := lstD_ok st r1 e1
    refine ⟨p, vs, rfl, .inl ⟨h1, fun l hl => ?_⟩⟩
    obtain ⟨st2, x2⟩ := st.beside (o := .tup vs) hl
    exact k M _ _ x2 st2 ⟨l, vs, rfl, .of upd_same, RelDs.mono x2 _ _ h2⟩
  cases d1 with
  | tup xs =>
    cases e
    obtain ⟨a, vs, rfl, h1, h2⟩ := r1
    exact ⟨a, vs, rfl, .inr ⟨h1, k M H _ .refl st ⟨a, vs, rfl, h1, h2⟩⟩⟩
  | non => exact other e
  | bl _ => exact other e
  | int _ => exact other e
  | str _ => exact other e
  | rol _ => exact other e
  | obj _ => exact other e

/-! ### methods -/
def m0 (f : D → Store → Option (D × Store)) : D → FL := fun x ds S => match ds with
  | [] => f x S
  | _ => none
def m1 (f : D → D → Store → Option (D × Store)) : D → FL := fun x ds S => match ds with
  | [a] => f x a S
  | _ => none
def m2 (f : D → D → D → Store → Option (D × Store)) : D → FL := fun x ds S => match ds with
  | [a, b] => f x a b S
  | _ => none
def m3 (f : D → D → D → D → Store → Option (D × Store)) : D → FL := fun x ds S => match ds with
  | [a, b, c] => f x a b c S
  | _ => none
theorem om0 {K : PySem.W.Frag} {r : V → List V → Hp → VK → Prop} {f : D → Store → Option (D × Store)} (h : ∀ M H S d1 x d S' Q, Sto K H M S → RelD K H M d1 x → f d1 S = some (d, S') → Kt K M H d S' Q → r x [] H Q) : OpM K r (m0 f) := by
  intro M H S d1 ds x xs d S' Q st r1 rs e k
  match ds, e with
  | [], e =>
    have rs : xs = [] := rs
    subst rs
    exact h M H S d1 x d S' Q st r1 e k
theorem om1 {K : PySem.W.Frag} {r : V → List V → Hp → VK → Prop} {f : D → D → Store → Option (D × Store)} (h : ∀ M H S d1 d2 x y d S' Q, Sto K H M S → RelD K H M d1 x → RelD K H M d2 y → f d1 d2 S = some (d, S') → Kt K M H d S' Q → r x [y] H Q) : OpM K r (m1 f) := by
  intro M H S d1 ds x xs d S' Q st r1 rs e k
  match ds, e with
  | [a], e =>
    obtain ⟨y, rfl, r2⟩ := rel1 rs
    exact h M H S d1 a x y d S' Q st r1 r2 e k
theorem om2 {K : PySem.W.Frag} {r : V → List V → Hp → VK → Prop} {f : D → D → D → Store → Option (D × Store)} (h : ∀ M H S d1 d2 d3 x y z d S' Q, Sto K H M S → RelD K H M d1 x → RelD K H M d2 y → RelD K H M d3 z → f d1 d2 d3 S = some (d, S') → Kt K M H d S' Q → r x [y, z] H Q) : OpM K r (m2 f) := by
  intro M H S d1 ds x xs d S' Q st r1 rs e k
  match ds, e with
  | [a, b], e =>
    obtain ⟨y, z, rfl, r2, r3⟩ := rel2 rs
    exact h M H S d1 a b x y z d S' Q st r1 r2 r3 e k
theorem om3 {K : PySem.W.Frag} {r : V → List V → Hp → VK → Prop} {f : D → D → D → D → Store → Option (D × Store)} (h : ∀ M H S d1 d2 d3 d4 x y z u d S' Q, Sto K H M S → RelD K H M d1 x → RelD K H M d2 y → RelD K H M d3 z → RelD K H M d4 u → f d1 d2 d3 d4 S = some (d, S') → Kt K M H d S' Q → r x [y, z, u] H Q) : OpM K r (m3 f) := by
  intro M H S d1 ds x xs d S' Q st r1 rs e k
  match ds, e with
  | [a, b, c], e =>
    obtain ⟨y, z, u, rfl, r2, r3, r4⟩ := rel3 rs
    exact h M H S d1 a b c x y z u d S' Q st r1 r2 r3 r4 e k
def appendD0 (x y : D) (S : Store) : Option (D × Store) := match x with
  | .obj n => (cellAt S n).bind fun xs => if xs.length < LINE then some (.non, S.set n (.lst (xs ++ [y]))) else none
  | _ => none
abbrev appendD : D → FL := m1 appendD0
theorem om_append {K : PySem.W.Frag} : OpM K rAppend appendD := by
  refine om1 fun M H S d1 d2 x y d S' Q st r1 r2 e k => ?_
  cases d1 with
  | obj n =>
    obtain ⟨a, rfl, h1⟩ := r1
    obtain ⟨xs, e1, e2⟩ := Option.bind_eq_some_iff.mp e
    split at e2
    · rename_i hl
      cases e2
      obtain ⟨c1, vs, e5, e6⟩ := cellAt_lst st h1 e1
      refine ⟨a, vs, y, rfl, rfl, e5, by rw [e6.length, line_eq]; exact hl, ?_⟩
      obtain ⟨st2, x2⟩ := st.set (xs := xs ++ [d2]) (vs := vs ++ [y]) c1 h1 (RelDs.append (es := [d2]) (ws := [y]) e6 ⟨y, [], rfl, r2, rfl⟩)
      exact k M _ _ x2 st2 rfl
    · cases e2
  | _ => cases e
/-! texts: letters of the plain table alone -/
def asc (s : List Nat) : Bool := s.all fun c => Nat.blt c 128
theorem asc_lt {s : List Nat} (h : asc s = true) : ∀ c ∈ s, c < 128 := fun c hc => by
  have := List.all_eq_true.mp h c hc
  exact Nat.blt_eq.mp this
def lowL (s : List Nat) : List Nat := s.map lo1
def upL (s : List Nat) : List Nat := s.map up1
def lowD0 (x : D) (S : Store) : Option (D × Store) := match x with
  | .str s => if asc s = true ∧ s.length ≤ 5592405 then some (.str (lowL s), S) else none
  | _ => none
def upD0 (x : D) (S : Store) : Option (D × Store) := match x with
  | .str s => if asc s = true ∧ s.length ≤ 5592405 then some (.str (upL s), S) else none
  | _ => none
abbrev lowerD : D → FL := m0 lowD0
abbrev upperD : D → FL := m0 upD0
theorem low_tx {s : List Nat} (h : asc s = true) : Txt.lower (tx s) = tx (lowL s) := by
  rw [lower_ascii (x := tx s) (asc_lt h)]
  simp [tx, lowL]
theorem up_tx {s : List Nat} (h : asc s = true) : Txt.upper (tx s) = tx (upL s) := by
  rw [upper_ascii (x := tx s) (asc_lt h)]
  simp [tx, upL]
theorem om_lower {K : PySem.W.Frag} : OpM K (fun x xs H Q => ∃ a, x = .str a ∧ xs = [] ∧ a.length ≤ 5592405 ∧ Q (.str (Txt.lower a)) H) lowerD := by
  refine om0 fun M H S d1 x d S' Q st r1 e k => ?_
  cases d1 with
  | str s =>
    cases r1
    have e : (if asc s = true ∧ s.length ≤ 5592405 then some (D.str (lowL s), S) else none) = some (d, S') := e
    split at e
    · rename_i hl
      cases e
      exact ⟨tx s, rfl, rfl, by rw [tx_len]; exact hl.2, by rw [low_tx hl.1]; exact k M H _ .refl st rfl⟩
    · cases e
  | _ => cases e
theorem om_upper {K : PySem.W.Frag} : OpM K (fun x xs H Q => ∃ a, x = .str a ∧ xs = [] ∧ a.length ≤ 5592405 ∧ Q (.str (Txt.upper a)) H) upperD := by
  refine om0 fun M H S d1 x d S' Q st r1 e k => ?_
  cases d1 with
  | str s =>
    cases r1
    have e : (if asc s = true ∧ s.length ≤ 5592405 then some (D.str (upL s), S) else none) = some (d, S') := e
    split at e
    · rename_i hl
      cases e
      exact ⟨tx s, rfl, rfl, by rw [tx_len]; exact hl.2, by rw [up_tx hl.1]; exact k M H _ .refl st rfl⟩
    · cases e
  | _ => cases e
def isLet (c : Nat) : Bool := (Nat.ble 65 c && Nat.ble c 90) || (Nat.ble 97 c && Nat.ble c 122)
def isFig (c : Nat) : Bool := Nat.ble 48 c && Nat.ble c 57
theorem alpha_asc : ∀ c, c < 128 → Unicode.isAlpha c = isLet c := by decide +kernel
theorem digit_asc : ∀ c, c < 128 → Unicode.isDigit c = isFig c := by decide +kernel
theorem alnum_asc : ∀ c, c < 128 → Unicode.isAlnum c = (isLet c || isFig c) := by decide +kernel
/-- a test of all signs of a text that is not empty -/
def isD0 (p : Nat → Bool) (x : D) (S : Store) : Option (D × Store) := match x with
  | .str s => if asc s = true then some (.bl (!s.isEmpty && s.all p), S) else none
  | _ => none
theorem all_asc {p q : Nat → Bool} (h : ∀ c, c < 128 → q c = p c) : ∀ {s : List Nat}, (∀ c ∈ s, c < 128) → s.all q = s.all p
  | [], _ => rfl
  | c :: s, hs => by
    rw [List.all_cons, List.all_cons, h c (hs c List.mem_cons_self), all_asc h fun d hd => hs d (List.mem_cons_of_mem _ hd)]
theorem om_is {K : PySem.W.Frag} {p q : Nat → Bool} {f : Str → Bool} (hf : ∀ x : Str, f x = (decide (x.length > 0) && x.cps.all q)) (h : ∀ c, c < 128 → q c = p c) : OpM K (fun x xs H Q => ∃ a, x = .str a ∧ xs = [] ∧ True ∧ Q (.bl (f a)) H) (m0 (isD0 p)) := by
  refine om0 fun M H S d1 x d S' Q st r1 e k => ?_
  cases d1 with
  | str s =>
    cases r1
    have e : (if asc s = true then some (D.bl (!s.isEmpty && s.all p), S) else none) = some (d, S') := e
    split at e
    · rename_i hl
      cases e
      refine ⟨tx s, rfl, rfl, trivial, ?_⟩
      have e1 : (tx s).cps.all q = s.all p := by
        rw [← all_asc h (asc_lt hl)]
        simp [tx]
      have e2 : decide ((tx s).length > 0) = !s.isEmpty := by
        rw [tx_len]
        cases s <;> simp
      rw [hf, e1, e2]
      exact k M H _ .refl st rfl
    · cases e
  | _ => cases e
abbrev isalphaD : D → FL := m0 (isD0 isLet)
abbrev isdigitD : D → FL := m0 (isD0 isFig)
abbrev isalnumD : D → FL := m0 (isD0 fun c => isLet c || isFig c)
theorem om_isalpha {K : PySem.W.Frag} : OpM K (fun x xs H Q => ∃ a, x = .str a ∧ xs = [] ∧ True ∧ Q (.bl (Txt.isalpha a)) H) isalphaD := om_is (fun _ => rfl) alpha_asc
theorem om_isdigit {K : PySem.W.Frag} : OpM K (fun x xs H Q => ∃ a, x = .str a ∧ xs = [] ∧ True ∧ Q (.bl (Txt.isdigit a)) H) isdigitD := om_is (fun _ => rfl) digit_asc
theorem om_isalnum {K : PySem.W.Frag} : OpM K (fun x xs H Q => ∃ a, x = .str a ∧ xs = [] ∧ True ∧ Q (.bl (Txt.isalnum a)) H) isalnumD := om_is (fun _ => rfl) alnum_asc
/-- lstrip of written signs -/
def lstripD0 (x y : D) (S : Store) : Option (D × Store) := match x with
  | .str s => match y with
    | .str p => if s.length ≤ LINE then some (.str (s.dropWhile fun c => memN c p), S) else none
    | _ => none
  | _ => none
abbrev lstripD : D → FL := m1 lstripD0
theorem drop_takeWhile (p : Nat → Bool) : ∀ s : List Nat, s.drop (s.takeWhile p).length = s.dropWhile p
  | [] => rfl
  | c :: s => by
    by_cases h : p c = true
    · rw [List.takeWhile_cons_of_pos h, List.dropWhile_cons_of_pos h, List.length_cons, List.drop_succ_cons, drop_takeWhile p s]
    · rw [List.takeWhile_cons_of_neg h, List.dropWhile_cons_of_neg h]; rfl
theorem lstrip_tx (s p : List Nat) : Txt.lstripChars (tx s) (tx p) = tx (s.dropWhile fun c => memN c p) := by
  have e : ∀ c, (tx p).cps.contains c = memN c p := fun c => by
    rw [memN_eq]
    simp [tx]
  have ef : (tx p).cps.contains = fun c => memN c p := funext e
  unfold Txt.lstripChars
  rw [stripBy_eq, ef]
  have e1 : stripLo (fun c => memN c p) true (tx s) = (s.takeWhile fun c => memN c p).length := rfl
  have e2 : stripHi (fun c => memN c p) false (tx s) ((s.takeWhile fun c => memN c p).length) = s.length := by
    show (tx s).length = _
    exact tx_len s
  rw [e1, e2]
  apply TL.ext_tl
  show (Builtin.Str.strSub (tx s) _ _).cps.toList = _
  rw [StrLaws.strSub_toList, List.take_of_length_le (by rw [List.length_drop]; exact Nat.le_refl _)]
  exact drop_takeWhile _ s
theorem om_lstrip {K : PySem.W.Frag} : OpM K (fun x xs H Q => ∃ a b, x = .str a ∧ xs = [.str b] ∧ a.length ≤ sizeLine ∧ Q (.str (Txt.lstripChars a b)) H) lstripD := by
  refine om1 fun M H S d1 d2 x y d S' Q st r1 r2 e k => ?_
  cases d1 with
  | str s =>
    cases d2 with
    | str p =>
      cases r1; cases r2
      have e : (if s.length ≤ LINE then some (D.str (s.dropWhile fun c => memN c p), S) else none) = some (d, S') := e
      split at e
      · rename_i hl
        cases e
        exact ⟨tx s, tx p, rfl, rfl, by rw [tx_len, line_eq]; exact hl, by rw [lstrip_tx]; exact k M H _ .refl st rfl⟩
      · cases e
    | _ => cases e
  | _ => cases e
/-! find, count, rfind, startswith -/
def natI (i : Int) (n : Nat) : Option Nat := if 0 ≤ i ∧ i ≤ (n : Int) then some i.toNat else none
theorem natI_ok {i : Int} {n m : Nat} (h : natI i n = some m) : i = (m : Int) ∧ m ≤ n := by
  unfold natI at h
  split at h
  · cases h; omega
  · cases h
def find3D0 (x y z : D) (S : Store) : Option (D × Store) := match x with
  | .str s => match y with
    | .str p => match z with
      | .int i => if p.isEmpty = true then none else (natI i s.length).map fun n => (.int (match findL p (s.drop n) with | some k => ((n + k : Nat) : Int) | none => -1), S)
      | _ => none
    | _ => none
  | _ => none
abbrev find3D : D → FL := m2 find3D0
theorem om_find3 {K : PySem.W.Frag} : OpM K (fun x xs H Q => ∃ (a b : Str) (i : Int), x = .str a ∧ xs = [.str b, .int i] ∧ Q (.int (Txt.find3 a b i)) H) find3D := by
  refine om2 fun M H S d1 d2 d3 x y z d S' Q st r1 r2 r3 e k => ?_
  cases d1 with
  | str s =>
    cases d2 with
    | str p =>
      cases d3 with
      | int i =>
        cases r1; cases r2; cases r3
        have e : (if p.isEmpty = true then none else (natI i s.length).map fun n => (D.int (match findL p (s.drop n) with | some k => ((n + k : Nat) : Int) | none => -1), S)) = some (d, S') := e
        split at e
        · cases e
        · rename_i hp
          obtain ⟨n, e1, e2⟩ := Option.map_eq_some_iff.mp e
          cases e2
          obtain ⟨rfl, hn⟩ := natI_ok e1
          have hp : p ≠ [] := fun z => hp (by rw [z]; rfl)
          exact ⟨tx s, tx p, n, rfl, rfl, by rw [find3_list hp hn]; exact k M H _ .refl st rfl⟩
      | _ => cases e
    | _ => cases e
  | _ => cases e
def starts3D0 (x y z : D) (S : Store) : Option (D × Store) := match x with
  | .str s => match y with
    | .str p => match z with
      | .int i => (natI i s.length).map fun n => (.bl (isPre p (s.drop n)), S)
      | _ => none
    | _ => none
  | _ => none
abbrev starts3D : D → FL := m2 starts3D0
theorem om_starts3 {K : PySem.W.Frag} : OpM K (fun x xs H Q => ∃ (a b : Str) (i : Int), x = .str a ∧ xs = [.str b, .int i] ∧ Q (.bl (Txt.startswith3 a b i)) H) starts3D := by
  refine om2 fun M H S d1 d2 d3 x y z d S' Q st r1 r2 r3 e k => ?_
  cases d1 with
  | str s =>
    cases d2 with
    | str p =>
      cases d3 with
      | int i =>
        cases r1; cases r2; cases r3
        obtain ⟨n, e1, e2⟩ := Option.map_eq_some_iff.mp (show (natI i s.length).map (fun n => (D.bl (isPre p (s.drop n)), S)) = some (d, S') from e)
        cases e2
        obtain ⟨rfl, hn⟩ := natI_ok e1
        exact ⟨tx s, tx p, n, rfl, rfl, by rw [starts3_list hn]; exact k M H _ .refl st rfl⟩
      | _ => cases e
    | _ => cases e
  | _ => cases e
/-- one sign, from a place to a later one -/
def one4D (f : List Nat → Nat → Nat → Nat → Int) (x y z u : D) (S : Store) : Option (D × Store) := match x with
  | .str s => match y with
    | .str [c] => match z with
      | .int i => match u with
        | .int j => match natI i s.length with
          | some n => match natI j s.length with
            | some m => if n ≤ m then some (.int (f s c n m), S) else none
            | none => none
          | none => none
        | _ => none
      | _ => none
    | _ => none
  | _ => none
theorem om_one4 {K : PySem.W.Frag} {f : List Nat → Nat → Nat → Nat → Int} {g : Str → Str → Int → Int → Int} (h : ∀ (s : List Nat) (c i j : Nat), i ≤ j → j ≤ s.length → g (tx s) (tx [c]) i j = f s c i j) :
    OpM K (fun x xs H Q => ∃ (a b : Str) (i j : Int), x = .str a ∧ xs = [.str b, .int i, .int j] ∧ Q (.int (g a b i j)) H) (m3 (one4D f)) := by
  refine om3 fun M H S d1 d2 d3 d4 x y z u d S' Q st r1 r2 r3 r4 e k => ?_
  match d1, d2, d3, d4, e with
  | .str s, .str [c], .int i, .int j, e =>
    cases r1; cases r2; cases r3; cases r4
    have e : (match natI i s.length with
          | some n => match natI j s.length with
            | some m => if n ≤ m then some (D.int (f s c n m), S) else none
            | none => none
          | none => none) = some (d, S') := e
    generalize h1 : natI i s.length = o1 at e
    generalize h2 : natI j s.length = o2 at e
    match o1, o2, e with
    | some n, some m, e =>
      have e : (if n ≤ m then some (D.int (f s c n m), S) else none) = some (d, S') := e
      split at e
      · rename_i hnm
        cases e
        obtain ⟨rfl, hn⟩ := natI_ok h1
        obtain ⟨rfl, hm⟩ := natI_ok h2
        exact ⟨tx s, tx [c], n, m, rfl, rfl, by rw [h s c n m hnm hm]; exact k M H _ .refl st rfl⟩
      · cases e
def cntF (s : List Nat) (c n m : Nat) : Int := ((cntL c ((s.take m).drop n) : Nat) : Int)
def lastF (s : List Nat) (c n m : Nat) : Int := match lastL c ((s.take m).drop n) with
  | some k => ((n + k : Nat) : Int)
  | none => -1
abbrev count4D : D → FL := m3 (one4D cntF)
abbrev rfind4D : D → FL := m3 (one4D lastF)
theorem om_count4 {K : PySem.W.Frag} : OpM K (fun x xs H Q => ∃ (a b : Str) (i j : Int), x = .str a ∧ xs = [.str b, .int i, .int j] ∧ Q (.int (Txt.countIn a b i j)) H) count4D := om_one4 fun _ _ _ _ h1 h2 => count4_list h1 h2
theorem om_rfind4 {K : PySem.W.Frag} : OpM K (fun x xs H Q => ∃ (a b : Str) (i j : Int), x = .str a ∧ xs = [.str b, .int i, .int j] ∧ Q (.int (Txt.rfindIn a b i j)) H) rfind4D := om_one4 fun _ _ _ _ h1 h2 => rfind4_list h1 h2
end Sh

/-! Sh9: the remaining operations. -/
namespace Sh
open PySem PySem.Spec PyProof.Rows L2

/-! ### startswith with a tuple -/
theorem isub_tt : isSubtype (.type "tuple") (.type "tuple") = pure true := by rw [isSubtype_type]; kernel_rfl
open Builtin Builtin.Str in
def stT (x : Str) (n : Nat) (a : Addr) (i : Int) (m : Str) : Sem Fin := (do
    if let some p ← asStr? (.ref a) then return ← ret (.bool ((n + p.length ≤ min x.length x.length && subAt x p n : Bool)))
    if ← isInstance (.ref a) (.type "tuple") then
      rule s!"str.startswith.tuple"
      let some items ← seqItems? (.ref a) | unsupported s!"internal:str.startswith"
      for x' in items do
        match ← asStr? x' with
        | some p => if (n + p.length ≤ min x.length x.length && subAt x p n : Bool) then return ← ret (.bool true)
        | none =>
          rule s!"str.startswith.tuple-item-not-str"
          raiseError "TypeError" s!"tuple for startswith must only contain str, not {← typeNameOf x'}"
      return ← ret (.bool false)
    rule s!"str.startswith.bad-affix"
    raiseError "TypeError" s!"startswith first arg must be str or a tuple of str, not {← typeNameOf (.ref a)}")
open Builtin Builtin.Str in
theorem startsT_tree (x : Str) (a : Addr) (i : Int) (t v : Tok) (m : Str) : «str.startswith» ⟨[.str x t, .ref a, .int i v], []⟩ = stT x (fromIndex x.length i) a i m := by
  rfl
def hitT (x : Str) (n : Nat) (p : Str) : Bool := (n + p.length ≤ min x.length x.length && Builtin.Str.subAt x p n : Bool)
open Builtin Builtin.Str in
theorem startsT_meets (x : Str) (a : Addr) (i : Int) (t v : Tok) (m : Str) {its : List Value} {ys : List Str} (hy : StrsAre its ys) :
    Meets («str.startswith» ⟨[.str x t, .ref a, .int i v], []⟩) (fun _ R s => IsTup s.heap a its.toArray ∧ R (.ok (.ret (.bool (ys.any (hitT x (fromIndex x.length i)))))) s) := by
  refine .of_wp fun prog w A R s h => ?_
  obtain ⟨⟨o, ho, hc, n, hd⟩, h⟩ := h
  rw [startsT_tree x a i t v m]
  unfold stT
  refine wpAny_bind (m := asStr? (.ref a)) ?_
  unfold asStr?
  refine wpAny_bind (wpAny_load ho ?_)
  rw [hd]
  refine wpAny_pure ?_
  refine wpAny_bind (wpAny_isInstance (T := "tuple") (b := true) ⟨o, ho, hc⟩ isub_tt ?_)
  rw [if_pos rfl]
  refine wpAny_bind (wpAny_rule ?_)
  refine wpAny_bind (m := seqItems? (.ref a)) ?_
  unfold seqItems?
  refine wpAny_bind (wpAny_load ho ?_)
  rw [hd]
  refine wpAny_pure ?_
  simp only [List.forIn_toArray]
  have loop : ∀ (its : List Value) (ys : List Str), StrsAre its ys → ∀ (f : Value → (Option Fin × Unit) → Sem (ForInStep ((Option Fin × Unit)))),
      (∀ p tk r, f (.str p tk) r = if hitT x (fromIndex x.length i) p = true then (do let z ← ret (.bool true); pure (.done (some z, ()))) else pure (.yield (none, ()))) →
      ∀ (Q : (Option Fin × Unit) → Shared → Prop) (E : Value → Shared → Prop), Q ⟨if ys.any (hitT x (fromIndex x.length i)) = true then some (.done (.ret (.bool true))) else none, ()⟩ s → wpAny (model prog w) A.in1 (forIn its (none, ()) f) Q E s := by
    intro its ys hy f hf Q E
    induction hy with
    | nil =>
      intro q
      rw [List.forIn_nil]
      exact wpAny_pure q
    | cons y tk r ih =>
      intro q
      rw [List.forIn_cons, hf]
      by_cases hh : hitT x (fromIndex x.length i) y = true
      · rw [if_pos hh]
        refine wpAny_bind (wpAny_bind (m := ret (.bool true)) (wpAny_pure (wpAny_pure ?_)))
        rw [List.any_cons, hh, Bool.true_or, if_pos rfl] at q
        exact wpAny_pure q
      · rw [if_neg hh]
        refine wpAny_bind (wpAny_pure ?_)
        rw [List.any_cons, Bool.eq_false_iff.mpr hh, Bool.false_or] at q
        exact ih q
  refine wpAny_bind (loop its ys hy _ (fun p tk r => ?_) _ _ ?_)
  · by_cases hh : hitT x (fromIndex x.length i) p = true
    · show (if hitT x (fromIndex x.length i) p = true then _ else _) = _
      rw [if_pos hh]
    · show (if hitT x (fromIndex x.length i) p = true then _ else _) = _
      rw [if_neg hh]
  · by_cases hh : ys.any (hitT x (fromIndex x.length i)) = true
    · rw [if_pos hh]
      rw [hh] at h
      exact wpAny_pure ⟨_, rfl, h⟩
    · rw [if_neg hh]
      rw [Bool.eq_false_iff.mpr hh] at h
      exact wpAny_bind (m := ret (.bool false)) (wpAny_pure (wpAny_pure ⟨_, rfl, h⟩))

theorem hit_list {s p : List Nat} {n : Nat} (hn : n ≤ s.length) : hitT (tx s) (fromIndex (tx s).length (n : Int)) (tx p) = isPre p (s.drop n) := by
  rw [← starts3_list hn]
  unfold hitT Txt.startswith3
  rw [Nat.min_self]
theorem any_hit {s : List Nat} {n : Nat} (hn : n ≤ s.length) : ∀ ps : List (List Nat), (ps.map tx).any (hitT (tx s) (fromIndex (tx s).length (n : Int))) = ps.any fun p => isPre p (s.drop n)
  | [] => rfl
  | p :: ps => by
    rw [List.map_cons, List.any_cons, List.any_cons, hit_list hn, any_hit hn ps]
def rStartsT (K : PySem.W.Frag) : V → List V → Hp → VK → Prop := fun x xs H Q => ∃ (a : Str) (p : Addr) (ys : List Str) (i : Int), x = .str a ∧ xs = [.ref p, .int i] ∧ SqT K H p (ys.map V.str) ∧ Q (.bl (ys.any (hitT a (fromIndex a.length i)))) H
theorem mt_startsT {X : Cx} : MtR X "str.startswith" (rStartsT X.K) := by
  intro pins s σ H x xs v us Q I rx rs h
  obtain ⟨a, p, ys, i, rfl, rfl, hp, h⟩ := h
  obtain ⟨t, rfl⟩ := rx
  cases rs with
  | cons r1 rs =>
    cases rs with
    | cons r2 rs =>
      cases rs
      obtain ⟨z, rfl⟩ := r2
      cases r1
      obtain ⟨its, r, ht, _⟩ := I.tuple hp
      refine call_meets F.slot_str_startswith (typeIs_str _ _ _) F.entry_str_startswith (F.args_str_startswith_3 _ _ _) (startsT_meets a p i t z a (strs_of_vals r)) ⟨ht, ?_⟩
      exact ⟨.bl _, H, I, rfl, h⟩
def rStarts (K : PySem.W.Frag) : V → List V → Hp → VK → Prop := fun x xs H Q => (∃ (a b : Str) (i : Int), x = .str a ∧ xs = [.str b, .int i] ∧ Q (.bl (Txt.startswith3 a b i)) H) ∨ rStartsT K x xs H Q
theorem mt_startsA {X : Cx} : MtR X "str.startswith" (rStarts X.K) := MtR.or mt_startswith3 mt_startsT
def startsD0 (x y z : D) (S : Store) : Option (D × Store) := match x with
  | .str s => match z with
    | .int i => match y with
      | .str p => (natI i s.length).map fun n => (.bl (isPre p (s.drop n)), S)
      | .tup ps => (strsD ps).bind fun qs => (natI i s.length).map fun n => (.bl (qs.any fun p => isPre p (s.drop n)), S)
      | _ => none
    | _ => none
  | _ => none
abbrev startsD : D → FL := m2 startsD0
theorem om_starts {K : PySem.W.Frag} : OpM K (rStarts K) startsD := by
  refine om2 fun M H S d1 d2 d3 x y z d S' Q st r1 r2 r3 e k => ?_
  match d1, d3, e with
  | .str s, .int i, e =>
    cases r1; cases r3
    match d2, e with
    | .str p, e =>
      cases r2
      obtain ⟨n, e1, e2⟩ := Option.map_eq_some_iff.mp (show (natI i s.length).map (fun n => (D.bl (isPre p (s.drop n)), S)) = some (d, S') from e)
      cases e2
      obtain ⟨rfl, hn⟩ := natI_ok e1
      exact .inl ⟨tx s, tx p, n, rfl, rfl, by rw [starts3_list hn]; exact k M H _ .refl st rfl⟩
    | .tup ps, e =>
      obtain ⟨a, vs, rfl, h1, h2⟩ := r2
      obtain ⟨qs, e0, e⟩ := Option.bind_eq_some_iff.mp (show (strsD ps).bind (fun qs => (natI i s.length).map fun n => (D.bl (qs.any fun p => isPre p (s.drop n)), S)) = some (d, S') from e)
      obtain ⟨n, e1, e2⟩ := Option.map_eq_some_iff.mp e
      cases e2
      obtain ⟨rfl, hn⟩ := natI_ok e1
      refine .inr ⟨tx s, a, qs.map tx, n, rfl, rfl, by rw [← strsD_ok h2 e0]; exact h1, ?_⟩
      rw [any_hit hn]
      exact k M H _ .refl st rfl

/-! ### join and split -/
theorem join_tx (a : List Nat) (ss : List (List Nat)) : Txt.join (tx a) (ss.map tx) = tx (TL.joinL a ss) := by
  rw [TL.join_eq]
  apply TL.ext_tl
  rw [TL.tl_join, List.map_map]
  show TL.joinL a (ss.map _) = _
  have e : (TL.tl ∘ tx) = id := funext fun _ => rfl
  rw [e, List.map_id]
def lenSum : List (List Nat) → Nat
  | [] => 0
  | s :: r => s.length + lenSum r
theorem lenSum_eq : ∀ ss : List (List Nat), ((ss.map tx).map (·.length)).sum = lenSum ss
  | [] => rfl
  | s :: r => by
    rw [List.map_cons, List.map_cons, List.sum_cons, lenSum_eq r, tx_len]
    rfl
def joinD0 (x y : D) (S : Store) : Option (D × Store) := match x with
  | .str a => ((seqD y S).bind strsD).bind fun ss => if lenSum ss + ss.length * a.length ≤ LINE then some (.str (TL.joinL a ss), S) else none
  | _ => none
abbrev joinD : D → FL := m1 joinD0
theorem om_join {K : PySem.W.Frag} : OpM K (fun x xs H Q => ∃ a p, ∃ ys : List Str, x = .str a ∧ xs = [.ref p] ∧ (SqL K H p (ys.map V.str) ∨ SqT K H p (ys.map V.str)) ∧
    (ys.map (·.length)).sum + ys.length * a.length ≤ 16777216 ∧ Q (.str (Txt.join a ys)) H) joinD := by
  refine om1 fun M H S d1 d2 x y d S' Q st r1 r2 e k => ?_
  cases d1 with
  | str a =>
    cases r1
    obtain ⟨ss, e1, e2⟩ := Option.bind_eq_some_iff.mp (show ((seqD d2 S).bind strsD).bind (fun ss => if lenSum ss + ss.length * a.length ≤ LINE then some (D.str (TL.joinL a ss), S) else none) = some (d, S') from e)
    obtain ⟨xs, e3, e4⟩ := Option.bind_eq_some_iff.mp e1
    split at e2
    · rename_i hl
      cases e2
      obtain ⟨p, vs, rfl, h1, h2⟩ := seqD_ok st r2 e3
      refine ⟨tx a, p, ss.map tx, rfl, rfl, by rw [← strsD_ok h2 e4]; exact h1, ?_, ?_⟩
      · rw [lenSum_eq, List.length_map, tx_len]
        exact hl
      · rw [join_tx]
        exact k M H _ .refl st rfl
    · cases e2
  | _ => cases e
def splitD0 (x y : D) (S : Store) : Option (D × Store) := match x with
  | .str s => match y with
    | .str p => if p.isEmpty = false ∧ asc p = true ∧ s.length + 2 ≤ LINE then some (.obj S.length, S ++ [.lst ((TL.spl p 0 [] s).map D.str)]) else none
    | _ => none
  | _ => none
abbrev splitD : D → FL := m1 splitD0
theorem rel_strs {K : PySem.W.Frag} {H : Hp} {M : List Addr} : ∀ ss : List (List Nat), RelDs K H M (ss.map D.str) ((ss.map tx).map V.str)
  | [] => rfl
  | s :: r => ⟨_, _, rfl, rfl, rel_strs r⟩
theorem split_tx {s p : List Nat} (hp : p ≠ []) (ha : asc p = true) : Txt.split (tx s) (tx p) = (TL.spl p 0 [] s).map tx := by
  have h : (tx p).cps.all (· < 256) = true := by
    rw [Array.all_eq_true']
    intro c hc
    have := asc_lt ha c (by simpa [tx] using hc)
    simp only [decide_eq_true_eq]
    omega
  have e := TL.split_spl (tx s) (tx p) hp (TL.kind_ok h)
  have e2 : (Txt.split (tx s) (tx p)) = ((Txt.split (tx s) (tx p)).map TL.tl).map tx := by
    rw [List.map_map]
    have z : (tx ∘ TL.tl) = id := funext fun x => tx_of x
    rw [z, List.map_id]
  rw [e2, e]
theorem om_split {K : PySem.W.Frag} : OpM K (fun x xs H Q => ∃ a b, x = .str a ∧ xs = [.str b] ∧ (b.length == 0) = false ∧ a.length + 2 ≤ sizeLine ∧ rNewStrs (Txt.split a b) H Q) splitD := by
  refine om1 fun M H S d1 d2 x y d S' Q st r1 r2 e k => ?_
  cases d1 with
  | str s =>
    cases d2 with
    | str p =>
      cases r1; cases r2
      have e : (if p.isEmpty = false ∧ asc p = true ∧ s.length + 2 ≤ LINE then some (D.obj S.length, S ++ [.lst ((TL.spl p 0 [] s).map D.str)]) else none) = some (d, S') := e
      split at e
      · rename_i hl
        cases e
        have hp : p ≠ [] := fun z => by
          subst z
          exact absurd hl.1 (by decide)
        refine ⟨tx s, tx p, rfl, rfl, ?_, by rw [tx_len, line_eq]; exact hl.2.2, fun l hl2 => ?_⟩
        · rw [tx_len]
          cases p with
          | nil => exact absurd rfl hp
          | cons _ _ => rfl
        · rw [split_tx hp hl.2.1]
          obtain ⟨st2, x2, e6⟩ := st.push hl2 (rel_strs (TL.spl p 0 [] s))
          exact k _ _ _ x2 st2 ⟨l, rfl, e6⟩
      · cases e
    | _ => cases e
  | _ => cases e

/-! ### isinstance with a built-in type -/
def tyD (d : D) : String := match d with
  | .non => "NoneType"
  | .bl _ => "bool"
  | .int _ => "int"
  | .str _ => "str"
  | .tup _ => "tuple"
  | .rol _ => "list"
  | .obj _ => "list"
theorem tyD_ok {K : PySem.W.Frag} {H : Hp} {M : List Addr} {S : Store} {d : D} {v : V} (st : Sto K H M S) (r : RelD K H M d v) : TyX K H v (.type (tyD d)) := by
  cases d with
  | non => cases r; exact .base .non
  | bl b => cases r; exact .base (.bl b)
  | int i => cases r; exact .base (.int i)
  | str s => cases r; exact .base (.str _)
  | tup xs =>
    obtain ⟨a, vs, rfl, h, _⟩ := r
    rcases h with (h | ⟨o, h⟩) | ⟨o, its, n, hk, hc, _⟩
    · exact .base (.tup h)
    · exact .fTuple h
    · exact .kTuple hk hc
  | rol xs =>
    obtain ⟨a, vs, rfl, h, _⟩ := r
    rcases h with ⟨o, h⟩ | ⟨o, its, n, hk, hc, _⟩
    · exact .base (.frz h)
    · exact .kList hk hc
  | obj i =>
    obtain ⟨a, rfl, h⟩ := r
    obtain ⟨c, _, hc⟩ := st.cell h
    cases c with
    | lst xs =>
      obtain ⟨vs, h2, _⟩ := hc
      exact .base (.lst h2)
def eIs (TT : String) (e : EM D) : EM D := fun ev S => ob (e ev S) fun d S1 => match kitB (tyD d) TT with
  | some b => .ok (.bl b) S1
  | none => .bad
theorem v_is {X : Cx} {W : XW} {e : Expr} {ea : EM D} {TT : String} {y : Str} {p p2 pos : Pos} (hg : Gl X "isinstance") (hm : X.mg "isinstance" = none) (hv : bootBuiltins "isinstance" = some (.builtin "isinstance")) (he : PE X e (T X.K W ea)) (gy : Gl X y) (my : X.mg y = none) (vy : bootBuiltins y = some (.type TT))
    (ny : y ≠ "__name__" := by decide) (dy : (y == ("__debug__" : Str)) = false := by decide)
    (hs : starEach [e, .Name y p2] X.env = (false, eval e X.env) :: starEach [.Name y p2] X.env := by rfl) (hs2 : starEach [.Name y p2] X.env = (false, eval (.Name y p2) X.env) :: starEach [] X.env := by rfl) (hpl : (backTo pos (starEach [.Name y p2] X.env)).any (·.1) = false := by rfl) :
    PE X (.Call (.Name "isinstance" p) [e, .Name y p2] [] pos) (T X.K W (eIs TT ea)) := by
  refine (pe_callB call_isi hg hm hv (pa_cons he (pa_cons (pe_bltn (v := V.ty TT) gy my vy rfl ny dy) pa_nil hs2) hs) (by decide) (by decide) hs hpl).imp fun σ H Q h => ?_
  obtain ⟨M, ev, S, st, en, h⟩ := h
  refine ⟨M, ev, S, st, en, ?_⟩
  unfold eIs at h
  generalize ea ev S = o1 at h ⊢
  cases o1 with
  | bad => exact h.elim
  | exc x S1 => exact h
  | ok d S1 =>
    intro M1 H1 v x1 st1 r1
    have h : OutP (match kitB (tyD d) TT with
      | some b => Out.ok (D.bl b) S1
      | none => .bad) _ _ := h
    generalize hk : kitB (tyD d) TT = o at h
    cases o with
    | none => exact h.elim
    | some b => exact ⟨v, .ty TT, .type (tyD d), .type TT, b, rfl, .ty TT, tyD_ok st1 r1, kit_ty hk, h M1 H1 _ x1 st1 rfl⟩

/-! ### list(range(n)) -/
def eLRg (e : EM D) : EM D := fun ev S => ob (e ev S) fun d S1 => match d with
  | .int n => if n ≤ 16777216 ∧ -16777216 ≤ n then .ok (.obj S1.length) (S1 ++ [.lst ((List.range n.toNat).map fun i : Nat => D.int i)]) else .bad
  | _ => .bad
theorem rel_rg {K : PySem.W.Frag} {H : Hp} {M : List Addr} {n : Int} : RelDs K H M ((List.range n.toNat).map fun i : Nat => D.int i) (rgV 0 n) := by
  unfold rgV
  rw [Int.sub_zero]
  generalize List.range n.toNat = l
  induction l with
  | nil => exact rfl
  | cons i r ih => exact ⟨_, _, rfl, by show V.int (0 + (i : Nat)) = V.int i; rw [Int.zero_add], ih⟩
theorem v_listRg {X : Cx} {W : XW} {e : Expr} {ea : EM D} {p p2 pos pos2 : Pos} (hc : X.calm = true) (hg : Gl X "list") (hm : X.mg "list" = none) (hg2 : Gl X "range") (hm2 : X.mg "range" = none) (he : PE X e (T X.K W ea))
    (na2 : starEach [e] X.env = (false, eval e X.env) :: starEach [] X.env := by rfl) (na : starEach [.Call (.Name "range" p2) [e] [] pos2] X.env = (false, eval (.Call (.Name "range" p2) [e] [] pos2) X.env) :: starEach [] X.env := by rfl) :
    PE X (.Call (.Name "list" p) [.Call (.Name "range" p2) [e] [] pos2] [] pos) (T X.K W (eLRg ea)) := by
  refine (pe_listRg hc hg hm (prg_1 hg2 hm2 he na2) na).imp fun σ H Q h => ?_
  obtain ⟨M, ev, S, st, en, h⟩ := h
  refine ⟨M, ev, S, st, en, ?_⟩
  unfold eLRg at h
  generalize ea ev S = o1 at h ⊢
  cases o1 with
  | bad => exact h.elim
  | exc x S1 => exact h
  | ok d S1 =>
    intro M1 H1 v x1 st1 r1
    cases d with
    | int n =>
      cases r1
      have h : OutP (if n ≤ 16777216 ∧ -16777216 ≤ n then Out.ok (D.obj S1.length) (S1 ++ [.lst ((List.range n.toNat).map fun i : Nat => D.int i)]) else .bad) _ _ := h
      split at h
      · rename_i hl
        refine ⟨n, rfl, ⟨by omega, by omega, by omega, by omega, by omega⟩, fun q hq => ?_⟩
        obtain ⟨st2, x2, e6⟩ := st1.push hq (rel_rg (n := n))
        exact h _ _ _ (x1.trans x2) st2 ⟨q, rfl, e6⟩
      · exact h.elim
    | _ => exact h.elim

/-! ### data of any depth: == and repr -/
mutual
def toP : D → Option PyData
  | .non => some .none
  | .bl b => some (.bool b)
  | .int i => some (.int i)
  | .str s => some (.str (tx s))
  | .tup xs => (toPs xs).map .tuple
  | .rol xs => (toPs xs).map .list
  | .obj _ => none
def toPs : List D → Option (List PyData)
  | [] => some []
  | x :: xs => (toP x).bind fun y => (toPs xs).map fun ys => y :: ys
end
section
variable {K : PySem.W.Frag} {H : Hp} {M : List Addr}
mutual
theorem toP_ok : ∀ (d : D) (v : V) (p : PyData), RelD K H M d v → toP d = some p → Dp K H v p
  | .non, v, p, r, e => by cases r; cases e; exact .non
  | .bl b, v, p, r, e => by cases r; cases e; exact .bl b
  | .int i, v, p, r, e => by cases r; cases e; exact .int i
  | .str s, v, p, r, e => by cases r; cases e; exact .str _
  | .tup xs, v, p, r, e => by
    obtain ⟨a, vs, rfl, h1, h2⟩ := r
    obtain ⟨ps, e1, rfl⟩ := Option.map_eq_some_iff.mp (show (toPs xs).map PyData.tuple = some p from e)
    exact .tup h1 (toPs_ok xs vs ps h2 e1)
  | .rol xs, v, p, r, e => by
    obtain ⟨a, vs, rfl, h1, h2⟩ := r
    obtain ⟨ps, e1, rfl⟩ := Option.map_eq_some_iff.mp (show (toPs xs).map PyData.list = some p from e)
    exact .lst h1.sqL (toPs_ok xs vs ps h2 e1)
  | .obj _, v, p, r, e => by cases e
theorem toPs_ok : ∀ (ds : List D) (vs : List V) (ps : List PyData), RelDs K H M ds vs → toPs ds = some ps → DpAll K H vs ps
  | [], vs, ps, r, e => by
    have r : vs = [] := r
    subst r
    cases e
    exact .nil
  | d :: ds, vs, ps, r, e => by
    obtain ⟨v, w, rfl, r1, r2⟩ := r
    obtain ⟨y, e1, e2⟩ := Option.bind_eq_some_iff.mp (show (toP d).bind (fun y => (toPs ds).map fun ys => y :: ys) = some ps from e)
    obtain ⟨ys, e3, rfl⟩ := Option.map_eq_some_iff.mp e2
    exact .cons (toP_ok d v y r1 e1) (toPs_ok ds w ys r2 e3)
end
/-- a list of the store at the top -/
def toPS (S : Store) (d : D) : Option PyData := match d with
  | .obj n => ((cellAt S n).bind toPs).map .list
  | d => toP d
theorem toPS_ok {S : Store} {d : D} {v : V} {p : PyData} (st : Sto K H M S) (r : RelD K H M d v) (e : toPS S d = some p) : Dp K H v p := by
  cases d with
  | obj n =>
    obtain ⟨a, rfl, h1⟩ := r
    obtain ⟨ps, e1, rfl⟩ := Option.map_eq_some_iff.mp (show ((cellAt S n).bind toPs).map PyData.list = some p from e)
    obtain ⟨xs, e2, e3⟩ := Option.bind_eq_some_iff.mp e1
    obtain ⟨_, vs, h2, h3⟩ := cellAt_lst st h1 e2
    exact .lst (.of h2) (toPs_ok xs vs ps h3 e3)
  | non => exact toP_ok _ v p r e
  | bl _ => exact toP_ok _ v p r e
  | int _ => exact toP_ok _ v p r e
  | str _ => exact toP_ok _ v p r e
  | tup _ => exact toP_ok _ v p r e
  | rol _ => exact toP_ok _ v p r e
end
def shOk (p : PyData) : Option PyData := if SeqAt.shaped p = true then some p else none
def eqPD : F2 := fun x y S => (toPS S x).bind fun a => (toPS S y).bind fun b => (shOk a).bind fun p => (shOk b).map fun q => (.bl (PyData.eqv p q), S)
def nePD : F2 := fun x y S => (toPS S x).bind fun a => (toPS S y).bind fun b => (shOk a).bind fun p => (shOk b).map fun q => (.bl (!PyData.eqv p q), S)
theorem shOk_ok {p q : PyData} (h : shOk p = some q) : q = p ∧ SeqAt.shaped p = true := by
  unfold shOk at h
  split at h
  · rename_i z
    cases h
    exact ⟨rfl, z⟩
  · cases h
theorem o2_eqP {K : PySem.W.Frag} : Op2 K (rEqD K) eqPD := by
  intro M H S d1 d2 x y d S' Q st r1 r2 e k
  obtain ⟨a, e1, e⟩ := Option.bind_eq_some_iff.mp (show (toPS S d1).bind (fun a => (toPS S d2).bind fun b => (shOk a).bind fun p => (shOk b).map fun q => (D.bl (PyData.eqv p q), S)) = some (d, S') from e)
  obtain ⟨b, e2, e⟩ := Option.bind_eq_some_iff.mp e
  obtain ⟨a', e3, e⟩ := Option.bind_eq_some_iff.mp e
  obtain ⟨b', e4, ez⟩ := Option.map_eq_some_iff.mp e
  obtain ⟨rfl, s1⟩ := shOk_ok e3
  obtain ⟨rfl, s2⟩ := shOk_ok e4
  cases ez
  exact ⟨_, _, toPS_ok st r1 e1, toPS_ok st r2 e2, s1, s2, k M H _ .refl st rfl⟩
theorem o2_neP {K : PySem.W.Frag} : Op2 K (rNeD K) nePD := by
  intro M H S d1 d2 x y d S' Q st r1 r2 e k
  obtain ⟨a, e1, e⟩ := Option.bind_eq_some_iff.mp (show (toPS S d1).bind (fun a => (toPS S d2).bind fun b => (shOk a).bind fun p => (shOk b).map fun q => (D.bl (!PyData.eqv p q), S)) = some (d, S') from e)
  obtain ⟨b, e2, e⟩ := Option.bind_eq_some_iff.mp e
  obtain ⟨a', e3, e⟩ := Option.bind_eq_some_iff.mp e
  obtain ⟨b', e4, ez⟩ := Option.map_eq_some_iff.mp e
  obtain ⟨rfl, s1⟩ := shOk_ok e3
  obtain ⟨rfl, s2⟩ := shOk_ok e4
  cases ez
  exact ⟨_, _, toPS_ok st r1 e1, toPS_ok st r2 e2, s1, s2, k M H _ .refl st rfl⟩
def rRepr (K : PySem.W.Frag) : List V → Hp → VK → Prop := fun xs H Q => ∃ a p, xs = [.ref a] ∧ Dp K H (.ref a) p ∧ p.showable = true ∧ p.hasDict = false ∧ p.depth ≤ 64 ∧ p.shown.length ≤ sizeLine ∧ Q (.str p.shown) H
theorem cr_repr {X : Cx} (hg : X.A.guards = some []) (hu : X.A.units + 65 < cLine) : CallR X (.builtin "repr") (rRepr X.K) := by
  intro pins s σ H vs us Q I r h
  obtain ⟨a, p, rfl, hd, h1, h2, h3, h4, q⟩ := h
  obtain ⟨u, rfl, ru⟩ := vals1 r
  obtain rfl : u = Value.ref a := ru
  obtain ⟨as, hr⟩ := Dp.reads I p _ _ hd rfl
  exact repr_of_reads' (h₀ := s.heap) hr h1 (PyData.noDict_hsm h2) hg (by omega) (fun _ _ e => e) (fun h' u tk hk => ⟨.str p.shown, H, I.kept (t' := tk) hk, ⟨u, rfl⟩, q⟩) h4
def reprOk (p : PyData) : Option PyData := if p.showable = true ∧ p.hasDict = false ∧ p.depth ≤ 64 ∧ p.shown.length ≤ LINE then some p else none
def reprD0 (x : D) (S : Store) : Option (D × Store) := match x with
  | .tup xs => ((toP (.tup xs)).bind reprOk).map fun p => (.str p.shown.cps.toList, S)
  | _ => none
abbrev reprD : FL := f1 reprD0
theorem ol_repr {K : PySem.W.Frag} : OpL K (rRepr K) reprD := by
  refine ol1 fun M H S d1 x d S' Q st r1 e k => ?_
  cases d1 with
  | tup xs =>
    obtain ⟨p, e1, e2⟩ := Option.map_eq_some_iff.mp (show ((toP (.tup xs)).bind reprOk).map (fun p => (D.str p.shown.cps.toList, S)) = some (d, S') from e)
    obtain ⟨p', e3, e4⟩ := Option.bind_eq_some_iff.mp e1
    cases e2
    unfold reprOk at e4
    split at e4
    · rename_i hz
      cases e4
      have r1' := r1
      obtain ⟨a, vs, rfl, h1, h2⟩ := r1'
      exact ⟨a, p, rfl, toP_ok _ _ _ r1 e3, hz.1, hz.2.1, hz.2.2.1, by rw [line_eq]; exact hz.2.2.2, k M H _ .refl st rfl⟩
    · cases e4
  | _ => cases e
end Sh

/-! Sh10: sorted pairs; replace of written signs. -/
namespace Sh
open PySem PySem.Spec PyProof.Rows L2

/-! ### sorted of pairs -/
def insP {α : Type} (lt : α → α → Bool) (x : α) : List α → List α
  | [] => [x]
  | y :: r => if lt y x = true then y :: insP lt x r else x :: y :: r
def srtP {α : Type} (lt : α → α → Bool) : List α → List α
  | [] => []
  | x :: r => insP lt x (srtP lt r)
section
open SrtO Srt
variable {α β : Type} {lt : α → α → Bool} {lt2 : β → β → Bool}
theorem stb_sy {l m : List α} (h : Stb lt l m) : Stb lt m l := ⟨h.perm.symm, fun x => (h.cls x).symm⟩
theorem ins_stb' (O : Swo lt) (x : α) : ∀ m : List α, Stb lt (insP lt x m) (x :: m)
  | [] => Stb.refl _
  | y :: r => by
    unfold insP
    by_cases h : lt y x = true
    · rw [if_pos h]
      have h1 : Stb lt ([y] ++ insP lt x r) ([y] ++ ([x] ++ r)) := (Stb.refl [y]).app (ins_stb' O x r)
      have h2 : Stb lt ([y] ++ [x]) ([x] ++ [y]) := Stb.swap O fun a ha b hb => by rw [List.mem_singleton.mp ha, List.mem_singleton.mp hb]; exact h
      have h3 : Stb lt (([y] ++ [x]) ++ r) (([x] ++ [y]) ++ r) := h2.app (Stb.refl r)
      exact h1.trans h3
    · rw [if_neg h]
      exact Stb.refl _
theorem ins_srtd (O : Swo lt) (x : α) : ∀ m : List α, Srtd lt m → Srtd lt (insP lt x m)
  | [], _ => srtd_one x
  | y :: r, h => by
    unfold insP
    have hp := List.pairwise_cons.mp h
    by_cases hx : lt y x = true
    · rw [if_pos hx]
      refine List.pairwise_cons.mpr ⟨fun z hz => ?_, ins_srtd O x r hp.2⟩
      rcases List.mem_cons.mp ((ins_stb' O x r).perm.mem_iff.mp hz) with e | hz
      · rw [e]
        exact O.asym _ _ hx
      · exact hp.1 z hz
    · rw [if_neg hx]
      have hx : lt y x = false := by simpa using hx
      refine List.pairwise_cons.mpr ⟨fun z hz => ?_, h⟩
      rcases List.mem_cons.mp hz with e | hz
      · rw [e]
        exact hx
      · exact O.tr x y z hx (hp.1 z hz)
theorem srt_stb (O : Swo lt) : ∀ m : List α, Stb lt (srtP lt m) m
  | [] => Stb.refl _
  | x :: r => (ins_stb' O x _).trans (show Stb lt ([x] ++ srtP lt r) ([x] ++ r) from (Stb.refl [x]).app (srt_stb O r))
theorem srt_srtd (O : Swo lt) : ∀ m : List α, Srtd lt (srtP lt m)
  | [] => List.Pairwise.nil
  | x :: r => ins_srtd O x _ (srt_srtd O r)
theorem srt_uniq (O : Swo lt) {l m : List α} (h1 : Srtd lt l) (h2 : Stb lt l m) : l = srtP lt m := stb_uniq O h1 (srt_srtd O m) (h2.trans (stb_sy (srt_stb O m)))
/-- related lists -/
inductive A2 (R : α → β → Prop) : List α → List β → Prop
  | nil : A2 R [] []
  | cons {a : α} {b : β} {l : List α} {m : List β} : R a b → A2 R l m → A2 R (a :: l) (b :: m)
theorem A2.ins {R : α → β → Prop} (h : ∀ a b c d, R a b → R c d → lt a c = lt2 b d) {x : α} {y : β} (hx : R x y) : ∀ {l : List α} {m : List β}, A2 R l m → A2 R (insP lt x l) (insP lt2 y m)
  | _, _, .nil => .cons hx .nil
  | a :: l, b :: m, .cons r t => by
    unfold insP
    rw [h a b x y r hx]
    split
    · exact .cons r (A2.ins h hx t)
    · exact .cons hx (.cons r t)
theorem A2.srt {R : α → β → Prop} (h : ∀ a b c d, R a b → R c d → lt a c = lt2 b d) : ∀ {l : List α} {m : List β}, A2 R l m → A2 R (srtP lt l) (srtP lt2 m)
  | _, _, .nil => .nil
  | _, _, .cons r t => A2.ins h r (A2.srt h t)
end
def ltZ {α : Type} (x y : α × (Int × Int)) : Bool := SrtO.lexB x.2 y.2
/-- the first parts, sorted by the second -/
def srtZ {α : Type} (xs : List α) (ps : List (Int × Int)) : List α := (srtP ltZ (xs.zip ps)).map (·.1)
def rSortedT (K : PySem.W.Frag) : List V → Hp → VK → Prop := fun vs H Q => ∃ (a : Addr) (xs : List V) (ps : List (Int × Int)), vs = [V.ref a] ∧ SqL K H a xs ∧ A2 (fun x (p : Int × Int) => ∃ t, x = V.ref t ∧ SqT K H t [.int p.1, .int p.2]) xs ps ∧
  ∀ p, H p = none → Q (.ref p) (upd H p (.lst (srtZ xs ps)))
open Classical in
noncomputable def pairK (h : Heap) (u : Value) : Int × Int := if q : ∃ p : Int × Int, Srt.IsPair h u p.1 p.2 then q.choose else (0, 0)
theorem pairK_eq {h : Heap} {u : Value} {p : Int × Int} (q : Srt.IsPair h u p.1 p.2) : pairK h u = p := by
  have ex : ∃ p : Int × Int, Srt.IsPair h u p.1 p.2 := ⟨p, q⟩
  unfold pairK
  rw [dif_pos ex]
  obtain ⟨a, o, t, u1, n, e, ho, hc, hd⟩ := ex.choose_spec
  obtain ⟨a', o', t', u1', n', e', ho', hc', hd'⟩ := q
  cases e.symm.trans e'
  cases ho.symm.trans ho'
  have z := hd.symm.trans hd'
  injection z with z1 z2
  have z3 : [Value.int ex.choose.1 t, .int ex.choose.2 u1] = [Value.int p.1 t', .int p.2 u1'] := congrArg Array.toList z1
  injection z3 with z4 z5
  injection z5 with z6 z7
  injection z4 with z4 _
  injection z6 with z6 _
  exact Prod.ext z4 z6
theorem a2_len {α β : Type} {R : α → β → Prop} : ∀ {l : List α} {m : List β}, A2 R l m → l.length = m.length
  | _, _, .nil => rfl
  | _, _, .cons _ t => congrArg (· + 1) (a2_len t)
theorem cr_sortedT {X : Cx} : CallR X (.builtin "sorted") (rSortedT X.K) := by
  intro pins s σ H vs us Q I r h
  obtain ⟨a, xs, ps, rfl, hs, hx, q⟩ := h
  obtain ⟨its, rv, hl, hz⟩ := I.list hs
  obtain ⟨u, rfl, ru⟩ := vals1 r
  obtain rfl : u = Value.ref a := ru
  have pr : ∀ (x : V) (u : Value) (p : Int × Int), RelV x u → (∃ t, x = V.ref t ∧ SqT X.K H t [.int p.1, .int p.2]) → Srt.IsPair s.heap u p.1 p.2 := by
    intro x u p rx hp
    obtain ⟨t, rfl, ht⟩ := hp
    obtain rfl : u = Value.ref t := rx
    obtain ⟨its2, r2, ⟨o, ho, hc, n, hd⟩, _⟩ := I.tuple ht
    obtain ⟨u1, u2, rfl, ri, rj⟩ := vals2 r2
    obtain ⟨t1, rfl⟩ := ri
    obtain ⟨t2, rfl⟩ := rj
    exact ⟨t, o, t1, t2, n, rfl, ho, hc, hd⟩
  have all : ∀ (xs : List V) (its : List Value) (ps : List (Int × Int)), Vals xs its → A2 (fun x (p : Int × Int) => ∃ t, x = V.ref t ∧ SqT X.K H t [.int p.1, .int p.2]) xs ps →
      (∀ v ∈ its, Srt.IsPair s.heap v (pairK s.heap v).1 (pairK s.heap v).2) ∧ A2 (fun (z : V × (Int × Int)) u => RelV z.1 u ∧ pairK s.heap u = z.2) (xs.zip ps) its := by
    intro xs its ps rv hx
    induction hx generalizing its with
    | nil =>
      cases rv
      exact ⟨fun v hv => by simp at hv, .nil⟩
    | cons hp _ ih =>
      cases rv with
      | cons r1 r2 =>
        obtain ⟨i1, i2⟩ := ih _ r2
        have hq := pr _ _ _ r1 hp
        have e := pairK_eq hq
        refine ⟨fun v hv => ?_, .cons ⟨r1, e⟩ i2⟩
        rcases List.mem_cons.mp hv with z | hv
        · subst z
          rw [e]
          exact hq
        · exact i1 v hv
  obtain ⟨hp, ha⟩ := all xs its ps rv hx
  refine SrtO.sorted_pairsO (k := pairK s.heap) hl.isList (by rw [← rv.length]; exact hz) hp fun h' d out h1 h2 kp hd hn => ?_
  have e : out = srtP (fun v u => SrtO.lexB (pairK s.heap v) (pairK s.heap u)) its := srt_uniq (SrtO.swo_lex _) h1 h2
  have ha2 := A2.srt (lt := ltZ) (lt2 := fun v u => SrtO.lexB (pairK s.heap v) (pairK s.heap u)) (fun a b c d r1 r2 => by
    show SrtO.lexB a.2 c.2 = SrtO.lexB (pairK s.heap b) (pairK s.heap d)
    rw [r1.2, r2.2]) ha
  rw [← e] at ha2
  have hv : ∀ (l : List (V × (Int × Int))) (m : List Value), A2 (fun (z : V × (Int × Int)) u => RelV z.1 u ∧ pairK s.heap u = z.2) l m → Vals (l.map (·.1)) m := by
    intro l m h
    induction h with
    | nil => exact .nil
    | cons r _ ih => exact .cons r.1 ih
  obtain ⟨n, hn⟩ := hn
  have rel := hv _ _ ha2
  have hlen : (srtZ xs ps).length ≤ sizeLine := by
    have z := rel.length
    have z2 := rv.length
    have z3 := h2.perm.length_eq
    show ((srtP ltZ (xs.zip ps)).map (·.1)).length ≤ sizeLine
    omega
  exact ⟨.ref d, upd H d (.lst (srtZ xs ps)), I.laid (t' := s.toks) kp hd ⟨hlen, out, n, rel, hn⟩, rfl, q d (I.hok.fresh hd)⟩
def pairsD : List D → Option (List (Int × Int))
  | [] => some []
  | .tup [.int i, .int j] :: r => (pairsD r).map ((i, j) :: ·)
  | _ => none
theorem pairsD_cons {d : D} {r : List D} {ps : List (Int × Int)} (h : pairsD (d :: r) = some ps) : ∃ i j qs, d = .tup [.int i, .int j] ∧ pairsD r = some qs ∧ ps = (i, j) :: qs := by
  unfold pairsD at h
  split at h
  · rename_i e
    exact absurd e (by simp)
  · rename_i i j r' e
    obtain ⟨qs, h1, h2⟩ := Option.map_eq_some_iff.mp h
    injection e with e1 e2
    subst e1 e2
    exact ⟨i, j, qs, rfl, h1, h2.symm⟩
  · cases h
theorem pairsD_ok {K : PySem.W.Frag} {H : Hp} {M : List Addr} : ∀ {ds : List D} {vs : List V} {ps : List (Int × Int)}, RelDs K H M ds vs → pairsD ds = some ps →
    A2 (fun x (p : Int × Int) => ∃ t, x = V.ref t ∧ SqT K H t [.int p.1, .int p.2]) vs ps ∧ A2 (fun (a : D × (Int × Int)) (b : V × (Int × Int)) => RelD K H M a.1 b.1 ∧ a.2 = b.2) (ds.zip ps) (vs.zip ps)
  | [], vs, ps, r, e => by
    have r : vs = [] := r
    subst r
    cases e
    exact ⟨.nil, .nil⟩
  | d :: ds, vs, ps, r, e => by
    obtain ⟨i, j, qs, rfl, e1, rfl⟩ := pairsD_cons e
    obtain ⟨v, w, rfl, r1, r2⟩ := r
    obtain ⟨h1, h2⟩ := pairsD_ok r2 e1
    have r1' := r1
    obtain ⟨t, us, rfl, h3, h4⟩ := r1'
    obtain ⟨x, y, rfl, q1, q2⟩ := rel2 h4
    cases q1; cases q2
    exact ⟨.cons ⟨t, rfl, h3⟩ h1, .cons ⟨r1, rfl⟩ h2⟩
def sortedD0 (x : D) (S : Store) : Option (D × Store) := (lstD x S).bind fun xs => (pairsD xs).map fun ps => (.obj S.length, S ++ [.lst (srtZ xs ps)])
abbrev sortedD : FL := f1 sortedD0
theorem ol_sorted {K : PySem.W.Frag} : OpL K (rSortedT K) sortedD := by
  refine ol1 fun M H S d1 x d S' Q st r1 e k => ?_
  obtain ⟨xs, e1, e2⟩ := Option.bind_eq_some_iff.mp (show (lstD d1 S).bind (fun xs => (pairsD xs).map fun ps => (D.obj S.length, S ++ [.lst (srtZ xs ps)])) = some (d, S') from e)
  obtain ⟨ps, e3, e4⟩ := Option.map_eq_some_iff.mp e2
  cases e4
  obtain ⟨p, vs, rfl, h1, h2⟩ := lstD_ok st r1 e1
  obtain ⟨h3, h4⟩ := pairsD_ok h2 e3
  have h5 := A2.srt (lt := ltZ) (lt2 := ltZ) (fun a b c d r1 r2 => by
    show SrtO.lexB a.2 c.2 = SrtO.lexB b.2 d.2
    rw [r1.2, r2.2]) h4
  have hv : ∀ (l : List (D × (Int × Int))) (m : List (V × (Int × Int))), A2 (fun a b => RelD K H M a.1 b.1 ∧ a.2 = b.2) l m → RelDs K H M (l.map (·.1)) (m.map (·.1)) := by
    intro l m h
    induction h with
    | nil => exact rfl
    | cons r _ ih => exact ⟨_, _, rfl, r.1, ih⟩
  refine ⟨p, vs, ps, rfl, h1, h3, fun l hl => ?_⟩
  obtain ⟨st2, x2, e6⟩ := st.push hl (hv _ _ h5)
  exact k _ _ _ x2 st2 ⟨l, rfl, e6⟩
end Sh

/-! Sh11: replace of written signs; a statement that surely gives out a token. -/
namespace Sh
open PySem PySem.Spec PyProof.Rows L2

/-- the tree gives out a token before it ends -/
def mint {α : Type} : Sem α → Prop
  | .rule _ k => mint (k ())
  | .at _ k => mint (k ())
  | .point _ k => mint (k ())
  | .ask k => ∀ x, mint (k x)
  | .load _ _ k => ∀ x, mint (k x)
  | .fresh _ => True
  | _ => False
theorem wp_mint {α : Type} (M : Model) (Γ : PySem.Ctx) (t : Sem α) : ∀ (Q : α → Pos → Shared → Prop) (E : Value → Pos → Shared → Prop) (p : Pos) (s : Shared), mint t → Sem.wp M Γ t Q E p s →
    Sem.wp M Γ t (fun a p' s' => 1 ≤ s'.toks ∧ Q a p' s') (fun e p' s' => 1 ≤ s'.toks ∧ E e p' s') p s := by
  induction t with
  | rule _ k ih => intro Q E p s hm h; exact ih () Q E p s hm h
  | «at» p' k ih => intro Q E p s hm h; exact ih () Q E p' s hm h
  | point _ k ih => intro Q E p s hm h; exact ih () Q E p s hm h
  | ask k ih => intro Q E p s hm h; exact ih _ Q E p s (hm _) h
  | load a _ k ih => intro Q E p s hm h; obtain ⟨o, ho, h⟩ := h; exact ⟨o, ho, ih o Q E p s (hm o) h⟩
  | fresh k ih => intro Q E p s _ h; exact Sem.wp_toks M Γ 1 (k _) Q E p _ (Nat.le_add_left 1 _) h
  | _ => intro Q E p s hm h; exact False.elim hm
theorem wpAny_mint {α : Type} {M : Model} {A : Around} {s : Shared} {t : Sem α} {Q : α → Shared → Prop} {E : Value → Shared → Prop} (hm : mint t) (h : wpAny M A t Q E s) :
    wpAny M A t (fun a s' => 1 ≤ s'.toks ∧ Q a s') (fun e s' => 1 ≤ s'.toks ∧ E e s') s := fun Γ p hΓ => wp_mint M Γ t _ _ p s hm (h Γ p hΓ)
section
variable {X : Cx} {W : XW} {st : Stmt} {rest : List Stmt} {m1 m2 : SM} {e f o : Expr} {es : List Expr} {ea eb : EM D} {er : EM (List D)} {pos : Pos} {t u : TS}
theorem pss_mint (h1 : PS X st t) (hm : mint (exec st X.env)) (h2 : PSsT X rest u) : PSs X (st :: rest) (tSeq t u) := by
  refine ⟨fun pins s σ H D I h => ?_⟩
  refine wpAny_execs_cons (wpAny_mono (wpAny_mint hm (h1.run pins s σ H { D with nx := u D } I h)) (fun f s1 q => ?_) fun _ _ x => x.2)
  obtain ⟨hk, q⟩ := q
  cases f with
  | next =>
    obtain ⟨σ', H', I', q⟩ := q
    exact h2 pins s1 σ' H' D hk I' q
  | ret v => exact q
  | brk => exact q
  | cont => exact q
theorem ss_mint (h1 : PS X st (Ts X.K W m1)) (hm : mint (exec st X.env)) (h2 : PSsT X rest (Ts X.K W m2)) : PSs X (st :: rest) (Ts X.K W (sCons m1 m2)) := (pss_mint h1 hm h2).imp cons_ok
theorem sst_cons (h1 : PST X st (Ts X.K W m1)) (h2 : PSsT X rest (Ts X.K W m2)) : PSsT X (st :: rest) (Ts X.K W (sCons m1 m2)) := fun pins s σ H D h0 I h => psst_cons h1 h2 pins s σ H D h0 I (cons_ok D σ H h)
theorem sst_of (h : PSs X rest (Ts X.K W m2)) : PSsT X rest (Ts X.K W m2) := PSsT.of h
theorem sst_ret (he : PET X e (T X.K W ea)) : PST X (.Return (some e) pos) (Ts X.K W (sRet ea)) := fun pins s σ H D h0 I h => CwR.pst_ret he pins s σ H D h0 I (ret_ok D σ H h)
theorem pst_set {te : TE} {i : Nat} {x : Str} {pos' : Pos} (hN : X.N.Nodup) (hi : X.N[i]? = some x) (hx : Loc X.env.scope x) (he : PET X e te) (hs : swapsWith e (some (.Name x pos')) pos.line X.env = pure false := by rfl) (hf : X.fn x = true ∨ X.env.scope.names.lookup x = some .local := by first | exact .inl rfl | exact .inr rfl | assumption) :
    PST X (.Assign [.Name x pos'] e pos) (tAsg te (gName i)) := by
  intro pins s σ H D h0 I h
  refine wpAny_Assign_Name (thn (he pins s σ H _ h0 I h) fun v s1 ⟨y, H1, I1, r1, q1⟩ => ?_) hs
  exact store_ok I1 hN hi hx r1 (fun s2 I2 => ⟨_, H1, I2, q1⟩) hf
theorem sst_set {i : Nat} {x : Str} {pos' : Pos} (hN : X.N.Nodup) (hi : X.N[i]? = some x) (hx : Loc X.env.scope x) (he : PET X e (T X.K W ea)) (hs : swapsWith e (some (.Name x pos')) pos.line X.env = pure false := by rfl) (hf : X.fn x = true ∨ X.env.scope.names.lookup x = some .local := by first | exact .inl rfl | exact .inr rfl | assumption) :
    PST X (.Assign [.Name x pos'] e pos) (Ts X.K W (sSet ea (gNm i))) := fun pins s σ H D h0 I h => pst_set hN hi hx he hs hf pins s σ H D h0 I (gnm_ok D σ H h)
theorem vt_of (h : PE X e (T X.K W ea)) : PET X e (T X.K W ea) := CwR.PET.of h
theorem vt_op {op : Operator} {r : R2} {g : F2} (ho : OpR X (binaryOp op) r) (hf : Op2 X.K r g) (ha : PET X e (T X.K W ea)) (hb : PET X f (T X.K W eb)) : PET X (.BinOp e op f pos) (T X.K W (eOp g ea eb)) :=
  fun pins s σ H Q h0 I h => CwR.pet_op ho ha hb pins s σ H Q h0 I (bin2 hf σ H Q h)
theorem at_nil : PAT X [] (Ta X.K W aNil) := fun pos pins s σ H Q h0 I h => pat_nil pos pins s σ H Q h0 I (tanil_ok σ H Q h)
theorem at_cons (ha : PET X e (T X.K W ea)) (hr : PAT X es (Ta X.K W er)) (hs : starEach (e :: es) X.env = (false, eval e X.env) :: starEach es X.env := by rfl) : PAT X (e :: es) (Ta X.K W (aCons ea er)) :=
  fun pos pins s σ H Q h0 I h => pat_cons ha hr hs pos pins s σ H Q h0 I (acons_ok σ H Q h)
theorem pet_tup {k} {ta : TA} (h : PAT X es ta) : PET X (.Tuple es k pos) (tTup ta) := by
  intro pins s σ H Q h0 I hq
  refine wpAny_Tuple_spliced (thn (h pos pins s σ H _ h0 I hq) fun us s1 ⟨xs, H1, I1, r, z, q⟩ => ⟨by rw [← r.length]; exact z, ?_⟩)
  have hf : H1 s1.heap.objs.size = none := I1.hok.fresh (Nat.le_refl _)
  refine ⟨.ref s1.heap.objs.size, upd H1 s1.heap.objs.size (.tup xs), I1.laid (t' := s1.toks) (fun b u e => Heap.get?_push_of_some _ e) (Nat.le_refl _) ?_, rfl, q _ hf⟩
  exact ⟨z, us, r, ⟨_, Heap.get?_push_size _ rfl, rfl, _, rfl⟩⟩
theorem vt_tup {k} (h : PAT X es (Ta X.K W er)) : PET X (.Tuple es k pos) (T X.K W (eTup er)) := fun pins s σ H Q h0 I hq => pet_tup h pins s σ H Q h0 I (tup_ok σ H Q hq)
/-- e.replace(y, z) -/
def eRep (y z : List Nat) (e : EM D) : EM D := fun ev S => ob (e ev S) fun d S1 => match d with
  | .str s => if y.isEmpty = false ∧ s.length + (s.length + 1) * z.length ≤ 16777216 then .ok (.str (StrLaws.replL y z s)) S1 else .bad
  | _ => .bad
theorem vt_rep {y z : Str} {ly lz : List Nat} {j k : Nat} {c0 c1 apos : Pos} (ho : PE X o (T X.K W ea)) (ey : y.cps.toList = ly := by rfl) (ez : z.cps.toList = lz := by rfl) (hyz : (y == z) = false := by decide)
    (hst : starEach [.Constant (.str y) j c0, .Constant (.str z) k c1] X.env = [(false, eval (.Constant (.str y) j c0) X.env), (false, eval (.Constant (.str z) k c1) X.env)] := by rfl)
    (hbase : attributeBase o "replace" X.env (eval o X.env) = eval o X.env := by rfl) (hline : (apos.endLine == pos.line) = true := by rfl) :
    PET X (.Call (.Attribute o "replace" apos) [.Constant (.str y) j c0, .Constant (.str z) k c1] [] pos) (T X.K W (eRep ly lz ea)) := by
  intro pins s σ H Q h0 I h
  refine CwR.pet_replC ho hyz hst hbase hline pins s σ H Q h0 I ?_
  obtain ⟨M, ev, S, st, en, h⟩ := h
  refine ⟨M, ev, S, st, en, ?_⟩
  subst ey ez
  unfold eRep at h
  generalize ea ev S = o1 at h ⊢
  cases o1 with
  | bad => exact h.elim
  | exc x S1 => exact h
  | ok d S1 =>
    intro M1 H1 v x1 st1 r1
    cases d with
    | str s =>
      cases r1
      have h : OutP (if y.cps.toList.isEmpty = false ∧ s.length + (s.length + 1) * z.cps.toList.length ≤ 16777216 then Out.ok (D.str (StrLaws.replL y.cps.toList z.cps.toList s)) S1 else .bad) _ _ := h
      split at h
      · rename_i hl
        refine ⟨tx s, rfl, ?_, ?_⟩
        · rw [tx_len]
          exact hl.2
        · have hy : 1 ≤ y.length := by
            have := hl.1
            show 1 ≤ y.cps.size
            rw [← Array.length_toList]
            cases q : y.cps.toList with
            | nil => rw [q] at this; cases this
            | cons _ _ => simp
          have e : Txt.replace (tx s) y z = tx (StrLaws.replL y.cps.toList z.cps.toList s) := by
            apply TL.ext_tl
            exact StrLaws.replace_list hy
          rw [e]
          exact h M1 H1 _ x1 st1 rfl
      · exact h.elim
    | _ => exact h.elim
end
end Sh

/-! Sh12: the law's end; the head's facts with tables. -/
namespace Sh
open PySem PySem.Spec PyProof.Rows L2

theorem rel_ints {K : PySem.W.Frag} {H : Hp} {M : List Addr} : ∀ ns : List Int, RelDs K H M (ns.map D.int) (ns.map V.int)
  | [] => rfl
  | i :: r => ⟨_, _, rfl, rfl, rel_ints r⟩
section
variable {P : Program} {w : World} {K : PySem.W.Frag} {mg mb : Str → Option Value} {k : Nat} {fa a : Addr} {fd : FuncData} {x : Str} {fn : Fn} {s1 : Shared} {vs : List Value} {ns : List Int}
/-- the law's def called, H the heap that tracks the script or nothing -/
theorem call_from {H : Hp} {S' : Store} (X : K.In s1.heap) (nm : s1.heap.Ns mainGlobals mg) (nb : s1.heap.Ns builtinsNs mb) (bb : ∀ x : Str, x ≠ "__name__" → mb x = bootBuiltins x) (nl : s1.heap.NoLimit) (ng : s1.gens = #[])
    (oa : s1.heap.get? a = some { cls := .type "list", data := .seq vs.toArray }) (only : ∀ b o, H b = some o → b = a ∧ K.lookup b = none ∧ ∃ ob xs, o = .frz ob (.lst xs)) (hok : HOk P w H s1.heap) (hR : RolP K H a (ns.map V.int))
    (room : Room k callerA) (gd : callerA.guards = some []) (F : ∀ base : Heap, K.In base → base.Ns mainGlobals mg → FnG P w K mg base k fa fd [x] fn) (bind : ∀ (s : Shared) (u : Value), BindsTo s fd ⟨[u], []⟩ [(x, u)])
    (val : fn [.rol (ns.map D.int)] [] = .ok (.bl true) S') :
    codeAny (model P w) callerA (.call (.ref fa) ⟨[.ref a], []⟩) (fun r s' => r = .ok (.ret (.bool true)) ∧ OldK s1.heap s'.heap ∧ s'.os = s1.os ∧ AllBare s'.gens) s1 := by
  have un_k : ∀ b o, K.lookup b = some o → H b = none := fun b o e => by
    cases q : H b with
    | none => rfl
    | some u =>
      have z := (only b u q).2.1
      rw [e] at z
      cases z
  have un_d : ∀ b o es ep, s1.heap.get? b = some o → o.data = .dict es ep → H b = none := fun b o es ep e d => by
    cases q : H b with
    | none => rfl
    | some u =>
      obtain ⟨rfl, _⟩ := only b u q
      cases oa.symm.trans e
      cases d
  have toNs : ∀ b (m : Str → Option Value), s1.heap.Ns b m → (hidT s1.heap H).Ns b m := fun b m h => by
    obtain ⟨o, es, ep, e, d, r⟩ := h
    exact ⟨o, es, ep, hidT_get e (un_d b o es ep e d), d, r⟩
  have kb : K.In (hidT s1.heap H) := fun b o e => hidT_get (X b o e) (un_k b o e)
  have md : Mod K mg (hidT s1.heap H) := by
    obtain ⟨mc, l1, l2⟩ := nl
    exact ⟨kb, toNs _ _ nm, ⟨mb, toNs _ _ nb, bb⟩, ⟨mc, toNs _ _ l1, l2⟩⟩
  have env : Env0 P w K mg (hidT s1.heap H) callerA [] s1 H := by
    refine ⟨rfl, md, fun b o e => of_hidT e, ?_, trivial, ?_, hok, .of_eq ng⟩
    · rw [hidT_size]
      exact Nat.le_refl _
    · intro b hb
      cases hb
  have wish : spOf K 1 fn [.ref a] H (fun v _ => v = .bl true) E0 := by
    refine ⟨[], [.rol (ns.map D.int)], [], ⟨rfl, List.nodup_nil, fun i c b e _ => by simp at e⟩, ⟨_, _, rfl, ⟨a, _, rfl, hR, rel_ints ns⟩, rfl⟩, rfl, ?_⟩
    rw [val]
    exact fun _ _ v _ _ r => r
  refine codeAny_mono ((F _ kb (toNs _ _ nm)).run callerA [] s1 H ⟨[.ref a], []⟩ [.ref a] [.ref a] _ room gd env (bind s1 (.ref a)) (.cons rfl .nil) wish) fun r s' h => ?_
  match r, h with
  | .ok (.ret u), h =>
    obtain ⟨v, H2, os, br, un, hk2, rv, rfl⟩ := h
    obtain rfl : u = Value.bool true := rv
    refine ⟨rfl, OldK.of_keep fun b o e => ?_, os, br⟩
    cases q : H b with
    | none => exact un.keep b o e q (by simp [frs]) (by simp)
    | some z =>
      obtain ⟨_, _, ob, xs, rfl⟩ := only b z q
      have e1 := (hok b _ q).1
      have e2 := (hk2 b _ (un.frzs b ob _ q)).1
      rw [e] at e1
      rw [e2, ← e1]
  | .ok .next, h => exact False.elim h
  | .ok .brk, h => exact False.elim h
  | .ok .cont, h => exact False.elim h
  | .error e, h => exact False.elim h
theorem law_end {S' : Store} (X : K.In s1.heap) (nm : s1.heap.Ns mainGlobals mg) (nb : s1.heap.Ns builtinsNs mb) (bb : ∀ x : Str, x ≠ "__name__" → mb x = bootBuiltins x) (nl : s1.heap.NoLimit) (ng : s1.gens = #[])
    (oa : s1.heap.get? a = some { cls := .type "list", data := .seq vs.toArray }) (hi : IntsAre vs ns) (hl : ns.length ≤ sizeLine) (room : Room k callerA) (gd : callerA.guards = some [])
    (F : ∀ base : Heap, K.In base → base.Ns mainGlobals mg → FnG P w K mg base k fa fd [x] fn) (bind : ∀ (s : Shared) (u : Value), BindsTo s fd ⟨[u], []⟩ [(x, u)]) (val : fn [.rol (ns.map D.int)] [] = .ok (.bl true) S') :
    codeAny (model P w) callerA (.call (.ref fa) ⟨[.ref a], []⟩) (fun r s' => r = .ok (.ret (.bool true)) ∧ OldK s1.heap s'.heap ∧ s'.os = s1.os ∧ AllBare s'.gens) s1 := by
  have rv := vals_ints hi
  cases q : K.lookup a with
  | some o =>
    have e := X a o q
    rw [oa] at e
    cases e
    refine call_from (H := fun _ => none) X nm nb bb nl ng oa (fun b o z => by cases z) (fun b o z => by cases z) (.inr ⟨_, vs.toArray, _, q, rfl, rfl, rfl, ?_, ?_⟩) room gd F bind val
    · rw [List.size_toArray, hi.length]
      exact hl
    · exact rv
  | none =>
    let ob : Obj := { cls := .type "list", data := .seq vs.toArray }
    let H : Hp := fun b => if b = a then some (.frz ob (.lst (ns.map V.int))) else none
    have ha : H a = some (.frz ob (.lst (ns.map V.int))) := if_pos rfl
    have at_ : ∀ b o, H b = some o → b = a ∧ o = .frz ob (.lst (ns.map V.int)) := fun b o z => by
      by_cases hb : b = a
      · subst hb
        rw [ha] at z
        cases z
        exact ⟨rfl, rfl⟩
      · have z2 : H b = none := if_neg hb
        rw [z2] at z
        cases z
    refine call_from (H := H) X nm nb bb nl ng oa (fun b o z => ?_) (fun b o z => ?_) (.inl ⟨ob, ha⟩) room gd F bind val
    · obtain ⟨rfl, rfl⟩ := at_ b o z
      exact ⟨rfl, q, ob, _, rfl⟩
    · obtain ⟨rfl, rfl⟩ := at_ b o z
      exact ⟨oa, by rw [List.length_map]; exact hl, vs, _, rv, oa⟩
end
/-! the head's facts, with tables of the module -/
def tabsB (tb : List (Str × List He.Dv)) (K : PySem.W.Frag) : Bool := tb.all fun t => He.tupB K t.1 t.2 && (He.Fa.glo t.1).ok K
abbrev AlT : Type := He.AlD × Bool
def obsT (n : Nat) (fa : List He.Fa) (fn : List He.DefD) (tb : List (Str × List He.Dv)) (g : Addr → Option Obj) : AlT := (He.obsDG n fa fn g, tabsB tb (He.frG g (He.asD g n)))
structure SaysT (fa : List He.Fa) (fn : List He.DefD) (tb : List (Str × List He.Dv)) (K : PySem.W.Frag) : Prop where
  d : He.SaysD fa fn K
  t : tabsB tb K = true
def hookT (n : Nat) (fa : List He.Fa) (fn : List He.DefD) (tb : List (Str × List He.Dv)) : PySem.W.Hook where
  α := AlT
  obs s := obsT n fa fn tb s.heap.get?
  val _ := (He.valD fn, true)
  says _ h := ∃ K : PySem.W.Frag, K.In h ∧ SaysT fa fn tb K
  of _ _ e := ⟨_, He.frG_in, ⟨congrArg (fun z : AlT => z.1) e, congrArg (fun z : AlT => z.2) e⟩⟩
  keeps _ _ _ z k := let ⟨K, hK, c⟩ := z; ⟨K, PySem.W.Frag.In.keeps hK k, c⟩
theorem obsT_eq {n : Nat} {fa : List He.Fa} {fn : List He.DefD} {tb : List (Str × List He.Dv)} {g : Addr → Option Obj} {s : Shared} (h : ∀ a, g a = s.heap.get? a) : obsT n fa fn tb g = (hookT n fa fn tb).obs s := by
  rw [funext h]
  rfl
theorem SaysT.tab {fa : List He.Fa} {fn : List He.DefD} {tb : List (Str × List He.Dv)} {K : PySem.W.Frag} (c : SaysT fa fn tb K) (i : Nat) {t : Str × List He.Dv} (h : tb[i]? = some t := by rfl) : (∀ H, SqT K H (He.ga K t.1) (t.2.map (He.Dv.v K))) ∧ (He.Fa.glo t.1).ok K = true := by
  obtain ⟨h1, h2⟩ := He.ba (List.all_eq_true.mp c.t t (List.mem_of_getElem? h))
  exact ⟨fun H => He.tupB_ok h1 H, h2⟩
example : callerA.guards = some [] := rfl
theorem walk_end {l : PySem.W.OpenLaw} {n k : Nat} {q : Program} {loose : List Str} {XP : (Str → Option Value) → Heap → Prop} {YP : World → Heap → Prop} {d : DefRec} {x : Str} {fn : Fn}
    (hn : l.most = some n) (hn2 : n ≤ sizeLine) (hdf : d.params.defaults = []) (hr : Room k callerA) (gd : callerA.guards = some [])
    (F : ∀ (w : World) (mg : Str → Option Value) (fa : Addr) (h : Heap), YP w h → h.Ns mainGlobals mg → mg d.name = some (.ref fa) → ∃ (K : PySem.W.Frag) (fd : FuncData), K.In h ∧ (∀ (s : Shared) (u : Value), BindsTo s fd ⟨[u], []⟩ [(x, u)]) ∧
      ∀ base : Heap, K.In base → base.Ns mainGlobals mg → FnG l.prog w K mg base k fa fd [x] fn)
    (val : ∀ ns : List Int, ns.length ≤ n → ∃ S', fn [.rol (ns.map D.int)] [] = .ok (.bl true) S') : PySem.W.WalkO q loose XP YP l.row.toRowW d [] (fun f vs => PySem.call f vs) := by
  refine Att.attach_call hn hdf fun w _ s1 mg _ fa _ _ _ _ a vs ns G Y _ _ _ hmg hobj hints hlen hg => ?_
  obtain ⟨K, fd, KX, hb, hF⟩ := F w mg fa _ Y G.T.g hmg
  obtain ⟨S', hv⟩ := val ns hlen
  exact law_end KX G.T.g G.T.b G.T.builtins G.T.nolimit hg hobj hints (Nat.le_trans hlen hn2) hr gd hF hb hv
end Sh

/-! Sh13: for the printed texts: defs by name, the module's constants. -/
namespace Sh
open PySem PySem.Spec PyProof.Rows L2

/-- the module's name x is a def that does fn -/
structure Cal (P : Program) (w : World) (K : PySem.W.Frag) (mg : Str → Option Value) (base : Heap) (k : Nat) (x : Str) (ps : List Str) (fn : Fn) : Prop where
  ex : ∃ (f : Addr) (fd : FuncData), FnG P w K mg base k f fd ps fn ∧ mg x = some (.ref f) ∧ PySem.W.keepIn K (.ref f) = true ∧ Binds K fd ps []
/-- the module's name x is a tuple of texts -/
structure TabS (K : PySem.W.Frag) (mg : Str → Option Value) (x : Str) (ss : List (List Nat)) : Prop where
  ex : ∃ a : Addr, mg x = some (.ref a) ∧ ∀ H, SqT K H a ((ss.map tx).map V.str)
section
variable {X : Cx} {W : XW} {k j n : Nat} {ps : List Str} {fn : Fn} {x : Str} {p pos kpos : Pos} {e : Expr} {es : List Expr} {er : EM (List D)}
theorem c_call (c : Cal X.prog X.w X.K X.mg X.base k x ps fn) (hr : Room j X.A) (hj : k ≤ j) (hgd : X.A.guards = some []) (hg : Gl X x) (ha : PA X (e :: es) (Ta X.K W er)) (hn : ∀ ev S ds S', er ev S = .ok ds S' → ds.length = n) (hps : ps.length = n := by rfl) (hdb : (x == ("__debug__" : Str)) = false := by decide)
    (he : starEach (e :: es) X.env = (false, eval e X.env) :: starEach es X.env := by rfl) (hpl : (backTo pos (starEach es X.env)).any (·.1) = false := by rfl) : PE X (.Call (.Name x p) (e :: es) [] pos) (T X.K W (eCall0 fn er)) := by
  obtain ⟨f, fd, F, hm, hk, hb⟩ := c.ex
  exact v_call F (hr.mono hj) hgd hg hm hk hb ha hn hps hdb he hpl
theorem c_call0 (c : Cal X.prog X.w X.K X.mg X.base k x ps fn) (hr : Room j X.A) (hj : k ≤ j) (hgd : X.A.guards = some []) (hg : Gl X x) (hps : ps.length = 0 := by rfl) (hdb : (x == ("__debug__" : Str)) = false := by decide) :
    PE X (.Call (.Name x p) [] [] pos) (T X.K W (eCall0 fn aNil)) := by
  obtain ⟨f, fd, F, hm, hk, hb⟩ := c.ex
  exact v_call_nil F (hr.mono hj) hgd hg hm hk hb hps hdb
theorem g_str {t : Str} {d : List Nat} (h : ∃ u, X.mg x = some (.str t u)) (hg : Gl X x) (e : t.cps.toList = d) (hd : (x == ("__debug__" : Str)) = false := by decide) : PE X (.Name x pos) (T X.K W (eC (.str d))) := by
  obtain ⟨u, h⟩ := h
  subst e
  exact v_glob (v := .str t) hg h ⟨u, rfl⟩ (fun _ _ => rfl) hd
theorem g_int {i : Int} (h : ∃ u, X.mg x = some (.int i u)) (hg : Gl X x) (hd : (x == ("__debug__" : Str)) = false := by decide) : PE X (.Name x pos) (T X.K W (eC (.int i))) := by
  obtain ⟨u, h⟩ := h
  exact v_glob (v := .int i) hg h ⟨u, rfl⟩ (fun _ _ => rfl) hd
theorem g_tab {ss : List (List Nat)} (h : TabS X.K X.mg x ss) (hg : Gl X x) (hd : (x == ("__debug__" : Str)) = false := by decide) : PE X (.Name x pos) (T X.K W (eC (.tup (ss.map D.str)))) := by
  obtain ⟨a, h1, h2⟩ := h.ex
  exact v_glob (v := .ref a) hg h1 rfl (fun H M => ⟨a, _, rfl, h2 H, rel_strs ss⟩) hd
end
theorem fnp_cal {P : Program} {w : World} {K : PySem.W.Frag} {mg : Str → Option Value} {base : Heap} {k : Nat} {x q : Str} {ps : List Str} {fn : Fn} {f : Addr} {fd : FuncData} {pa : Arguments} {b : List Stmt} {sc : Scope} (F : FunD K x q pa b sc [] [] f fd) (G : FnG P w K mg base k f fd ps fn) (hm : mg x = some (.ref f))
    (h : ∀ (kV doc pm : Value) (an : Option Addr) (cdv ct : Value) (us : List Value), us.length = ps.length → bindArgs (PySem.W.fnOf x q pa b sc .none kV doc pm an cdv ct) ⟨us, []⟩ = pure (ps.zip us)) : Cal P w K mg base k x ps fn :=
  ⟨f, fd, G, hm, F.kp, F.bindsN h⟩
/-- the same, called with its one parameter named -/
structure CalK (P : Program) (w : World) (K : PySem.W.Frag) (mg : Str → Option Value) (base : Heap) (k : Nat) (x nm : Str) (fn : Fn) : Prop where
  ex : ∃ (f : Addr) (fd : FuncData), FnG P w K mg base k f fd [nm] fn ∧ mg x = some (.ref f) ∧ PySem.W.keepIn K (.ref f) = true ∧ ∀ (s : Shared) (u : Value), BindsTo s fd ⟨[], [(nm, u)]⟩ [(nm, u)]
theorem c_callk {X : Cx} {W : XW} {k j : Nat} {fn : Fn} {x nm : Str} {p pos kpos : Pos} {e : Expr} {ea : EM D} (c : CalK X.prog X.w X.K X.mg X.base k x nm fn) (hr : Room j X.A) (hj : k ≤ j) (hgd : X.A.guards = some []) (hg : Gl X x) (ha : PE X e (T X.K W ea)) (hdb : (x == ("__debug__" : Str)) = false := by decide)
    (hall : (backToKw pos (keywordEach [⟨some nm, e, kpos⟩] X.env)).all (·.1.isSome) = true := by rfl) (hks : (backToKw pos (keywordEach [⟨some nm, e, kpos⟩] X.env)).filterMap (·.1) = [nm] := by rfl)
    (hpl : ((backTo pos (starEach [] X.env)).any (·.1) || (backToKw pos (keywordEach [⟨some nm, e, kpos⟩] X.env)).any (·.1.isNone)) = false := by rfl) :
    PE X (.Call (.Name x p) [] [⟨some nm, e, kpos⟩] pos) (T X.K W (eCall0 fn (aCons ea aNil))) := by
  obtain ⟨f, fd, F, hm, hk, hb⟩ := c.ex
  exact v_call_kw1 F (hr.mono hj) hgd hg hm hk hb ha hdb hall hks hpl
theorem fnp_calk {P : Program} {w : World} {K : PySem.W.Frag} {mg : Str → Option Value} {base : Heap} {k : Nat} {x q nm : Str} {fn : Fn} {f : Addr} {fd : FuncData} {pa : Arguments} {b : List Stmt} {sc : Scope} (F : FunD K x q pa b sc [] [] f fd) (G : FnG P w K mg base k f fd [nm] fn) (hm : mg x = some (.ref f))
    (h : ∀ (kV doc pm : Value) (an : Option Addr) (cdv ct : Value) (u : Value), bindArgs (PySem.W.fnOf x q pa b sc .none kV doc pm an cdv ct) ⟨[], [(nm, u)]⟩ = pure [(nm, u)]) : CalK P w K mg base k x nm fn := by
  refine ⟨f, fd, G, hm, F.kp, fun s u => ?_⟩
  obtain ⟨_, _, dV, kV, doc, pm, an, cdv, ct, _, rfl, _, _, hd, _⟩ := F.ex
  rcases hd with ⟨_, rfl⟩ | ⟨z, _⟩
  · exact .of_eq (h kV doc pm an cdv ct u)
  · exact absurd rfl z
def iaddD : F2
  | .int i, .int j, S => some (.int (i + j), S)
  | _, _, _ => none
theorem o2_iadd {K : PySem.W.Frag} : Op2 K (rI0 fun i j => .int (i + j)) iaddD := by
  intro M H S d1 d2 x y d S' Q st r1 r2 h k
  match d1, d2, h with
  | .int i, .int j, h =>
    cases r1; cases r2; cases h
    exact ⟨i, j, rfl, rfl, k M H _ .refl st rfl⟩
theorem tab_of {K : PySem.W.Frag} {H : Hp} {a : Addr} {ss : List (List Nat)} (h : SqT K H a ((ss.map fun s => He.Dv.str (tx s)).map (He.Dv.v K))) : SqT K H a ((ss.map tx).map V.str) := by
  rw [List.map_map] at h ⊢
  exact h
theorem u64 {k : Nat} {A : Around} (r : Room k A) : A.units + 64 < cLine := by have := r.un; omega
theorem u65 {k : Nat} {A : Around} (r : Room k A) : A.units + 65 < cLine := by have := r.un; omega
/-- more than the turns of any loop -/
def FUEL : Nat := 100000000
end Sh

namespace K00
open PySem PySem.Spec PyProof.Rows L2 Sh
theorem boot_of_len : bootBuiltins "len" = some (.builtin "len") := by decide +kernel
theorem boot_of_int : bootBuiltins "int" = some (.type "int") := by decide +kernel
theorem boot_of_str : bootBuiltins "str" = some (.type "str") := by decide +kernel
theorem boot_of_abs : bootBuiltins "abs" = some (.builtin "abs") := by decide +kernel
theorem boot_of_max : bootBuiltins "max" = some (.builtin "max") := by decide +kernel
theorem boot_of_min : bootBuiltins "min" = some (.builtin "min") := by decide +kernel
theorem boot_of_sum : bootBuiltins "sum" = some (.builtin "sum") := by decide +kernel
theorem boot_of_all : bootBuiltins "all" = some (.builtin "all") := by decide +kernel
theorem boot_of_list : bootBuiltins "list" = some (.type "list") := by decide +kernel
theorem boot_of_tuple : bootBuiltins "tuple" = some (.type "tuple") := by decide +kernel
theorem boot_of_sorted : bootBuiltins "sorted" = some (.builtin "sorted") := by decide +kernel
theorem boot_of_repr : bootBuiltins "repr" = some (.builtin "repr") := by decide +kernel
theorem boot_of_isinstance : bootBuiltins "isinstance" = some (.builtin "isinstance") := by decide +kernel
def top (i : Nat) : Stmt := PySem.Challenge.pw_begunended_k00_whole_tokens_of_drawn_row.main.body.getD i (.Pass ⟨0, 0, 0, 0⟩)
abbrev FnP (K : PySem.W.Frag) (x : Str) (st : Stmt) (f : Addr) (fd : FuncData) : Prop := FunD K x x (defArgs st) (defBody st) (defScope st) [] [] f fd
def tab_COMMENTS : List (List Nat) := [[123], [40, 42]]
def tab_ENDS : List (List Nat) := [[125], [42, 41]]
def tab_RESERVED : List (List Nat) := [[97, 110, 100], [97, 114, 114, 97, 121], [98, 101, 103, 105, 110], [99, 97, 115, 101], [99, 111, 110, 115, 116], [100, 105, 118], [100, 111], [100, 111, 119, 110, 116, 111], [101, 108, 115, 101], [101, 110, 100], [102, 105, 108, 101], [102, 111, 114], [102, 117, 110, 99, 116, 105, 111, 110], [103, 111, 116, 111], [105, 102], [105, 110], [108, 97, 98, 101, 108], [109, 111, 100], [110, 105, 108], [110, 111, 116]] ++ [[111, 102], [111, 114], [112, 97, 99, 107, 101, 100], [112, 114, 111, 99, 101, 100, 117, 114, 101], [112, 114, 111, 103, 114, 97, 109], [114, 101, 99, 111, 114, 100], [114, 101, 112, 101, 97, 116], [115, 101, 116], [116, 104, 101, 110], [116, 111], [116, 121, 112, 101], [117, 110, 116, 105, 108], [118, 97, 114], [119, 104, 105, 108, 101], [119, 105, 116, 104]]
def tab_TWO_SIGNS : List (List Nat) := [[60, 62], [60, 61], [62, 61], [46, 46], [58, 61]]
/-- the module's names -/
structure Txt (K : PySem.W.Frag) (mg : Str → Option Value) : Prop where
  b_abs : mg "abs" = none
  b_all : mg "all" = none
  b_enumerate : mg "enumerate" = none
  b_int : mg "int" = none
  b_isinstance : mg "isinstance" = none
  b_len : mg "len" = none
  b_list : mg "list" = none
  b_max : mg "max" = none
  b_min : mg "min" = none
  b_range : mg "range" = none
  b_repr : mg "repr" = none
  b_sorted : mg "sorted" = none
  b_str : mg "str" = none
  b_sum : mg "sum" = none
  b_tuple : mg "tuple" = none
  g_BLANKS : ∃ u, mg "BLANKS" = some (.str " \n" u)
  g_COMMENTS : TabS K mg "COMMENTS" tab_COMMENTS
  g_ENDS : TabS K mg "ENDS" tab_ENDS
  g_FEED : ∃ u, mg "FEED" = some (.str "\n" u)
  g_FIGURES : ∃ u, mg "FIGURES" = some (.str "0123456789" u)
  g_LETTERS : ∃ u, mg "LETTERS" = some (.str "abcdefghijklmnopqrstuvwxyz" u)
  g_MOST : ∃ u, mg "MOST" = some (.int 2147483647 u)
  g_MOST_FIGURES : ∃ u, mg "MOST_FIGURES" = some (.int 10 u)
  g_NAME : ∃ u, mg "NAME" = some (.str "name" u)
  g_NUMBER : ∃ u, mg "NUMBER" = some (.str "number" u)
  g_ONE_SIGNS : ∃ u, mg "ONE_SIGNS" = some (.str "+-*=<>()[].,:;^" u)
  g_QUOTE : ∃ u, mg "QUOTE" = some (.str "'" u)
  g_RESERVED : TabS K mg "RESERVED" tab_RESERVED
  g_SIGN : ∃ u, mg "SIGN" = some (.str "sign" u)
  g_STRING : ∃ u, mg "STRING" = some (.str "string" u)
  g_TWO_SIGNS : TabS K mg "TWO_SIGNS" tab_TWO_SIGNS
  g_WORD : ∃ u, mg "WORD" = some (.str "word" u)
/-! _law_take: 0 pot, 1 upto, 2 digit, 3 prime, 4 blend -/
abbrev s__law_take : Stmt := top 30
def m__law_take : SM := (sCons (sIf (qCmp gtD (eOp ixD (eVar 0) (eC (.int 0))) (eC (.int 0))) (sCons (sSet (eOp modD (eB intD (aCons (eOp ixD (eVar 0) (eC (.int 0))) aNil)) (eVar 1)) (gNm 2)) (sCons (sSub setD (eVar 0) (eC (.int 0)) (eOp fdivD (eOp ixD (eVar 0) (eC (.int 0))) (eVar 1))) (sCons (sRet (eVar 2)) sNil))) sNil) (sCons (sSub setD (eVar 0) (eC (.int 2)) (eOp addD (eOp ixD (eVar 0) (eC (.int 2))) (eC (.int 1)))) (sCons (sSet (eOp ixD (eLst (aCons (eC (.int 2147483647)) (aCons (eC (.int 2147483629)) (aCons (eC (.int 2147483587)) (aCons (eC (.int 2147483579)) (aCons (eC (.int 2147483563)) aNil)))))) (eOp modD (eB intD (aCons (eOp ixD (eVar 0) (eC (.int 2))) aNil)) (eC (.int 5)))) (gNm 3)) (sCons (sSet (eOp modD (eB intD (aCons (eOp powD (eB intD (aCons (eOp addD (eOp addD (eOp ixD (eVar 0) (eC (.int 1))) (eOp mulD (eOp mulD (eC (.int 96001)) (eOp ixD (eVar 0) (eC (.int 2)))) (eOp ixD (eVar 0) (eC (.int 2))))) (eC (.int 171))) aNil)) (eC (.int 3))) aNil)) (eVar 3)) (gNm 4)) (sCons (sRet (eOp modD (eB intD (aCons (eOp fdivD (eOp mulD (eVar 4) (eOp addD (eOp modD (eB intD (aCons (eVar 4) aNil)) (eC (.int 10007))) (eOp mulD (eC (.int 151)) (eOp ixD (eVar 0) (eC (.int 2)))))) (eC (.int 173))) aNil)) (eVar 1))) sNil)))))
def f__law_take : Fn := fnOf 5 m__law_take
theorem sc__law_take : FnScope ["pot", "upto", "digit", "prime", "blend"] ["pot", "upto"] (defScope s__law_take) := ⟨rfl, rfl, rfl, by decide +kernel, rfl, by decide +kernel, by decide +kernel⟩
set_option maxHeartbeats 4000000 in
theorem ok__law_take {P : Program} {w : World} {K : PySem.W.Frag} {mg : Str → Option Value} {base : Heap} {f : Addr} {fd : FuncData} (F : FnP K "_law_take" s__law_take f fd) (T : Txt K mg) : FnG P w K mg base 1 f fd ["pot", "upto"] f__law_take :=
  fn_ok F sc__law_take fun cdv A outer s H hr hgd => (ss_cons (s_if (q_cmp op_gt (o2_cmp fun i j => decide (i > j)) (v_ix ix_seq o2_ix (v_var (i := 0) rfl (.inl rfl)) v_int (fun _ _ => rfl)) v_int (nomark _)) (ss_cons (s_set (i := 2) sc__law_take.nd rfl (.inl rfl) (v_op op_mod o2_mod (v_callTy call_intA ol_int (by rfl) T.b_int boot_of_int (a_cons (v_ix ix_seq o2_ix (v_var (i := 0) rfl (.inl rfl)) v_int (fun _ _ => rfl)) a_nil)) (v_var (i := 1) rfl (.inl rfl)))) (ss_cons (s_sub (v_op op_fdivW o2_fdiv (v_ix ix_seq o2_ix (v_var (i := 0) rfl (.inl rfl)) v_int (fun _ _ => rfl)) (v_var (i := 1) rfl (.inl rfl))) (v_var (i := 0) rfl (.inl rfl)) v_int set_list os_set) (ss_cons (s_ret (v_var (i := 2) rfl (.inl rfl))) ss_nil))) ss_nil) (ss_cons (s_sub (v_op op_addA o2_add (v_ix ix_seq o2_ix (v_var (i := 0) rfl (.inl rfl)) v_int (fun _ _ => rfl)) v_int) (v_var (i := 0) rfl (.inl rfl)) v_int set_list os_set) (ss_cons (s_set (i := 3) sc__law_take.nd rfl (.inl rfl) (v_ix ix_seq o2_ix (v_lst (a_cons v_int (a_cons v_int (a_cons v_int (a_cons v_int (a_cons v_int a_nil)))))) (v_op op_mod o2_mod (v_callTy call_intA ol_int (by rfl) T.b_int boot_of_int (a_cons (v_ix ix_seq o2_ix (v_var (i := 0) rfl (.inl rfl)) v_int (fun _ _ => rfl)) a_nil)) v_int) (fun _ _ => rfl))) (ss_cons (s_set (i := 4) sc__law_take.nd rfl (.inl rfl) (v_op op_mod o2_mod (v_callTy call_intA ol_int (by rfl) T.b_int boot_of_int (a_cons (v_op op_powW o2_pow (v_callTy call_intA ol_int (by rfl) T.b_int boot_of_int (a_cons (v_op op_addA o2_add (v_op op_addA o2_add (v_ix ix_seq o2_ix (v_var (i := 0) rfl (.inl rfl)) v_int (fun _ _ => rfl)) (v_op op_mulA o2_mul (v_op op_mulA o2_mul v_int (v_ix ix_seq o2_ix (v_var (i := 0) rfl (.inl rfl)) v_int (fun _ _ => rfl))) (v_ix ix_seq o2_ix (v_var (i := 0) rfl (.inl rfl)) v_int (fun _ _ => rfl)))) v_int) a_nil)) v_int) a_nil)) (v_var (i := 3) rfl (.inl rfl)))) (ss_cons (s_ret (v_op op_mod o2_mod (v_callTy call_intA ol_int (by rfl) T.b_int boot_of_int (a_cons (v_op op_fdivW o2_fdiv (v_op op_mulA o2_mul (v_var (i := 4) rfl (.inl rfl)) (v_op op_addA o2_add (v_op op_mod o2_mod (v_callTy call_intA ol_int (by rfl) T.b_int boot_of_int (a_cons (v_var (i := 4) rfl (.inl rfl)) a_nil)) v_int) (v_op op_mulA o2_mul v_int (v_ix ix_seq o2_ix (v_var (i := 0) rfl (.inl rfl)) v_int (fun _ _ => rfl))))) v_int) a_nil)) (v_var (i := 1) rfl (.inl rfl)))) ss_nil)))))
/-! _law_may_touch: 0 one, 1 other, 2 last, 3 first -/
abbrev s__law_may_touch : Stmt := top 39
def m__law_may_touch : SM := (sCons (sIf (qOr (qCmp eqD (eVar 0) (eC (.str []))) (qCmp eqD (eVar 1) (eC (.str [])))) (sCons (sRet (eC (.bl true))) sNil) sNil) (sCons (sPar2 2 3 (aCons (eSl slD (eVar 0) (ePart (eUn negD (eC (.int 1)))) eNoPart) (aCons (eSl slD (eVar 1) eNoPart (ePart (eC (.int 1)))) aNil))) (sCons (sIf (qTru (eMt0 "str" isalphaD (eSl slD (eVar 0) eNoPart (ePart (eC (.int 1)))))) (sCons (sRet (eNot (eMt0 "str" isalnumD (eVar 3)))) sNil) sNil) (sCons (sIf (qTru (eMt0 "str" isdigitD (eSl slD (eVar 0) eNoPart (ePart (eC (.int 1)))))) (sCons (sRet (eNot (eMt0 "str" isdigitD (eVar 3)))) sNil) sNil) (sCons (sIf (qCmp eqD (eVar 2) (eC (.str [39]))) (sCons (sRet (eOp neD (eVar 3) (eC (.str [39])))) sNil) sNil) (sCons (sRet (eOp notInD (eOp addD (eVar 0) (eVar 3)) (eLst (aCons (eC (.str [60, 61])) (aCons (eC (.str [60, 62])) (aCons (eC (.str [62, 61])) (aCons (eC (.str [46, 46])) (aCons (eC (.str [58, 61])) (aCons (eC (.str [40, 42])) aNil))))))))) sNil))))))
def f__law_may_touch : Fn := fnOf 4 m__law_may_touch
theorem sc__law_may_touch : FnScope ["one", "other", "last", "first"] ["one", "other"] (defScope s__law_may_touch) := ⟨rfl, rfl, rfl, by decide +kernel, rfl, by decide +kernel, by decide +kernel⟩
set_option maxHeartbeats 4000000 in
theorem ok__law_may_touch {P : Program} {w : World} {K : PySem.W.Frag} {mg : Str → Option Value} {base : Heap} {f : Addr} {fd : FuncData} (F : FnP K "_law_may_touch" s__law_may_touch f fd) (T : Txt K mg) : FnG P w K mg base 1 f fd ["one", "other"] f__law_may_touch :=
  fn_ok F sc__law_may_touch fun cdv A outer s H hr hgd => (ss_cons (s_if (PW.pt (q_or (q_cmp op_eq o2_eq (v_var (i := 0) rfl (.inl rfl)) (v_str rfl) (nomark _)) (q_or1 (q_cmp op_eq o2_eq (v_var (i := 1) rfl (.inl rfl)) (v_str rfl) (nomark _))))) (ss_cons (s_ret v_bl) ss_nil) ss_nil) (ss_cons (s_par2 (i := 2) (j := 3) rfl sc__law_may_touch.nd rfl rfl (by decide) rfl rfl (a_cons (v_slice sl_all o3_sl (v_var (i := 0) rfl (.inl rfl)) (o_some (v_un un_neg o1_neg v_int)) o_none) (a_cons (v_slice sl_all o3_sl (v_var (i := 1) rfl (.inl rfl)) o_none (o_some v_int)) a_nil)) (by rfl)) (ss_cons (s_if (q_tru (v_mt0 PySem.F.plainAttrs_str PySem.F.slot_str_isalpha PySem.F.type_str_isalpha mt_isalpha om_isalpha (v_slice sl_all o3_sl (v_var (i := 0) rfl (.inl rfl)) o_none (o_some v_int)))) (ss_cons (s_ret (v_not (v_mt0 PySem.F.plainAttrs_str PySem.F.slot_str_isalnum PySem.F.type_str_isalnum mt_isalnum om_isalnum (v_var (i := 3) rfl (.inl rfl))))) ss_nil) ss_nil) (ss_cons (s_if (q_tru (v_mt0 PySem.F.plainAttrs_str PySem.F.slot_str_isdigit PySem.F.type_str_isdigit mt_isdigit om_isdigit (v_slice sl_all o3_sl (v_var (i := 0) rfl (.inl rfl)) o_none (o_some v_int)))) (ss_cons (s_ret (v_not (v_mt0 PySem.F.plainAttrs_str PySem.F.slot_str_isdigit PySem.F.type_str_isdigit mt_isdigit om_isdigit (v_var (i := 3) rfl (.inl rfl))))) ss_nil) ss_nil) (ss_cons (s_if (q_cmp op_eq o2_eq (v_var (i := 2) rfl (.inl rfl)) (v_str rfl) (nomark _)) (ss_cons (s_ret (v_cmp op_ne o2_ne (v_var (i := 3) rfl (.inl rfl)) (v_str rfl) (nomark _))) ss_nil) ss_nil) (ss_cons (s_ret (v_cmp op_notInA o2_notIn (v_op op_addA o2_add (v_var (i := 0) rfl (.inl rfl)) (v_var (i := 3) rfl (.inl rfl))) (v_lst (a_cons (v_str rfl) (a_cons (v_str rfl) (a_cons (v_str rfl) (a_cons (v_str rfl) (a_cons (v_str rfl) (a_cons (v_str rfl) a_nil))))))) rfl)) ss_nil))))))
/-! _law_of: 0 pot, 1 some -/
abbrev s__law_of : Stmt := top 31
def m__law_of : SM := (sCons (sRet (eOp ixD (eVar 1) (eCall0 f__law_take (aCons (eVar 0) (aCons (eB lenD (aCons (eVar 1) aNil)) aNil))))) sNil)
def f__law_of : Fn := fnOf 2 m__law_of
theorem sc__law_of : FnScope ["pot", "some"] ["pot", "some"] (defScope s__law_of) := ⟨rfl, rfl, rfl, by decide +kernel, rfl, by decide +kernel, by decide +kernel⟩
set_option maxHeartbeats 4000000 in
theorem ok__law_of {P : Program} {w : World} {K : PySem.W.Frag} {mg : Str → Option Value} {base : Heap} {f : Addr} {fd : FuncData} (F : FnP K "_law_of" s__law_of f fd) (T : Txt K mg) (C__law_take : Cal P w K mg base 1 "_law_take" ["pot", "upto"] f__law_take) : FnG P w K mg base 2 f fd ["pot", "some"] f__law_of :=
  fn_ok F sc__law_of fun cdv A outer s H hr hgd => (ss_cons (s_ret (v_ix ix_seq o2_ix (v_var (i := 1) rfl (.inl rfl)) (c_call C__law_take hr (by decide) hgd (by rfl) (a_cons (v_var (i := 0) rfl (.inl rfl)) (a_cons (v_callB call_len ol_len (by rfl) T.b_len boot_of_len (a_cons (v_var (i := 1) rfl (.inl rfl)) a_nil)) a_nil)) (aCons_len (aCons_len aNil_len))) (fun _ _ => rfl))) ss_nil)
/-! _law_comment: 0 pot, 1 some, 2 inner, 3 lap -/
abbrev s__law_comment : Stmt := top 40
def m__law_comment : SM := (sCons (sSet (eLst (aCons (eC (.str [97])) (aCons (eC (.str [39])) (aCons (eC (.str [123])) (aCons (eC (.str [40, 42])) (aCons (eC (.str [42])) (aCons (eC (.str [98, 101, 103, 105, 110])) (aCons (eC (.str [32])) (aCons (eC (.str [10])) (aCons (eC (.str [59])) (aCons (eC (.str [49, 50])) (aCons (eC (.str [40])) (aCons (eC (.str [42, 32, 41])) (aCons (eC (.str [39, 39])) aNil)))))))))))))) (gNm 1)) (sCons (sSet (eMt "str" joinD (eC (.str [])) (aCons (eLc FUEL (iRng1 (aCons (eCall0 f__law_take (aCons (eVar 0) (aCons (eC (.int 5)) aNil))) aNil)) (gNm 3) qYes (eCall0 f__law_of (aCons (eVar 0) (aCons (eVar 1) aNil))) [3]) aNil)) (gNm 2)) (sCons (sSet (eRep [42, 41] [42, 32, 41] (eVar 2)) (gNm 2)) (sCons (sRet (eOp addD (eOp addD (eCall0 f__law_of (aCons (eVar 0) (aCons (eLst (aCons (eC (.str [123])) (aCons (eC (.str [40, 42])) aNil))) aNil))) (eVar 2)) (eCall0 f__law_of (aCons (eVar 0) (aCons (eLst (aCons (eC (.str [125])) (aCons (eC (.str [42, 41])) aNil))) aNil))))) sNil))))
def f__law_comment : Fn := fnOf 4 m__law_comment
theorem sc__law_comment : FnScope ["pot", "some", "inner", "lap"] ["pot"] (defScope s__law_comment) := ⟨rfl, rfl, rfl, by decide +kernel, rfl, by decide +kernel, by decide +kernel⟩
set_option maxHeartbeats 4000000 in
theorem ok__law_comment {P : Program} {w : World} {K : PySem.W.Frag} {mg : Str → Option Value} {base : Heap} {f : Addr} {fd : FuncData} (F : FnP K "_law_comment" s__law_comment f fd) (T : Txt K mg) (C__law_of : Cal P w K mg base 2 "_law_of" ["pot", "some"] f__law_of) (C__law_take : Cal P w K mg base 1 "_law_take" ["pot", "upto"] f__law_take) : FnG P w K mg base 3 f fd ["pot"] f__law_comment :=
  fn_ok F sc__law_comment fun cdv A outer s H hr hgd => (ss_cons (s_set (i := 1) sc__law_comment.nd rfl (.inr rfl) (v_lst (a_cons (v_str rfl) (a_cons (v_str rfl) (a_cons (v_str rfl) (a_cons (v_str rfl) (a_cons (v_str rfl) (a_cons (v_str rfl) (a_cons (v_str rfl) (a_cons (v_str rfl) (a_cons (v_str rfl) (a_cons (v_str rfl) (a_cons (v_str rfl) (a_cons (v_str rfl) (a_cons (v_str rfl) a_nil))))))))))))))) (ss_mint (s_set (i := 2) sc__law_comment.nd rfl (.inl rfl) (v_mt PySem.F.plainAttrs_str PySem.F.slot_str_join PySem.F.type_str_join mt_join om_join (v_str rfl) (a_cons (v_lc FUEL rfl sc__law_comment.nd (i_rng1 (by rfl) T.b_range (a_cons (c_call C__law_take hr (by decide) hgd (by rfl) (a_cons (v_var (i := 0) rfl (.inr (.inl rfl))) (a_cons v_int a_nil)) (aCons_len (aCons_len aNil_len))) a_nil)) (own := [("lap", 3)]) (by show BlkOk ["pot", "some", "inner", "lap"] (defScope s__law_comment) _ _; exact blkOk_by (by decide +kernel)) (by decide) (fun _ _ _ _ _ => (t_name (i := 3) sc__law_comment.nd rfl (.inl rfl))) (fun _ _ _ _ _ => qs_nil) (fun _ _ _ _ _ => (c_call C__law_of hr (by decide) hgd (by rfl) (a_cons (v_var (i := 0) rfl (.inr (.inl rfl))) (a_cons (v_var (i := 1) rfl (.inr (.inl rfl))) a_nil)) (aCons_len (aCons_len aNil_len))))) a_nil))) (by exact trivial) (sst_cons (sst_set (i := 2) sc__law_comment.nd rfl (.inl rfl) (vt_rep (v_var (i := 2) rfl (.inl rfl)))) (sst_cons (PST.of (s_ret (v_op op_addA o2_add (v_op op_addA o2_add (c_call C__law_of hr (by decide) hgd (by rfl) (a_cons (v_var (i := 0) rfl (.inr (.inl rfl))) (a_cons (v_lst (a_cons (v_str rfl) (a_cons (v_str rfl) a_nil))) a_nil)) (aCons_len (aCons_len aNil_len))) (v_var (i := 2) rfl (.inl rfl))) (c_call C__law_of hr (by decide) hgd (by rfl) (a_cons (v_var (i := 0) rfl (.inr (.inl rfl))) (a_cons (v_lst (a_cons (v_str rfl) (a_cons (v_str rfl) a_nil))) a_nil)) (aCons_len (aCons_len aNil_len)))))) (sst_of ss_nil)))))
/-! _law_gap: 0 pot, 1 one, 2 other, 3 found -/
abbrev s__law_gap : Stmt := top 41
def m__law_gap : SM := (sCons (sIf (qAnd (qTru (eCall0 f__law_may_touch (aCons (eVar 1) (aCons (eVar 2) aNil)))) (qCmp eqD (eCall0 f__law_take (aCons (eVar 0) (aCons (eC (.int 2)) aNil))) (eC (.int 0)))) (sCons (sRet (eC (.str []))) sNil) sNil) (sCons (sSet (eCall0 f__law_of (aCons (eVar 0) (aCons (eLst (aCons (eC (.str [32])) (aCons (eC (.str [10])) (aCons (eC (.str [32, 32])) (aCons (eC (.str [32, 10, 32])) (aCons (eC (.str [10, 10])) (aCons (eCall0 f__law_comment (aCons (eVar 0) aNil)) (aCons (eOp addD (eOp addD (eC (.str [32])) (eCall0 f__law_comment (aCons (eVar 0) aNil))) (eC (.str [32]))) aNil)))))))) aNil))) (gNm 3)) (sCons (sRet (eVar 3)) sNil)))
def f__law_gap : Fn := fnOf 4 m__law_gap
theorem sc__law_gap : FnScope ["pot", "one", "other", "found"] ["pot", "one", "other"] (defScope s__law_gap) := ⟨rfl, rfl, rfl, by decide +kernel, rfl, by decide +kernel, by decide +kernel⟩
set_option maxHeartbeats 4000000 in
theorem ok__law_gap {P : Program} {w : World} {K : PySem.W.Frag} {mg : Str → Option Value} {base : Heap} {f : Addr} {fd : FuncData} (F : FnP K "_law_gap" s__law_gap f fd) (T : Txt K mg) (C__law_of : Cal P w K mg base 2 "_law_of" ["pot", "some"] f__law_of) (C__law_comment : Cal P w K mg base 3 "_law_comment" ["pot"] f__law_comment) (C__law_take : Cal P w K mg base 1 "_law_take" ["pot", "upto"] f__law_take) (C__law_may_touch : Cal P w K mg base 1 "_law_may_touch" ["one", "other"] f__law_may_touch) : FnG P w K mg base 4 f fd ["pot", "one", "other"] f__law_gap :=
  fn_ok F sc__law_gap fun cdv A outer s H hr hgd => (ss_cons (s_if (PW.pt (q_and (q_tru (c_call C__law_may_touch hr (by decide) hgd (by rfl) (a_cons (v_var (i := 1) rfl (.inl rfl)) (a_cons (v_var (i := 2) rfl (.inl rfl)) a_nil)) (aCons_len (aCons_len aNil_len)))) (q_and1 (q_cmp op_eq o2_eq (c_call C__law_take hr (by decide) hgd (by rfl) (a_cons (v_var (i := 0) rfl (.inl rfl)) (a_cons v_int a_nil)) (aCons_len (aCons_len aNil_len))) v_int (nomark _))))) (ss_cons (s_ret (v_str rfl)) ss_nil) ss_nil) (ss_cons (s_set (i := 3) sc__law_gap.nd rfl (.inl rfl) (c_call C__law_of hr (by decide) hgd (by rfl) (a_cons (v_var (i := 0) rfl (.inl rfl)) (a_cons (v_lst (a_cons (v_str rfl) (a_cons (v_str rfl) (a_cons (v_str rfl) (a_cons (v_str rfl) (a_cons (v_str rfl) (a_cons (c_call C__law_comment hr (by decide) hgd (by rfl) (a_cons (v_var (i := 0) rfl (.inl rfl)) a_nil) (aCons_len aNil_len)) (a_cons (v_op op_addA o2_add (v_op op_addA o2_add (v_str rfl) (c_call C__law_comment hr (by decide) hgd (by rfl) (a_cons (v_var (i := 0) rfl (.inl rfl)) a_nil) (aCons_len aNil_len))) (v_str rfl)) a_nil)))))))) a_nil)) (aCons_len (aCons_len aNil_len)))) (ss_cons (s_ret (v_var (i := 3) rfl (.inl rfl))) ss_nil)))
/-! _law_words: 0 some, 1 more -/
abbrev s__law_words : Stmt := top 34
def m__law_words : SM := (sCons (sSet (eC (.str [97, 110, 100, 32, 97, 114, 114, 97, 121, 32, 98, 101, 103, 105, 110, 32, 99, 97, 115, 101, 32, 99, 111, 110, 115, 116, 32, 100, 105, 118, 32, 100, 111, 32, 100, 111, 119, 110, 116, 111, 32, 101, 108, 115, 101, 32, 101, 110, 100, 32, 102, 105, 108, 101, 32, 102, 111, 114, 32, 102, 117, 110, 99, 116, 105, 111, 110, 32, 103, 111, 116, 111, 32, 105, 102, 32, 105, 110, 32, 108, 97, 98, 101, 108, 32, 109, 111, 100, 32, 110, 105, 108, 32, 110, 111, 116, 32, 111, 102, 32, 111, 114])) (gNm 0)) (sCons (sSet (eC (.str [112, 97, 99, 107, 101, 100, 32, 112, 114, 111, 99, 101, 100, 117, 114, 101, 32, 112, 114, 111, 103, 114, 97, 109, 32, 114, 101, 99, 111, 114, 100, 32, 114, 101, 112, 101, 97, 116, 32, 115, 101, 116, 32, 116, 104, 101, 110, 32, 116, 111, 32, 117, 110, 116, 105, 108, 32, 118, 97, 114, 32, 119, 104, 105, 108, 101, 32, 119, 105, 116, 104])) (gNm 1)) (sCons (sRet (eOp addD (eMt "str" splitD (eOp addD (eOp addD (eVar 0) (eC (.str [32]))) (eVar 1)) (aCons (eC (.str [32])) aNil)) (eLst (aCons (eOp addD (eC (.str [116, 121])) (eC (.str [112, 101]))) aNil)))) sNil)))
def f__law_words : Fn := fnOf 2 m__law_words
theorem sc__law_words : FnScope ["some", "more"] [] (defScope s__law_words) := ⟨rfl, rfl, rfl, by decide +kernel, rfl, by decide +kernel, by decide +kernel⟩
set_option maxHeartbeats 4000000 in
theorem ok__law_words {P : Program} {w : World} {K : PySem.W.Frag} {mg : Str → Option Value} {base : Heap} {f : Addr} {fd : FuncData} (F : FnP K "_law_words" s__law_words f fd) (T : Txt K mg) : FnG P w K mg base 1 f fd [] f__law_words :=
  fn_ok F sc__law_words fun cdv A outer s H hr hgd => (ss_cons (s_set (i := 0) sc__law_words.nd rfl (.inl rfl) (v_str rfl)) (ss_cons (s_set (i := 1) sc__law_words.nd rfl (.inl rfl) (v_str rfl)) (ss_cons (s_ret (v_op op_addA o2_add (v_mt PySem.F.plainAttrs_str PySem.F.slot_str_split PySem.F.type_str_split mt_split om_split (v_op op_addA o2_add (v_op op_addA o2_add (v_var (i := 0) rfl (.inl rfl)) (v_str rfl)) (v_var (i := 1) rfl (.inl rfl))) (a_cons (v_str rfl) a_nil)) (v_lst (a_cons (v_op op_addA o2_add (v_str rfl) (v_str rfl)) a_nil)))) ss_nil)))
/-! _law_spelt: 0 pot, 1 word, 2 sign -/
abbrev s__law_spelt : Stmt := top 35
def m__law_spelt : SM := (sCons (sRet (eMt "str" joinD (eC (.str [])) (aCons (eLc FUEL (iSeq (eVar 1)) (gNm 2) qYes (eIf (qCmp eqD (eCall0 f__law_take (aCons (eVar 0) (aCons (eC (.int 3)) aNil))) (eC (.int 0))) (eMt0 "str" upperD (eVar 2)) (eVar 2)) [2]) aNil))) sNil)
def f__law_spelt : Fn := fnOf 3 m__law_spelt
theorem sc__law_spelt : FnScope ["pot", "word", "sign"] ["pot", "word"] (defScope s__law_spelt) := ⟨rfl, rfl, rfl, by decide +kernel, rfl, by decide +kernel, by decide +kernel⟩
set_option maxHeartbeats 4000000 in
theorem ok__law_spelt {P : Program} {w : World} {K : PySem.W.Frag} {mg : Str → Option Value} {base : Heap} {f : Addr} {fd : FuncData} (F : FnP K "_law_spelt" s__law_spelt f fd) (T : Txt K mg) (C__law_take : Cal P w K mg base 1 "_law_take" ["pot", "upto"] f__law_take) : FnG P w K mg base 2 f fd ["pot", "word"] f__law_spelt :=
  fn_ok F sc__law_spelt fun cdv A outer s H hr hgd => (ss_cons (s_ret (v_mt PySem.F.plainAttrs_str PySem.F.slot_str_join PySem.F.type_str_join mt_join om_join (v_str rfl) (a_cons (v_lc FUEL rfl sc__law_spelt.nd (i_seq (v_var (i := 1) rfl (.inl rfl))) (own := [("sign", 2)]) (by show BlkOk ["pot", "word", "sign"] (defScope s__law_spelt) _ _; exact blkOk_by (by decide +kernel)) (by decide) (fun _ _ _ _ _ => (t_name (i := 2) sc__law_spelt.nd rfl (.inl rfl))) (fun _ _ _ _ _ => qs_nil) (fun _ _ _ _ _ => (v_if (q_cmp op_eq o2_eq (c_call C__law_take hr (by decide) hgd (by rfl) (a_cons (v_var (i := 0) rfl (.inr (.inl rfl))) (a_cons v_int a_nil)) (aCons_len (aCons_len aNil_len))) v_int (nomark _)) (v_mt0 PySem.F.plainAttrs_str PySem.F.slot_str_upper PySem.F.type_str_upper mt_upper om_upper (v_var (i := 2) rfl (.inl rfl))) (v_var (i := 2) rfl (.inl rfl))))) a_nil))) ss_nil)
/-! _law_name: 0 pot, 1 while_more, 2 found, 3 lap -/
abbrev s__law_name : Stmt := top 33
def m__law_name : SM := (sCons (sSet (eCall0 f__law_of (aCons (eVar 0) (aCons (eLst (aCons (eC (.int 0)) (aCons (eC (.int 0)) (aCons (eC (.int 1)) (aCons (eC (.int 2)) (aCons (eC (.int 3)) (aCons (eC (.int 5)) (aCons (eC (.int 9)) aNil)))))))) aNil))) (gNm 1)) (sCons (sSet (eCall0 f__law_of (aCons (eVar 0) (aCons (eC (.str [97, 98, 99, 100, 101, 102, 103, 104, 105, 106, 107, 108, 109, 110, 111, 112, 113, 114, 115, 116, 117, 118, 119, 120, 121, 122, 65, 66, 67, 68, 69, 70, 71, 72, 73, 74, 75, 76, 77, 78, 79, 80, 81, 82, 83, 84, 85, 86, 87, 88, 89, 90])) aNil))) (gNm 2)) (sCons (sFor FUEL (iRng1 (aCons (eVar 1) aNil)) (gNm 3) (sCons (sSet (eOp addD (eVar 2) (eCall0 f__law_of (aCons (eVar 0) (aCons (eC (.str [97, 98, 99, 100, 101, 102, 103, 104, 105, 106, 107, 108, 109, 110, 111, 112, 113, 114, 115, 116, 117, 118, 119, 120, 121, 122, 65, 66, 67, 68, 69, 70, 71, 72, 73, 74, 75, 76, 77, 78, 79, 80, 81, 82, 83, 84, 85, 86, 87, 88, 89, 90, 48, 49, 50, 51, 52, 53, 54, 55, 56, 57])) aNil)))) (gNm 2)) sNil)) (sCons (sRet (eOp addD (eVar 2) (eOp mulD (eC (.str [113])) (eB intD (aCons (eOp inD (eMt0 "str" lowerD (eVar 2)) (eCall0 f__law_words aNil)) aNil))))) sNil))))
def f__law_name : Fn := fnOf 4 m__law_name
theorem sc__law_name : FnScope ["pot", "while_more", "found", "lap"] ["pot"] (defScope s__law_name) := ⟨rfl, rfl, rfl, by decide +kernel, rfl, by decide +kernel, by decide +kernel⟩
set_option maxHeartbeats 4000000 in
theorem ok__law_name {P : Program} {w : World} {K : PySem.W.Frag} {mg : Str → Option Value} {base : Heap} {f : Addr} {fd : FuncData} (F : FnP K "_law_name" s__law_name f fd) (T : Txt K mg) (C__law_words : Cal P w K mg base 1 "_law_words" [] f__law_words) (C__law_of : Cal P w K mg base 2 "_law_of" ["pot", "some"] f__law_of) : FnG P w K mg base 3 f fd ["pot"] f__law_name :=
  fn_ok F sc__law_name fun cdv A outer s H hr hgd => (ss_cons (s_set (i := 1) sc__law_name.nd rfl (.inl rfl) (c_call C__law_of hr (by decide) hgd (by rfl) (a_cons (v_var (i := 0) rfl (.inl rfl)) (a_cons (v_lst (a_cons v_int (a_cons v_int (a_cons v_int (a_cons v_int (a_cons v_int (a_cons v_int (a_cons v_int a_nil)))))))) a_nil)) (aCons_len (aCons_len aNil_len)))) (ss_cons (s_set (i := 2) sc__law_name.nd rfl (.inl rfl) (c_call C__law_of hr (by decide) hgd (by rfl) (a_cons (v_var (i := 0) rfl (.inl rfl)) (a_cons (v_str rfl) a_nil)) (aCons_len (aCons_len aNil_len)))) (ss_cons (s_for FUEL PassesOwn.never rfl (i_rng1 (by rfl) T.b_range (a_cons (v_var (i := 1) rfl (.inl rfl)) a_nil)) (t_name (i := 3) sc__law_name.nd rfl (.inl rfl)) (ss_cons (s_set (i := 2) sc__law_name.nd rfl (.inl rfl) (v_op op_addA o2_add (v_var (i := 2) rfl (.inl rfl)) (c_call C__law_of hr (by decide) hgd (by rfl) (a_cons (v_var (i := 0) rfl (.inl rfl)) (a_cons (v_str rfl) a_nil)) (aCons_len (aCons_len aNil_len))))) ss_nil)) (ss_cons (s_ret (v_op op_addA o2_add (v_var (i := 2) rfl (.inl rfl)) (v_op op_mulA o2_mul (v_str rfl) (v_callTy call_intA ol_int (by rfl) T.b_int boot_of_int (a_cons (v_cmp op_inA o2_in (v_mt0 PySem.F.plainAttrs_str PySem.F.slot_str_lower PySem.F.type_str_lower mt_lower om_lower (v_var (i := 2) rfl (.inl rfl))) (c_call0 C__law_words hr (by decide) hgd (by rfl)) rfl) a_nil))))) ss_nil))))
/-! _law_number: 0 pot, 1 number -/
abbrev s__law_number : Stmt := top 37
def m__law_number : SM := (sCons (sSet (eCall0 f__law_of (aCons (eVar 0) (aCons (eLst (aCons (eC (.int 0)) (aCons (eC (.int 1)) (aCons (eC (.int 9)) (aCons (eC (.int 10)) (aCons (eC (.int 255)) (aCons (eC (.int 2147483647)) (aCons (eC (.int 2147483646)) (aCons (eCall0 f__law_take (aCons (eVar 0) (aCons (eC (.int 2147483648)) aNil))) (aCons (eCall0 f__law_take (aCons (eVar 0) (aCons (eC (.int 1000)) aNil))) aNil)))))))))) aNil))) (gNm 1)) (sCons (sRet (eTup (aCons (eOp addD (eOp mulD (eC (.str [48])) (eCall0 f__law_of (aCons (eVar 0) (aCons (eLst (aCons (eC (.int 0)) (aCons (eC (.int 0)) (aCons (eC (.int 0)) (aCons (eC (.int 0)) (aCons (eC (.int 1)) (aCons (eC (.int 3)) aNil))))))) aNil)))) (eB strD (aCons (eB intD (aCons (eVar 1) aNil)) aNil))) (aCons (eB intD (aCons (eVar 1) aNil)) aNil)))) sNil))
def f__law_number : Fn := fnOf 2 m__law_number
theorem sc__law_number : FnScope ["pot", "number"] ["pot"] (defScope s__law_number) := ⟨rfl, rfl, rfl, by decide +kernel, rfl, by decide +kernel, by decide +kernel⟩
set_option maxHeartbeats 4000000 in
theorem ok__law_number {P : Program} {w : World} {K : PySem.W.Frag} {mg : Str → Option Value} {base : Heap} {f : Addr} {fd : FuncData} (F : FnP K "_law_number" s__law_number f fd) (T : Txt K mg) (C__law_of : Cal P w K mg base 2 "_law_of" ["pot", "some"] f__law_of) (C__law_take : Cal P w K mg base 1 "_law_take" ["pot", "upto"] f__law_take) : FnG P w K mg base 3 f fd ["pot"] f__law_number :=
  fn_ok F sc__law_number fun cdv A outer s H hr hgd => (ss_cons (s_set (i := 1) sc__law_number.nd rfl (.inl rfl) (c_call C__law_of hr (by decide) hgd (by rfl) (a_cons (v_var (i := 0) rfl (.inl rfl)) (a_cons (v_lst (a_cons v_int (a_cons v_int (a_cons v_int (a_cons v_int (a_cons v_int (a_cons v_int (a_cons v_int (a_cons (c_call C__law_take hr (by decide) hgd (by rfl) (a_cons (v_var (i := 0) rfl (.inl rfl)) (a_cons v_int a_nil)) (aCons_len (aCons_len aNil_len))) (a_cons (c_call C__law_take hr (by decide) hgd (by rfl) (a_cons (v_var (i := 0) rfl (.inl rfl)) (a_cons v_int a_nil)) (aCons_len (aCons_len aNil_len))) a_nil)))))))))) a_nil)) (aCons_len (aCons_len aNil_len)))) (ss_cons (s_ret (v_tup (a_cons (v_op op_addA o2_add (v_op op_mulA o2_mul (v_str rfl) (c_call C__law_of hr (by decide) hgd (by rfl) (a_cons (v_var (i := 0) rfl (.inl rfl)) (a_cons (v_lst (a_cons v_int (a_cons v_int (a_cons v_int (a_cons v_int (a_cons v_int (a_cons v_int a_nil))))))) a_nil)) (aCons_len (aCons_len aNil_len)))) (v_callTy call_str_int ol_str (by rfl) T.b_str boot_of_str (a_cons (v_callTy call_intA ol_int (by rfl) T.b_int boot_of_int (a_cons (v_var (i := 1) rfl (.inl rfl)) a_nil)) a_nil))) (a_cons (v_callTy call_intA ol_int (by rfl) T.b_int boot_of_int (a_cons (v_var (i := 1) rfl (.inl rfl)) a_nil)) a_nil)))) ss_nil))
/-! _law_string: 0 pot, 1 signs, 2 lap -/
abbrev s__law_string : Stmt := top 36
def m__law_string : SM := (sCons (sSet (eMt "str" joinD (eC (.str [])) (aCons (eLc FUEL (iRng1 (aCons (eOp addD (eC (.int 1)) (eCall0 f__law_take (aCons (eVar 0) (aCons (eC (.int 6)) aNil)))) aNil)) (gNm 2) qYes (eCall0 f__law_of (aCons (eVar 0) (aCons (eC (.str [97, 98, 122, 65, 90, 48, 49, 57, 32, 39, 39, 39, 123, 125, 40, 42, 41, 43, 45, 59, 58, 61, 46, 44, 60, 62, 91, 93, 94, 33, 35, 36, 38, 47, 63, 64, 95, 124, 126])) aNil))) [2]) aNil)) (gNm 1)) (sCons (sRet (eTup (aCons (eOp addD (eOp addD (eC (.str [39])) (eRep [39] [39, 39] (eVar 1))) (eC (.str [39]))) (aCons (eVar 1) aNil)))) sNil))
def f__law_string : Fn := fnOf 3 m__law_string
theorem sc__law_string : FnScope ["pot", "signs", "lap"] ["pot"] (defScope s__law_string) := ⟨rfl, rfl, rfl, by decide +kernel, rfl, by decide +kernel, by decide +kernel⟩
set_option maxHeartbeats 4000000 in
theorem ok__law_string {P : Program} {w : World} {K : PySem.W.Frag} {mg : Str → Option Value} {base : Heap} {f : Addr} {fd : FuncData} (F : FnP K "_law_string" s__law_string f fd) (T : Txt K mg) (C__law_take : Cal P w K mg base 1 "_law_take" ["pot", "upto"] f__law_take) (C__law_of : Cal P w K mg base 2 "_law_of" ["pot", "some"] f__law_of) : FnG P w K mg base 3 f fd ["pot"] f__law_string :=
  fn_ok F sc__law_string fun cdv A outer s H hr hgd => (ss_mint (s_set (i := 1) sc__law_string.nd rfl (.inl rfl) (v_mt PySem.F.plainAttrs_str PySem.F.slot_str_join PySem.F.type_str_join mt_join om_join (v_str rfl) (a_cons (v_lc FUEL rfl sc__law_string.nd (i_rng1 (by rfl) T.b_range (a_cons (v_op op_addA o2_add v_int (c_call C__law_take hr (by decide) hgd (by rfl) (a_cons (v_var (i := 0) rfl (.inr (.inl rfl))) (a_cons v_int a_nil)) (aCons_len (aCons_len aNil_len)))) a_nil)) (own := [("lap", 2)]) (by show BlkOk ["pot", "signs", "lap"] (defScope s__law_string) _ _; exact blkOk_by (by decide +kernel)) (by decide) (fun _ _ _ _ _ => (t_name (i := 2) sc__law_string.nd rfl (.inl rfl))) (fun _ _ _ _ _ => qs_nil) (fun _ _ _ _ _ => (c_call C__law_of hr (by decide) hgd (by rfl) (a_cons (v_var (i := 0) rfl (.inr (.inl rfl))) (a_cons (v_str rfl) a_nil)) (aCons_len (aCons_len aNil_len))))) a_nil))) (by exact trivial) (sst_cons (sst_ret (vt_tup (at_cons (vt_op op_addA o2_add (vt_op op_addA o2_add (vt_of (v_str rfl)) (vt_rep (v_var (i := 1) rfl (.inl rfl)))) (vt_of (v_str rfl))) (at_cons (vt_of (v_var (i := 1) rfl (.inl rfl))) at_nil)))) (sst_of ss_nil)))
/-! _law_token: 0 pot, 1 way, 2 word, 3 name, 4 signs, 5 sign -/
abbrev s__law_token : Stmt := top 38
def m__law_token : SM := (sCons (sSet (eCall0 f__law_take (aCons (eVar 0) (aCons (eC (.int 9)) aNil))) (gNm 1)) (sCons (sIf (qCmp ltD (eVar 1) (eC (.int 2))) (sCons (sSet (eCall0 f__law_of (aCons (eVar 0) (aCons (eCall0 f__law_words aNil) aNil))) (gNm 2)) (sCons (sRet (eTup (aCons (eC (.str [119, 111, 114, 100])) (aCons (eCall0 f__law_spelt (aCons (eVar 0) (aCons (eVar 2) aNil))) (aCons (eVar 2) aNil))))) sNil)) sNil) (sCons (sIf (qCmp ltD (eVar 1) (eC (.int 4))) (sCons (sSet (eCall0 f__law_name (aCons (eVar 0) aNil)) (gNm 3)) (sCons (sRet (eTup (aCons (eC (.str [110, 97, 109, 101])) (aCons (eVar 3) (aCons (eMt0 "str" lowerD (eVar 3)) aNil))))) sNil)) sNil) (sCons (sIf (qCmp eqD (eVar 1) (eC (.int 4))) (sCons (sRet (eOp addD (eTup (aCons (eC (.str [110, 117, 109, 98, 101, 114])) aNil)) (eCall0 f__law_number (aCons (eVar 0) aNil)))) sNil) sNil) (sCons (sIf (qCmp eqD (eVar 1) (eC (.int 5))) (sCons (sRet (eOp addD (eTup (aCons (eC (.str [115, 116, 114, 105, 110, 103])) aNil)) (eCall0 f__law_string (aCons (eVar 0) aNil)))) sNil) sNil) (sCons (sSet (eMt "str" splitD (eC (.str [43, 32, 45, 32, 42, 32, 61, 32, 60, 32, 62, 32, 60, 62, 32, 60, 61, 32, 62, 61, 32, 40, 32, 41, 32, 91, 32, 93, 32, 46, 32, 46, 46, 32, 44, 32, 58, 32, 58, 61, 32, 59, 32, 94, 32, 60, 32, 62, 32, 46, 32, 58, 32, 40, 32, 42, 32, 61, 32, 62, 61])) (aCons (eC (.str [32])) aNil)) (gNm 4)) (sCons (sSet (eCall0 f__law_of (aCons (eVar 0) (aCons (eVar 4) aNil))) (gNm 5)) (sCons (sRet (eTup (aCons (eC (.str [115, 105, 103, 110])) (aCons (eVar 5) (aCons (eVar 5) aNil))))) sNil))))))))
def f__law_token : Fn := fnOf 6 m__law_token
theorem sc__law_token : FnScope ["pot", "way", "word", "name", "signs", "sign"] ["pot"] (defScope s__law_token) := ⟨rfl, rfl, rfl, by decide +kernel, rfl, by decide +kernel, by decide +kernel⟩
set_option maxHeartbeats 4000000 in
theorem ok__law_token {P : Program} {w : World} {K : PySem.W.Frag} {mg : Str → Option Value} {base : Heap} {f : Addr} {fd : FuncData} (F : FnP K "_law_token" s__law_token f fd) (T : Txt K mg) (C__law_of : Cal P w K mg base 2 "_law_of" ["pot", "some"] f__law_of) (C__law_string : Cal P w K mg base 3 "_law_string" ["pot"] f__law_string) (C__law_number : Cal P w K mg base 3 "_law_number" ["pot"] f__law_number) (C__law_name : Cal P w K mg base 3 "_law_name" ["pot"] f__law_name) (C__law_spelt : Cal P w K mg base 2 "_law_spelt" ["pot", "word"] f__law_spelt) (C__law_words : Cal P w K mg base 1 "_law_words" [] f__law_words) (C__law_take : Cal P w K mg base 1 "_law_take" ["pot", "upto"] f__law_take) : FnG P w K mg base 4 f fd ["pot"] f__law_token :=
  fn_ok F sc__law_token fun cdv A outer s H hr hgd => (ss_cons (s_set (i := 1) sc__law_token.nd rfl (.inl rfl) (c_call C__law_take hr (by decide) hgd (by rfl) (a_cons (v_var (i := 0) rfl (.inl rfl)) (a_cons v_int a_nil)) (aCons_len (aCons_len aNil_len)))) (ss_cons (s_if (q_cmp op_lt (o2_cmp fun i j => decide (i < j)) (v_var (i := 1) rfl (.inl rfl)) v_int (nomark _)) (ss_cons (s_set (i := 2) sc__law_token.nd rfl (.inl rfl) (c_call C__law_of hr (by decide) hgd (by rfl) (a_cons (v_var (i := 0) rfl (.inl rfl)) (a_cons (c_call0 C__law_words hr (by decide) hgd (by rfl)) a_nil)) (aCons_len (aCons_len aNil_len)))) (ss_cons (s_ret (v_tup (a_cons (v_str rfl) (a_cons (c_call C__law_spelt hr (by decide) hgd (by rfl) (a_cons (v_var (i := 0) rfl (.inl rfl)) (a_cons (v_var (i := 2) rfl (.inl rfl)) a_nil)) (aCons_len (aCons_len aNil_len))) (a_cons (v_var (i := 2) rfl (.inl rfl)) a_nil))))) ss_nil)) ss_nil) (ss_cons (s_if (q_cmp op_lt (o2_cmp fun i j => decide (i < j)) (v_var (i := 1) rfl (.inl rfl)) v_int (nomark _)) (ss_cons (s_set (i := 3) sc__law_token.nd rfl (.inl rfl) (c_call C__law_name hr (by decide) hgd (by rfl) (a_cons (v_var (i := 0) rfl (.inl rfl)) a_nil) (aCons_len aNil_len))) (ss_cons (s_ret (v_tup (a_cons (v_str rfl) (a_cons (v_var (i := 3) rfl (.inl rfl)) (a_cons (v_mt0 PySem.F.plainAttrs_str PySem.F.slot_str_lower PySem.F.type_str_lower mt_lower om_lower (v_var (i := 3) rfl (.inl rfl))) a_nil))))) ss_nil)) ss_nil) (ss_cons (s_if (q_cmp op_eq o2_eq (v_var (i := 1) rfl (.inl rfl)) v_int (nomark _)) (ss_cons (s_ret (v_op op_addA o2_add (v_tup (a_cons (v_str rfl) a_nil)) (c_call C__law_number hr (by decide) hgd (by rfl) (a_cons (v_var (i := 0) rfl (.inl rfl)) a_nil) (aCons_len aNil_len)))) ss_nil) ss_nil) (ss_cons (s_if (q_cmp op_eq o2_eq (v_var (i := 1) rfl (.inl rfl)) v_int (nomark _)) (ss_cons (s_ret (v_op op_addA o2_add (v_tup (a_cons (v_str rfl) a_nil)) (c_call C__law_string hr (by decide) hgd (by rfl) (a_cons (v_var (i := 0) rfl (.inl rfl)) a_nil) (aCons_len aNil_len)))) ss_nil) ss_nil) (ss_cons (s_set (i := 4) sc__law_token.nd rfl (.inl rfl) (v_mt PySem.F.plainAttrs_str PySem.F.slot_str_split PySem.F.type_str_split mt_split om_split (v_str rfl) (a_cons (v_str rfl) a_nil))) (ss_cons (s_set (i := 5) sc__law_token.nd rfl (.inl rfl) (c_call C__law_of hr (by decide) hgd (by rfl) (a_cons (v_var (i := 0) rfl (.inl rfl)) (a_cons (v_var (i := 4) rfl (.inl rfl)) a_nil)) (aCons_len (aCons_len aNil_len)))) (ss_cons (s_ret (v_tup (a_cons (v_str rfl) (a_cons (v_var (i := 5) rfl (.inl rfl)) (a_cons (v_var (i := 5) rfl (.inl rfl)) a_nil))))) ss_nil))))))))
/-! _law_row: 0 pot, 1 text, 2 due, 3 ahead, 4 lap, 5 sort, 6 written, 7 told, 8 before -/
abbrev s__law_row : Stmt := top 42
def m__law_row : SM := (sCons (sPar3 1 2 3 (aCons (eIf (qCmp eqD (eCall0 f__law_take (aCons (eVar 0) (aCons (eC (.int 2)) aNil))) (eC (.int 0))) (eCall0 f__law_gap (aCons (eVar 0) (aCons (eC (.str [])) (aCons (eC (.str [])) aNil)))) (eC (.str []))) (aCons (eLst aNil) (aCons (eC (.str [])) aNil)))) (sCons (sFor FUEL (iRng1 (aCons (eCall0 f__law_of (aCons (eVar 0) (aCons (eLst (aCons (eC (.int 0)) (aCons (eC (.int 1)) (aCons (eC (.int 2)) (aCons (eC (.int 5)) (aCons (eC (.int 9)) (aCons (eC (.int 16)) (aCons (eC (.int 24)) aNil)))))))) aNil))) aNil)) (gNm 4) (sCons (sSet (eCall0 f__law_token (aCons (eVar 0) aNil)) (gTp 3 (gsCons (gNm 5) (gsCons (gNm 6) (gsCons (gNm 7) gsNil))))) (sCons (sSet (eIf (qCmp neD (eVar 3) (eC (.str []))) (eOp addD (eVar 1) (eCall0 f__law_gap (aCons (eVar 0) (aCons (eVar 3) (aCons (eVar 6) aNil))))) (eVar 1)) (gNm 1)) (sCons (sSet (eMt "str" splitD (eVar 1) (aCons (eC (.str [10])) aNil)) (gNm 8)) (sCons (sExpr (eMt "list" appendD (eVar 2) (aCons (eTup (aCons (eVar 5) (aCons (eVar 7) (aCons (eB lenD (aCons (eVar 8) aNil)) (aCons (eOp addD (eC (.int 1)) (eB lenD (aCons (eOp ixD (eVar 8) (eUn negD (eC (.int 1)))) aNil))) aNil))))) aNil))) (sCons (sPar2 1 3 (aCons (eOp addD (eVar 1) (eVar 6)) (aCons (eVar 6) aNil))) sNil)))))) (sCons (sRet (eTup (aCons (eOp addD (eVar 1) (eIf (qCmp eqD (eCall0 f__law_take (aCons (eVar 0) (aCons (eC (.int 2)) aNil))) (eC (.int 0))) (eCall0 f__law_gap (aCons (eVar 0) (aCons (eC (.str [])) (aCons (eC (.str [])) aNil)))) (eC (.str [])))) (aCons (eVar 2) aNil)))) sNil)))
def f__law_row : Fn := fnOf 9 m__law_row
theorem sc__law_row : FnScope ["pot", "text", "due", "ahead", "lap", "sort", "written", "told", "before"] ["pot"] (defScope s__law_row) := ⟨rfl, rfl, rfl, by decide +kernel, rfl, by decide +kernel, by decide +kernel⟩
set_option maxHeartbeats 4000000 in
theorem ok__law_row {P : Program} {w : World} {K : PySem.W.Frag} {mg : Str → Option Value} {base : Heap} {f : Addr} {fd : FuncData} (F : FnP K "_law_row" s__law_row f fd) (T : Txt K mg) (C__law_take : Cal P w K mg base 1 "_law_take" ["pot", "upto"] f__law_take) (C__law_gap : Cal P w K mg base 4 "_law_gap" ["pot", "one", "other"] f__law_gap) (C__law_of : Cal P w K mg base 2 "_law_of" ["pot", "some"] f__law_of) (C__law_token : Cal P w K mg base 4 "_law_token" ["pot"] f__law_token) : FnG P w K mg base 5 f fd ["pot"] f__law_row :=
  fn_ok F sc__law_row fun cdv A outer s H hr hgd => (ss_cons (s_par3 (i := 1) (j := 2) (l := 3) rfl sc__law_row.nd rfl rfl rfl (by decide) (by decide) (by decide) rfl rfl rfl (a_cons (v_if (q_cmp op_eq o2_eq (c_call C__law_take hr (by decide) hgd (by rfl) (a_cons (v_var (i := 0) rfl (.inl rfl)) (a_cons v_int a_nil)) (aCons_len (aCons_len aNil_len))) v_int (nomark _)) (c_call C__law_gap hr (by decide) hgd (by rfl) (a_cons (v_var (i := 0) rfl (.inl rfl)) (a_cons (v_str rfl) (a_cons (v_str rfl) a_nil))) (aCons_len (aCons_len (aCons_len aNil_len)))) (v_str rfl)) (a_cons (v_lst a_nil) (a_cons (v_str rfl) a_nil))) (by rfl)) (ss_cons (s_for FUEL PassesOwn.never rfl (i_rng1 (by rfl) T.b_range (a_cons (c_call C__law_of hr (by decide) hgd (by rfl) (a_cons (v_var (i := 0) rfl (.inl rfl)) (a_cons (v_lst (a_cons v_int (a_cons v_int (a_cons v_int (a_cons v_int (a_cons v_int (a_cons v_int (a_cons v_int a_nil)))))))) a_nil)) (aCons_len (aCons_len aNil_len))) a_nil)) (t_name (i := 4) sc__law_row.nd rfl (.inl rfl)) (ss_cons (s_asg (c_call C__law_token hr (by decide) hgd (by rfl) (a_cons (v_var (i := 0) rfl (.inl rfl)) a_nil) (aCons_len aNil_len)) (t_tup (n := 3) rfl (ts_cons (t_name (i := 5) sc__law_row.nd rfl (.inl rfl)) (ts_cons (t_name (i := 6) sc__law_row.nd rfl (.inl rfl)) (ts_cons (t_name (i := 7) sc__law_row.nd rfl (.inl rfl)) ts_nil))))) (ss_cons (s_set (i := 1) sc__law_row.nd rfl (.inl rfl) (v_if (q_cmp op_ne o2_ne (v_var (i := 3) rfl (.inl rfl)) (v_str rfl) (nomark _)) (v_op op_addA o2_add (v_var (i := 1) rfl (.inl rfl)) (c_call C__law_gap hr (by decide) hgd (by rfl) (a_cons (v_var (i := 0) rfl (.inl rfl)) (a_cons (v_var (i := 3) rfl (.inl rfl)) (a_cons (v_var (i := 6) rfl (.inl rfl)) a_nil))) (aCons_len (aCons_len (aCons_len aNil_len))))) (v_var (i := 1) rfl (.inl rfl)))) (ss_cons (s_set (i := 8) sc__law_row.nd rfl (.inl rfl) (v_mt PySem.F.plainAttrs_str PySem.F.slot_str_split PySem.F.type_str_split mt_split om_split (v_var (i := 1) rfl (.inl rfl)) (a_cons (v_str rfl) a_nil))) (ss_cons (s_expr (v_mt PySem.F.plainAttrs_list PySem.F.slot_list_append PySem.F.type_list_append mt_append om_append (v_var (i := 2) rfl (.inl rfl)) (a_cons (v_tup (a_cons (v_var (i := 5) rfl (.inl rfl)) (a_cons (v_var (i := 7) rfl (.inl rfl)) (a_cons (v_callB call_len ol_len (by rfl) T.b_len boot_of_len (a_cons (v_var (i := 8) rfl (.inl rfl)) a_nil)) (a_cons (v_op op_addA o2_add v_int (v_callB call_len ol_len (by rfl) T.b_len boot_of_len (a_cons (v_ix ix_seq o2_ix (v_var (i := 8) rfl (.inl rfl)) (v_un un_neg o1_neg v_int) (fun _ _ => rfl)) a_nil))) a_nil))))) a_nil))) (ss_cons (s_par2 (i := 1) (j := 3) rfl sc__law_row.nd rfl rfl (by decide) rfl rfl (a_cons (v_op op_addA o2_add (v_var (i := 1) rfl (.inl rfl)) (v_var (i := 6) rfl (.inl rfl))) (a_cons (v_var (i := 6) rfl (.inl rfl)) a_nil)) (by rfl)) ss_nil)))))) (ss_cons (s_ret (v_tup (a_cons (v_op op_addA o2_add (v_var (i := 1) rfl (.inl rfl)) (v_if (q_cmp op_eq o2_eq (c_call C__law_take hr (by decide) hgd (by rfl) (a_cons (v_var (i := 0) rfl (.inl rfl)) (a_cons v_int a_nil)) (aCons_len (aCons_len aNil_len))) v_int (nomark _)) (c_call C__law_gap hr (by decide) hgd (by rfl) (a_cons (v_var (i := 0) rfl (.inl rfl)) (a_cons (v_str rfl) (a_cons (v_str rfl) a_nil))) (aCons_len (aCons_len (aCons_len aNil_len)))) (v_str rfl))) (a_cons (v_var (i := 2) rfl (.inl rfl)) a_nil)))) ss_nil)))
/-! comment_end: 0 text, 1 at, 2 behind, 3 found, 4 rows, 5 end, 6 spot -/
abbrev s_comment_end : Stmt := top 23
def m_comment_end : SM := (sCons (sSet (eOp addD (eVar 1) (eIf (qCmp eqD (eOp ixD (eVar 0) (eVar 1)) (eOp ixD (eC (.tup (List.map D.str tab_COMMENTS))) (eC (.int 0)))) (eC (.int 1)) (eC (.int 2)))) (gNm 2)) (sCons (sSet (eLc FUEL (iSeq (eC (.tup (List.map D.str tab_ENDS)))) (gNm 5) qYes (eTup (aCons (eMt "str" find3D (eVar 0) (aCons (eVar 5) (aCons (eVar 2) aNil))) (aCons (eVar 5) aNil))) [5]) (gNm 3)) (sCons (sSet (eB sortedD (aCons (eLc FUEL (iSeq (eVar 3)) (gTp 2 (gsCons (gNm 6) (gsCons (gNm 5) gsNil))) (qCmp geD (eVar 6) (eC (.int 0))) (eTup (aCons (eVar 6) (aCons (eB lenD (aCons (eVar 5) aNil)) aNil))) [6, 5]) aNil)) (gNm 4)) (sCons (sIf (qCmp eqPD (eVar 4) (eLst aNil)) sNever sNil) (sCons (sRet (eOp addD (eOp ixD (eOp ixD (eVar 4) (eC (.int 0))) (eC (.int 0))) (eOp ixD (eOp ixD (eVar 4) (eC (.int 0))) (eC (.int 1))))) sNil)))))
def f_comment_end : Fn := fnOf 7 m_comment_end
theorem sc_comment_end : FnScope ["text", "at", "behind", "found", "rows", "end", "spot"] ["text", "at"] (defScope s_comment_end) := ⟨rfl, rfl, rfl, by decide +kernel, rfl, by decide +kernel, by decide +kernel⟩
set_option maxHeartbeats 4000000 in
theorem ok_comment_end {P : Program} {w : World} {K : PySem.W.Frag} {mg : Str → Option Value} {base : Heap} {f : Addr} {fd : FuncData} (F : FnP K "comment_end" s_comment_end f fd) (T : Txt K mg) : FnG P w K mg base 1 f fd ["text", "at"] f_comment_end :=
  fn_ok F sc_comment_end fun cdv A outer s H hr hgd => (ss_cons (s_set (i := 2) sc_comment_end.nd rfl (.inr rfl) (v_op op_addA o2_add (v_var (i := 1) rfl (.inl rfl)) (v_if (q_cmp op_eq o2_eq (v_ix ix_seq o2_ix (v_var (i := 0) rfl (.inr (.inl rfl))) (v_var (i := 1) rfl (.inl rfl)) (fun _ _ => rfl)) (v_ix ix_seq o2_ix (g_tab T.g_COMMENTS (by rfl)) v_int (fun _ _ => rfl)) (nomark _)) v_int v_int))) (ss_cons (s_setLc (i := 3) FUEL rfl sc_comment_end.nd rfl rfl rfl (i_seq (g_tab T.g_ENDS (by rfl))) (own := [("end", 5)]) (by show BlkOk ["text", "at", "behind", "found", "rows", "end", "spot"] (defScope s_comment_end) _ _; exact blkOk_by (by decide +kernel)) (by decide) (fun _ _ _ _ _ => (t_name (i := 5) sc_comment_end.nd rfl (.inl rfl))) (fun _ _ _ _ _ => qs_nil) (fun _ _ _ _ _ => (v_tup (a_cons (v_mt PySem.F.plainAttrs_str PySem.F.slot_str_find PySem.F.type_str_find mt_find3 om_find3 (v_var (i := 0) rfl (.inr (.inl rfl))) (a_cons (v_var (i := 5) rfl (.inl rfl)) (a_cons (v_var (i := 2) rfl (.inr (.inl rfl))) a_nil))) (a_cons (v_var (i := 5) rfl (.inl rfl)) a_nil))))) (ss_cons (s_set (i := 4) sc_comment_end.nd rfl (.inl rfl) (v_callB cr_sortedT ol_sorted (by rfl) T.b_sorted boot_of_sorted (a_cons (v_lc FUEL rfl sc_comment_end.nd (i_seq (v_var (i := 3) rfl (.inl rfl))) (own := [("spot", 6), ("end", 5)]) (by show BlkOk ["text", "at", "behind", "found", "rows", "end", "spot"] (defScope s_comment_end) _ _; exact blkOk_by (by decide +kernel)) (by decide) (fun _ _ _ _ _ => (t_tup (n := 2) rfl (ts_cons (t_name (i := 6) sc_comment_end.nd rfl (.inl rfl)) (ts_cons (t_name (i := 5) sc_comment_end.nd rfl (.inl rfl)) ts_nil)))) (fun _ _ _ _ _ => (qs_one (q_cmp op_ge (o2_cmp fun i j => decide (i ≥ j)) (v_var (i := 6) rfl (.inl rfl)) v_int (nomark _)))) (fun _ _ _ _ _ => (v_tup (a_cons (v_var (i := 6) rfl (.inl rfl)) (a_cons (v_callB call_len ol_len (by rfl) T.b_len boot_of_len (a_cons (v_var (i := 5) rfl (.inl rfl)) a_nil)) a_nil))))) a_nil))) (ss_cons (s_if (q_cmp (op_eqD (u64 hr)) o2_eqP (v_var (i := 4) rfl (.inl rfl)) (v_lst a_nil) (nomark _)) ss_never ss_nil) (ss_cons (s_ret (v_op op_addA o2_add (v_ix ix_seq o2_ix (v_ix ix_seq o2_ix (v_var (i := 4) rfl (.inl rfl)) v_int (fun _ _ => rfl)) v_int (fun _ _ => rfl)) (v_ix ix_seq o2_ix (v_ix ix_seq o2_ix (v_var (i := 4) rfl (.inl rfl)) v_int (fun _ _ => rfl)) v_int (fun _ _ => rfl)))) ss_nil)))))
/-! run_end: 0 text, 1 at, 2 signs -/
abbrev s_run_end : Stmt := top 22
def m_run_end : SM := (sCons (sWhile (qAnd (qCmp ltD (eVar 1) (eB lenD (aCons (eVar 0) aNil))) (qCmp inD (eMt0 "str" lowerD (eOp ixD (eVar 0) (eVar 1))) (eVar 2))) (sCons (sAug 1 iaddD (eC (.int 1))) sNil) FUEL) (sCons (sRet (eVar 1)) sNil))
def f_run_end : Fn := fnOf 3 m_run_end
theorem sc_run_end : FnScope ["text", "at", "signs"] ["text", "at", "signs"] (defScope s_run_end) := ⟨rfl, rfl, rfl, by decide +kernel, rfl, by decide +kernel, by decide +kernel⟩
set_option maxHeartbeats 4000000 in
theorem ok_run_end {P : Program} {w : World} {K : PySem.W.Frag} {mg : Str → Option Value} {base : Heap} {f : Addr} {fd : FuncData} (F : FnP K "run_end" s_run_end f fd) (T : Txt K mg) : FnG P w K mg base 1 f fd ["text", "at", "signs"] f_run_end :=
  fn_ok F sc_run_end fun cdv A outer s H hr hgd => (ss_cons (s_while FUEL PassesOwn.never (PW.pt (q_and (q_cmp op_lt (o2_cmp fun i j => decide (i < j)) (v_var (i := 1) rfl (.inl rfl)) (v_callB call_len ol_len (by rfl) T.b_len boot_of_len (a_cons (v_var (i := 0) rfl (.inl rfl)) a_nil)) (nomark _)) (q_and1 (q_cmp op_inA o2_in (v_mt0 PySem.F.plainAttrs_str PySem.F.slot_str_lower PySem.F.type_str_lower mt_lower om_lower (v_ix ix_seq o2_ix (v_var (i := 0) rfl (.inl rfl)) (v_var (i := 1) rfl (.inl rfl)) (fun _ _ => rfl))) (v_var (i := 2) rfl (.inl rfl)) rfl)))) (ss_cons (s_aug (i := 1) sc_run_end.nd rfl (.inl rfl) v_int iop_add o2_iadd) ss_nil)) (ss_cons (s_ret (v_var (i := 1) rfl (.inl rfl))) ss_nil))
/-! number_at: 0 text, 1 at, 2 end, 3 figures -/
abbrev s_number_at : Stmt := top 25
def m_number_at : SM := (sCons (sSet (eCall0 f_run_end (aCons (eVar 0) (aCons (eVar 1) (aCons (eC (.str [48, 49, 50, 51, 52, 53, 54, 55, 56, 57])) aNil)))) (gNm 2)) (sCons (sSet (eMt "str" lstripD (eSl slD (eVar 0) (ePart (eVar 1)) (ePart (eVar 2))) (aCons (eC (.str [48])) aNil)) (gNm 3)) (sCons (sIf (qOr (qCmp gtD (eB lenD (aCons (eVar 3) aNil)) (eC (.int 10))) (qCmp gtD (eB intD (aCons (eOr (eVar 3) (eC (.str [48]))) aNil)) (eC (.int 2147483647)))) sNever sNil) (sCons (sRet (eTup (aCons (eB intD (aCons (eOr (eVar 3) (eC (.str [48]))) aNil)) (aCons (eVar 2) aNil)))) sNil))))
def f_number_at : Fn := fnOf 4 m_number_at
theorem sc_number_at : FnScope ["text", "at", "end", "figures"] ["text", "at"] (defScope s_number_at) := ⟨rfl, rfl, rfl, by decide +kernel, rfl, by decide +kernel, by decide +kernel⟩
set_option maxHeartbeats 4000000 in
theorem ok_number_at {P : Program} {w : World} {K : PySem.W.Frag} {mg : Str → Option Value} {base : Heap} {f : Addr} {fd : FuncData} (F : FnP K "number_at" s_number_at f fd) (T : Txt K mg) (C_run_end : Cal P w K mg base 1 "run_end" ["text", "at", "signs"] f_run_end) : FnG P w K mg base 2 f fd ["text", "at"] f_number_at :=
  fn_ok F sc_number_at fun cdv A outer s H hr hgd => (ss_cons (s_set (i := 2) sc_number_at.nd rfl (.inl rfl) (c_call C_run_end hr (by decide) hgd (by rfl) (a_cons (v_var (i := 0) rfl (.inl rfl)) (a_cons (v_var (i := 1) rfl (.inl rfl)) (a_cons (g_str T.g_FIGURES (by rfl) rfl) a_nil))) (aCons_len (aCons_len (aCons_len aNil_len))))) (ss_cons (s_set (i := 3) sc_number_at.nd rfl (.inl rfl) (v_mt PySem.F.plainAttrs_str PySem.F.slot_str_lstrip PySem.F.type_str_lstrip mt_lstripChars om_lstrip (v_slice sl_all o3_sl (v_var (i := 0) rfl (.inl rfl)) (o_some (v_var (i := 1) rfl (.inl rfl))) (o_some (v_var (i := 2) rfl (.inl rfl)))) (a_cons (v_str rfl) a_nil))) (ss_cons (s_if (PW.pt (q_or (q_cmp op_gt (o2_cmp fun i j => decide (i > j)) (v_callB call_len ol_len (by rfl) T.b_len boot_of_len (a_cons (v_var (i := 3) rfl (.inl rfl)) a_nil)) (g_int T.g_MOST_FIGURES (by rfl)) (nomark _)) (q_or1 (q_cmp op_gt (o2_cmp fun i j => decide (i > j)) (v_callTy call_intA ol_int (by rfl) T.b_int boot_of_int (a_cons (v_or (v_var (i := 3) rfl (.inl rfl)) (v_one (v_str rfl))) a_nil)) (g_int T.g_MOST (by rfl)) (nomark _))))) ss_never ss_nil) (ss_cons (s_ret (v_tup (a_cons (v_callTy call_intA ol_int (by rfl) T.b_int boot_of_int (a_cons (v_or (v_var (i := 3) rfl (.inl rfl)) (v_one (v_str rfl))) a_nil)) (a_cons (v_var (i := 2) rfl (.inl rfl)) a_nil)))) ss_nil))))
/-! string_at: 0 text, 1 at, 2 found, 3 spot -/
abbrev s_string_at : Stmt := top 24
def m_string_at : SM := (sCons (sPar2 2 3 (aCons (eLst aNil) (aCons (eOp addD (eVar 1) (eC (.int 1))) aNil))) (sCons (sWhile (qAnd (qCmp ltD (eVar 3) (eB lenD (aCons (eVar 0) aNil))) (qCmp neD (eOp ixD (eVar 0) (eVar 3)) (eC (.str [10])))) (sCons (sIf (qCmp neD (eOp ixD (eVar 0) (eVar 3)) (eC (.str [39]))) (sCons (sExpr (eMt "list" appendD (eVar 2) (aCons (eOp ixD (eVar 0) (eVar 3)) aNil))) (sCons (sAug 3 iaddD (eC (.int 1))) sNil)) (sCons (sIf (qTru (eMt "str" startsD (eVar 0) (aCons (eC (.str [39])) (aCons (eOp addD (eVar 3) (eC (.int 1))) aNil)))) (sCons (sExpr (eMt "list" appendD (eVar 2) (aCons (eC (.str [39])) aNil))) (sCons (sAug 3 iaddD (eC (.int 2))) sNil)) (sCons sBreak sNil)) sNil)) sNil) FUEL) (sCons (sIf (qOr (qCmp eqD (eVar 3) (eB lenD (aCons (eVar 0) aNil))) (qOr (qCmp eqD (eOp ixD (eVar 0) (eVar 3)) (eC (.str [10]))) (qCmp eqPD (eVar 2) (eLst aNil)))) sNever sNil) (sCons (sRet (eTup (aCons (eMt "str" joinD (eC (.str [])) (aCons (eVar 2) aNil)) (aCons (eOp addD (eVar 3) (eC (.int 1))) aNil)))) sNil))))
def f_string_at : Fn := fnOf 4 m_string_at
theorem sc_string_at : FnScope ["text", "at", "found", "spot"] ["text", "at"] (defScope s_string_at) := ⟨rfl, rfl, rfl, by decide +kernel, rfl, by decide +kernel, by decide +kernel⟩
set_option maxHeartbeats 4000000 in
theorem ok_string_at {P : Program} {w : World} {K : PySem.W.Frag} {mg : Str → Option Value} {base : Heap} {f : Addr} {fd : FuncData} (F : FnP K "string_at" s_string_at f fd) (T : Txt K mg) : FnG P w K mg base 1 f fd ["text", "at"] f_string_at :=
  fn_ok F sc_string_at fun cdv A outer s H hr hgd => (ss_cons (s_par2 (i := 2) (j := 3) rfl sc_string_at.nd rfl rfl (by decide) rfl rfl (a_cons (v_lst a_nil) (a_cons (v_op op_addA o2_add (v_var (i := 1) rfl (.inl rfl)) v_int) a_nil)) (by rfl)) (ss_cons (s_while FUEL PassesOwn.never (PW.pt (q_and (q_cmp op_lt (o2_cmp fun i j => decide (i < j)) (v_var (i := 3) rfl (.inl rfl)) (v_callB call_len ol_len (by rfl) T.b_len boot_of_len (a_cons (v_var (i := 0) rfl (.inl rfl)) a_nil)) (nomark _)) (q_and1 (q_cmp op_ne o2_ne (v_ix ix_seq o2_ix (v_var (i := 0) rfl (.inl rfl)) (v_var (i := 3) rfl (.inl rfl)) (fun _ _ => rfl)) (g_str T.g_FEED (by rfl) rfl) (nomark _))))) (ss_cons (s_if (q_cmp op_ne o2_ne (v_ix ix_seq o2_ix (v_var (i := 0) rfl (.inl rfl)) (v_var (i := 3) rfl (.inl rfl)) (fun _ _ => rfl)) (g_str T.g_QUOTE (by rfl) rfl) (nomark _)) (ss_cons (s_expr (v_mt PySem.F.plainAttrs_list PySem.F.slot_list_append PySem.F.type_list_append mt_append om_append (v_var (i := 2) rfl (.inl rfl)) (a_cons (v_ix ix_seq o2_ix (v_var (i := 0) rfl (.inl rfl)) (v_var (i := 3) rfl (.inl rfl)) (fun _ _ => rfl)) a_nil))) (ss_cons (s_aug (i := 3) sc_string_at.nd rfl (.inl rfl) v_int iop_add o2_iadd) ss_nil)) (ss_cons (s_if (q_tru (v_mt PySem.F.plainAttrs_str PySem.F.slot_str_startswith PySem.F.type_str_startswith mt_startsA om_starts (v_var (i := 0) rfl (.inl rfl)) (a_cons (g_str T.g_QUOTE (by rfl) rfl) (a_cons (v_op op_addA o2_add (v_var (i := 3) rfl (.inl rfl)) v_int) a_nil)))) (ss_cons (s_expr (v_mt PySem.F.plainAttrs_list PySem.F.slot_list_append PySem.F.type_list_append mt_append om_append (v_var (i := 2) rfl (.inl rfl)) (a_cons (g_str T.g_QUOTE (by rfl) rfl) a_nil))) (ss_cons (s_aug (i := 3) sc_string_at.nd rfl (.inl rfl) v_int iop_add o2_iadd) ss_nil)) (ss_cons s_break ss_nil)) ss_nil)) ss_nil)) (ss_cons (s_if (PW.pt (q_or (q_cmp op_eq o2_eq (v_var (i := 3) rfl (.inl rfl)) (v_callB call_len ol_len (by rfl) T.b_len boot_of_len (a_cons (v_var (i := 0) rfl (.inl rfl)) a_nil)) (nomark _)) (q_or (q_cmp op_eq o2_eq (v_ix ix_seq o2_ix (v_var (i := 0) rfl (.inl rfl)) (v_var (i := 3) rfl (.inl rfl)) (fun _ _ => rfl)) (g_str T.g_FEED (by rfl) rfl) (nomark _)) (q_or1 (q_cmp (op_eqD (u64 hr)) o2_eqP (v_var (i := 2) rfl (.inl rfl)) (v_lst a_nil) (nomark _)))))) ss_never ss_nil) (ss_cons (s_ret (v_tup (a_cons (v_mt PySem.F.plainAttrs_str PySem.F.slot_str_join PySem.F.type_str_join mt_join om_join (v_str rfl) (a_cons (v_var (i := 2) rfl (.inl rfl)) a_nil)) (a_cons (v_op op_addA o2_add (v_var (i := 3) rfl (.inl rfl)) v_int) a_nil)))) ss_nil))))
/-! token_at: 0 text, 1 at, 2 sign, 3 end, 4 word, 5 two -/
abbrev s_token_at : Stmt := top 26
def m_token_at : SM := (sCons (sSet (eOp ixD (eVar 0) (eVar 1)) (gNm 2)) (sCons (sIf (qCmp inD (eMt0 "str" lowerD (eVar 2)) (eC (.str [97, 98, 99, 100, 101, 102, 103, 104, 105, 106, 107, 108, 109, 110, 111, 112, 113, 114, 115, 116, 117, 118, 119, 120, 121, 122]))) (sCons (sSet (eCall0 f_run_end (aCons (eVar 0) (aCons (eVar 1) (aCons (eOp addD (eC (.str [97, 98, 99, 100, 101, 102, 103, 104, 105, 106, 107, 108, 109, 110, 111, 112, 113, 114, 115, 116, 117, 118, 119, 120, 121, 122])) (eC (.str [48, 49, 50, 51, 52, 53, 54, 55, 56, 57]))) aNil)))) (gNm 3)) (sCons (sSet (eMt0 "str" lowerD (eSl slD (eVar 0) (ePart (eVar 1)) (ePart (eVar 3)))) (gNm 4)) (sCons (sRet (eTup (aCons (eIf (qCmp inD (eVar 4) (eC (.tup (List.map D.str tab_RESERVED)))) (eC (.str [119, 111, 114, 100])) (eC (.str [110, 97, 109, 101]))) (aCons (eVar 4) (aCons (eVar 3) aNil))))) sNil))) sNil) (sCons (sIf (qCmp inD (eVar 2) (eC (.str [48, 49, 50, 51, 52, 53, 54, 55, 56, 57]))) (sCons (sRet (eTup (aCons (eC (.str [110, 117, 109, 98, 101, 114])) (aStar (eCall0 f_number_at (aCons (eVar 0) (aCons (eVar 1) aNil))) aNil)))) sNil) sNil) (sCons (sIf (qCmp eqD (eVar 2) (eC (.str [39]))) (sCons (sRet (eTup (aCons (eC (.str [115, 116, 114, 105, 110, 103])) (aStar (eCall0 f_string_at (aCons (eVar 0) (aCons (eVar 1) aNil))) aNil)))) sNil) sNil) (sCons (sFor FUEL (iSeq (eC (.tup (List.map D.str tab_TWO_SIGNS)))) (gNm 5) (sCons (sIf (qTru (eMt "str" startsD (eVar 0) (aCons (eVar 5) (aCons (eVar 1) aNil)))) (sCons (sRet (eTup (aCons (eC (.str [115, 105, 103, 110])) (aCons (eVar 5) (aCons (eOp addD (eVar 1) (eB lenD (aCons (eVar 5) aNil))) aNil))))) sNil) sNil) sNil)) (sCons (sIf (qCmp notInD (eVar 2) (eC (.str [43, 45, 42, 61, 60, 62, 40, 41, 91, 93, 46, 44, 58, 59, 94]))) sNever sNil) (sCons (sRet (eTup (aCons (eC (.str [115, 105, 103, 110])) (aCons (eVar 2) (aCons (eOp addD (eVar 1) (eC (.int 1))) aNil))))) sNil)))))))
def f_token_at : Fn := fnOf 6 m_token_at
theorem sc_token_at : FnScope ["text", "at", "sign", "end", "word", "two"] ["text", "at"] (defScope s_token_at) := ⟨rfl, rfl, rfl, by decide +kernel, rfl, by decide +kernel, by decide +kernel⟩
set_option maxHeartbeats 4000000 in
theorem ok_token_at {P : Program} {w : World} {K : PySem.W.Frag} {mg : Str → Option Value} {base : Heap} {f : Addr} {fd : FuncData} (F : FnP K "token_at" s_token_at f fd) (T : Txt K mg) (C_string_at : Cal P w K mg base 1 "string_at" ["text", "at"] f_string_at) (C_number_at : Cal P w K mg base 2 "number_at" ["text", "at"] f_number_at) (C_run_end : Cal P w K mg base 1 "run_end" ["text", "at", "signs"] f_run_end) : FnG P w K mg base 3 f fd ["text", "at"] f_token_at :=
  fn_ok F sc_token_at fun cdv A outer s H hr hgd => (ss_cons (s_set (i := 2) sc_token_at.nd rfl (.inl rfl) (v_ix ix_seq o2_ix (v_var (i := 0) rfl (.inl rfl)) (v_var (i := 1) rfl (.inl rfl)) (fun _ _ => rfl))) (ss_cons (s_if (q_cmp op_inA o2_in (v_mt0 PySem.F.plainAttrs_str PySem.F.slot_str_lower PySem.F.type_str_lower mt_lower om_lower (v_var (i := 2) rfl (.inl rfl))) (g_str T.g_LETTERS (by rfl) rfl) rfl) (ss_cons (s_set (i := 3) sc_token_at.nd rfl (.inl rfl) (c_call C_run_end hr (by decide) hgd (by rfl) (a_cons (v_var (i := 0) rfl (.inl rfl)) (a_cons (v_var (i := 1) rfl (.inl rfl)) (a_cons (v_op op_addA o2_add (g_str T.g_LETTERS (by rfl) rfl) (g_str T.g_FIGURES (by rfl) rfl)) a_nil))) (aCons_len (aCons_len (aCons_len aNil_len))))) (ss_cons (s_set (i := 4) sc_token_at.nd rfl (.inl rfl) (v_mt0 PySem.F.plainAttrs_str PySem.F.slot_str_lower PySem.F.type_str_lower mt_lower om_lower (v_slice sl_all o3_sl (v_var (i := 0) rfl (.inl rfl)) (o_some (v_var (i := 1) rfl (.inl rfl))) (o_some (v_var (i := 3) rfl (.inl rfl)))))) (ss_cons (s_ret (v_tup (a_cons (v_if (q_cmp op_inA o2_in (v_var (i := 4) rfl (.inl rfl)) (g_tab T.g_RESERVED (by rfl)) rfl) (g_str T.g_WORD (by rfl) rfl) (g_str T.g_NAME (by rfl) rfl)) (a_cons (v_var (i := 4) rfl (.inl rfl)) (a_cons (v_var (i := 3) rfl (.inl rfl)) a_nil))))) ss_nil))) ss_nil) (ss_cons (s_if (q_cmp op_inA o2_in (v_var (i := 2) rfl (.inl rfl)) (g_str T.g_FIGURES (by rfl) rfl) rfl) (ss_cons (s_ret (v_tup (a_cons (g_str T.g_NUMBER (by rfl) rfl) (a_star (c_call C_number_at hr (by decide) hgd (by rfl) (a_cons (v_var (i := 0) rfl (.inl rfl)) (a_cons (v_var (i := 1) rfl (.inl rfl)) a_nil)) (aCons_len (aCons_len aNil_len))) a_nil)))) ss_nil) ss_nil) (ss_cons (s_if (q_cmp op_eq o2_eq (v_var (i := 2) rfl (.inl rfl)) (g_str T.g_QUOTE (by rfl) rfl) (nomark _)) (ss_cons (s_ret (v_tup (a_cons (g_str T.g_STRING (by rfl) rfl) (a_star (c_call C_string_at hr (by decide) hgd (by rfl) (a_cons (v_var (i := 0) rfl (.inl rfl)) (a_cons (v_var (i := 1) rfl (.inl rfl)) a_nil)) (aCons_len (aCons_len aNil_len))) a_nil)))) ss_nil) ss_nil) (ss_cons (s_for FUEL PassesOwn.never rfl (i_seq (g_tab T.g_TWO_SIGNS (by rfl))) (t_name (i := 5) sc_token_at.nd rfl (.inl rfl)) (ss_cons (s_if (q_tru (v_mt PySem.F.plainAttrs_str PySem.F.slot_str_startswith PySem.F.type_str_startswith mt_startsA om_starts (v_var (i := 0) rfl (.inl rfl)) (a_cons (v_var (i := 5) rfl (.inl rfl)) (a_cons (v_var (i := 1) rfl (.inl rfl)) a_nil)))) (ss_cons (s_ret (v_tup (a_cons (g_str T.g_SIGN (by rfl) rfl) (a_cons (v_var (i := 5) rfl (.inl rfl)) (a_cons (v_op op_addA o2_add (v_var (i := 1) rfl (.inl rfl)) (v_callB call_len ol_len (by rfl) T.b_len boot_of_len (a_cons (v_var (i := 5) rfl (.inl rfl)) a_nil))) a_nil))))) ss_nil) ss_nil) ss_nil)) (ss_cons (s_if (q_cmp op_notInA o2_notIn (v_var (i := 2) rfl (.inl rfl)) (g_str T.g_ONE_SIGNS (by rfl) rfl) rfl) ss_never ss_nil) (ss_cons (s_ret (v_tup (a_cons (g_str T.g_SIGN (by rfl) rfl) (a_cons (v_var (i := 2) rfl (.inl rfl)) (a_cons (v_op op_addA o2_add (v_var (i := 1) rfl (.inl rfl)) v_int) a_nil))))) ss_nil)))))))
/-! place_of: 0 text, 1 at -/
abbrev s_place_of : Stmt := top 21
def m_place_of : SM := (sCons (sRet (eTup (aCons (eOp addD (eMt "str" count4D (eVar 0) (aCons (eC (.str [10])) (aCons (eC (.int 0)) (aCons (eVar 1) aNil)))) (eC (.int 1))) (aCons (eOp subD (eVar 1) (eMt "str" rfind4D (eVar 0) (aCons (eC (.str [10])) (aCons (eC (.int 0)) (aCons (eVar 1) aNil))))) aNil)))) sNil)
def f_place_of : Fn := fnOf 2 m_place_of
theorem sc_place_of : FnScope ["text", "at"] ["text", "at"] (defScope s_place_of) := ⟨rfl, rfl, rfl, by decide +kernel, rfl, by decide +kernel, by decide +kernel⟩
set_option maxHeartbeats 4000000 in
theorem ok_place_of {P : Program} {w : World} {K : PySem.W.Frag} {mg : Str → Option Value} {base : Heap} {f : Addr} {fd : FuncData} (F : FnP K "place_of" s_place_of f fd) (T : Txt K mg) : FnG P w K mg base 1 f fd ["text", "at"] f_place_of :=
  fn_ok F sc_place_of fun cdv A outer s H hr hgd => (ss_cons (s_ret (v_tup (a_cons (v_op op_addA o2_add (v_mt PySem.F.plainAttrs_str PySem.F.slot_str_count PySem.F.type_str_count mt_count4 om_count4 (v_var (i := 0) rfl (.inl rfl)) (a_cons (g_str T.g_FEED (by rfl) rfl) (a_cons v_int (a_cons (v_var (i := 1) rfl (.inl rfl)) a_nil)))) v_int) (a_cons (v_op op_sub o2_sub (v_var (i := 1) rfl (.inl rfl)) (v_mt PySem.F.plainAttrs_str PySem.F.slot_str_rfind PySem.F.type_str_rfind mt_rfind4 om_rfind4 (v_var (i := 0) rfl (.inl rfl)) (a_cons (g_str T.g_FEED (by rfl) rfl) (a_cons v_int (a_cons (v_var (i := 1) rfl (.inl rfl)) a_nil))))) a_nil)))) ss_nil)
/-! tokens: 0 text, 1 found, 2 at, 3 sort, 4 told, 5 end -/
abbrev s_tokens : Stmt := top 27
def m_tokens : SM := (sCons (sIf (qNot (qTru (eIs "str" (eVar 0)))) sNever sNil) (sCons (sPar2 1 2 (aCons (eLst aNil) (aCons (eC (.int 0)) aNil))) (sCons (sWhile (qCmp ltD (eVar 2) (eB lenD (aCons (eVar 0) aNil))) (sCons (sIf (qCmp inD (eOp ixD (eVar 0) (eVar 2)) (eC (.str [32, 10]))) (sCons (sAug 2 iaddD (eC (.int 1))) sNil) (sCons (sIf (qTru (eMt "str" startsD (eVar 0) (aCons (eC (.tup (List.map D.str tab_COMMENTS))) (aCons (eVar 2) aNil)))) (sCons (sSet (eCall0 f_comment_end (aCons (eVar 0) (aCons (eVar 2) aNil))) (gNm 2)) sNil) (sCons (sSet (eCall0 f_token_at (aCons (eVar 0) (aCons (eVar 2) aNil))) (gTp 3 (gsCons (gNm 3) (gsCons (gNm 4) (gsCons (gNm 5) gsNil))))) (sCons (sExpr (eMt "list" appendD (eVar 1) (aCons (eTup (aCons (eVar 3) (aCons (eVar 4) (aStar (eCall0 f_place_of (aCons (eVar 0) (aCons (eVar 2) aNil))) aNil)))) aNil))) (sCons (sSet (eVar 5) (gNm 2)) sNil)))) sNil)) sNil) FUEL) (sCons (sRet (eB tupleD (aCons (eVar 1) aNil))) sNil))))
def f_tokens : Fn := fnOf 6 m_tokens
theorem sc_tokens : FnScope ["text", "found", "at", "sort", "told", "end"] ["text"] (defScope s_tokens) := ⟨rfl, rfl, rfl, by decide +kernel, rfl, by decide +kernel, by decide +kernel⟩
set_option maxHeartbeats 4000000 in
theorem ok_tokens {P : Program} {w : World} {K : PySem.W.Frag} {mg : Str → Option Value} {base : Heap} {f : Addr} {fd : FuncData} (F : FnP K "tokens" s_tokens f fd) (T : Txt K mg) (C_comment_end : Cal P w K mg base 1 "comment_end" ["text", "at"] f_comment_end) (C_place_of : Cal P w K mg base 1 "place_of" ["text", "at"] f_place_of) (C_token_at : Cal P w K mg base 3 "token_at" ["text", "at"] f_token_at) : FnG P w K mg base 4 f fd ["text"] f_tokens :=
  fn_ok F sc_tokens fun cdv A outer s H hr hgd => (ss_cons (s_if (q_not (q_tru (v_is (by rfl) T.b_isinstance boot_of_isinstance (v_var (i := 0) rfl (.inl rfl)) (by rfl) T.b_str boot_of_str))) ss_never ss_nil) (ss_cons (s_par2 (i := 1) (j := 2) rfl sc_tokens.nd rfl rfl (by decide) rfl rfl (a_cons (v_lst a_nil) (a_cons v_int a_nil)) (by rfl)) (ss_cons (s_while FUEL PassesOwn.never (q_cmp op_lt (o2_cmp fun i j => decide (i < j)) (v_var (i := 2) rfl (.inl rfl)) (v_callB call_len ol_len (by rfl) T.b_len boot_of_len (a_cons (v_var (i := 0) rfl (.inl rfl)) a_nil)) (nomark _)) (ss_cons (s_if (q_cmp op_inA o2_in (v_ix ix_seq o2_ix (v_var (i := 0) rfl (.inl rfl)) (v_var (i := 2) rfl (.inl rfl)) (fun _ _ => rfl)) (g_str T.g_BLANKS (by rfl) rfl) rfl) (ss_cons (s_aug (i := 2) sc_tokens.nd rfl (.inl rfl) v_int iop_add o2_iadd) ss_nil) (ss_cons (s_if (q_tru (v_mt PySem.F.plainAttrs_str PySem.F.slot_str_startswith PySem.F.type_str_startswith mt_startsA om_starts (v_var (i := 0) rfl (.inl rfl)) (a_cons (g_tab T.g_COMMENTS (by rfl)) (a_cons (v_var (i := 2) rfl (.inl rfl)) a_nil)))) (ss_cons (s_set (i := 2) sc_tokens.nd rfl (.inl rfl) (c_call C_comment_end hr (by decide) hgd (by rfl) (a_cons (v_var (i := 0) rfl (.inl rfl)) (a_cons (v_var (i := 2) rfl (.inl rfl)) a_nil)) (aCons_len (aCons_len aNil_len)))) ss_nil) (ss_cons (s_asg (c_call C_token_at hr (by decide) hgd (by rfl) (a_cons (v_var (i := 0) rfl (.inl rfl)) (a_cons (v_var (i := 2) rfl (.inl rfl)) a_nil)) (aCons_len (aCons_len aNil_len))) (t_tup (n := 3) rfl (ts_cons (t_name (i := 3) sc_tokens.nd rfl (.inl rfl)) (ts_cons (t_name (i := 4) sc_tokens.nd rfl (.inl rfl)) (ts_cons (t_name (i := 5) sc_tokens.nd rfl (.inl rfl)) ts_nil))))) (ss_cons (s_expr (v_mt PySem.F.plainAttrs_list PySem.F.slot_list_append PySem.F.type_list_append mt_append om_append (v_var (i := 1) rfl (.inl rfl)) (a_cons (v_tup (a_cons (v_var (i := 3) rfl (.inl rfl)) (a_cons (v_var (i := 4) rfl (.inl rfl)) (a_star (c_call C_place_of hr (by decide) hgd (by rfl) (a_cons (v_var (i := 0) rfl (.inl rfl)) (a_cons (v_var (i := 2) rfl (.inl rfl)) a_nil)) (aCons_len (aCons_len aNil_len))) a_nil)))) a_nil))) (ss_cons (s_set (i := 2) sc_tokens.nd rfl (.inl rfl) (v_var (i := 5) rfl (.inl rfl))) ss_nil)))) ss_nil)) ss_nil)) (ss_cons (s_ret (v_callTy call_tuple_of ol_tuple (by rfl) T.b_tuple boot_of_tuple (a_cons (v_var (i := 1) rfl (.inl rfl)) a_nil))) ss_nil))))
/-! _law_plain: 0 text, 1 found, 2 inside, 3 at, 4 two, 5 size, 6 is_end, 7 is_begun -/
abbrev s__law_plain : Stmt := top 43
def m__law_plain : SM := (sCons (sSet (eTup (aCons (eC (.str [])) (aCons (eC (.str [])) (aCons (eC (.int 0)) aNil)))) (gTp 3 (gsCons (gNm 1) (gsCons (gNm 2) (gsCons (gNm 3) gsNil))))) (sCons (sWhile (qCmp ltD (eVar 3) (eB lenD (aCons (eVar 0) aNil))) (sCons (sSet (eSl slD (eVar 0) (ePart (eVar 3)) (ePart (eOp addD (eVar 3) (eC (.int 2))))) (gNm 4)) (sCons (sIf (qCmp eqD (eVar 2) (eC (.str [99, 111, 109, 109, 101, 110, 116]))) (sCons (sSet (eIf (qCmp eqD (eVar 4) (eC (.str [42, 41]))) (eC (.int 2)) (eC (.int 1))) (gNm 5)) (sCons (sSet (eOr (eOp eqD (eVar 4) (eC (.str [42, 41]))) (eOp eqD (eOp ixD (eVar 0) (eVar 3)) (eC (.str [125])))) (gNm 6)) (sCons (sSet (eOp addD (eVar 1) (eIf (qCmp eqD (eOp ixD (eVar 0) (eVar 3)) (eC (.str [10]))) (eC (.str [10])) (eOp mulD (eC (.str [32])) (eVar 5)))) (gNm 1)) (sCons (sSet (eIf (qTru (eVar 6)) (eC (.str [])) (eVar 2)) (gNm 2)) sNil)))) (sCons (sIf (qCmp eqD (eVar 2) (eC (.str [115, 116, 114, 105, 110, 103]))) (sCons (sSet (eIf (qCmp eqD (eVar 4) (eC (.str [39, 39]))) (eC (.int 2)) (eC (.int 1))) (gNm 5)) (sCons (sPar2 1 2 (aCons (eOp addD (eVar 1) (eSl slD (eVar 0) (ePart (eVar 3)) (ePart (eOp addD (eVar 3) (eVar 5))))) (aCons (eIf (qAnd (qCmp eqD (eOp ixD (eVar 0) (eVar 3)) (eC (.str [39]))) (qCmp eqD (eVar 5) (eC (.int 1)))) (eC (.str [])) (eVar 2)) aNil))) sNil)) (sCons (sSet (eIf (qCmp eqD (eVar 4) (eC (.str [40, 42]))) (eC (.int 2)) (eC (.int 1))) (gNm 5)) (sCons (sSet (eOr (eOp eqD (eVar 4) (eC (.str [40, 42]))) (eOp eqD (eOp ixD (eVar 0) (eVar 3)) (eC (.str [123])))) (gNm 7)) (sCons (sSet (eIf (qTru (eVar 7)) (eC (.str [99, 111, 109, 109, 101, 110, 116])) (eIf (qCmp eqD (eOp ixD (eVar 0) (eVar 3)) (eC (.str [39]))) (eC (.str [115, 116, 114, 105, 110, 103])) (eC (.str [])))) (gNm 2)) (sCons (sSet (eOp addD (eVar 1) (eIf (qTru (eVar 7)) (eOp mulD (eC (.str [32])) (eVar 5)) (eOp ixD (eVar 0) (eVar 3)))) (gNm 1)) sNil))))) sNil)) (sCons (sSet (eOp addD (eVar 3) (eVar 5)) (gNm 3)) sNil))) FUEL) (sCons (sRet (eVar 1)) sNil)))
def f__law_plain : Fn := fnOf 8 m__law_plain
theorem sc__law_plain : FnScope ["text", "found", "inside", "at", "two", "size", "is_end", "is_begun"] ["text"] (defScope s__law_plain) := ⟨rfl, rfl, rfl, by decide +kernel, rfl, by decide +kernel, by decide +kernel⟩
set_option maxHeartbeats 4000000 in
theorem ok__law_plain {P : Program} {w : World} {K : PySem.W.Frag} {mg : Str → Option Value} {base : Heap} {f : Addr} {fd : FuncData} (F : FnP K "_law_plain" s__law_plain f fd) (T : Txt K mg) : FnG P w K mg base 1 f fd ["text"] f__law_plain :=
  fn_ok F sc__law_plain fun cdv A outer s H hr hgd => (ss_cons (s_asg (v_tup (a_cons (v_str rfl) (a_cons (v_str rfl) (a_cons v_int a_nil)))) (t_tup (n := 3) rfl (ts_cons (t_name (i := 1) sc__law_plain.nd rfl (.inl rfl)) (ts_cons (t_name (i := 2) sc__law_plain.nd rfl (.inl rfl)) (ts_cons (t_name (i := 3) sc__law_plain.nd rfl (.inl rfl)) ts_nil))))) (ss_cons (s_while FUEL PassesOwn.never (q_cmp op_lt (o2_cmp fun i j => decide (i < j)) (v_var (i := 3) rfl (.inl rfl)) (v_callB call_len ol_len (by rfl) T.b_len boot_of_len (a_cons (v_var (i := 0) rfl (.inl rfl)) a_nil)) (nomark _)) (ss_cons (s_set (i := 4) sc__law_plain.nd rfl (.inl rfl) (v_slice sl_all o3_sl (v_var (i := 0) rfl (.inl rfl)) (o_some (v_var (i := 3) rfl (.inl rfl))) (o_some (v_op op_addA o2_add (v_var (i := 3) rfl (.inl rfl)) v_int)))) (ss_cons (s_if (q_cmp op_eq o2_eq (v_var (i := 2) rfl (.inl rfl)) (v_str rfl) (nomark _)) (ss_cons (s_set (i := 5) sc__law_plain.nd rfl (.inl rfl) (v_if (q_cmp op_eq o2_eq (v_var (i := 4) rfl (.inl rfl)) (v_str rfl) (nomark _)) v_int v_int)) (ss_cons (s_set (i := 6) sc__law_plain.nd rfl (.inl rfl) (v_or (v_cmp op_eq o2_eq (v_var (i := 4) rfl (.inl rfl)) (v_str rfl) (nomark _)) (v_one (v_cmp op_eq o2_eq (v_ix ix_seq o2_ix (v_var (i := 0) rfl (.inl rfl)) (v_var (i := 3) rfl (.inl rfl)) (fun _ _ => rfl)) (v_str rfl) (nomark _))))) (ss_cons (s_set (i := 1) sc__law_plain.nd rfl (.inl rfl) (v_op op_addA o2_add (v_var (i := 1) rfl (.inl rfl)) (v_if (q_cmp op_eq o2_eq (v_ix ix_seq o2_ix (v_var (i := 0) rfl (.inl rfl)) (v_var (i := 3) rfl (.inl rfl)) (fun _ _ => rfl)) (v_str rfl) (nomark _)) (v_str rfl) (v_op op_mulA o2_mul (v_str rfl) (v_var (i := 5) rfl (.inl rfl)))))) (ss_cons (s_set (i := 2) sc__law_plain.nd rfl (.inl rfl) (v_if (q_tru (v_var (i := 6) rfl (.inl rfl))) (v_str rfl) (v_var (i := 2) rfl (.inl rfl)))) ss_nil)))) (ss_cons (s_if (q_cmp op_eq o2_eq (v_var (i := 2) rfl (.inl rfl)) (v_str rfl) (nomark _)) (ss_cons (s_set (i := 5) sc__law_plain.nd rfl (.inl rfl) (v_if (q_cmp op_eq o2_eq (v_var (i := 4) rfl (.inl rfl)) (v_str rfl) (nomark _)) v_int v_int)) (ss_cons (s_par2 (i := 1) (j := 2) rfl sc__law_plain.nd rfl rfl (by decide) rfl rfl (a_cons (v_op op_addA o2_add (v_var (i := 1) rfl (.inl rfl)) (v_slice sl_all o3_sl (v_var (i := 0) rfl (.inl rfl)) (o_some (v_var (i := 3) rfl (.inl rfl))) (o_some (v_op op_addA o2_add (v_var (i := 3) rfl (.inl rfl)) (v_var (i := 5) rfl (.inl rfl)))))) (a_cons (v_if (PW.pt (q_and (q_cmp op_eq o2_eq (v_ix ix_seq o2_ix (v_var (i := 0) rfl (.inl rfl)) (v_var (i := 3) rfl (.inl rfl)) (fun _ _ => rfl)) (v_str rfl) (nomark _)) (q_and1 (q_cmp op_eq o2_eq (v_var (i := 5) rfl (.inl rfl)) v_int (nomark _))))) (v_str rfl) (v_var (i := 2) rfl (.inl rfl))) a_nil)) (by rfl)) ss_nil)) (ss_cons (s_set (i := 5) sc__law_plain.nd rfl (.inl rfl) (v_if (q_cmp op_eq o2_eq (v_var (i := 4) rfl (.inl rfl)) (v_str rfl) (nomark _)) v_int v_int)) (ss_cons (s_set (i := 7) sc__law_plain.nd rfl (.inl rfl) (v_or (v_cmp op_eq o2_eq (v_var (i := 4) rfl (.inl rfl)) (v_str rfl) (nomark _)) (v_one (v_cmp op_eq o2_eq (v_ix ix_seq o2_ix (v_var (i := 0) rfl (.inl rfl)) (v_var (i := 3) rfl (.inl rfl)) (fun _ _ => rfl)) (v_str rfl) (nomark _))))) (ss_cons (s_set (i := 2) sc__law_plain.nd rfl (.inl rfl) (v_if (q_tru (v_var (i := 7) rfl (.inl rfl))) (v_str rfl) (v_if (q_cmp op_eq o2_eq (v_ix ix_seq o2_ix (v_var (i := 0) rfl (.inl rfl)) (v_var (i := 3) rfl (.inl rfl)) (fun _ _ => rfl)) (v_str rfl) (nomark _)) (v_str rfl) (v_str rfl)))) (ss_cons (s_set (i := 1) sc__law_plain.nd rfl (.inl rfl) (v_op op_addA o2_add (v_var (i := 1) rfl (.inl rfl)) (v_if (q_tru (v_var (i := 7) rfl (.inl rfl))) (v_op op_mulA o2_mul (v_str rfl) (v_var (i := 5) rfl (.inl rfl))) (v_ix ix_seq o2_ix (v_var (i := 0) rfl (.inl rfl)) (v_var (i := 3) rfl (.inl rfl)) (fun _ _ => rfl))))) ss_nil))))) ss_nil)) (ss_cons (s_set (i := 3) sc__law_plain.nd rfl (.inl rfl) (v_op op_addA o2_add (v_var (i := 3) rfl (.inl rfl)) (v_var (i := 5) rfl (.inl rfl)))) ss_nil)))) (ss_cons (s_ret (v_var (i := 1) rfl (.inl rfl))) ss_nil)))
/-! _law_small: 0 text, 1 parts, 2 at, 3 part -/
abbrev s__law_small : Stmt := top 44
def m__law_small : SM := (sCons (sSet (eMt "str" splitD (eVar 0) (aCons (eC (.str [39])) aNil)) (gNm 1)) (sCons (sRet (eMt "str" joinD (eC (.str [39])) (aCons (eLc FUEL (iEnu (aCons (eVar 1) aNil)) (gTp 2 (gsCons (gNm 2) (gsCons (gNm 3) gsNil))) qYes (eIf (qCmp eqD (eOp modD (eB intD (aCons (eVar 2) aNil)) (eC (.int 2))) (eC (.int 1))) (eVar 3) (eMt0 "str" lowerD (eVar 3))) [2, 3]) aNil))) sNil))
def f__law_small : Fn := fnOf 4 m__law_small
theorem sc__law_small : FnScope ["text", "parts", "at", "part"] ["text"] (defScope s__law_small) := ⟨rfl, rfl, rfl, by decide +kernel, rfl, by decide +kernel, by decide +kernel⟩
set_option maxHeartbeats 4000000 in
theorem ok__law_small {P : Program} {w : World} {K : PySem.W.Frag} {mg : Str → Option Value} {base : Heap} {f : Addr} {fd : FuncData} (F : FnP K "_law_small" s__law_small f fd) (T : Txt K mg) : FnG P w K mg base 1 f fd ["text"] f__law_small :=
  fn_ok F sc__law_small fun cdv A outer s H hr hgd => (ss_cons (s_set (i := 1) sc__law_small.nd rfl (.inl rfl) (v_mt PySem.F.plainAttrs_str PySem.F.slot_str_split PySem.F.type_str_split mt_split om_split (v_var (i := 0) rfl (.inl rfl)) (a_cons (v_str rfl) a_nil))) (ss_cons (s_ret (v_mt PySem.F.plainAttrs_str PySem.F.slot_str_join PySem.F.type_str_join mt_join om_join (v_str rfl) (a_cons (v_lc FUEL rfl sc__law_small.nd (i_enu (by rfl) T.b_enumerate (a_cons (v_var (i := 1) rfl (.inl rfl)) a_nil)) (own := [("at", 2), ("part", 3)]) (by show BlkOk ["text", "parts", "at", "part"] (defScope s__law_small) _ _; exact blkOk_by (by decide +kernel)) (by decide) (fun _ _ _ _ _ => (t_tup (n := 2) rfl (ts_cons (t_name (i := 2) sc__law_small.nd rfl (.inl rfl)) (ts_cons (t_name (i := 3) sc__law_small.nd rfl (.inl rfl)) ts_nil)))) (fun _ _ _ _ _ => qs_nil) (fun _ _ _ _ _ => (v_if (q_cmp op_eq o2_eq (v_op op_mod o2_mod (v_callTy call_intA ol_int (by rfl) T.b_int boot_of_int (a_cons (v_var (i := 2) rfl (.inl rfl)) a_nil)) v_int) v_int (nomark _)) (v_var (i := 3) rfl (.inl rfl)) (v_mt0 PySem.F.plainAttrs_str PySem.F.slot_str_lower PySem.F.type_str_lower mt_lower om_lower (v_var (i := 3) rfl (.inl rfl)))))) a_nil))) ss_nil))
/-! _law_right: 0 pot, 1 one, 2 mine, 3 other, 4 its, 5 feeds, 6 later, 7 plain, 8 sort, 9 told, 10 line, 11 column -/
abbrev s__law_right : Stmt := top 45
def m__law_right : SM := (sCons (sSet (eCall0 f__law_row (aCons (eVar 0) aNil)) (gTp 2 (gsCons (gNm 1) (gsCons (gNm 2) gsNil)))) (sCons (sSet (eCall0 f__law_row (aCons (eVar 0) aNil)) (gTp 2 (gsCons (gNm 3) (gsCons (gNm 4) gsNil)))) (sCons (sIf (qOr (qCmp neD (eB reprD (aCons (eCall0 f_tokens (aCons (eVar 1) aNil)) aNil)) (eB reprD (aCons (eB tupleD (aCons (eVar 2) aNil)) aNil))) (qCmp neD (eB reprD (aCons (eCall0 f_tokens (aCons (eVar 3) aNil)) aNil)) (eB reprD (aCons (eB tupleD (aCons (eVar 4) aNil)) aNil)))) (sCons (sRet (eC (.bl false))) sNil) sNil) (sCons (sSet (eB lenD (aCons (eMt "str" splitD (eVar 1) (aCons (eC (.str [10])) aNil)) aNil)) (gNm 5)) (sCons (sSet (eLc FUEL (iSeq (eVar 4)) (gTp 4 (gsCons (gNm 8) (gsCons (gNm 9) (gsCons (gNm 10) (gsCons (gNm 11) gsNil))))) qYes (eTup (aCons (eVar 8) (aCons (eVar 9) (aCons (eOp addD (eVar 10) (eVar 5)) (aCons (eVar 11) aNil))))) [8, 9, 10, 11]) (gNm 6)) (sCons (sIf (qCmp neD (eB reprD (aCons (eCall0 f_tokens (aCons (eOp addD (eOp addD (eVar 1) (eC (.str [10]))) (eVar 3)) aNil)) aNil)) (eB reprD (aCons (eB tupleD (aCons (eOp addD (eVar 2) (eVar 6)) aNil)) aNil))) (sCons (sRet (eC (.bl false))) sNil) sNil) (sCons (sSet (eCall0 f__law_plain (aCons (eVar 1) aNil)) (gNm 7)) (sCons (sIf (qOr (qCmp neD (eB reprD (aCons (eCall0 f_tokens (aCons (eVar 7) aNil)) aNil)) (eB reprD (aCons (eB tupleD (aCons (eVar 2) aNil)) aNil))) (qCmp neD (eB reprD (aCons (eCall0 f_tokens (aCons (eCall0 f__law_small (aCons (eVar 7) aNil)) aNil)) aNil)) (eB reprD (aCons (eB tupleD (aCons (eVar 2) aNil)) aNil)))) (sCons (sRet (eC (.bl false))) sNil) sNil) (sCons (sRet (eOp eqD (eB reprD (aCons (eCall0 f_tokens (aCons (eVar 1) aNil)) aNil)) (eB reprD (aCons (eB tupleD (aCons (eVar 2) aNil)) aNil)))) sNil)))))))))
def f__law_right : Fn := fnOf 12 m__law_right
theorem sc__law_right : FnScope ["pot", "one", "mine", "other", "its", "feeds", "later", "plain", "sort", "told", "line", "column"] ["pot"] (defScope s__law_right) := ⟨rfl, rfl, rfl, by decide +kernel, rfl, by decide +kernel, by decide +kernel⟩
set_option maxHeartbeats 4000000 in
theorem ok__law_right {P : Program} {w : World} {K : PySem.W.Frag} {mg : Str → Option Value} {base : Heap} {f : Addr} {fd : FuncData} (F : FnP K "_law_right" s__law_right f fd) (T : Txt K mg) (C_tokens : Cal P w K mg base 4 "tokens" ["text"] f_tokens) (K_tokens : CalK P w K mg base 4 "tokens" "text" f_tokens) (C__law_small : Cal P w K mg base 1 "_law_small" ["text"] f__law_small) (C__law_plain : Cal P w K mg base 1 "_law_plain" ["text"] f__law_plain) (C__law_row : Cal P w K mg base 5 "_law_row" ["pot"] f__law_row) : FnG P w K mg base 6 f fd ["pot"] f__law_right :=
  fn_ok F sc__law_right fun cdv A outer s H hr hgd => (ss_cons (s_asg (c_call C__law_row hr (by decide) hgd (by rfl) (a_cons (v_var (i := 0) rfl (.inl rfl)) a_nil) (aCons_len aNil_len)) (t_tup (n := 2) rfl (ts_cons (t_name (i := 1) sc__law_right.nd rfl (.inl rfl)) (ts_cons (t_name (i := 2) sc__law_right.nd rfl (.inl rfl)) ts_nil)))) (ss_cons (s_asg (c_call C__law_row hr (by decide) hgd (by rfl) (a_cons (v_var (i := 0) rfl (.inl rfl)) a_nil) (aCons_len aNil_len)) (t_tup (n := 2) rfl (ts_cons (t_name (i := 3) sc__law_right.nd rfl (.inl rfl)) (ts_cons (t_name (i := 4) sc__law_right.nd rfl (.inl rfl)) ts_nil)))) (ss_cons (s_if (PW.pt (q_or (q_cmp op_ne o2_ne (v_callB (cr_repr hgd (u65 hr)) ol_repr (by rfl) T.b_repr boot_of_repr (a_cons (c_call C_tokens hr (by decide) hgd (by rfl) (a_cons (v_var (i := 1) rfl (.inl rfl)) a_nil) (aCons_len aNil_len)) a_nil)) (v_callB (cr_repr hgd (u65 hr)) ol_repr (by rfl) T.b_repr boot_of_repr (a_cons (v_callTy call_tuple_of ol_tuple (by rfl) T.b_tuple boot_of_tuple (a_cons (v_var (i := 2) rfl (.inl rfl)) a_nil)) a_nil)) (nomark _)) (q_or1 (q_cmp op_ne o2_ne (v_callB (cr_repr hgd (u65 hr)) ol_repr (by rfl) T.b_repr boot_of_repr (a_cons (c_callk K_tokens hr (by decide) hgd (by rfl) (v_var (i := 3) rfl (.inl rfl))) a_nil)) (v_callB (cr_repr hgd (u65 hr)) ol_repr (by rfl) T.b_repr boot_of_repr (a_cons (v_callTy call_tuple_of ol_tuple (by rfl) T.b_tuple boot_of_tuple (a_cons (v_var (i := 4) rfl (.inl rfl)) a_nil)) a_nil)) (nomark _))))) (ss_cons (s_ret v_bl) ss_nil) ss_nil) (ss_cons (s_set (i := 5) sc__law_right.nd rfl (.inr rfl) (v_callB call_len ol_len (by rfl) T.b_len boot_of_len (a_cons (v_mt PySem.F.plainAttrs_str PySem.F.slot_str_split PySem.F.type_str_split mt_split om_split (v_var (i := 1) rfl (.inl rfl)) (a_cons (v_str rfl) a_nil)) a_nil))) (ss_cons (s_setLc (i := 6) FUEL rfl sc__law_right.nd rfl rfl rfl (i_seq (v_var (i := 4) rfl (.inl rfl))) (own := [("sort", 8), ("told", 9), ("line", 10), ("column", 11)]) (by show BlkOk ["pot", "one", "mine", "other", "its", "feeds", "later", "plain", "sort", "told", "line", "column"] (defScope s__law_right) _ _; exact blkOk_by (by decide +kernel)) (by decide) (fun _ _ _ _ _ => (t_tup (n := 4) rfl (ts_cons (t_name (i := 8) sc__law_right.nd rfl (.inl rfl)) (ts_cons (t_name (i := 9) sc__law_right.nd rfl (.inl rfl)) (ts_cons (t_name (i := 10) sc__law_right.nd rfl (.inl rfl)) (ts_cons (t_name (i := 11) sc__law_right.nd rfl (.inl rfl)) ts_nil)))))) (fun _ _ _ _ _ => qs_nil) (fun _ _ _ _ _ => (v_tup (a_cons (v_var (i := 8) rfl (.inl rfl)) (a_cons (v_var (i := 9) rfl (.inl rfl)) (a_cons (v_op op_addA o2_add (v_var (i := 10) rfl (.inl rfl)) (v_var (i := 5) rfl (.inr (.inl rfl)))) (a_cons (v_var (i := 11) rfl (.inl rfl)) a_nil))))))) (ss_cons (s_if (q_cmp op_ne o2_ne (v_callB (cr_repr hgd (u65 hr)) ol_repr (by rfl) T.b_repr boot_of_repr (a_cons (c_call C_tokens hr (by decide) hgd (by rfl) (a_cons (v_op op_addA o2_add (v_op op_addA o2_add (v_var (i := 1) rfl (.inl rfl)) (v_str rfl)) (v_var (i := 3) rfl (.inl rfl))) a_nil) (aCons_len aNil_len)) a_nil)) (v_callB (cr_repr hgd (u65 hr)) ol_repr (by rfl) T.b_repr boot_of_repr (a_cons (v_callTy call_tuple_of ol_tuple (by rfl) T.b_tuple boot_of_tuple (a_cons (v_op op_addA o2_add (v_var (i := 2) rfl (.inl rfl)) (v_var (i := 6) rfl (.inl rfl))) a_nil)) a_nil)) (nomark _)) (ss_cons (s_ret v_bl) ss_nil) ss_nil) (ss_cons (s_set (i := 7) sc__law_right.nd rfl (.inl rfl) (c_call C__law_plain hr (by decide) hgd (by rfl) (a_cons (v_var (i := 1) rfl (.inl rfl)) a_nil) (aCons_len aNil_len))) (ss_cons (s_if (PW.pt (q_or (q_cmp op_ne o2_ne (v_callB (cr_repr hgd (u65 hr)) ol_repr (by rfl) T.b_repr boot_of_repr (a_cons (c_call C_tokens hr (by decide) hgd (by rfl) (a_cons (v_var (i := 7) rfl (.inl rfl)) a_nil) (aCons_len aNil_len)) a_nil)) (v_callB (cr_repr hgd (u65 hr)) ol_repr (by rfl) T.b_repr boot_of_repr (a_cons (v_callTy call_tuple_of ol_tuple (by rfl) T.b_tuple boot_of_tuple (a_cons (v_var (i := 2) rfl (.inl rfl)) a_nil)) a_nil)) (nomark _)) (q_or1 (q_cmp op_ne o2_ne (v_callB (cr_repr hgd (u65 hr)) ol_repr (by rfl) T.b_repr boot_of_repr (a_cons (c_call C_tokens hr (by decide) hgd (by rfl) (a_cons (c_call C__law_small hr (by decide) hgd (by rfl) (a_cons (v_var (i := 7) rfl (.inl rfl)) a_nil) (aCons_len aNil_len)) a_nil) (aCons_len aNil_len)) a_nil)) (v_callB (cr_repr hgd (u65 hr)) ol_repr (by rfl) T.b_repr boot_of_repr (a_cons (v_callTy call_tuple_of ol_tuple (by rfl) T.b_tuple boot_of_tuple (a_cons (v_var (i := 2) rfl (.inl rfl)) a_nil)) a_nil)) (nomark _))))) (ss_cons (s_ret v_bl) ss_nil) ss_nil) (ss_cons (s_ret (v_cmp op_eq o2_eq (v_callB (cr_repr hgd (u65 hr)) ol_repr (by rfl) T.b_repr boot_of_repr (a_cons (c_call C_tokens hr (by decide) hgd (by rfl) (a_cons (v_var (i := 1) rfl (.inl rfl)) a_nil) (aCons_len aNil_len)) a_nil)) (v_callB (cr_repr hgd (u65 hr)) ol_repr (by rfl) T.b_repr boot_of_repr (a_cons (v_callTy call_tuple_of ol_tuple (by rfl) T.b_tuple boot_of_tuple (a_cons (v_var (i := 2) rfl (.inl rfl)) a_nil)) a_nil)) (nomark _))) ss_nil)))))))))
/-! _law_pot: 0 script, 1 place, 2 cell, 3 own, 4 small -/
abbrev s__law_pot : Stmt := top 29
def m__law_pot : SM := (sCons (sSet (eIf (qCmp ltD (eVar 1) (eB lenD (aCons (eVar 0) aNil))) (eOp ixD (eVar 0) (eVar 1)) (eOp addD (eOp addD (eOp modD (eB intD (aCons (eB sumD (aCons (eSl slD (eVar 0) eNoPart (ePart (eC (.int 1)))) aNil)) aNil)) (eC (.int 1000003))) (eOp mulD (eC (.int 601)) (eVar 1))) (eC (.int 211)))) (gNm 2)) (sCons (sSet (eOp mulD (eOp modD (eB intD (aCons (eB absD (aCons (eVar 2) aNil)) aNil)) (eOp powD (eOp powD (eC (.int 10)) (eC (.int 60))) (eC (.int 5)))) (eB intD (aCons (eOp geD (eB absD (aCons (eVar 2) aNil)) (eOp powD (eC (.int 10)) (eC (.int 18)))) aNil))) (gNm 3)) (sCons (sSet (eOp modD (eB intD (aCons (eVar 2) aNil)) (eC (.int 2305843009213693951))) (gNm 4)) (sCons (sRet (eLst (aCons (eVar 3) (aCons (eOp modD (eB intD (aCons (eOp addD (eOp addD (eOp mulD (eVar 4) (eC (.int 75003))) (eOp mulD (eOp mulD (eC (.int 7001)) (eVar 1)) (eVar 1))) (eC (.int 301))) aNil)) (eC (.int 2305843009213693921))) (aCons (eC (.int 0)) aNil))))) sNil))))
def f__law_pot : Fn := fnOf 5 m__law_pot
theorem sc__law_pot : FnScope ["script", "place", "cell", "own", "small"] ["script", "place"] (defScope s__law_pot) := ⟨rfl, rfl, rfl, by decide +kernel, rfl, by decide +kernel, by decide +kernel⟩
set_option maxHeartbeats 4000000 in
theorem ok__law_pot {P : Program} {w : World} {K : PySem.W.Frag} {mg : Str → Option Value} {base : Heap} {f : Addr} {fd : FuncData} (F : FnP K "_law_pot" s__law_pot f fd) (T : Txt K mg) : FnG P w K mg base 1 f fd ["script", "place"] f__law_pot :=
  fn_ok F sc__law_pot fun cdv A outer s H hr hgd => (ss_cons (s_set (i := 2) sc__law_pot.nd rfl (.inl rfl) (v_if (q_cmp op_lt (o2_cmp fun i j => decide (i < j)) (v_var (i := 1) rfl (.inl rfl)) (v_callB call_len ol_len (by rfl) T.b_len boot_of_len (a_cons (v_var (i := 0) rfl (.inl rfl)) a_nil)) (nomark _)) (v_ix ix_seq o2_ix (v_var (i := 0) rfl (.inl rfl)) (v_var (i := 1) rfl (.inl rfl)) (fun _ _ => rfl)) (v_op op_addA o2_add (v_op op_addA o2_add (v_op op_mod o2_mod (v_callTy call_intA ol_int (by rfl) T.b_int boot_of_int (a_cons (v_callB (cr_sum rfl) ol_sum (by rfl) T.b_sum boot_of_sum (a_cons (v_slice sl_all o3_sl (v_var (i := 0) rfl (.inl rfl)) o_none (o_some v_int)) a_nil)) a_nil)) v_int) (v_op op_mulA o2_mul v_int (v_var (i := 1) rfl (.inl rfl)))) v_int))) (ss_cons (s_set (i := 3) sc__law_pot.nd rfl (.inl rfl) (v_op op_mulA o2_mul (v_op op_mod o2_mod (v_callTy call_intA ol_int (by rfl) T.b_int boot_of_int (a_cons (v_callB call_abs ol_abs (by rfl) T.b_abs boot_of_abs (a_cons (v_var (i := 2) rfl (.inl rfl)) a_nil)) a_nil)) (v_op op_powW o2_pow (v_op op_powW o2_pow v_int v_int) v_int)) (v_callTy call_intA ol_int (by rfl) T.b_int boot_of_int (a_cons (v_cmp op_ge (o2_cmp fun i j => decide (i ≥ j)) (v_callB call_abs ol_abs (by rfl) T.b_abs boot_of_abs (a_cons (v_var (i := 2) rfl (.inl rfl)) a_nil)) (v_op op_powW o2_pow v_int v_int) (nomark _)) a_nil)))) (ss_cons (s_set (i := 4) sc__law_pot.nd rfl (.inl rfl) (v_op op_mod o2_mod (v_callTy call_intA ol_int (by rfl) T.b_int boot_of_int (a_cons (v_var (i := 2) rfl (.inl rfl)) a_nil)) v_int)) (ss_cons (s_ret (v_lst (a_cons (v_var (i := 3) rfl (.inl rfl)) (a_cons (v_op op_mod o2_mod (v_callTy call_intA ol_int (by rfl) T.b_int boot_of_int (a_cons (v_op op_addA o2_add (v_op op_addA o2_add (v_op op_mulA o2_mul (v_var (i := 4) rfl (.inl rfl)) v_int) (v_op op_mulA o2_mul (v_op op_mulA o2_mul v_int (v_var (i := 1) rfl (.inl rfl))) (v_var (i := 1) rfl (.inl rfl)))) v_int) a_nil)) v_int) (a_cons v_int a_nil))))) ss_nil))))
/-! _law_cells: 0 script, 1 most -/
abbrev s__law_cells : Stmt := top 32
def m__law_cells : SM := (sCons (sRet (eLRg (eB max2D (aCons (eC (.int 1)) (aCons (eB min2D (aCons (eVar 1) (aCons (eB lenD (aCons (eVar 0) aNil)) aNil))) aNil))))) sNil)
def f__law_cells : Fn := fnOf 2 m__law_cells
theorem sc__law_cells : FnScope ["script", "most"] ["script", "most"] (defScope s__law_cells) := ⟨rfl, rfl, rfl, by decide +kernel, rfl, by decide +kernel, by decide +kernel⟩
set_option maxHeartbeats 4000000 in
theorem ok__law_cells {P : Program} {w : World} {K : PySem.W.Frag} {mg : Str → Option Value} {base : Heap} {f : Addr} {fd : FuncData} (F : FnP K "_law_cells" s__law_cells f fd) (T : Txt K mg) : FnG P w K mg base 1 f fd ["script", "most"] f__law_cells :=
  fn_ok F sc__law_cells fun cdv A outer s H hr hgd => (ss_cons (s_ret (v_listRg rfl (by rfl) T.b_list (by rfl) T.b_range (v_callB (call_max2 rfl) ol_max2 (by rfl) T.b_max boot_of_max (a_cons v_int (a_cons (v_callB (call_min2 rfl) ol_min2 (by rfl) T.b_min boot_of_min (a_cons (v_var (i := 1) rfl (.inl rfl)) (a_cons (v_callB call_len ol_len (by rfl) T.b_len boot_of_len (a_cons (v_var (i := 0) rfl (.inl rfl)) a_nil)) a_nil))) a_nil))))) ss_nil)
/-! law: 0 script, 1 place -/
abbrev s_law : Stmt := top 46
def m_law : SM := (sCons (sRet (eB allD (aCons (eLc FUEL (iSeq (eCall0 f__law_cells (aCons (eVar 0) (aCons (eC (.int 3)) aNil)))) (gNm 1) qYes (eCall0 f__law_right (aCons (eCall0 f__law_pot (aCons (eVar 0) (aCons (eVar 1) aNil))) aNil)) [1]) aNil))) sNil)
def f_law : Fn := fnOf 2 m_law
theorem sc_law : FnScope ["script", "place"] ["script"] (defScope s_law) := ⟨rfl, rfl, rfl, by decide +kernel, rfl, by decide +kernel, by decide +kernel⟩
set_option maxHeartbeats 4000000 in
theorem ok_law {P : Program} {w : World} {K : PySem.W.Frag} {mg : Str → Option Value} {base : Heap} {f : Addr} {fd : FuncData} (F : FnP K "law" s_law f fd) (T : Txt K mg) (C__law_cells : Cal P w K mg base 1 "_law_cells" ["script", "most"] f__law_cells) (C__law_right : Cal P w K mg base 6 "_law_right" ["pot"] f__law_right) (C__law_pot : Cal P w K mg base 1 "_law_pot" ["script", "place"] f__law_pot) : FnG P w K mg base 7 f fd ["script"] f_law :=
  fn_ok F sc_law fun cdv A outer s H hr hgd => (ss_cons (s_ret (v_callB (cr_all rfl) ol_all (by rfl) T.b_all boot_of_all (a_cons (v_lc FUEL rfl sc_law.nd (i_seq (c_call C__law_cells hr (by decide) hgd (by rfl) (a_cons (v_var (i := 0) rfl (.inr (.inl rfl))) (a_cons v_int a_nil)) (aCons_len (aCons_len aNil_len)))) (own := [("place", 1)]) (by show BlkOk ["script", "place"] (defScope s_law) _ _; exact blkOk_by (by decide +kernel)) (by decide) (fun _ _ _ _ _ => (t_name (i := 1) sc_law.nd rfl (.inl rfl))) (fun _ _ _ _ _ => qs_nil) (fun _ _ _ _ _ => (c_call C__law_right hr (by decide) hgd (by rfl) (a_cons (c_call C__law_pot hr (by decide) hgd (by rfl) (a_cons (v_var (i := 0) rfl (.inr (.inl rfl))) (a_cons (v_var (i := 1) rfl (.inl rfl)) a_nil)) (aCons_len (aCons_len aNil_len))) a_nil) (aCons_len aNil_len)))) a_nil))) ss_nil)
def d__law_take : He.DefD := ⟨("_law_take", none), "_law_take", "_law_take", defArgs s__law_take, defBody s__law_take, defScope s__law_take, [], []⟩
def d__law_may_touch : He.DefD := ⟨("_law_may_touch", none), "_law_may_touch", "_law_may_touch", defArgs s__law_may_touch, defBody s__law_may_touch, defScope s__law_may_touch, [], []⟩
def d__law_of : He.DefD := ⟨("_law_of", none), "_law_of", "_law_of", defArgs s__law_of, defBody s__law_of, defScope s__law_of, [], []⟩
def d__law_comment : He.DefD := ⟨("_law_comment", none), "_law_comment", "_law_comment", defArgs s__law_comment, defBody s__law_comment, defScope s__law_comment, [], []⟩
def d__law_gap : He.DefD := ⟨("_law_gap", none), "_law_gap", "_law_gap", defArgs s__law_gap, defBody s__law_gap, defScope s__law_gap, [], []⟩
def d__law_words : He.DefD := ⟨("_law_words", none), "_law_words", "_law_words", defArgs s__law_words, defBody s__law_words, defScope s__law_words, [], []⟩
def d__law_spelt : He.DefD := ⟨("_law_spelt", none), "_law_spelt", "_law_spelt", defArgs s__law_spelt, defBody s__law_spelt, defScope s__law_spelt, [], []⟩
def d__law_name : He.DefD := ⟨("_law_name", none), "_law_name", "_law_name", defArgs s__law_name, defBody s__law_name, defScope s__law_name, [], []⟩
def d__law_number : He.DefD := ⟨("_law_number", none), "_law_number", "_law_number", defArgs s__law_number, defBody s__law_number, defScope s__law_number, [], []⟩
def d__law_string : He.DefD := ⟨("_law_string", none), "_law_string", "_law_string", defArgs s__law_string, defBody s__law_string, defScope s__law_string, [], []⟩
def d__law_token : He.DefD := ⟨("_law_token", none), "_law_token", "_law_token", defArgs s__law_token, defBody s__law_token, defScope s__law_token, [], []⟩
def d__law_row : He.DefD := ⟨("_law_row", none), "_law_row", "_law_row", defArgs s__law_row, defBody s__law_row, defScope s__law_row, [], []⟩
def d_comment_end : He.DefD := ⟨("comment_end", none), "comment_end", "comment_end", defArgs s_comment_end, defBody s_comment_end, defScope s_comment_end, [], []⟩
def d_run_end : He.DefD := ⟨("run_end", none), "run_end", "run_end", defArgs s_run_end, defBody s_run_end, defScope s_run_end, [], []⟩
def d_number_at : He.DefD := ⟨("number_at", none), "number_at", "number_at", defArgs s_number_at, defBody s_number_at, defScope s_number_at, [], []⟩
def d_string_at : He.DefD := ⟨("string_at", none), "string_at", "string_at", defArgs s_string_at, defBody s_string_at, defScope s_string_at, [], []⟩
def d_token_at : He.DefD := ⟨("token_at", none), "token_at", "token_at", defArgs s_token_at, defBody s_token_at, defScope s_token_at, [], []⟩
def d_place_of : He.DefD := ⟨("place_of", none), "place_of", "place_of", defArgs s_place_of, defBody s_place_of, defScope s_place_of, [], []⟩
def d_tokens : He.DefD := ⟨("tokens", none), "tokens", "tokens", defArgs s_tokens, defBody s_tokens, defScope s_tokens, [], []⟩
def d__law_plain : He.DefD := ⟨("_law_plain", none), "_law_plain", "_law_plain", defArgs s__law_plain, defBody s__law_plain, defScope s__law_plain, [], []⟩
def d__law_small : He.DefD := ⟨("_law_small", none), "_law_small", "_law_small", defArgs s__law_small, defBody s__law_small, defScope s__law_small, [], []⟩
def d__law_right : He.DefD := ⟨("_law_right", none), "_law_right", "_law_right", defArgs s__law_right, defBody s__law_right, defScope s__law_right, [], []⟩
def d__law_pot : He.DefD := ⟨("_law_pot", none), "_law_pot", "_law_pot", defArgs s__law_pot, defBody s__law_pot, defScope s__law_pot, [], []⟩
def d__law_cells : He.DefD := ⟨("_law_cells", none), "_law_cells", "_law_cells", defArgs s__law_cells, defBody s__law_cells, defScope s__law_cells, [], []⟩
def d_law : He.DefD := ⟨("law", none), "law", "law", defArgs s_law, defBody s_law, defScope s_law, [], []⟩
def fn : List He.DefD := [d__law_take, d__law_may_touch, d__law_of, d__law_comment, d__law_gap, d__law_words, d__law_spelt, d__law_name, d__law_number, d__law_string, d__law_token, d__law_row, d_comment_end, d_run_end, d_number_at, d_string_at, d_token_at, d_place_of, d_tokens, d__law_plain, d__law_small, d__law_right, d__law_pot, d__law_cells, d_law]
def fa : List He.Fa := [.free "abs", .free "all", .free "enumerate", .free "int", .free "isinstance", .free "len", .free "list", .free "max", .free "min", .free "range", .free "repr", .free "sorted", .free "str", .free "sum", .free "tuple", .str "BLANKS" " \n", .str "FEED" "\n", .str "FIGURES" "0123456789", .str "LETTERS" "abcdefghijklmnopqrstuvwxyz", .int "MOST" 2147483647, .int "MOST_FIGURES" 10, .str "NAME" "name", .str "NUMBER" "number", .str "ONE_SIGNS" "+-*=<>()[].,:;^", .str "QUOTE" "'", .str "SIGN" "sign", .str "STRING" "string", .str "WORD" "word", .glo "_law_take", .glo "_law_may_touch", .glo "_law_of", .glo "_law_comment", .glo "_law_gap", .glo "_law_words", .glo "_law_spelt", .glo "_law_name", .glo "_law_number", .glo "_law_string", .glo "_law_token", .glo "_law_row", .glo "comment_end", .glo "run_end", .glo "number_at", .glo "string_at", .glo "token_at", .glo "place_of", .glo "tokens", .glo "_law_plain", .glo "_law_small", .glo "_law_right", .glo "_law_pot", .glo "_law_cells", .glo "law"]
def tb : List (Str × List He.Dv) := [("COMMENTS", (tab_COMMENTS.map fun s => He.Dv.str (tx s))), ("ENDS", (tab_ENDS.map fun s => He.Dv.str (tx s))), ("RESERVED", (tab_RESERVED.map fun s => He.Dv.str (tx s))), ("TWO_SIGNS", (tab_TWO_SIGNS.map fun s => He.Dv.str (tx s)))]
theorem facts {P : Program} {w : World} {K : PySem.W.Frag} {h : Heap} {mg : Str → Option Value} {f : Addr} (X : K.In h) (G : h.Ns mainGlobals mg) (hfa : mg ("law" : Str) = some (.ref f)) (c : SaysT fa fn tb K) :
    ∃ fd : FuncData, (∀ (s : Shared) (v : Value), BindsTo s fd ⟨[v], []⟩ [("script", v)]) ∧ ∀ base : Heap, K.In base → base.Ns mainGlobals mg → FnG P w K mg base 7 f fd ["script"] f_law := by
  have T : Txt K mg := ⟨He.free_ok X G (c.d.fact 0 (f := .free "abs") rfl), He.free_ok X G (c.d.fact 1 (f := .free "all") rfl), He.free_ok X G (c.d.fact 2 (f := .free "enumerate") rfl), He.free_ok X G (c.d.fact 3 (f := .free "int") rfl), He.free_ok X G (c.d.fact 4 (f := .free "isinstance") rfl), He.free_ok X G (c.d.fact 5 (f := .free "len") rfl), He.free_ok X G (c.d.fact 6 (f := .free "list") rfl), He.free_ok X G (c.d.fact 7 (f := .free "max") rfl), He.free_ok X G (c.d.fact 8 (f := .free "min") rfl), He.free_ok X G (c.d.fact 9 (f := .free "range") rfl), He.free_ok X G (c.d.fact 10 (f := .free "repr") rfl), He.free_ok X G (c.d.fact 11 (f := .free "sorted") rfl), He.free_ok X G (c.d.fact 12 (f := .free "str") rfl), He.free_ok X G (c.d.fact 13 (f := .free "sum") rfl), He.free_ok X G (c.d.fact 14 (f := .free "tuple") rfl), He.str_ok X G (c.d.fact 15 (f := .str "BLANKS" " \n") rfl), ⟨_, He.glo_ok X G (c.tab 0 (t := ("COMMENTS", (tab_COMMENTS.map fun s => He.Dv.str (tx s)))) rfl).2, fun H => tab_of ((c.tab 0 (t := ("COMMENTS", (tab_COMMENTS.map fun s => He.Dv.str (tx s)))) rfl).1 H)⟩, ⟨_, He.glo_ok X G (c.tab 1 (t := ("ENDS", (tab_ENDS.map fun s => He.Dv.str (tx s)))) rfl).2, fun H => tab_of ((c.tab 1 (t := ("ENDS", (tab_ENDS.map fun s => He.Dv.str (tx s)))) rfl).1 H)⟩, He.str_ok X G (c.d.fact 16 (f := .str "FEED" "\n") rfl), He.str_ok X G (c.d.fact 17 (f := .str "FIGURES" "0123456789") rfl), He.str_ok X G (c.d.fact 18 (f := .str "LETTERS" "abcdefghijklmnopqrstuvwxyz") rfl), He.int_ok X G (c.d.fact 19 (f := .int "MOST" 2147483647) rfl), He.int_ok X G (c.d.fact 20 (f := .int "MOST_FIGURES" 10) rfl), He.str_ok X G (c.d.fact 21 (f := .str "NAME" "name") rfl), He.str_ok X G (c.d.fact 22 (f := .str "NUMBER" "number") rfl), He.str_ok X G (c.d.fact 23 (f := .str "ONE_SIGNS" "+-*=<>()[].,:;^") rfl), He.str_ok X G (c.d.fact 24 (f := .str "QUOTE" "'") rfl), ⟨_, He.glo_ok X G (c.tab 2 (t := ("RESERVED", (tab_RESERVED.map fun s => He.Dv.str (tx s)))) rfl).2, fun H => tab_of ((c.tab 2 (t := ("RESERVED", (tab_RESERVED.map fun s => He.Dv.str (tx s)))) rfl).1 H)⟩, He.str_ok X G (c.d.fact 25 (f := .str "SIGN" "sign") rfl), He.str_ok X G (c.d.fact 26 (f := .str "STRING" "string") rfl), ⟨_, He.glo_ok X G (c.tab 3 (t := ("TWO_SIGNS", (tab_TWO_SIGNS.map fun s => He.Dv.str (tx s)))) rfl).2, fun H => tab_of ((c.tab 3 (t := ("TWO_SIGNS", (tab_TWO_SIGNS.map fun s => He.Dv.str (tx s)))) rfl).1 H)⟩, He.str_ok X G (c.d.fact 27 (f := .str "WORD" "word") rfl)⟩
  obtain ⟨e__law_take, F__law_take⟩ := c.d.def_ 0 (d := d__law_take) rfl
  have g__law_take := He.glo_ok X G (c.d.fact 28 (f := .glo "_law_take") rfl)
  obtain ⟨e__law_may_touch, F__law_may_touch⟩ := c.d.def_ 1 (d := d__law_may_touch) rfl
  have g__law_may_touch := He.glo_ok X G (c.d.fact 29 (f := .glo "_law_may_touch") rfl)
  obtain ⟨e__law_of, F__law_of⟩ := c.d.def_ 2 (d := d__law_of) rfl
  have g__law_of := He.glo_ok X G (c.d.fact 30 (f := .glo "_law_of") rfl)
  obtain ⟨e__law_comment, F__law_comment⟩ := c.d.def_ 3 (d := d__law_comment) rfl
  have g__law_comment := He.glo_ok X G (c.d.fact 31 (f := .glo "_law_comment") rfl)
  obtain ⟨e__law_gap, F__law_gap⟩ := c.d.def_ 4 (d := d__law_gap) rfl
  have g__law_gap := He.glo_ok X G (c.d.fact 32 (f := .glo "_law_gap") rfl)
  obtain ⟨e__law_words, F__law_words⟩ := c.d.def_ 5 (d := d__law_words) rfl
  have g__law_words := He.glo_ok X G (c.d.fact 33 (f := .glo "_law_words") rfl)
  obtain ⟨e__law_spelt, F__law_spelt⟩ := c.d.def_ 6 (d := d__law_spelt) rfl
  have g__law_spelt := He.glo_ok X G (c.d.fact 34 (f := .glo "_law_spelt") rfl)
  obtain ⟨e__law_name, F__law_name⟩ := c.d.def_ 7 (d := d__law_name) rfl
  have g__law_name := He.glo_ok X G (c.d.fact 35 (f := .glo "_law_name") rfl)
  obtain ⟨e__law_number, F__law_number⟩ := c.d.def_ 8 (d := d__law_number) rfl
  have g__law_number := He.glo_ok X G (c.d.fact 36 (f := .glo "_law_number") rfl)
  obtain ⟨e__law_string, F__law_string⟩ := c.d.def_ 9 (d := d__law_string) rfl
  have g__law_string := He.glo_ok X G (c.d.fact 37 (f := .glo "_law_string") rfl)
  obtain ⟨e__law_token, F__law_token⟩ := c.d.def_ 10 (d := d__law_token) rfl
  have g__law_token := He.glo_ok X G (c.d.fact 38 (f := .glo "_law_token") rfl)
  obtain ⟨e__law_row, F__law_row⟩ := c.d.def_ 11 (d := d__law_row) rfl
  have g__law_row := He.glo_ok X G (c.d.fact 39 (f := .glo "_law_row") rfl)
  obtain ⟨e_comment_end, F_comment_end⟩ := c.d.def_ 12 (d := d_comment_end) rfl
  have g_comment_end := He.glo_ok X G (c.d.fact 40 (f := .glo "comment_end") rfl)
  obtain ⟨e_run_end, F_run_end⟩ := c.d.def_ 13 (d := d_run_end) rfl
  have g_run_end := He.glo_ok X G (c.d.fact 41 (f := .glo "run_end") rfl)
  obtain ⟨e_number_at, F_number_at⟩ := c.d.def_ 14 (d := d_number_at) rfl
  have g_number_at := He.glo_ok X G (c.d.fact 42 (f := .glo "number_at") rfl)
  obtain ⟨e_string_at, F_string_at⟩ := c.d.def_ 15 (d := d_string_at) rfl
  have g_string_at := He.glo_ok X G (c.d.fact 43 (f := .glo "string_at") rfl)
  obtain ⟨e_token_at, F_token_at⟩ := c.d.def_ 16 (d := d_token_at) rfl
  have g_token_at := He.glo_ok X G (c.d.fact 44 (f := .glo "token_at") rfl)
  obtain ⟨e_place_of, F_place_of⟩ := c.d.def_ 17 (d := d_place_of) rfl
  have g_place_of := He.glo_ok X G (c.d.fact 45 (f := .glo "place_of") rfl)
  obtain ⟨e_tokens, F_tokens⟩ := c.d.def_ 18 (d := d_tokens) rfl
  have g_tokens := He.glo_ok X G (c.d.fact 46 (f := .glo "tokens") rfl)
  obtain ⟨e__law_plain, F__law_plain⟩ := c.d.def_ 19 (d := d__law_plain) rfl
  have g__law_plain := He.glo_ok X G (c.d.fact 47 (f := .glo "_law_plain") rfl)
  obtain ⟨e__law_small, F__law_small⟩ := c.d.def_ 20 (d := d__law_small) rfl
  have g__law_small := He.glo_ok X G (c.d.fact 48 (f := .glo "_law_small") rfl)
  obtain ⟨e__law_right, F__law_right⟩ := c.d.def_ 21 (d := d__law_right) rfl
  have g__law_right := He.glo_ok X G (c.d.fact 49 (f := .glo "_law_right") rfl)
  obtain ⟨e__law_pot, F__law_pot⟩ := c.d.def_ 22 (d := d__law_pot) rfl
  have g__law_pot := He.glo_ok X G (c.d.fact 50 (f := .glo "_law_pot") rfl)
  obtain ⟨e__law_cells, F__law_cells⟩ := c.d.def_ 23 (d := d__law_cells) rfl
  have g__law_cells := He.glo_ok X G (c.d.fact 51 (f := .glo "_law_cells") rfl)
  obtain ⟨e_law, F_law⟩ := c.d.def_ 24 (d := d_law) rfl
  have g_law := He.glo_ok X G (c.d.fact 52 (f := .glo "law") rfl)
  cases hfa.symm.trans g_law
  refine ⟨e_law, fun s v => FunD.bindsA (ps := ["script"]) F_law (fun _ _ _ _ _ _ us hl => match us, hl with | [_], _ => rfl) s [v] rfl, fun base _ _ => ?_⟩
  have G__law_take : FnG P w K mg base 1 _ e__law_take ["pot", "upto"] f__law_take := ok__law_take F__law_take T
  have C__law_take : Cal P w K mg base 1 "_law_take" ["pot", "upto"] f__law_take := fnp_cal F__law_take G__law_take g__law_take (fun _ _ _ _ _ _ us hl => match us, hl with | [_, _], _ => rfl)
  have G__law_may_touch : FnG P w K mg base 1 _ e__law_may_touch ["one", "other"] f__law_may_touch := ok__law_may_touch F__law_may_touch T
  have C__law_may_touch : Cal P w K mg base 1 "_law_may_touch" ["one", "other"] f__law_may_touch := fnp_cal F__law_may_touch G__law_may_touch g__law_may_touch (fun _ _ _ _ _ _ us hl => match us, hl with | [_, _], _ => rfl)
  have G__law_of : FnG P w K mg base 2 _ e__law_of ["pot", "some"] f__law_of := ok__law_of F__law_of T (C__law_take := C__law_take)
  have C__law_of : Cal P w K mg base 2 "_law_of" ["pot", "some"] f__law_of := fnp_cal F__law_of G__law_of g__law_of (fun _ _ _ _ _ _ us hl => match us, hl with | [_, _], _ => rfl)
  have G__law_comment : FnG P w K mg base 3 _ e__law_comment ["pot"] f__law_comment := ok__law_comment F__law_comment T (C__law_of := C__law_of) (C__law_take := C__law_take)
  have C__law_comment : Cal P w K mg base 3 "_law_comment" ["pot"] f__law_comment := fnp_cal F__law_comment G__law_comment g__law_comment (fun _ _ _ _ _ _ us hl => match us, hl with | [_], _ => rfl)
  have G__law_gap : FnG P w K mg base 4 _ e__law_gap ["pot", "one", "other"] f__law_gap := ok__law_gap F__law_gap T (C__law_may_touch := C__law_may_touch) (C__law_take := C__law_take) (C__law_of := C__law_of) (C__law_comment := C__law_comment)
  have C__law_gap : Cal P w K mg base 4 "_law_gap" ["pot", "one", "other"] f__law_gap := fnp_cal F__law_gap G__law_gap g__law_gap (fun _ _ _ _ _ _ us hl => match us, hl with | [_, _, _], _ => rfl)
  have G__law_words : FnG P w K mg base 1 _ e__law_words [] f__law_words := ok__law_words F__law_words T
  have C__law_words : Cal P w K mg base 1 "_law_words" [] f__law_words := fnp_cal F__law_words G__law_words g__law_words (fun _ _ _ _ _ _ us hl => match us, hl with | [], _ => rfl)
  have G__law_spelt : FnG P w K mg base 2 _ e__law_spelt ["pot", "word"] f__law_spelt := ok__law_spelt F__law_spelt T (C__law_take := C__law_take)
  have C__law_spelt : Cal P w K mg base 2 "_law_spelt" ["pot", "word"] f__law_spelt := fnp_cal F__law_spelt G__law_spelt g__law_spelt (fun _ _ _ _ _ _ us hl => match us, hl with | [_, _], _ => rfl)
  have G__law_name : FnG P w K mg base 3 _ e__law_name ["pot"] f__law_name := ok__law_name F__law_name T (C__law_of := C__law_of) (C__law_words := C__law_words)
  have C__law_name : Cal P w K mg base 3 "_law_name" ["pot"] f__law_name := fnp_cal F__law_name G__law_name g__law_name (fun _ _ _ _ _ _ us hl => match us, hl with | [_], _ => rfl)
  have G__law_number : FnG P w K mg base 3 _ e__law_number ["pot"] f__law_number := ok__law_number F__law_number T (C__law_of := C__law_of) (C__law_take := C__law_take)
  have C__law_number : Cal P w K mg base 3 "_law_number" ["pot"] f__law_number := fnp_cal F__law_number G__law_number g__law_number (fun _ _ _ _ _ _ us hl => match us, hl with | [_], _ => rfl)
  have G__law_string : FnG P w K mg base 3 _ e__law_string ["pot"] f__law_string := ok__law_string F__law_string T (C__law_of := C__law_of) (C__law_take := C__law_take)
  have C__law_string : Cal P w K mg base 3 "_law_string" ["pot"] f__law_string := fnp_cal F__law_string G__law_string g__law_string (fun _ _ _ _ _ _ us hl => match us, hl with | [_], _ => rfl)
  have G__law_token : FnG P w K mg base 4 _ e__law_token ["pot"] f__law_token := ok__law_token F__law_token T (C__law_take := C__law_take) (C__law_of := C__law_of) (C__law_words := C__law_words) (C__law_spelt := C__law_spelt) (C__law_name := C__law_name) (C__law_number := C__law_number) (C__law_string := C__law_string)
  have C__law_token : Cal P w K mg base 4 "_law_token" ["pot"] f__law_token := fnp_cal F__law_token G__law_token g__law_token (fun _ _ _ _ _ _ us hl => match us, hl with | [_], _ => rfl)
  have G__law_row : FnG P w K mg base 5 _ e__law_row ["pot"] f__law_row := ok__law_row F__law_row T (C__law_take := C__law_take) (C__law_gap := C__law_gap) (C__law_of := C__law_of) (C__law_token := C__law_token)
  have C__law_row : Cal P w K mg base 5 "_law_row" ["pot"] f__law_row := fnp_cal F__law_row G__law_row g__law_row (fun _ _ _ _ _ _ us hl => match us, hl with | [_], _ => rfl)
  have G_comment_end : FnG P w K mg base 1 _ e_comment_end ["text", "at"] f_comment_end := ok_comment_end F_comment_end T
  have C_comment_end : Cal P w K mg base 1 "comment_end" ["text", "at"] f_comment_end := fnp_cal F_comment_end G_comment_end g_comment_end (fun _ _ _ _ _ _ us hl => match us, hl with | [_, _], _ => rfl)
  have G_run_end : FnG P w K mg base 1 _ e_run_end ["text", "at", "signs"] f_run_end := ok_run_end F_run_end T
  have C_run_end : Cal P w K mg base 1 "run_end" ["text", "at", "signs"] f_run_end := fnp_cal F_run_end G_run_end g_run_end (fun _ _ _ _ _ _ us hl => match us, hl with | [_, _, _], _ => rfl)
  have G_number_at : FnG P w K mg base 2 _ e_number_at ["text", "at"] f_number_at := ok_number_at F_number_at T (C_run_end := C_run_end)
  have C_number_at : Cal P w K mg base 2 "number_at" ["text", "at"] f_number_at := fnp_cal F_number_at G_number_at g_number_at (fun _ _ _ _ _ _ us hl => match us, hl with | [_, _], _ => rfl)
  have G_string_at : FnG P w K mg base 1 _ e_string_at ["text", "at"] f_string_at := ok_string_at F_string_at T
  have C_string_at : Cal P w K mg base 1 "string_at" ["text", "at"] f_string_at := fnp_cal F_string_at G_string_at g_string_at (fun _ _ _ _ _ _ us hl => match us, hl with | [_, _], _ => rfl)
  have G_token_at : FnG P w K mg base 3 _ e_token_at ["text", "at"] f_token_at := ok_token_at F_token_at T (C_run_end := C_run_end) (C_number_at := C_number_at) (C_string_at := C_string_at)
  have C_token_at : Cal P w K mg base 3 "token_at" ["text", "at"] f_token_at := fnp_cal F_token_at G_token_at g_token_at (fun _ _ _ _ _ _ us hl => match us, hl with | [_, _], _ => rfl)
  have G_place_of : FnG P w K mg base 1 _ e_place_of ["text", "at"] f_place_of := ok_place_of F_place_of T
  have C_place_of : Cal P w K mg base 1 "place_of" ["text", "at"] f_place_of := fnp_cal F_place_of G_place_of g_place_of (fun _ _ _ _ _ _ us hl => match us, hl with | [_, _], _ => rfl)
  have G_tokens : FnG P w K mg base 4 _ e_tokens ["text"] f_tokens := ok_tokens F_tokens T (C_comment_end := C_comment_end) (C_token_at := C_token_at) (C_place_of := C_place_of)
  have C_tokens : Cal P w K mg base 4 "tokens" ["text"] f_tokens := fnp_cal F_tokens G_tokens g_tokens (fun _ _ _ _ _ _ us hl => match us, hl with | [_], _ => rfl)
  have K_tokens : CalK P w K mg base 4 "tokens" "text" f_tokens := fnp_calk F_tokens G_tokens g_tokens (fun _ _ _ _ _ _ _ => rfl)
  have G__law_plain : FnG P w K mg base 1 _ e__law_plain ["text"] f__law_plain := ok__law_plain F__law_plain T
  have C__law_plain : Cal P w K mg base 1 "_law_plain" ["text"] f__law_plain := fnp_cal F__law_plain G__law_plain g__law_plain (fun _ _ _ _ _ _ us hl => match us, hl with | [_], _ => rfl)
  have G__law_small : FnG P w K mg base 1 _ e__law_small ["text"] f__law_small := ok__law_small F__law_small T
  have C__law_small : Cal P w K mg base 1 "_law_small" ["text"] f__law_small := fnp_cal F__law_small G__law_small g__law_small (fun _ _ _ _ _ _ us hl => match us, hl with | [_], _ => rfl)
  have G__law_right : FnG P w K mg base 6 _ e__law_right ["pot"] f__law_right := ok__law_right F__law_right T (C__law_row := C__law_row) (C_tokens := C_tokens) (K_tokens := K_tokens) (C__law_plain := C__law_plain) (C__law_small := C__law_small)
  have C__law_right : Cal P w K mg base 6 "_law_right" ["pot"] f__law_right := fnp_cal F__law_right G__law_right g__law_right (fun _ _ _ _ _ _ us hl => match us, hl with | [_], _ => rfl)
  have G__law_pot : FnG P w K mg base 1 _ e__law_pot ["script", "place"] f__law_pot := ok__law_pot F__law_pot T
  have C__law_pot : Cal P w K mg base 1 "_law_pot" ["script", "place"] f__law_pot := fnp_cal F__law_pot G__law_pot g__law_pot (fun _ _ _ _ _ _ us hl => match us, hl with | [_, _], _ => rfl)
  have G__law_cells : FnG P w K mg base 1 _ e__law_cells ["script", "most"] f__law_cells := ok__law_cells F__law_cells T
  have C__law_cells : Cal P w K mg base 1 "_law_cells" ["script", "most"] f__law_cells := fnp_cal F__law_cells G__law_cells g__law_cells (fun _ _ _ _ _ _ us hl => match us, hl with | [_, _], _ => rfl)
  have G_law : FnG P w K mg base 7 _ e_law ["script"] f_law := ok_law F_law T (C__law_right := C__law_right) (C__law_pot := C__law_pot) (C__law_cells := C__law_cells)
  exact G_law
end K00

namespace K00
open Sh

/-! ### reading the printed functions -/
theorem x_var {i : Nat} {ev : Ev} {S : Store} {d : D} (h : ev[i]? = some (some d)) : eVar i ev S = .ok d S := by
  unfold eVar
  rw [h]
theorem x_c {ev : Ev} {S : Store} {d : D} : eC d ev S = .ok d S := rfl
theorem x_op {f : F2} {a b : EM D} {ev : Ev} {S S1 S2 S3 : Store} {x y d : D} (h1 : a ev S = .ok x S1) (h2 : b ev S1 = .ok y S2) (h3 : f x y S2 = some (d, S3)) : eOp f a b ev S = .ok d S3 := by
  unfold eOp ob
  rw [h1]
  show ob (b ev S1) _ = _
  unfold ob
  rw [h2]
  show oo (f x y S2) = _
  rw [h3]
  rfl
theorem x_un {f : F1} {a : EM D} {ev : Ev} {S S1 S3 : Store} {x d : D} (h1 : a ev S = .ok x S1) (h3 : f x S1 = some (d, S3)) : eUn f a ev S = .ok d S3 := by
  unfold eUn ob
  rw [h1]
  show oo (f x S1) = _
  rw [h3]
  rfl
theorem x_cons {a : EM D} {r : EM (List D)} {ev : Ev} {S S1 S2 : Store} {x : D} {xs : List D} (h1 : a ev S = .ok x S1) (h2 : r ev S1 = .ok xs S2) : aCons a r ev S = .ok (x :: xs) S2 := by
  unfold aCons ob
  rw [h1]
  show ob (r ev S1) _ = _
  unfold ob
  rw [h2]
theorem x_nil {ev : Ev} {S : Store} : aNil ev S = .ok [] S := rfl
theorem x_B {f : FL} {r : EM (List D)} {ev : Ev} {S S1 S2 : Store} {xs : List D} {d : D} (h1 : r ev S = .ok xs S1) (h2 : f xs S1 = some (d, S2)) : eB f r ev S = .ok d S2 := by
  unfold eB ob
  rw [h1]
  show oo (f xs S1) = _
  rw [h2]
  rfl
theorem x_mt {t : String} {f : D → FL} {a : EM D} {r : EM (List D)} {ev : Ev} {S S1 S2 S3 : Store} {x d : D} {xs : List D} (h1 : a ev S = .ok x S1) (ht : isTy t x S1 = true) (h2 : r ev S1 = .ok xs S2) (h3 : f x xs S2 = some (d, S3)) : eMt t f a r ev S = .ok d S3 := by
  unfold eMt ob
  rw [h1]
  show (if isTy t x S1 = true then _ else _) = _
  rw [if_pos ht]
  show ob (r ev S1) _ = _
  unfold ob
  rw [h2]
  show oo (f x xs S2) = _
  rw [h3]
  rfl
theorem x_mt0 {t : String} {f : D → FL} {a : EM D} {ev : Ev} {S S1 S3 : Store} {x d : D} (h1 : a ev S = .ok x S1) (ht : isTy t x S1 = true) (h3 : f x [] S1 = some (d, S3)) : eMt0 t f a ev S = .ok d S3 := by
  unfold eMt0 ob
  rw [h1]
  show (if isTy t x S1 = true then _ else _) = _
  rw [if_pos ht]
  show oo (f x [] S1) = _
  rw [h3]
  rfl
theorem x_tup {r : EM (List D)} {ev : Ev} {S S1 : Store} {xs : List D} (h1 : r ev S = .ok xs S1) (hl : xs.length ≤ 16777216 := by exact Nat.le_of_ble_eq_true rfl) : eTup r ev S = .ok (.tup xs) S1 := by
  unfold eTup ob
  rw [h1]
  show (if xs.length ≤ LINE then _ else _) = _
  rw [if_pos hl]
theorem x_lst {r : EM (List D)} {ev : Ev} {S S1 : Store} {xs : List D} (h1 : r ev S = .ok xs S1) (hl : xs.length ≤ 16777216 := by exact Nat.le_of_ble_eq_true rfl) : eLst r ev S = .ok (.obj S1.length) (S1 ++ [.lst xs]) := by
  unfold eLst ob
  rw [h1]
  show (if xs.length ≤ LINE then _ else _) = _
  rw [if_pos hl]
theorem x_call {f : Fn} {r : EM (List D)} {ev : Ev} {S S1 S2 : Store} {xs : List D} {d : D} (h1 : r ev S = .ok xs S1) (h2 : f xs S1 = .ok d S2) : eCall0 f r ev S = .ok d S2 := by
  unfold eCall0 ob
  rw [h1]
  show noX (f xs S1) = _
  rw [h2]
  rfl
theorem x_part {a : EM D} {ev : Ev} {S S1 : Store} {i : Int} (h1 : a ev S = .ok (.int i) S1) : ePart a ev S = .ok (some i) S1 := by
  unfold ePart ob
  rw [h1]
theorem x_nopart {ev : Ev} {S : Store} : eNoPart ev S = .ok none S := rfl
theorem x_sl {f : F3} {a : EM D} {lo hi : EM (Option Int)} {ev : Ev} {S S1 S2 S3 S4 : Store} {x d : D} {l u : Option Int} (h1 : a ev S = .ok x S1) (h2 : lo ev S1 = .ok l S2) (h3 : hi ev S2 = .ok u S3) (h4 : f x l u S3 = some (d, S4)) : eSl f a lo hi ev S = .ok d S4 := by
  unfold eSl ob
  rw [h1]
  show ob (lo ev S1) _ = _
  unfold ob
  rw [h2]
  show ob (hi ev S2) _ = _
  unfold ob
  rw [h3]
  show oo (f x l u S3) = _
  rw [h4]
  rfl
/-! tests -/
theorem x_qcmp {f : F2} {a b : EM D} {ev : Ev} {S S3 : Store} {k : Bool} (h : eOp f a b ev S = .ok (.bl k) S3) : qCmp f a b ev S = .ok k S3 := by
  unfold qCmp ob
  rw [h]
theorem x_qtru {a : EM D} {ev : Ev} {S S1 : Store} {x : D} {k : Bool} (h : a ev S = .ok x S1) (ht : truD x S1 = some k) : qTru a ev S = .ok k S1 := by
  unfold qTru ob
  rw [h]
  show oB (truD x S1) S1 = _
  rw [ht]
  rfl
theorem x_qand {a b : EM Bool} {ev : Ev} {S S1 : Store} {k : Bool} {o : Out Bool} (h : a ev S = .ok k S1) (hb : k = true → b ev S1 = o) (hn : k = false → Out.ok false S1 = o) : qAnd a b ev S = o := by
  unfold qAnd ob
  rw [h]
  cases k with
  | true => exact hb rfl
  | false => exact hn rfl
theorem x_qor {a b : EM Bool} {ev : Ev} {S S1 : Store} {k : Bool} {o : Out Bool} (h : a ev S = .ok k S1) (hb : k = false → b ev S1 = o) (hn : k = true → Out.ok true S1 = o) : qOr a b ev S = o := by
  unfold qOr ob
  rw [h]
  cases k with
  | true => exact hn rfl
  | false => exact hb rfl
theorem x_qnot {a : EM Bool} {ev : Ev} {S S1 : Store} {k : Bool} (h : a ev S = .ok k S1) : qNot a ev S = .ok (!k) S1 := by
  unfold qNot ob
  rw [h]
theorem x_if {q : EM Bool} {a b : EM D} {ev : Ev} {S S1 : Store} {k : Bool} {o : Out D} (h : q ev S = .ok k S1) (ht : k = true → a ev S1 = o) (hf : k = false → b ev S1 = o) : eIf q a b ev S = o := by
  unfold eIf ob
  rw [h]
  cases k with
  | true => exact ht rfl
  | false => exact hf rfl
/-! statements -/
theorem y_cons {a b : SM} {ev e1 : Ev} {S S1 : Store} {o : SOut} (h1 : a ev S = .nx e1 S1) (h2 : b e1 S1 = o) : sCons a b ev S = o := by
  unfold sCons
  rw [h1]
  exact h2
theorem y_rt {a b : SM} {ev : Ev} {S S1 : Store} {d : D} (h1 : a ev S = .rt d S1) : sCons a b ev S = .rt d S1 := by
  unfold sCons
  rw [h1]
theorem y_brk {a b : SM} {ev e1 : Ev} {S S1 : Store} (h1 : a ev S = .bk e1 S1) : sCons a b ev S = .bk e1 S1 := by
  unfold sCons
  rw [h1]
theorem y_nil {ev : Ev} {S : Store} : sNil ev S = .nx ev S := rfl
theorem y_set {a : EM D} {g : GM} {ev e1 : Ev} {S S1 : Store} {d : D} (h1 : a ev S = .ok d S1) (h2 : g d ev = some e1) : sSet a g ev S = .nx e1 S1 := by
  unfold sSet
  rw [h1]
  show (match g d ev with | some ev' => SOut.nx ev' S1 | none => .bad) = _
  rw [h2]
theorem y_ret {a : EM D} {ev : Ev} {S S1 : Store} {d : D} (h1 : a ev S = .ok d S1) : sRet a ev S = .rt d S1 := by
  unfold sRet
  rw [h1]
theorem y_expr {a : EM D} {ev : Ev} {S S1 : Store} {d : D} (h1 : a ev S = .ok d S1) : sExpr a ev S = .nx ev S1 := by
  unfold sExpr
  rw [h1]
theorem y_if {q : EM Bool} {a b : SM} {ev : Ev} {S S1 : Store} {k : Bool} {o : SOut} (h : q ev S = .ok k S1) (ht : k = true → a ev S1 = o) (hf : k = false → b ev S1 = o) : sIf q a b ev S = o := by
  unfold sIf
  rw [h]
  cases k with
  | true => exact ht rfl
  | false => exact hf rfl
theorem fn_rt {n : Nat} {m : SM} {ds : List D} {S S1 : Store} {d : D} (h : m (ds.map some ++ List.replicate (n - ds.length) none) S = .rt d S1) : fnOf n m ds S = .ok d S1 := by
  unfold fnOf
  rw [h]
end K00

/-! P2: the segments of a text (plain). -/
namespace K00
open Sh

/-! ### places -/
abbrev Pl := Int × Int
def adv (p : Pl) (c : Nat) : Pl := if c = 10 then (p.1 + 1, 1) else (p.1, p.2 + 1)
def adl (p : Pl) (s : List Nat) : Pl := s.foldl adv p
theorem adl_nil (p : Pl) : adl p [] = p := rfl
theorem adl_cons (p : Pl) (c : Nat) (s : List Nat) : adl p (c :: s) = adl (adv p c) s := rfl
theorem adl_app (p : Pl) (s t : List Nat) : adl p (s ++ t) = adl (adl p s) t := List.foldl_append ..
/-- same length, feeds at the same places -/
def likeC (a b : Nat) : Prop := a = 10 ↔ b = 10
theorem adv_like {p : Pl} {a b : Nat} (h : likeC a b) : adv p a = adv p b := by
  unfold adv
  by_cases e : a = 10
  · rw [if_pos e, if_pos (h.mp e)]
  · rw [if_neg e, if_neg fun z => e (h.mpr z)]
theorem adl_map {f : Nat → Nat} : ∀ (s : List Nat) (p : Pl), (∀ c ∈ s, likeC c (f c)) → adl p (s.map f) = adl p s
  | [], _, _ => rfl
  | c :: s, p, h => by
    rw [List.map_cons, adl_cons, adl_cons, adv_like (h c List.mem_cons_self), adl_map s _ fun d hd => h d (List.mem_cons_of_mem _ hd)]
/-! the places by counting -/
theorem cnt_cons (c : Nat) (s : List Nat) : cntL 10 (c :: s) = (if c = 10 then 1 else 0) + cntL 10 s := by
  show (if Nat.beq c 10 = true then 1 else 0) + cntL 10 s = _
  rw [nbeq]
  simp
theorem adl_line : ∀ (s : List Nat) (p : Pl), (adl p s).1 = p.1 + (cntL 10 s : Nat)
  | [], p => by simp [adl, cntL]
  | c :: s, p => by
    rw [adl_cons, adl_line s, cnt_cons]
    unfold adv
    by_cases h : c = 10
    · rw [if_pos h, if_pos h]
      show p.1 + 1 + _ = _
      omega
    · rw [if_neg h, if_neg h]
      show p.1 + _ = _
      omega
/-- the column from the last feed -/
def colOf (o : Option Nat) (n : Nat) (q : Int) : Int := match o with
  | some k => (n : Int) - k
  | none => q + n
theorem adl_col : ∀ (s : List Nat) (p : Pl), (adl p s).2 = colOf (lastL 10 s) s.length p.2
  | [], p => by simp [adl, lastL, colOf]
  | c :: s, p => by
    rw [adl_cons, adl_col s]
    have e : lastL 10 (c :: s) = match lastL 10 s with
      | some k => some (k + 1)
      | none => if Nat.beq c 10 = true then some 0 else none := rfl
    rw [e, List.length_cons]
    generalize lastL 10 s = o
    cases o with
    | some k =>
      show (s.length : Int) - k = ((s.length + 1 : Nat) : Int) - ((k + 1 : Nat) : Int)
      omega
    | none =>
      show (adv p c).2 + (s.length : Int) = colOf (if Nat.beq c 10 = true then some 0 else none) (s.length + 1) p.2
      unfold adv
      rw [nbeq]
      by_cases h : c = 10
      · subst h
        show (1 : Int) + s.length = ((s.length + 1 : Nat) : Int) - ((0 : Nat) : Int)
        omega
      · rw [if_neg h, if_neg (by simpa using h)]
        show p.2 + 1 + (s.length : Int) = p.2 + ((s.length + 1 : Nat) : Int)
        omega

/-! ### signs -/
def LET : List Nat := [97, 98, 99, 100, 101, 102, 103, 104, 105, 106, 107, 108, 109, 110, 111, 112, 113, 114, 115, 116, 117, 118, 119, 120, 121, 122]
def FIG : List Nat := [48, 49, 50, 51, 52, 53, 54, 55, 56, 57]
def idc (c : Nat) : Bool := isLet c || isFig c
abbrev lo (c : Nat) : Nat := PyProof.Rows.lo1 c
theorem let_low : ∀ c, c < 128 → memN (lo c) LET = isLet c := by decide +kernel
theorem id_low : ∀ c, c < 128 → memN (lo c) (LET ++ FIG) = idc c := by decide +kernel
theorem fig_low : ∀ c, c < 128 → memN (lo c) FIG = isFig c := by decide +kernel
theorem fig_mem : ∀ c, c < 128 → memN c FIG = isFig c := by decide +kernel
theorem lo_fac : ∀ c, c < 128 → (lo c < 128 ∧ lo (lo c) = lo c ∧ isLet (lo c) = isLet c ∧ isFig (lo c) = isFig c ∧ (isLet c = false → lo c = c) ∧ (c = 39 ↔ lo c = 39) ∧ (c = 10 ↔ lo c = 10)) := by decide +kernel
theorem asc_app {s t : List Nat} : asc (s ++ t) = (asc s && asc t) := by
  unfold asc
  rw [List.all_append]
theorem asc_cons {c : Nat} {t : List Nat} : asc (c :: t) = true ↔ c < 128 ∧ asc t = true := by
  unfold asc
  rw [List.all_cons, Bool.and_eq_true, Nat.blt_eq]
theorem asc_drop {s : List Nat} (h : asc s = true) (n : Nat) : asc (s.drop n) = true := by
  unfold asc at h ⊢
  rw [List.all_eq_true] at h ⊢
  exact fun c hc => h c (List.mem_of_mem_drop hc)
theorem takeWhile_app {p : Nat → Bool} : ∀ {w r : List Nat}, (∀ c ∈ w, p c = true) → (∀ c, r.head? = some c → p c = false) → (w ++ r).takeWhile p = w
  | [], [], _, _ => rfl
  | [], c :: r, _, h => by
    have := h c rfl
    rw [List.nil_append, List.takeWhile_cons_of_neg (by rw [this]; decide)]
  | a :: w, r, hw, h => by
    rw [List.cons_append, List.takeWhile_cons_of_pos (hw a List.mem_cons_self), takeWhile_app (fun c hc => hw c (List.mem_cons_of_mem _ hc)) h]

/-! ### tokens -/
def RES : List (List Nat) := [[97, 110, 100], [97, 114, 114, 97, 121]]
end K00

/-! P3: what the lexer's defs compute. -/
namespace K00
open Sh
def BIG : Nat := 1000000
theorem big_line : BIG ≤ 16777216 := by decide
/-! data -/
theorem d_len {s : List Nat} {S : Store} (h : s.length ≤ BIG) : lenD0 (.str s) S = some (.int s.length, S) := by
  show (if s.length ≤ LINE then _ else _) = _
  rw [if_pos (Nat.le_trans h big_line)]
theorem atI_nat {α : Type} {xs : List α} {n : Nat} : L2.atI xs (n : Int) = xs[n]? := by
  unfold L2.atI L2.ixN
  rw [if_pos (by omega)]
  by_cases h : n < xs.length
  · rw [if_pos (by omega)]
    rfl
  · rw [if_neg (by omega), List.getElem?_eq_none (by omega)]
    rfl
theorem d_ix {s : List Nat} {n : Nat} {c : Nat} {S : Store} (h : s.length ≤ BIG) (e : s[n]? = some c) : ixD (.str s) (.int n) S = some (.str [c], S) := by
  show (if s.length ≤ LINE then (L2.atI s n).map fun c => (D.str [c], S) else none) = _
  rw [if_pos (Nat.le_trans h big_line), atI_nat, e]
  rfl
theorem d_low1 {c : Nat} {S : Store} (h : c < 128) : lowD0 (.str [c]) S = some (.str [lo c], S) := by
  unfold lowD0
  have : asc [c] = true := asc_cons.mpr ⟨h, rfl⟩
  simp [this, lowL]
theorem d_in {c : Nat} {z : List Nat} {S : Store} : inD (.str [c]) (.str z) S = some (.bl (memN c z), S) := rfl
theorem run_loop {s sg : List Nat} {S : Store} (hs : asc s = true) (hl : s.length ≤ BIG) : ∀ (k n : Nat), n ≤ s.length → s.length - n < k →
    sWhile (qAnd (qCmp ltD (eVar 1) (eB lenD (aCons (eVar 0) aNil))) (qCmp inD (eMt0 "str" lowerD (eOp ixD (eVar 0) (eVar 1))) (eVar 2))) (sCons (sAug 1 iaddD (eC (.int 1))) sNil) k [some (.str s), some (.int n), some (.str sg)] S =
      .nx [some (.str s), some (.int (n + ((s.drop n).takeWhile fun c => memN (lo c) sg).length : Nat)), some (.str sg)] S
  | 0, n, h1, h2 => absurd h2 (Nat.not_lt_zero _)
  | k + 1, n, h1, h2 => by
    unfold sWhile
    by_cases hn : n < s.length
    · have e : s[n]? = some s[n] := List.getElem?_eq_getElem hn
      have hd : s.drop n = s[n] :: s.drop (n + 1) := List.drop_eq_getElem_cons hn
      have hc : s[n] < 128 := asc_lt hs _ (List.getElem_mem hn)
      have hlt : ((n : Int) < s.length) := by omega
      by_cases hm : memN (lo s[n]) sg = true
      · have ih := run_loop (sg := sg) (S := S) hs hl k (n + 1) (by omega) (by omega)
        rw [hd, List.takeWhile_cons_of_pos (by simpa using hm)]
        simp [sCons, sSet, sIf, sRet, sRetN, sNil, sExpr, sAug, sPar2, sPar3, sBreak, sSub, eVar, eC, eOp, eUn, eB, eMt, eMt0, eTup, eLst, eIf, eOr, eAnd, eNot, eSl, ePart, eNoPart, eCall0, noX, aNil, aCons, aStar, qCmp, qTru, qAnd, qOr, qNot, qYes, ob, oo, oB, oS, gNm, gTp, gsNil, gsCons, f1, f2, m0, m1, m2, m3, LINE, d_len hl, ltD, cmpD, hlt, d_ix hl e, isTy, d_low1 hc, d_in, hm, iaddD]
        simp [sCons, sSet, sIf, sRet, sRetN, sNil, sExpr, sAug, sPar2, sPar3, sBreak, sSub, eVar, eC, eOp, eUn, eB, eMt, eMt0, eTup, eLst, eIf, eOr, eAnd, eNot, eSl, ePart, eNoPart, eCall0, noX, aNil, aCons, aStar, qCmp, qTru, qAnd, qOr, qNot, qYes, ob, oo, oB, oS, gNm, gTp, gsNil, gsCons, f1, f2, m0, m1, m2, m3, LINE] at ih
        rw [ih]
        simp
        omega
      · rw [hd, List.takeWhile_cons_of_neg (by simpa using hm)]
        simp [sCons, sSet, sIf, sRet, sRetN, sNil, sExpr, sAug, sPar2, sPar3, sBreak, sSub, eVar, eC, eOp, eUn, eB, eMt, eMt0, eTup, eLst, eIf, eOr, eAnd, eNot, eSl, ePart, eNoPart, eCall0, noX, aNil, aCons, aStar, qCmp, qTru, qAnd, qOr, qNot, qYes, ob, oo, oB, oS, gNm, gTp, gsNil, gsCons, f1, f2, m0, m1, m2, m3, LINE, d_len hl, ltD, cmpD, hlt, d_ix hl e, isTy, d_low1 hc, d_in, hm]
    · rw [List.drop_eq_nil_of_le (by omega)]
      simp [sCons, sSet, sIf, sRet, sRetN, sNil, sExpr, sAug, sPar2, sPar3, sBreak, sSub, eVar, eC, eOp, eUn, eB, eMt, eMt0, eTup, eLst, eIf, eOr, eAnd, eNot, eSl, ePart, eNoPart, eCall0, noX, aNil, aCons, aStar, qCmp, qTru, qAnd, qOr, qNot, qYes, ob, oo, oB, oS, gNm, gTp, gsNil, gsCons, f1, f2, m0, m1, m2, m3, LINE, d_len hl, ltD, cmpD, hn]
theorem run_end_ok {s sg : List Nat} {S : Store} (hs : asc s = true) (hl : s.length ≤ BIG) {n : Nat} (h : n ≤ s.length) :
    f_run_end [.str s, .int n, .str sg] S = .ok (.int (n + ((s.drop n).takeWhile fun c => memN (lo c) sg).length : Nat)) S := by
  exact fn_rt (y_cons (run_loop hs hl FUEL n h (by unfold FUEL; unfold BIG at hl; omega)) (y_rt (y_ret (x_var rfl))))
/-! slices -/
theorem cut_mid {α : Type} {s : List α} {n m : Nat} (h1 : n ≤ s.length) (h2 : m ≤ s.length) : cutL s (some (n : Int)) (some (m : Int)) = (s.drop n).take (m - n) := by
  unfold cutL
  have e : ∀ k d : Nat, k ≤ s.length → HT.sIx s.length d (some (k : Int)) = k := fun k d hk => by
    rw [HT.sIx_nat]
    omega
  rw [e n 0 h1, e m _ h2]
/-! numbers -/
def numZ (w : List Nat) : List Nat := w.dropWhile fun c => memN c [48]
structure NumV (w : List Nat) (v : Nat) : Prop where
  ne : w ≠ []
  fig : ∀ c ∈ w, isFig c = true
  few : (numZ w).length ≤ 10
  val : PySem.intText? (tx (if (numZ w).isEmpty = true then [48] else numZ w)) = some (v : Int)
  le : v ≤ 2147483647
theorem number_ok {s w r : List Nat} {v n : Nat} {S : Store} (hs : asc s = true) (hl : s.length ≤ BIG) (h : n ≤ s.length) (hd : s.drop n = w ++ r) (hv : NumV w v) (hr : ∀ c, r.head? = some c → isFig c = false) :
    f_number_at [.str s, .int n] S = .ok (.tup [.int v, .int (n + w.length : Nat)]) S := by
  have hlen : n + w.length ≤ s.length := by
    have := congrArg List.length hd
    rw [List.length_drop, List.length_append] at this
    omega
  have ha : ∀ c ∈ w ++ r, c < 128 := fun c hc => asc_lt hs c (List.mem_of_mem_drop (by rw [hd]; exact hc))
  have tw : (s.drop n).takeWhile (fun c => memN (lo c) FIG) = w := by
    rw [hd]
    refine takeWhile_app (fun c hc => ?_) fun c hc => ?_
    · rw [fig_low c (ha c (List.mem_append_left _ hc))]
      exact hv.fig c hc
    · rw [fig_low c (ha c (List.mem_append_right _ (List.mem_of_mem_head? hc)))]
      exact hr c hc
  have e1 := run_end_ok (sg := FIG) (S := S) hs hl h
  rw [tw] at e1
  have e2 : cutL s (some (n : Int)) (some ((n + w.length : Nat) : Int)) = w := by
    rw [cut_mid h hlen, hd, Nat.add_sub_cancel_left, List.take_left]
  have hw : w.length ≤ 16777216 := by unfold BIG at hl; omega
  have hs2 : s.length ≤ 16777216 := by unfold BIG at hl; omega
  have hz : (numZ w).length ≤ 16777216 := by have := hv.few; omega
  have hz0 := hv.few
  have hvl := hv.val
  have hle := hv.le
  refine fn_rt (y_cons (y_set (x_call (x_cons (x_var rfl) (x_cons (x_var rfl) (x_cons x_c x_nil))) e1) rfl) (y_cons (y_set (S1 := S) (d := .str (numZ w)) ?_ rfl) ?_))
  · have e3 : cutL s (some (n : Int)) (some ((n : Int) + (w.length : Int))) = w := by
      rw [← Int.natCast_add]
      exact e2
    simp [sCons, sSet, sIf, sRet, sRetN, sNil, sExpr, sAug, sPar2, sPar3, sBreak, sSub, eVar, eC, eOp, eUn, eB, eMt, eMt0, eTup, eLst, eIf, eOr, eAnd, eNot, eSl, ePart, eNoPart, eCall0, noX, aNil, aCons, aStar, qCmp, qTru, qAnd, qOr, qNot, qYes, ob, oo, oB, oS, gNm, gTp, gsNil, gsCons, f1, f2, m0, m1, m2, m3, LINE, slD, hs2, e3, isTy, lstripD0, hw, numZ]
  · have t1 : (10 : Int) < (numZ w).length ↔ False := ⟨fun z => by omega, False.elim⟩
    have t2 : (2147483647 : Int) < (v : Int) ↔ False := ⟨fun z => by omega, False.elim⟩
    by_cases hzz : (numZ w).isEmpty = true
    · rw [if_pos hzz] at hvl
      have hzl : (numZ w) = [] := List.isEmpty_iff.mp hzz
      simp [sCons, sSet, sIf, sRet, sRetN, sNil, sExpr, sAug, sPar2, sPar3, sBreak, sSub, eVar, eC, eOp, eUn, eB, eMt, eMt0, eTup, eLst, eIf, eOr, eAnd, eNot, eSl, ePart, eNoPart, eCall0, noX, aNil, aCons, aStar, qCmp, qTru, qAnd, qOr, qNot, qYes, ob, oo, oB, oS, gNm, gTp, gsNil, gsCons, f1, f2, m0, m1, m2, m3, LINE, hzl, lenD0, gtD, cmpD, intD0, hvl, t2, truD]
    · rw [if_neg hzz] at hvl
      have hzl : (numZ w) ≠ [] := fun z => hzz (by rw [z]; rfl)
      have hz6 : (numZ w).length ≤ 640 := by omega
      simp [sCons, sSet, sIf, sRet, sRetN, sNil, sExpr, sAug, sPar2, sPar3, sBreak, sSub, eVar, eC, eOp, eUn, eB, eMt, eMt0, eTup, eLst, eIf, eOr, eAnd, eNot, eSl, ePart, eNoPart, eCall0, noX, aNil, aCons, aStar, qCmp, qTru, qAnd, qOr, qNot, qYes, ob, oo, oB, oS, gNm, gTp, gsNil, gsCons, f1, f2, m0, m1, m2, m3, LINE, hzl, hz, lenD0, gtD, cmpD, intD0, hvl, t1, t2, truD, hz6]
/-! texts in quotes -/
def escL : List Nat → List Nat
  | [] => []
  | c :: r => if c = 39 then 39 :: 39 :: escL r else c :: escL r
theorem cell_last {S0 : Store} {acc : List D} : cellAt (S0 ++ [.lst acc]) S0.length = some acc := by
  unfold cellAt
  simp
theorem set_last {S0 : Store} {a b : List D} : (S0 ++ [Cell.lst a]).set S0.length (.lst b) = S0 ++ [.lst b] := by
  simp
theorem d_app {S0 : Store} {acc : List D} {y : D} (h : acc.length ≤ BIG) : appendD0 (.obj S0.length) y (S0 ++ [.lst acc]) = some (.non, S0 ++ [.lst (acc ++ [y])]) := by
  show (cellAt (S0 ++ [.lst acc]) S0.length).bind _ = _
  rw [cell_last]
  show (if acc.length < LINE then _ else _) = _
  rw [if_pos (by have : acc.length < 16777216 := by unfold BIG at h; omega
                 exact this), set_last]
theorem d_starts {s p : List Nat} {n : Nat} {S : Store} (h : n ≤ s.length) : startsD0 (.str s) (.str p) (.int n) S = some (.bl (isPre p (s.drop n)), S) := by
  show (natI n s.length).map _ = _
  have hn : natI (n : Int) s.length = some n := by
    unfold natI
    rw [if_pos ⟨by omega, by omega⟩]
    rfl
  rw [hn]
  rfl
theorem get_drop {s r : List Nat} {n c : Nat} (h : s.drop n = c :: r) : s[n]? = some c ∧ n < s.length ∧ s.drop (n + 1) = r := by
  have hn : n < s.length := by
    have := congrArg List.length h
    rw [List.length_drop] at this
    simp at this
    omega
  rw [List.drop_eq_getElem_cons hn] at h
  injection h with h1 h2
  exact ⟨by rw [List.getElem?_eq_getElem hn, h1], hn, h2⟩
def sgn (c : Nat) : D := .str [c]
theorem string_loop {s r : List Nat} {S0 : Store} {d0 : D} (hl : s.length ≤ BIG) (hr : ∀ c, r.head? = some c → c ≠ 39) : ∀ (x : List Nat) (k n : Nat) (acc : List D), s.drop n = escL x ++ 39 :: r → (∀ c ∈ x, c ≠ 10) → x.length < k → acc.length + x.length ≤ BIG →
    sWhile (qAnd (qCmp ltD (eVar 3) (eB lenD (aCons (eVar 0) aNil))) (qCmp neD (eOp ixD (eVar 0) (eVar 3)) (eC (.str [10])))) (sCons (sIf (qCmp neD (eOp ixD (eVar 0) (eVar 3)) (eC (.str [39]))) (sCons (sExpr (eMt "list" appendD (eVar 2) (aCons (eOp ixD (eVar 0) (eVar 3)) aNil))) (sCons (sAug 3 iaddD (eC (.int 1))) sNil)) (sCons (sIf (qTru (eMt "str" startsD (eVar 0) (aCons (eC (.str [39])) (aCons (eOp addD (eVar 3) (eC (.int 1))) aNil)))) (sCons (sExpr (eMt "list" appendD (eVar 2) (aCons (eC (.str [39])) aNil))) (sCons (sAug 3 iaddD (eC (.int 2))) sNil)) (sCons sBreak sNil)) sNil)) sNil)
      k [some (.str s), some d0, some (.obj S0.length), some (.int n)] (S0 ++ [.lst acc]) =
      .nx [some (.str s), some d0, some (.obj S0.length), some (.int (n + (escL x).length : Nat))] (S0 ++ [.lst (acc ++ x.map sgn)])
  | x, 0, n, acc, hd, hx, hk, ha => absurd hk (Nat.not_lt_zero _)
  | [], k + 1, n, acc, hd, hx, hk, ha => by
    obtain ⟨e1, e2, e3⟩ := get_drop (show s.drop n = 39 :: r from hd)
    have hlt : (n : Int) < s.length := by omega
    have hst : isPre [39] (s.drop (n + 1)) = false := by
      rw [e3]
      cases r with
      | nil => rfl
      | cons c r =>
        have := hr c rfl
        simp [isPre, nbeq]
        exact fun z => absurd z.symm this
    have ds : startsD0 (.str s) (.str [39]) (.int ((n : Int) + 1)) (S0 ++ [.lst acc]) = some (.bl false, S0 ++ [.lst acc]) := by
      have z := d_starts (s := s) (p := [39]) (n := n + 1) (S := S0 ++ [.lst acc]) (by omega)
      rw [hst] at z
      exact z
    unfold sWhile
    simp [sCons, sSet, sIf, sRet, sRetN, sNil, sExpr, sAug, sPar2, sPar3, sBreak, sSub, eVar, eC, eOp, eUn, eB, eMt, eMt0, eTup, eLst, eIf, eOr, eAnd, eNot, eSl, ePart, eNoPart, eCall0, noX, aNil, aCons, aStar, qCmp, qTru, qAnd, qOr, qNot, qYes, ob, oo, oB, oS, gNm, gTp, gsNil, gsCons, f1, f2, m0, m1, m2, m3, LINE, d_len hl, ltD, cmpD, hlt, d_ix hl e1, neD, scalD, leqN, isTy, addD, truD, escL, ds]
  | c :: x, k + 1, n, acc, hd, hx, hk, ha => by
    have hc : c ≠ 10 := hx c List.mem_cons_self
    have hx2 : ∀ d ∈ x, d ≠ 10 := fun d hd => hx d (List.mem_cons_of_mem _ hd)
    have ha2 : acc.length ≤ BIG := by omega
    have ha3 : (acc ++ [sgn c]).length + x.length ≤ BIG := by
      rw [List.length_append]
      simp at ha ⊢
      omega
    by_cases h39 : c = 39
    · subst h39
      have hd : s.drop n = 39 :: 39 :: (escL x ++ 39 :: r) := hd
      obtain ⟨e1, e2, e3⟩ := get_drop hd
      obtain ⟨e4, e5, e6⟩ := get_drop e3
      have hlt : (n : Int) < s.length := by omega
      have ds : startsD0 (.str s) (.str [39]) (.int ((n : Int) + 1)) (S0 ++ [.lst acc]) = some (.bl true, S0 ++ [.lst acc]) := by
        have z := d_starts (s := s) (p := [39]) (n := n + 1) (S := S0 ++ [.lst acc]) (by omega)
        rw [e3] at z
        exact z
      have ih := string_loop (S0 := S0) (d0 := d0) hl hr x k (n + 2) (acc ++ [sgn 39]) e6 hx2 (by simp at hk; omega) ha3
      unfold sWhile
      have da := d_app (S0 := S0) (acc := acc) (y := .str [39]) ha2
      simp [sCons, sSet, sIf, sRet, sRetN, sNil, sExpr, sAug, sPar2, sPar3, sBreak, sSub, eVar, eC, eOp, eUn, eB, eMt, eMt0, eTup, eLst, eIf, eOr, eAnd, eNot, eSl, ePart, eNoPart, eCall0, noX, aNil, aCons, aStar, qCmp, qTru, qAnd, qOr, qNot, qYes, ob, oo, oB, oS, gNm, gTp, gsNil, gsCons, f1, f2, m0, m1, m2, m3, LINE, d_len hl, ltD, cmpD, hlt, d_ix hl e1, neD, scalD, leqN, isTy, addD, truD, ds, da, iaddD]
      simp [sCons, sSet, sIf, sRet, sRetN, sNil, sExpr, sAug, sPar2, sPar3, sBreak, sSub, eVar, eC, eOp, eUn, eB, eMt, eMt0, eTup, eLst, eIf, eOr, eAnd, eNot, eSl, ePart, eNoPart, eCall0, noX, aNil, aCons, aStar, qCmp, qTru, qAnd, qOr, qNot, qYes, ob, oo, oB, oS, gNm, gTp, gsNil, gsCons, f1, f2, m0, m1, m2, m3, LINE, ltD, sgn] at ih
      rw [ih]
      have t : Nat.beq 39 10 = false := rfl
      simp [escL, sgn, t]
      omega
    · have hd : s.drop n = c :: (escL x ++ 39 :: r) := by
        rw [hd]
        simp [escL, h39]
      obtain ⟨e1, e2, e3⟩ := get_drop hd
      have hlt : (n : Int) < s.length := by omega
      have ih := string_loop (S0 := S0) (d0 := d0) hl hr x k (n + 1) (acc ++ [sgn c]) e3 hx2 (by simp at hk; omega) ha3
      have da := d_app (S0 := S0) (acc := acc) (y := .str [c]) ha2
      unfold sWhile
      have hb : Nat.beq c 39 = false := by rw [nbeq]; simpa using h39
      have hb2 : Nat.beq c 10 = false := by rw [nbeq]; simpa using hc
      simp [sCons, sSet, sIf, sRet, sRetN, sNil, sExpr, sAug, sPar2, sPar3, sBreak, sSub, eVar, eC, eOp, eUn, eB, eMt, eMt0, eTup, eLst, eIf, eOr, eAnd, eNot, eSl, ePart, eNoPart, eCall0, noX, aNil, aCons, aStar, qCmp, qTru, qAnd, qOr, qNot, qYes, ob, oo, oB, oS, gNm, gTp, gsNil, gsCons, f1, f2, m0, m1, m2, m3, LINE, d_len hl, ltD, cmpD, hlt, d_ix hl e1, neD, scalD, leqN, isTy, addD, truD, hb, hb2, da, iaddD]
      simp [sCons, sSet, sIf, sRet, sRetN, sNil, sExpr, sAug, sPar2, sPar3, sBreak, sSub, eVar, eC, eOp, eUn, eB, eMt, eMt0, eTup, eLst, eIf, eOr, eAnd, eNot, eSl, ePart, eNoPart, eCall0, noX, aNil, aCons, aStar, qCmp, qTru, qAnd, qOr, qNot, qYes, ob, oo, oB, oS, gNm, gTp, gsNil, gsCons, f1, f2, m0, m1, m2, m3, LINE, ltD, sgn] at ih
      rw [ih]
      simp [escL, h39, sgn]
      omega
theorem strs_P : ∀ x : List Nat, toPs (x.map sgn) = some (x.map fun c => PySem.PyData.str (tx [c]))
  | [] => rfl
  | c :: x => by
    show (toP (sgn c)).bind (fun y => (toPs (x.map sgn)).map fun ys => y :: ys) = _
    rw [strs_P x]
    rfl
theorem lay_P : ∀ {x : List Nat}, (∀ c ∈ x, c < 128) → PySem.PyData.canLayAll0 (x.map fun c => PySem.PyData.str (tx [c])) = true ∧ PySem.PyData.depthAll (x.map fun c => PySem.PyData.str (tx [c])) = 0
  | [], _ => by simp [PySem.PyData.canLayAll0, PySem.PyData.depthAll]
  | c :: x, h => by
    obtain ⟨h1, h2⟩ := lay_P (x := x) fun d hd => h d (List.mem_cons_of_mem _ hd)
    have hc := h c List.mem_cons_self
    rw [List.map_cons, PySem.PyData.canLayAll0, PySem.PyData.depthAll, h1, h2]
    have e : PySem.PyData.strOk (tx [c]) = true := by
      unfold PySem.PyData.strOk
      simp [tx]
      omega
    simp [PySem.PyData.canLay0, PySem.PyData.depth, e]
/-- a list of signs is no empty list -/
theorem d_eqnil {S0 : Store} {c : Nat} {x : List Nat} (h : ∀ d ∈ c :: x, d < 128) : eqPD (.obj S0.length) (.obj (S0.length + 1)) (S0 ++ [.lst ((c :: x).map sgn), .lst []]) = some (.bl false, S0 ++ [.lst ((c :: x).map sgn), .lst []]) := by
  have e1 : toPS (S0 ++ [.lst ((c :: x).map sgn), .lst []]) (.obj S0.length) = some (.list ((c :: x).map fun c => PySem.PyData.str (tx [c]))) := by
    show ((cellAt _ S0.length).bind toPs).map PySem.PyData.list = _
    have z : cellAt (S0 ++ [.lst ((c :: x).map sgn), .lst []]) S0.length = some ((c :: x).map sgn) := by
      unfold cellAt
      simp
    rw [z]
    show (toPs ((c :: x).map sgn)).map _ = _
    rw [strs_P]
    rfl
  have e2 : toPS (S0 ++ [.lst ((c :: x).map sgn), .lst []]) (.obj (S0.length + 1)) = some (.list []) := by
    show ((cellAt _ (S0.length + 1)).bind toPs).map PySem.PyData.list = _
    have z : cellAt (S0 ++ [.lst ((c :: x).map sgn), .lst []]) (S0.length + 1) = some [] := by
      unfold cellAt
      simp
    rw [z]
    rfl
  obtain ⟨h1, h2⟩ := lay_P h
  have e3 : shOk (.list ((c :: x).map fun c => PySem.PyData.str (tx [c]))) = some (.list ((c :: x).map fun c => PySem.PyData.str (tx [c]))) := by
    unfold shOk
    rw [if_pos]
    unfold PySem.SeqAt.shaped
    rw [PySem.PyData.canLay0, h1, PySem.PyData.depth, h2]
    rfl
  have e4 : shOk (.list []) = some (.list []) := by
    unfold shOk
    rw [if_pos]
    simp [PySem.SeqAt.shaped, PySem.PyData.canLay0, PySem.PyData.depth, PySem.PyData.canLayAll0, PySem.PyData.depthAll]
  unfold eqPD
  rw [e1, e2]
  simp only [Option.bind_some, e3, e4, Option.map_some]
  simp [PySem.PyData.eqv, PySem.PyData.eqvAll]
theorem strs_D : ∀ x : List Nat, strsD (x.map sgn) = some (x.map fun c => [c])
  | [] => rfl
  | c :: x => by
    show (strsD (x.map sgn)).map ([c] :: ·) = _
    rw [strs_D x]
    rfl
theorem join_ones : ∀ x : List Nat, TL.joinL [] (x.map fun c => [c]) = x
  | [] => rfl
  | [_] => rfl
  | a :: b :: x => by
    have := join_ones (b :: x)
    show [a] ++ ([] ++ TL.joinL [] ((b :: x).map fun c => [c])) = _
    rw [this]
    rfl
theorem len_ones : ∀ x : List Nat, lenSum (x.map fun c => [c]) = x.length
  | [] => rfl
  | c :: x => by
    show 1 + lenSum (x.map fun c => [c]) = x.length + 1
    rw [len_ones x]
    omega
theorem string_ok {s x r : List Nat} {n : Nat} {S : Store} (hs : asc s = true) (hl : s.length ≤ BIG) (hd : s.drop n = 39 :: (escL x ++ 39 :: r)) (h0 : x ≠ []) (hx : ∀ c ∈ x, c ≠ 10) (hxa : ∀ c ∈ x, c < 128) (hxl : x.length ≤ 1000) (hr : ∀ c, r.head? = some c → c ≠ 39) :
    ∃ E, f_string_at [.str s, .int n] S = .ok (.tup [.str x, .int (n + (escL x).length + 2 : Nat)]) (S ++ E) := by
  obtain ⟨e1, e2, e3⟩ := get_drop hd
  have z := string_loop (S0 := S) (d0 := .int n) hl hr x FUEL (n + 1) [] e3 hx (by unfold FUEL; omega) (by simp; unfold BIG; omega)
  rw [List.nil_append] at z
  refine ⟨[.lst (x.map sgn), .lst []], fn_rt (y_cons (e1 := [some (.str s), some (.int n), some (.obj S.length), some (.int (n + 1 : Nat))]) (S1 := S ++ [.lst []]) ?_ (y_cons z ?_))⟩
  · simp [sCons, sSet, sIf, sRet, sRetN, sNil, sExpr, sAug, sPar2, sPar3, sBreak, sSub, eVar, eC, eOp, eUn, eB, eMt, eMt0, eTup, eLst, eIf, eOr, eAnd, eNot, eSl, ePart, eNoPart, eCall0, noX, aNil, aCons, aStar, qCmp, qTru, qAnd, qOr, qNot, qYes, ob, oo, oB, oS, gNm, gTp, gsNil, gsCons, f1, f2, m0, m1, m2, m3, LINE, addD]
  · have e4 : s.drop (n + 1 + (escL x).length) = 39 :: r := by
      rw [← List.drop_drop, e3, List.drop_left]
    obtain ⟨g1, g2, g3⟩ := get_drop e4
    have hne : ((n + 1 + (escL x).length : Nat) : Int) ≠ s.length := by omega
    cases x with
    | nil => exact absurd rfl h0
    | cons c x =>
      have dq := d_eqnil (S0 := S) hxa
      have dj : joinD0 (.str []) (.obj S.length) (S ++ [.lst ((c :: x).map sgn), .lst []]) = some (.str (c :: x), S ++ [.lst ((c :: x).map sgn), .lst []]) := by
        show ((seqD (.obj S.length) _).bind strsD).bind _ = _
        have z : seqD (.obj S.length) (S ++ [.lst ((c :: x).map sgn), .lst []]) = some ((c :: x).map sgn) := by
          show cellAt _ _ = _
          unfold cellAt
          simp
        rw [z]
        show (strsD ((c :: x).map sgn)).bind _ = _
        rw [strs_D]
        show (if lenSum ((c :: x).map fun c => [c]) + _ * 0 ≤ LINE then _ else _) = _
        rw [len_ones, if_pos, join_ones]
        show (c :: x).length + _ * 0 ≤ 16777216
        omega
      have fin : n + (escL (c :: x)).length + 2 = n + 1 + (escL (c :: x)).length + 1 := by omega
      rw [fin]
      clear fin z
      generalize n + 1 + (escL (c :: x)).length = m at *
      have t : Nat.beq 39 10 = false := rfl
      simp at dq dj
      simp [sCons, sSet, sIf, sRet, sRetN, sNil, sExpr, sAug, sPar2, sPar3, sBreak, sSub, eVar, eC, eOp, eUn, eB, eMt, eMt0, eTup, eLst, eIf, eOr, eAnd, eNot, eSl, ePart, eNoPart, eCall0, noX, aNil, aCons, aStar, qCmp, qTru, qAnd, qOr, qNot, qYes, ob, oo, oB, oS, gNm, gTp, gsNil, gsCons, f1, f2, m0, m1, m2, m3, LINE, d_len hl, eqD, scalD, hne, d_ix hl g1, leqN, t, dq, isTy, dj, addD]
end K00

/-! P4: one token read. -/
namespace K00
open Sh
def memS (w : List Nat) (ss : List (List Nat)) : Bool := ss.any fun r => leqN r w
theorem inFl_strs (w : List Nat) : ∀ ss : List (List Nat), inFl (.str w) (ss.map D.str) = some (memS w ss)
  | [] => rfl
  | s :: ss => by
    show (match scalD (.str s) (.str w), inFl (.str w) (ss.map D.str) with | some b, some c => some (b || c) | _, _ => none) = _
    rw [inFl_strs w ss]
    rfl
theorem d_ins {w : List Nat} {ss : List (List Nat)} {S : Store} : inD (.str w) (.tup (List.map D.str ss)) S = some (.bl (memS w ss), S) := by
  show (inD1 _ _ S).map _ = _
  show (((some (ss.map D.str)).bind (inFl (.str w))).map fun b => (D.bl b, S)) = _
  show ((inFl (.str w) (ss.map D.str)).map fun b => (D.bl b, S)) = _
  rw [inFl_strs]
  rfl
theorem d_low {w : List Nat} {S : Store} (h : asc w = true) (hl : w.length ≤ BIG) : lowD0 (.str w) S = some (.str (lowL w), S) := by
  show (if asc w = true ∧ w.length ≤ 5592405 then _ else _) = _
  rw [if_pos ⟨h, by unfold BIG at hl; omega⟩]

inductive Tok where
  | id (w : List Nat) | num (w : List Nat) (v : Nat) | str (x : List Nat) | sg (w : List Nat)
def Tok.text : Tok → List Nat
  | .id w => w
  | .num w _ => w
  | .str x => 39 :: (escL x ++ [39])
  | .sg w => w
def Tok.sort : Tok → List Nat
  | .id w => if memS (lowL w) tab_RESERVED = true then [119, 111, 114, 100] else [110, 97, 109, 101]
  | .num _ _ => [110, 117, 109, 98, 101, 114]
  | .str _ => [115, 116, 114, 105, 110, 103]
  | .sg _ => [115, 105, 103, 110]
def Tok.told : Tok → D
  | .id w => .str (lowL w)
  | .num _ v => .int v
  | .str x => .str x
  | .sg w => .str w
/-- the written signs -/
def SGS : List (List Nat) := [[43], [45], [42], [61], [60], [62], [60, 62], [60, 61], [62, 61], [40], [41], [91], [93], [46], [46, 46], [44], [58], [58, 61], [59], [94]]
def TWOS : List (List Nat) := [[60, 61], [60, 62], [62, 61], [46, 46], [58, 61], [40, 42]]
structure IdW (w : List Nat) : Prop where
  ne : ∃ c r, w = c :: r ∧ isLet c = true
  id : ∀ c ∈ w, idc c = true
def Tok.ok : Tok → Prop
  | .id w => IdW w
  | .num w v => NumV w v
  | .str x => x ≠ [] ∧ (∀ c ∈ x, c ≠ 10) ∧ x.length ≤ 1000
  | .sg w => w ∈ SGS
/-- the sign behind does not lengthen it -/
def Tok.fol : Tok → Nat → Prop
  | .id _, c => idc c = false
  | .num _ _, c => isFig c = false
  | .str _, c => c ≠ 39
  | .sg w, c => w ++ [c] ∉ TWOS
theorem tok_id {s w r : List Nat} {n : Nat} {S : Store} (hs : asc s = true) (hl : s.length ≤ BIG) (hd : s.drop n = w ++ r) (hn : n ≤ s.length) (hw : IdW w) (hr : ∀ c, r.head? = some c → idc c = false) :
    f_token_at [.str s, .int n] S = .ok (.tup [.str (Tok.id w).sort, .str (lowL w), .int (n + w.length : Nat)]) S := by
  have hlen : n + w.length ≤ s.length := by
    have := congrArg List.length hd
    rw [List.length_drop, List.length_append] at this
    omega
  have ha : ∀ c ∈ w ++ r, c < 128 := fun c hc => asc_lt hs c (List.mem_of_mem_drop (by rw [hd]; exact hc))
  have tw : (s.drop n).takeWhile (fun c => memN (lo c) (LET ++ FIG)) = w := by
    rw [hd]
    refine takeWhile_app (fun c hc => ?_) fun c hc => ?_
    · rw [id_low c (ha c (List.mem_append_left _ hc))]
      exact hw.id c hc
    · rw [id_low c (ha c (List.mem_append_right _ (List.mem_of_mem_head? hc)))]
      exact hr c hc
  have e1 := run_end_ok (sg := LET ++ FIG) (S := S) hs hl hn
  rw [tw] at e1
  have e2 : cutL s (some (n : Int)) (some ((n + w.length : Nat) : Int)) = w := by
    rw [cut_mid hn hlen, hd, Nat.add_sub_cancel_left, List.take_left]
  have hs2 : s.length ≤ 16777216 := by unfold BIG at hl; omega
  have hwl : w.length ≤ BIG := by omega
  have haw : asc w = true := by
    unfold asc
    rw [List.all_eq_true]
    exact fun c hc => Nat.blt_eq.mpr (ha c (List.mem_append_left _ hc))
  obtain ⟨c, w2, rfl, hc⟩ := hw.ne
  obtain ⟨g1, g2, g3⟩ := get_drop (show s.drop n = c :: (w2 ++ r) from hd)
  have c128 := ha c (List.mem_append_left _ List.mem_cons_self)
  have hlet : memN (lo c) LET = true := by rw [let_low c c128]; exact hc
  refine fn_rt (y_cons (y_set (x_op (x_var rfl) (x_var rfl) (d_ix hl g1)) rfl) (y_rt (y_if (k := true) (S1 := S) ?_ (fun _ => ?_) (fun z => absurd z (by decide)))))
  · simp [sCons, sSet, sIf, sRet, sRetN, sNil, sExpr, sAug, sPar2, sPar3, sBreak, sSub, eVar, eC, eOp, eUn, eB, eMt, eMt0, eTup, eLst, eIf, eOr, eAnd, eNot, eSl, ePart, eNoPart, eCall0, noX, aNil, aCons, aStar, qCmp, qTru, qAnd, qOr, qNot, qYes, ob, oo, oB, oS, gNm, gTp, gsNil, gsCons, f1, f2, m0, m1, m2, m3, LINE, isTy, d_low1 c128, d_in]
    exact hlet
  · refine y_cons (y_set (x_call (x_cons (x_var rfl) (x_cons (x_var rfl) (x_cons (x_op x_c x_c rfl) x_nil))) e1) rfl) (y_cons (S1 := S) (y_set (d := .str (lowL (c :: w2))) ?_ rfl) ?_)
    · generalize n + (c :: w2).length = m at *
      simp [sCons, sSet, sIf, sRet, sRetN, sNil, sExpr, sAug, sPar2, sPar3, sBreak, sSub, eVar, eC, eOp, eUn, eB, eMt, eMt0, eTup, eLst, eIf, eOr, eAnd, eNot, eSl, ePart, eNoPart, eCall0, noX, aNil, aCons, aStar, qCmp, qTru, qAnd, qOr, qNot, qYes, ob, oo, oB, oS, gNm, gTp, gsNil, gsCons, f1, f2, m0, m1, m2, m3, LINE, slD, hs2, e2, isTy, d_low haw hwl]
    · generalize n + (c :: w2).length = m at *
      by_cases hm : memS (lowL (c :: w2)) tab_RESERVED = true
      · simp [sCons, sSet, sIf, sRet, sRetN, sNil, sExpr, sAug, sPar2, sPar3, sBreak, sSub, eVar, eC, eOp, eUn, eB, eMt, eMt0, eTup, eLst, eIf, eOr, eAnd, eNot, eSl, ePart, eNoPart, eCall0, noX, aNil, aCons, aStar, qCmp, qTru, qAnd, qOr, qNot, qYes, ob, oo, oB, oS, gNm, gTp, gsNil, gsCons, f1, f2, m0, m1, m2, m3, LINE, d_ins, hm, Tok.sort]
      · simp [sCons, sSet, sIf, sRet, sRetN, sNil, sExpr, sAug, sPar2, sPar3, sBreak, sSub, eVar, eC, eOp, eUn, eB, eMt, eMt0, eTup, eLst, eIf, eOr, eAnd, eNot, eSl, ePart, eNoPart, eCall0, noX, aNil, aCons, aStar, qCmp, qTru, qAnd, qOr, qNot, qYes, ob, oo, oB, oS, gNm, gTp, gsNil, gsCons, f1, f2, m0, m1, m2, m3, LINE, d_ins, hm, Tok.sort]
theorem tok_num {s w r : List Nat} {v n : Nat} {S : Store} (hs : asc s = true) (hl : s.length ≤ BIG) (hd : s.drop n = w ++ r) (hn : n ≤ s.length) (hw : NumV w v) (hr : ∀ c, r.head? = some c → isFig c = false) :
    f_token_at [.str s, .int n] S = .ok (.tup [.str (Tok.num w v).sort, .int v, .int (n + w.length : Nat)]) S := by
  have e1 := number_ok (S := S) hs hl hn hd hw hr
  have ha : ∀ c ∈ w ++ r, c < 128 := fun c hc => asc_lt hs c (List.mem_of_mem_drop (by rw [hd]; exact hc))
  have hne := hw.ne
  have hf := hw.fig
  cases w with
  | nil => exact absurd rfl hne
  | cons c w2 =>
    obtain ⟨g1, g2, g3⟩ := get_drop (show s.drop n = c :: (w2 ++ r) from hd)
    have c128 := ha c (List.mem_append_left _ List.mem_cons_self)
    have hfc := hf c List.mem_cons_self
    have noL : ∀ c, c < 128 → isFig c = true → memN (lo c) LET = false := by decide +kernel
    have h1 : memN (lo c) LET = false := noL c c128 hfc
    have h2 : memN c FIG = true := by rw [fig_mem c c128]; exact hfc
    refine fn_rt (y_cons (y_set (x_op (x_var rfl) (x_var rfl) (d_ix hl g1)) rfl) (y_cons (S1 := S) (y_if (k := false) (S1 := S) ?_ (fun z => absurd z (by decide)) (fun _ => rfl)) (y_rt (y_if (k := true) (S1 := S) ?_ (fun _ => ?_) (fun z => absurd z (by decide))))))
    · simp [sCons, sSet, sIf, sRet, sRetN, sNil, sExpr, sAug, sPar2, sPar3, sBreak, sSub, eVar, eC, eOp, eUn, eB, eMt, eMt0, eTup, eLst, eIf, eOr, eAnd, eNot, eSl, ePart, eNoPart, eCall0, noX, aNil, aCons, aStar, qCmp, qTru, qAnd, qOr, qNot, qYes, ob, oo, oB, oS, gNm, gTp, gsNil, gsCons, f1, f2, m0, m1, m2, m3, LINE, isTy, d_low1 c128, d_in]
      exact h1
    · simp [sCons, sSet, sIf, sRet, sRetN, sNil, sExpr, sAug, sPar2, sPar3, sBreak, sSub, eVar, eC, eOp, eUn, eB, eMt, eMt0, eTup, eLst, eIf, eOr, eAnd, eNot, eSl, ePart, eNoPart, eCall0, noX, aNil, aCons, aStar, qCmp, qTru, qAnd, qOr, qNot, qYes, ob, oo, oB, oS, gNm, gTp, gsNil, gsCons, f1, f2, m0, m1, m2, m3, LINE, d_in]
      exact h2
    · generalize n + (c :: w2).length = m at *
      simp [sCons, sSet, sIf, sRet, sRetN, sNil, sExpr, sAug, sPar2, sPar3, sBreak, sSub, eVar, eC, eOp, eUn, eB, eMt, eMt0, eTup, eLst, eIf, eOr, eAnd, eNot, eSl, ePart, eNoPart, eCall0, noX, aNil, aCons, aStar, qCmp, qTru, qAnd, qOr, qNot, qYes, ob, oo, oB, oS, gNm, gTp, gsNil, gsCons, f1, f2, m0, m1, m2, m3, LINE, e1, seqD, Tok.sort]
theorem tok_str {s x r : List Nat} {n : Nat} {S : Store} (hs : asc s = true) (hl : s.length ≤ BIG) (hd : s.drop n = (Tok.str x).text ++ r) (hw : (Tok.str x).ok) (hr : ∀ c, r.head? = some c → c ≠ 39) :
    ∃ E, f_token_at [.str s, .int n] S = .ok (.tup [.str (Tok.str x).sort, .str x, .int (n + (Tok.str x).text.length : Nat)]) (S ++ E) := by
  have hd2 : s.drop n = 39 :: (escL x ++ 39 :: r) := by
    rw [hd]
    simp [Tok.text]
  have hax : ∀ c ∈ x, c < 128 := by
    have h1 : ∀ c ∈ escL x, c < 128 := fun c hc => asc_lt hs c (List.mem_of_mem_drop (by rw [hd2]; exact List.mem_cons_of_mem _ (List.mem_append_left _ hc)))
    have h2 : ∀ (x : List Nat) c, c ∈ x → c ∈ escL x := by
      intro x
      induction x with
      | nil => intro c hc; exact absurd hc (by simp)
      | cons a x ih =>
        intro c hc
        unfold escL
        rcases List.mem_cons.mp hc with e | hc
        · subst e
          split
          · rename_i e; rw [e]; exact List.mem_cons_self
          · exact List.mem_cons_self
        · split
          · exact List.mem_cons_of_mem _ (List.mem_cons_of_mem _ (ih c hc))
          · exact List.mem_cons_of_mem _ (ih c hc)
    exact fun c hc => h1 c (h2 x c hc)
  obtain ⟨E, e1⟩ := string_ok (S := S) hs hl hd2 hw.1 hw.2.1 hax hw.2.2 hr
  obtain ⟨g1, g2, g3⟩ := get_drop hd2
  refine ⟨E, fn_rt (y_cons (y_set (x_op (x_var rfl) (x_var rfl) (d_ix hl g1)) rfl) (y_cons (S1 := S) (y_if (k := false) (S1 := S) ?_ (fun z => absurd z (by decide)) (fun _ => rfl)) (y_cons (S1 := S) (y_if (k := false) (S1 := S) ?_ (fun z => absurd z (by decide)) (fun _ => rfl)) (y_rt (y_if (k := true) (S1 := S) ?_ (fun _ => ?_) (fun z => absurd z (by decide)))))))⟩
  · simp [sCons, sSet, sIf, sRet, sRetN, sNil, sExpr, sAug, sPar2, sPar3, sBreak, sSub, eVar, eC, eOp, eUn, eB, eMt, eMt0, eTup, eLst, eIf, eOr, eAnd, eNot, eSl, ePart, eNoPart, eCall0, noX, aNil, aCons, aStar, qCmp, qTru, qAnd, qOr, qNot, qYes, ob, oo, oB, oS, gNm, gTp, gsNil, gsCons, f1, f2, m0, m1, m2, m3, LINE, isTy, d_low1 (show 39 < 128 by decide), d_in]
    decide
  · simp [sCons, sSet, sIf, sRet, sRetN, sNil, sExpr, sAug, sPar2, sPar3, sBreak, sSub, eVar, eC, eOp, eUn, eB, eMt, eMt0, eTup, eLst, eIf, eOr, eAnd, eNot, eSl, ePart, eNoPart, eCall0, noX, aNil, aCons, aStar, qCmp, qTru, qAnd, qOr, qNot, qYes, ob, oo, oB, oS, gNm, gTp, gsNil, gsCons, f1, f2, m0, m1, m2, m3, LINE, d_in]
    decide
  · simp [sCons, sSet, sIf, sRet, sRetN, sNil, sExpr, sAug, sPar2, sPar3, sBreak, sSub, eVar, eC, eOp, eUn, eB, eMt, eMt0, eTup, eLst, eIf, eOr, eAnd, eNot, eSl, ePart, eNoPart, eCall0, noX, aNil, aCons, aStar, qCmp, qTru, qAnd, qOr, qNot, qYes, ob, oo, oB, oS, gNm, gTp, gsNil, gsCons, f1, f2, m0, m1, m2, m3, LINE, eqD, scalD, leqN]
  · have e2 : n + (Tok.str x).text.length = n + (escL x).length + 2 := by simp [Tok.text]; omega
    rw [e2]
    generalize n + (escL x).length + 2 = m at *
    simp [sCons, sSet, sIf, sRet, sRetN, sNil, sExpr, sAug, sPar2, sPar3, sBreak, sSub, eVar, eC, eOp, eUn, eB, eMt, eMt0, eTup, eLst, eIf, eOr, eAnd, eNot, eSl, ePart, eNoPart, eCall0, noX, aNil, aCons, aStar, qCmp, qTru, qAnd, qOr, qNot, qYes, ob, oo, oB, oS, gNm, gTp, gsNil, gsCons, f1, f2, m0, m1, m2, m3, LINE, e1, seqD, Tok.sort]
end K00

/-! P5: signs; any token. -/
namespace K00
open Sh
theorem sg_loop {s : List Nat} {n : Nat} {S : Store} {d2 d3 d4 : Option D} (hl : s.length ≤ BIG) (hn : n ≤ s.length) : ∀ (cur pre : List (List Nat)) (k : Nat) (d5 : Option D), cur.length < k → (∀ t ∈ cur, t.length ≤ 2) →
    (cur.find? (fun t => isPre t (s.drop n)) = none → ∃ d, sForL (.tup ((pre ++ cur).map D.str)) (gNm 5) (sCons (sIf (qTru (eMt "str" startsD (eVar 0) (aCons (eVar 5) (aCons (eVar 1) aNil)))) (sCons (sRet (eTup (aCons (eC (.str [115, 105, 103, 110])) (aCons (eVar 5) (aCons (eOp addD (eVar 1) (eB lenD (aCons (eVar 5) aNil))) aNil))))) sNil) sNil) sNil) k pre.length [some (.str s), some (.int n), d2, d3, d4, d5] S = .nx [some (.str s), some (.int n), d2, d3, d4, d] S) ∧
    (∀ t, cur.find? (fun t => isPre t (s.drop n)) = some t → sForL (.tup ((pre ++ cur).map D.str)) (gNm 5) (sCons (sIf (qTru (eMt "str" startsD (eVar 0) (aCons (eVar 5) (aCons (eVar 1) aNil)))) (sCons (sRet (eTup (aCons (eC (.str [115, 105, 103, 110])) (aCons (eVar 5) (aCons (eOp addD (eVar 1) (eB lenD (aCons (eVar 5) aNil))) aNil))))) sNil) sNil) sNil) k pre.length [some (.str s), some (.int n), d2, d3, d4, d5] S = .rt (.tup [.str [115, 105, 103, 110], .str t, .int (n + t.length : Nat)]) S)
  | cur, pre, 0, d5, hk, _ => absurd hk (Nat.not_lt_zero _)
  | [], pre, k + 1, d5, hk, _ => by
    refine ⟨fun _ => ⟨d5, ?_⟩, fun t h => by cases h⟩
    unfold sForL
    have e : wkAt (.tup ((pre ++ []).map D.str)) S pre.length = some none := by
      unfold wkAt
      simp
    rw [e]
  | t :: cur, pre, k + 1, d5, hk, ht => by
    have e : wkAt (.tup ((pre ++ t :: cur).map D.str)) S pre.length = some (some (.str t)) := by
      unfold wkAt
      simp
    have ih := sg_loop (S := S) (d2 := d2) (d3 := d3) (d4 := d4) hl hn cur (pre ++ [t]) k (some (.str t)) (by simp at hk; omega) fun u hu => ht u (List.mem_cons_of_mem _ hu)
    rw [List.append_assoc, List.singleton_append, List.length_append, List.length_singleton] at ih
    have ht2 := ht t List.mem_cons_self
    have htb : t.length ≤ BIG := Nat.le_trans ht2 (by decide)
    have ds := d_starts (s := s) (p := t) (S := S) hn
    constructor
    · intro hf
      rw [List.find?_cons] at hf
      by_cases hp : isPre t (s.drop n) = true
      · rw [hp] at hf
        cases hf
      · have hp : isPre t (s.drop n) = false := by simpa using hp
        rw [hp] at hf ds
        obtain ⟨d, h⟩ := ih.1 hf
        refine ⟨d, ?_⟩
        unfold sForL
        rw [e]
        simp [sCons, sSet, sIf, sRet, sRetN, sNil, sExpr, sAug, sPar2, sPar3, sBreak, sSub, eVar, eC, eOp, eUn, eB, eMt, eMt0, eTup, eLst, eIf, eOr, eAnd, eNot, eSl, ePart, eNoPart, eCall0, noX, aNil, aCons, aStar, qCmp, qTru, qAnd, qOr, qNot, qYes, ob, oo, oB, oS, gNm, gTp, gsNil, gsCons, f1, f2, m0, m1, m2, m3, LINE, isTy, ds, truD]
        simp [sCons, sSet, sIf, sRet, sRetN, sNil, sExpr, sAug, sPar2, sPar3, sBreak, sSub, eVar, eC, eOp, eUn, eB, eMt, eMt0, eTup, eLst, eIf, eOr, eAnd, eNot, eSl, ePart, eNoPart, eCall0, noX, aNil, aCons, aStar, qCmp, qTru, qAnd, qOr, qNot, qYes, ob, oo, oB, oS, gNm, gTp, gsNil, gsCons, f1, f2, m0, m1, m2, m3, LINE] at h
        exact h
    · intro u hf
      rw [List.find?_cons] at hf
      by_cases hp : isPre t (s.drop n) = true
      · rw [hp] at hf ds
        cases hf
        unfold sForL
        rw [e]
        simp [sCons, sSet, sIf, sRet, sRetN, sNil, sExpr, sAug, sPar2, sPar3, sBreak, sSub, eVar, eC, eOp, eUn, eB, eMt, eMt0, eTup, eLst, eIf, eOr, eAnd, eNot, eSl, ePart, eNoPart, eCall0, noX, aNil, aCons, aStar, qCmp, qTru, qAnd, qOr, qNot, qYes, ob, oo, oB, oS, gNm, gTp, gsNil, gsCons, f1, f2, m0, m1, m2, m3, LINE, isTy, ds, truD, d_len htb, addD]
      · have hp : isPre t (s.drop n) = false := by simpa using hp
        rw [hp] at hf ds
        have h := ih.2 u hf
        unfold sForL
        rw [e]
        simp [sCons, sSet, sIf, sRet, sRetN, sNil, sExpr, sAug, sPar2, sPar3, sBreak, sSub, eVar, eC, eOp, eUn, eB, eMt, eMt0, eTup, eLst, eIf, eOr, eAnd, eNot, eSl, ePart, eNoPart, eCall0, noX, aNil, aCons, aStar, qCmp, qTru, qAnd, qOr, qNot, qYes, ob, oo, oB, oS, gNm, gTp, gsNil, gsCons, f1, f2, m0, m1, m2, m3, LINE, isTy, ds, truD]
        simp [sCons, sSet, sIf, sRet, sRetN, sNil, sExpr, sAug, sPar2, sPar3, sBreak, sSub, eVar, eC, eOp, eUn, eB, eMt, eMt0, eTup, eLst, eIf, eOr, eAnd, eNot, eSl, ePart, eNoPart, eCall0, noX, aNil, aCons, aStar, qCmp, qTru, qAnd, qOr, qNot, qYes, ob, oo, oB, oS, gNm, gTp, gsNil, gsCons, f1, f2, m0, m1, m2, m3, LINE] at h
        exact h
theorem sg_first {w r : List Nat} (hw : w ∈ SGS) (hr : ∀ c, r.head? = some c → w ++ [c] ∉ TWOS) : (w.length = 2 ∧ tab_TWO_SIGNS.find? (fun t => isPre t (w ++ r)) = some w) ∨
    (∃ c, w = [c] ∧ tab_TWO_SIGNS.find? (fun t => isPre t (w ++ r)) = none ∧ memN c [43, 45, 42, 61, 60, 62, 40, 41, 91, 93, 46, 44, 58, 59, 94] = true) := by
  simp [SGS] at hw
  rcases hw with rfl | rfl | rfl | rfl | rfl | rfl | rfl | rfl | rfl | rfl | rfl | rfl | rfl | rfl | rfl | rfl | rfl | rfl | rfl | rfl
  all_goals
    first
    | exact .inl ⟨rfl, by simp [tab_TWO_SIGNS, isPre, nbeq]⟩
    | (refine .inr ⟨_, rfl, ?_, by decide⟩
       cases r with
       | nil => simp [tab_TWO_SIGNS, isPre, nbeq]
       | cons d r =>
         have := hr d rfl
         simp [TWOS] at this
         simp [tab_TWO_SIGNS, isPre, nbeq]
         try omega)
theorem sg_head {w : List Nat} (hw : w ∈ SGS) : ∃ c w2, w = c :: w2 ∧ c < 128 ∧ memN (lo c) LET = false ∧ memN c FIG = false ∧ c ≠ 39 ∧ c ≠ 32 ∧ c ≠ 10 ∧ c ≠ 123 := by
  simp [SGS] at hw
  rcases hw with rfl | rfl | rfl | rfl | rfl | rfl | rfl | rfl | rfl | rfl | rfl | rfl | rfl | rfl | rfl | rfl | rfl | rfl | rfl | rfl
  all_goals exact ⟨_, _, rfl, by decide, by decide, by decide, by decide, by decide, by decide, by decide⟩
theorem tok_sg {s w r : List Nat} {n : Nat} {S : Store} (hl : s.length ≤ BIG) (hd : s.drop n = w ++ r) (hn : n ≤ s.length) (hw : w ∈ SGS) (hr : ∀ c, r.head? = some c → w ++ [c] ∉ TWOS) :
    f_token_at [.str s, .int n] S = .ok (.tup [.str (Tok.sg w).sort, .str w, .int (n + w.length : Nat)]) S := by
  obtain ⟨c, w2, rfl, c128, h1, h2, h3, _⟩ := sg_head hw
  obtain ⟨g1, g2, g3⟩ := get_drop (show s.drop n = c :: (w2 ++ r) from hd)
  have loop := sg_loop (S := S) (d2 := some (.str [c])) (d3 := none) (d4 := none) hl hn tab_TWO_SIGNS [] FUEL none (by decide) (by decide)
  rw [hd] at loop
  have hit : sFor FUEL (iSeq (eC (.tup (List.map D.str tab_TWO_SIGNS)))) (gNm 5) (sCons (sIf (qTru (eMt "str" startsD (eVar 0) (aCons (eVar 5) (aCons (eVar 1) aNil)))) (sCons (sRet (eTup (aCons (eC (.str [115, 105, 103, 110])) (aCons (eVar 5) (aCons (eOp addD (eVar 1) (eB lenD (aCons (eVar 5) aNil))) aNil))))) sNil) sNil) sNil) [some (.str s), some (.int n), some (.str [c]), none, none, none] S =
      sForL (.tup (List.map D.str tab_TWO_SIGNS)) (gNm 5) (sCons (sIf (qTru (eMt "str" startsD (eVar 0) (aCons (eVar 5) (aCons (eVar 1) aNil)))) (sCons (sRet (eTup (aCons (eC (.str [115, 105, 103, 110])) (aCons (eVar 5) (aCons (eOp addD (eVar 1) (eB lenD (aCons (eVar 5) aNil))) aNil))))) sNil) sNil) sNil) FUEL 0 [some (.str s), some (.int n), some (.str [c]), none, none, none] S := rfl
  refine fn_rt (y_cons (y_set (x_op (x_var rfl) (x_var rfl) (d_ix hl g1)) rfl) (y_cons (S1 := S) (y_if (k := false) (S1 := S) ?_ (fun z => absurd z (by decide)) (fun _ => rfl)) (y_cons (S1 := S) (y_if (k := false) (S1 := S) ?_ (fun z => absurd z (by decide)) (fun _ => rfl)) (y_cons (S1 := S) (y_if (k := false) (S1 := S) ?_ (fun z => absurd z (by decide)) (fun _ => rfl)) ?_))))
  · simp [sCons, sSet, sIf, sRet, sRetN, sNil, sExpr, sAug, sPar2, sPar3, sBreak, sSub, eVar, eC, eOp, eUn, eB, eMt, eMt0, eTup, eLst, eIf, eOr, eAnd, eNot, eSl, ePart, eNoPart, eCall0, noX, aNil, aCons, aStar, qCmp, qTru, qAnd, qOr, qNot, qYes, ob, oo, oB, oS, gNm, gTp, gsNil, gsCons, f1, f2, m0, m1, m2, m3, LINE, isTy, d_low1 c128, d_in]
    exact h1
  · simp [sCons, sSet, sIf, sRet, sRetN, sNil, sExpr, sAug, sPar2, sPar3, sBreak, sSub, eVar, eC, eOp, eUn, eB, eMt, eMt0, eTup, eLst, eIf, eOr, eAnd, eNot, eSl, ePart, eNoPart, eCall0, noX, aNil, aCons, aStar, qCmp, qTru, qAnd, qOr, qNot, qYes, ob, oo, oB, oS, gNm, gTp, gsNil, gsCons, f1, f2, m0, m1, m2, m3, LINE, d_in]
    exact h2
  · have hb : Nat.beq c 39 = false := by rw [nbeq]; simpa using h3
    simp [sCons, sSet, sIf, sRet, sRetN, sNil, sExpr, sAug, sPar2, sPar3, sBreak, sSub, eVar, eC, eOp, eUn, eB, eMt, eMt0, eTup, eLst, eIf, eOr, eAnd, eNot, eSl, ePart, eNoPart, eCall0, noX, aNil, aCons, aStar, qCmp, qTru, qAnd, qOr, qNot, qYes, ob, oo, oB, oS, gNm, gTp, gsNil, gsCons, f1, f2, m0, m1, m2, m3, LINE, eqD, scalD, leqN, hb]
  · rcases sg_first hw hr with ⟨h5, h6⟩ | ⟨c', h4, h5, h6⟩
    · have z := loop.2 _ h6
      exact y_rt (hit.trans z)
    · injection h4 with h7 h8
      subst h7 h8
      obtain ⟨d, z⟩ := loop.1 h5
      refine y_cons (hit.trans z) (y_cons (S1 := S) (y_if (k := false) (S1 := S) ?_ (fun z => absurd z (by decide)) (fun _ => rfl)) ?_)
      · simp [sCons, sSet, sIf, sRet, sRetN, sNil, sExpr, sAug, sPar2, sPar3, sBreak, sSub, eVar, eC, eOp, eUn, eB, eMt, eMt0, eTup, eLst, eIf, eOr, eAnd, eNot, eSl, ePart, eNoPart, eCall0, noX, aNil, aCons, aStar, qCmp, qTru, qAnd, qOr, qNot, qYes, ob, oo, oB, oS, gNm, gTp, gsNil, gsCons, f1, f2, m0, m1, m2, m3, LINE, notInD, inD1, h6]
      · simp [sCons, sSet, sIf, sRet, sRetN, sNil, sExpr, sAug, sPar2, sPar3, sBreak, sSub, eVar, eC, eOp, eUn, eB, eMt, eMt0, eTup, eLst, eIf, eOr, eAnd, eNot, eSl, ePart, eNoPart, eCall0, noX, aNil, aCons, aStar, qCmp, qTru, qAnd, qOr, qNot, qYes, ob, oo, oB, oS, gNm, gTp, gsNil, gsCons, f1, f2, m0, m1, m2, m3, LINE, addD, Tok.sort]
/-- any good token -/
theorem token_ok {s r : List Nat} {n : Nat} {S : Store} {t : Tok} (hs : asc s = true) (hl : s.length ≤ BIG) (hn : n ≤ s.length) (hd : s.drop n = t.text ++ r) (ht : t.ok) (hr : ∀ c, r.head? = some c → t.fol c) :
    ∃ E, f_token_at [.str s, .int n] S = .ok (.tup [.str t.sort, t.told, .int (n + t.text.length : Nat)]) (S ++ E) := by
  cases t with
  | id w => exact ⟨[], by rw [List.append_nil]; exact tok_id hs hl hd hn ht hr⟩
  | num w v => exact ⟨[], by rw [List.append_nil]; exact tok_num hs hl hd hn ht hr⟩
  | str x => exact tok_str hs hl hd ht hr
  | sg w => exact ⟨[], by rw [List.append_nil]; exact tok_sg hl hd hn ht hr⟩
end K00

/-! P6: comments. -/
namespace K00
open Sh
def noE : List Nat → List Nat → Prop
  | [], _ => True
  | c :: r, cl => c ≠ 125 ∧ ¬ (c = 42 ∧ (r ++ cl).head? = some 41) ∧ noE r cl
def fnd (p s : List Nat) (m : Nat) : Int := match findL p (s.drop m) with
  | some k => ((m + k : Nat) : Int)
  | none => -1
theorem d_find {s p : List Nat} {n : Nat} {S : Store} (hp : p.isEmpty = false) (h : n ≤ s.length) : find3D0 (.str s) (.str p) (.int n) S = some (.int (fnd p s n), S) := by
  have hn : natI (n : Int) s.length = some n := by
    unfold natI
    rw [if_pos ⟨by omega, by omega⟩]
    rfl
  show (if p.isEmpty = true then none else (natI n s.length).map _) = _
  rw [hp, hn]
  rfl
theorem find_cons {p r : List Nat} {c : Nat} : findL p (c :: r) = if isPre p (c :: r) = true then some 0 else (findL p r).map (· + 1) := rfl
theorem pre1 {a c : Nat} {r : List Nat} : isPre [a] (c :: r) = decide (a = c) := by
  rw [Bool.eq_iff_iff]
  simp [isPre, nbeq]
theorem pre2 {a b c : Nat} {r : List Nat} : isPre [a, b] (c :: r) = decide (a = c ∧ r.head? = some b) := by
  rw [Bool.eq_iff_iff]
  cases r with
  | nil => simp [isPre]
  | cons d r =>
    simp [isPre, nbeq]
    intro _
    exact ⟨Eq.symm, Eq.symm⟩
theorem head_app {r x : List Nat} {cl : List Nat} (h : cl ≠ []) : (r ++ (cl ++ x)).head? = (r ++ cl).head? := by
  cases r with
  | nil =>
    cases cl with
    | nil => exact absurd rfl h
    | cons _ _ => rfl
  | cons _ _ => rfl
theorem find_br {x : List Nat} : ∀ {inner : List Nat}, noE inner [125] → findL [125] (inner ++ ([125] ++ x)) = some inner.length ∧ ∀ k, findL [42, 41] (inner ++ ([125] ++ x)) = some k → inner.length < k
  | [], _ => by
    refine ⟨rfl, fun k h => ?_⟩
    have h : (if isPre [42, 41] (125 :: x) = true then some 0 else (findL [42, 41] x).map (· + 1)) = some k := h
    rw [pre2, if_neg (by simp)] at h
    obtain ⟨j, _, rfl⟩ := Option.map_eq_some_iff.mp h
    exact Nat.succ_pos _
  | c :: r, h => by
    obtain ⟨h1, h2, h3⟩ := h
    obtain ⟨i1, i2⟩ := find_br (x := x) h3
    constructor
    · show findL [125] (c :: (r ++ ([125] ++ x))) = _
      rw [find_cons, pre1, if_neg (by simpa using fun z => h1 z.symm), i1]
      rfl
    · intro k hk
      have hk : findL [42, 41] (c :: (r ++ ([125] ++ x))) = some k := hk
      rw [find_cons, pre2, if_neg] at hk
      · obtain ⟨j, hj, rfl⟩ := Option.map_eq_some_iff.mp hk
        have := i2 j hj
        rw [List.length_cons]
        omega
      · rw [head_app (by simp)]
        intro z
        have z := of_decide_eq_true z
        exact h2 ⟨z.1.symm, z.2⟩
theorem find_st {x : List Nat} : ∀ {inner : List Nat}, noE inner [42, 41] → findL [42, 41] (inner ++ ([42, 41] ++ x)) = some inner.length ∧ ∀ k, findL [125] (inner ++ ([42, 41] ++ x)) = some k → inner.length < k
  | [], _ => by
    refine ⟨rfl, fun k h => ?_⟩
    have h : (if isPre [125] (42 :: 41 :: x) = true then some 0 else (findL [125] (41 :: x)).map (· + 1)) = some k := h
    rw [pre1, if_neg (by simp)] at h
    obtain ⟨j, _, rfl⟩ := Option.map_eq_some_iff.mp h
    exact Nat.succ_pos _
  | c :: r, h => by
    obtain ⟨h1, h2, h3⟩ := h
    obtain ⟨i1, i2⟩ := find_st (x := x) h3
    constructor
    · show findL [42, 41] (c :: (r ++ ([42, 41] ++ x))) = _
      rw [find_cons, pre2, if_neg, i1]
      · rfl
      · rw [head_app (by simp)]
        intro z
        have z := of_decide_eq_true z
        exact h2 ⟨z.1.symm, z.2⟩
    · intro k hk
      have hk : findL [125] (c :: (r ++ ([42, 41] ++ x))) = some k := hk
      rw [find_cons, pre1, if_neg (by simpa using fun z => h1 z.symm)] at hk
      obtain ⟨j, hj, rfl⟩ := Option.map_eq_some_iff.mp hk
      have := i2 j hj
      rw [List.length_cons]
      omega
/-! a store with new cells behind -/
theorem gA {α : Type} (S L : List α) (i : Nat) : (S ++ L)[S.length + i]? = L[i]? := by
  rw [List.getElem?_append_right (by omega)]
  congr 1
  omega
theorem gA0 {α : Type} (S L : List α) : (S ++ L)[S.length]? = L[0]? := gA S L 0
theorem sA {α : Type} (S L : List α) (i : Nat) (x : α) : (S ++ L).set (S.length + i) x = S ++ L.set i x := by
  rw [List.set_append_right _ _ (by omega)]
  congr 2
  omega
theorem sA0 {α : Type} (S L : List α) (x : α) : (S ++ L).set S.length x = S ++ L.set 0 x := sA S L 0 x
/-- the end that is met first -/
def firstEnd (a b : Int) : Int := if 0 ≤ a ∧ (b < 0 ∨ a < b) then a + 1 else b + 2
def tailC : SM := (sCons (sSet (eB sortedD (aCons (eLc FUEL (iSeq (eVar 3)) (gTp 2 (gsCons (gNm 6) (gsCons (gNm 5) gsNil))) (qCmp geD (eVar 6) (eC (.int 0))) (eTup (aCons (eVar 6) (aCons (eB lenD (aCons (eVar 5) aNil)) aNil))) [6, 5]) aNil)) (gNm 4)) (sCons (sIf (qCmp eqPD (eVar 4) (eLst aNil)) sNever sNil) (sCons (sRet (eOp addD (eOp ixD (eOp ixD (eVar 4) (eC (.int 0))) (eC (.int 0))) (eOp ixD (eOp ixD (eVar 4) (eC (.int 0))) (eC (.int 1))))) sNil)))
theorem row_end {S : Store} {e0 e1 e2 : Option D} {a b : Int} (h : (0 ≤ a ∧ (b < 0 ∨ a < b)) ∨ (0 ≤ b ∧ (a < 0 ∨ b < a))) :
    ∃ E, tailC [e0, e1, e2, some (.obj S.length), none, none, none] (S ++ [.lst [.tup [.int a, .str [125]], .tup [.int b, .str [42, 41]]]]) = .rt (.int (firstEnd a b)) (S ++ E) := by
  have F : FUEL = 99999997 + 1 + 1 + 1 := rfl
  by_cases ha : 0 ≤ a
  · by_cases hb : 0 ≤ b
    · have hb2 : ¬ b < 0 := by omega
      have ha2 : ¬ a < 0 := by omega
      by_cases hab : a < b
      · have hne : ¬ b = a := by omega
        have hba : ¬ b < a := by omega
        refine ⟨[.lst [.tup [.int a, .str [125]], .tup [.int b, .str [42, 41]]], .lst [.tup [.int a, .int 1], .tup [.int b, .int 2]], .lst [.tup [.int a, .int 1], .tup [.int b, .int 2]], .lst []], ?_⟩
        unfold tailC
        rw [F]
        simp [sCons, sSet, sIf, sRet, sRetN, sNil, sExpr, sAug, sPar2, sPar3, sBreak, sSub, eVar, eC, eOp, eUn, eB, eMt, eMt0, eTup, eLst, eIf, eOr, eAnd, eNot, eSl, ePart, eNoPart, eCall0, noX, aNil, aCons, aStar, qCmp, qTru, qAnd, qOr, qNot, qYes, ob, oo, oB, oS, gNm, gTp, gsNil, gsCons, f1, f2, m0, m1, m2, m3, LINE, eLc, iSeq, wkOf, lcLoop, wkAt, cellAt, gA, gA0, sA, sA0, wipeE, geD, cmpD, lenD0, sortedD0, lstD, pairsD, srtZ, srtP, insP, ltZ, SrtO.lexB, eqPD, toPS, toP, toPs, shOk, PySem.SeqAt.shaped, PySem.PyData.canLay0, PySem.PyData.canLayAll0, PySem.PyData.depth, PySem.PyData.depthAll, PySem.PyData.eqv, PySem.PyData.eqvAll, ixD, seqD, L2.atI, L2.ixN, addD, firstEnd, ha, hb, hab, hne, hba, hb2]
      · have hne : ¬ b = a := by omega
        have hba : b < a := by omega
        refine ⟨[.lst [.tup [.int a, .str [125]], .tup [.int b, .str [42, 41]]], .lst [.tup [.int a, .int 1], .tup [.int b, .int 2]], .lst [.tup [.int b, .int 2], .tup [.int a, .int 1]], .lst []], ?_⟩
        unfold tailC
        rw [F]
        simp [sCons, sSet, sIf, sRet, sRetN, sNil, sExpr, sAug, sPar2, sPar3, sBreak, sSub, eVar, eC, eOp, eUn, eB, eMt, eMt0, eTup, eLst, eIf, eOr, eAnd, eNot, eSl, ePart, eNoPart, eCall0, noX, aNil, aCons, aStar, qCmp, qTru, qAnd, qOr, qNot, qYes, ob, oo, oB, oS, gNm, gTp, gsNil, gsCons, f1, f2, m0, m1, m2, m3, LINE, eLc, iSeq, wkOf, lcLoop, wkAt, cellAt, gA, gA0, sA, sA0, wipeE, geD, cmpD, lenD0, sortedD0, lstD, pairsD, srtZ, srtP, insP, ltZ, SrtO.lexB, eqPD, toPS, toP, toPs, shOk, PySem.SeqAt.shaped, PySem.PyData.canLay0, PySem.PyData.canLayAll0, PySem.PyData.depth, PySem.PyData.depthAll, PySem.PyData.eqv, PySem.PyData.eqvAll, ixD, seqD, L2.atI, L2.ixN, addD, firstEnd, ha, hb, hab, hne, hba, hb2]
    · refine ⟨[.lst [.tup [.int a, .str [125]], .tup [.int b, .str [42, 41]]], .lst [.tup [.int a, .int 1]], .lst [.tup [.int a, .int 1]], .lst []], ?_⟩
      have hb2 : b < 0 := by omega
      unfold tailC
      rw [F]
      simp [sCons, sSet, sIf, sRet, sRetN, sNil, sExpr, sAug, sPar2, sPar3, sBreak, sSub, eVar, eC, eOp, eUn, eB, eMt, eMt0, eTup, eLst, eIf, eOr, eAnd, eNot, eSl, ePart, eNoPart, eCall0, noX, aNil, aCons, aStar, qCmp, qTru, qAnd, qOr, qNot, qYes, ob, oo, oB, oS, gNm, gTp, gsNil, gsCons, f1, f2, m0, m1, m2, m3, LINE, eLc, iSeq, wkOf, lcLoop, wkAt, cellAt, gA, gA0, sA, sA0, wipeE, geD, cmpD, lenD0, sortedD0, lstD, pairsD, srtZ, srtP, insP, ltZ, SrtO.lexB, eqPD, toPS, toP, toPs, shOk, PySem.SeqAt.shaped, PySem.PyData.canLay0, PySem.PyData.canLayAll0, PySem.PyData.depth, PySem.PyData.depthAll, PySem.PyData.eqv, PySem.PyData.eqvAll, ixD, seqD, L2.atI, L2.ixN, addD, firstEnd, ha, hb, hb2]
  · have hb : 0 ≤ b := by omega
    refine ⟨[.lst [.tup [.int a, .str [125]], .tup [.int b, .str [42, 41]]], .lst [.tup [.int b, .int 2]], .lst [.tup [.int b, .int 2]], .lst []], ?_⟩
    unfold tailC
    rw [F]
    simp [sCons, sSet, sIf, sRet, sRetN, sNil, sExpr, sAug, sPar2, sPar3, sBreak, sSub, eVar, eC, eOp, eUn, eB, eMt, eMt0, eTup, eLst, eIf, eOr, eAnd, eNot, eSl, ePart, eNoPart, eCall0, noX, aNil, aCons, aStar, qCmp, qTru, qAnd, qOr, qNot, qYes, ob, oo, oB, oS, gNm, gTp, gsNil, gsCons, f1, f2, m0, m1, m2, m3, LINE, eLc, iSeq, wkOf, lcLoop, wkAt, cellAt, gA, gA0, sA, sA0, wipeE, geD, cmpD, lenD0, sortedD0, lstD, pairsD, srtZ, srtP, insP, ltZ, SrtO.lexB, eqPD, toPS, toP, toPs, shOk, PySem.SeqAt.shaped, PySem.PyData.canLay0, PySem.PyData.canLayAll0, PySem.PyData.depth, PySem.PyData.depthAll, PySem.PyData.eqv, PySem.PyData.eqvAll, ixD, seqD, L2.atI, L2.ixN, addD, firstEnd, ha, hb]
theorem comment_ok {s op inner cl r : List Nat} {n : Nat} {S : Store} (hl : s.length ≤ BIG) (hn : n ≤ s.length) (hd : s.drop n = op ++ (inner ++ (cl ++ r))) (ho : op = [123] ∨ op = [40, 42]) (hc : cl = [125] ∨ cl = [42, 41]) (hi : noE inner cl) :
    ∃ E, f_comment_end [.str s, .int n] S = .ok (.int (n + (op.length + inner.length + cl.length) : Nat)) (S ++ E) := by
  have hdl := congrArg List.length hd
  simp only [List.length_drop, List.length_append] at hdl
  have hm : n + op.length ≤ s.length := by
    rcases ho with rfl | rfl <;> simp at hdl ⊢ <;> rcases hc with rfl | rfl <;> simp at hdl <;> omega
  have hd2 : s.drop (n + op.length) = inner ++ (cl ++ r) := by
    rw [← List.drop_drop, hd, List.drop_left]
  have key : ((0 ≤ fnd [125] s (n + op.length) ∧ (fnd [42, 41] s (n + op.length) < 0 ∨ fnd [125] s (n + op.length) < fnd [42, 41] s (n + op.length))) ∨ (0 ≤ fnd [42, 41] s (n + op.length) ∧ (fnd [125] s (n + op.length) < 0 ∨ fnd [42, 41] s (n + op.length) < fnd [125] s (n + op.length)))) ∧
      firstEnd (fnd [125] s (n + op.length)) (fnd [42, 41] s (n + op.length)) = ((n + (op.length + inner.length + cl.length) : Nat) : Int) := by
    unfold fnd firstEnd
    rw [hd2]
    rcases hc with rfl | rfl
    · obtain ⟨h1, h2⟩ := find_br (x := r) hi
      rw [h1]
      cases h3 : findL [42, 41] (inner ++ ([125] ++ r)) with
      | none => simp; omega
      | some k =>
        have := h2 k h3
        simp
        omega
    · obtain ⟨h1, h2⟩ := find_st (x := r) hi
      rw [h1]
      cases h3 : findL [125] (inner ++ ([42, 41] ++ r)) with
      | none => simp; omega
      | some k =>
        have := h2 k h3
        simp
        omega
  obtain ⟨E, hE⟩ := row_end (S := S) (e0 := some (.str s)) (e1 := some (.int n)) (e2 := some (.int (n + op.length : Nat))) key.1
  rw [key.2] at hE
  have f1 := d_find (s := s) (p := [125]) (n := n + op.length) (S := S ++ [.lst []]) rfl hm
  have f2 := d_find (s := s) (p := [42, 41]) (n := n + op.length) (S := S ++ [.lst [.tup [.int (fnd [125] s (n + op.length)), .str [125]]]]) rfl hm
  have F : FUEL = 99999997 + 1 + 1 + 1 := rfl
  have h0 : ∃ c r2, s.drop n = c :: r2 ∧ (c = 123 → op = [123]) ∧ (c ≠ 123 → op.length = 2) ∧ (c = 123 ∨ c = 40) := by
    rcases ho with rfl | rfl
    · exact ⟨123, _, hd, fun _ => rfl, fun z => absurd rfl z, .inl rfl⟩
    · exact ⟨40, _, hd, fun z => absurd z (by decide), fun _ => rfl, .inr rfl⟩
  obtain ⟨c, r2, q1, q2, q3, q4⟩ := h0
  obtain ⟨g1, g2, g3⟩ := get_drop q1
  refine ⟨E, fn_rt (y_cons (S1 := S) (y_set (d := .int (n + op.length : Nat)) ?_ rfl) (y_cons (S1 := S ++ [Cell.lst [D.tup [D.int (fnd [125] s (n + op.length)), D.str [125]], D.tup [D.int (fnd [42, 41] s (n + op.length)), D.str [42, 41]]]]) (y_set (d := .obj S.length) ?_ rfl) hE))⟩
  · have com : ixD (.tup (List.map D.str tab_COMMENTS)) (.int 0) S = some (.str [123], S) := rfl
    rcases q4 with rfl | rfl
    · rw [q2 rfl]
      simp [sCons, sSet, sIf, sRet, sRetN, sNil, sExpr, sAug, sPar2, sPar3, sBreak, sSub, eVar, eC, eOp, eUn, eB, eMt, eMt0, eTup, eLst, eIf, eOr, eAnd, eNot, eSl, ePart, eNoPart, eCall0, noX, aNil, aCons, aStar, qCmp, qTru, qAnd, qOr, qNot, qYes, ob, oo, oB, oS, gNm, gTp, gsNil, gsCons, f1, f2, m0, m1, m2, m3, LINE, d_ix hl g1, com, eqD, scalD, leqN, addD]
    · rw [q3 (by decide)]
      have t : Nat.beq 40 123 = false := rfl
      simp [sCons, sSet, sIf, sRet, sRetN, sNil, sExpr, sAug, sPar2, sPar3, sBreak, sSub, eVar, eC, eOp, eUn, eB, eMt, eMt0, eTup, eLst, eIf, eOr, eAnd, eNot, eSl, ePart, eNoPart, eCall0, noX, aNil, aCons, aStar, qCmp, qTru, qAnd, qOr, qNot, qYes, ob, oo, oB, oS, gNm, gTp, gsNil, gsCons, f1, f2, m0, m1, m2, m3, LINE, d_ix hl g1, com, eqD, scalD, leqN, addD, t]
  · generalize fnd [125] s (n + op.length) = a at *
    generalize fnd [42, 41] s (n + op.length) = b at *
    generalize n + op.length = m at *
    rw [F]
    simp [sCons, sSet, sIf, sRet, sRetN, sNil, sExpr, sAug, sPar2, sPar3, sBreak, sSub, eVar, eC, eOp, eUn, eB, eMt, eMt0, eTup, eLst, eIf, eOr, eAnd, eNot, eSl, ePart, eNoPart, eCall0, noX, aNil, aCons, aStar, qCmp, qTru, qAnd, qOr, qNot, qYes, ob, oo, oB, oS, gNm, gTp, gsNil, gsCons, f1, f2, m0, m1, m2, m3, LINE, eLc, iSeq, wkOf, tab_ENDS, lcLoop, wkAt, wipeE, isTy, f1, f2, gA, gA0, sA, sA0]
end K00

/-! P7: a text of segments, read. -/
namespace K00
open Sh
theorem place_ok {s : List Nat} {n : Nat} (S : Store) (h : n ≤ s.length) : f_place_of [.str s, .int n] S = .ok (.tup [.int (adl (1, 1) (s.take n)).1, .int (adl (1, 1) (s.take n)).2]) S := by
  have hn : natI (n : Int) s.length = some n := by
    unfold natI
    rw [if_pos ⟨by omega, by omega⟩]
    rfl
  have h0 : natI (0 : Int) s.length = some 0 := by
    unfold natI
    rw [if_pos ⟨by omega, by omega⟩]
    rfl
  have e1 : (adl (1, 1) (s.take n)).1 = cntF s 10 0 n + 1 := by
    rw [adl_line]
    unfold cntF
    rw [List.drop_zero]
    exact Int.add_comm _ _
  have e2 : (adl (1, 1) (s.take n)).2 = n - lastF s 10 0 n := by
    rw [adl_col]
    unfold lastF colOf
    rw [List.drop_zero, List.length_take, Nat.min_eq_left h]
    cases lastL 10 (s.take n) with
    | some k => simp
    | none => simp; omega
  rw [e1, e2]
  unfold f_place_of
  simp [sCons, sSet, sIf, sRet, sRetN, sNil, sExpr, sAug, sPar2, sPar3, sBreak, sSub, eVar, eC, eOp, eUn, eB, eMt, eMt0, eTup, eLst, eIf, eOr, eAnd, eNot, eSl, ePart, eNoPart, eCall0, noX, aNil, aCons, aStar, qCmp, qTru, qAnd, qOr, qNot, qYes, ob, oo, oB, oS, gNm, gTp, gsNil, gsCons, f1, f2, m0, m1, m2, m3, LINE, fnOf, m_place_of, isTy, one4D, h0, hn, addD, subD]

/-! ### segments -/
inductive Seg where
  | bl (c : Nat) | cm (op inner cl : List Nat) | tk (t : Tok)
def Seg.text : Seg → List Nat
  | .bl c => [c]
  | .cm op inner cl => op ++ (inner ++ cl)
  | .tk t => t.text
def Seg.ok : Seg → Prop
  | .bl c => c = 32 ∨ c = 10
  | .cm op inner cl => (op = [123] ∨ op = [40, 42]) ∧ (cl = [125] ∨ cl = [42, 41]) ∧ noE inner cl
  | .tk t => t.ok
def Seg.fol : Seg → Nat → Prop
  | .tk t, c => t.fol c
  | _, _ => True
def txt : List Seg → List Nat
  | [] => []
  | s :: r => s.text ++ txt r
def wf : List Seg → Prop
  | [] => True
  | s :: r => s.ok ∧ (∀ c, (txt r).head? = some c → s.fol c) ∧ wf r
def due (p : Pl) : List Seg → List D
  | [] => []
  | .tk t :: r => .tup [.str t.sort, t.told, .int p.1, .int p.2] :: due (adl p t.text) r
  | s :: r => due (adl p s.text) r
theorem due_app : ∀ (a b : List Seg) (p : Pl), due p (a ++ b) = due p a ++ due (adl p (txt a)) b
  | [], b, p => rfl
  | s :: a, b, p => by
    have ih := due_app a b (adl p s.text)
    have e : adl p (txt (s :: a)) = adl (adl p s.text) (txt a) := adl_app _ _ _
    rw [e]
    cases s with
    | tk t => exact congrArg _ ih
    | bl c => exact ih
    | cm o i c => exact ih
theorem txt_app : ∀ a b : List Seg, txt (a ++ b) = txt a ++ txt b
  | [], b => rfl
  | s :: a, b => by
    show s.text ++ txt (a ++ b) = (s.text ++ txt a) ++ txt b
    rw [txt_app a b, List.append_assoc]
/-- what stands at the head of a token is no blank and opens no comment -/
theorem tok_front {t : Tok} {r : List Nat} (ht : t.ok) (hr : ∀ c, r.head? = some c → t.fol c) (ha : asc (t.text ++ r) = true) : ∃ c r2, t.text ++ r = c :: r2 ∧ c ≠ 32 ∧ c ≠ 10 ∧ isPre [123] (c :: r2) = false ∧ isPre [40, 42] (c :: r2) = false := by
  have by_c : ∀ (c : Nat) (r2 : List Nat), (c ≠ 123 ∧ c ≠ 40) → isPre [123] (c :: r2) = false ∧ isPre [40, 42] (c :: r2) = false := fun c r2 h => by
    rw [pre1, pre2]
    exact ⟨decide_eq_false fun z => h.1 z.symm, decide_eq_false fun z => h.2 z.1.symm⟩
  have lt : ∀ c, c < 128 → isLet c = true → c ≠ 32 ∧ c ≠ 10 ∧ c ≠ 123 ∧ c ≠ 40 := by decide +kernel
  have ft : ∀ c, c < 128 → isFig c = true → c ≠ 32 ∧ c ≠ 10 ∧ c ≠ 123 ∧ c ≠ 40 := by decide +kernel
  cases t with
  | id w =>
    obtain ⟨c, w2, rfl, hc⟩ := (show IdW w from ht).ne
    obtain ⟨h1, h2, h3, h4⟩ := lt c (asc_cons.mp (show asc (c :: (w2 ++ r)) = true from ha)).1 hc
    exact ⟨c, w2 ++ r, rfl, h1, h2, by_c _ _ ⟨h3, h4⟩⟩
  | num w v =>
    have hv : NumV w v := ht
    have hne := hv.ne
    have hf := hv.fig
    cases w with
    | nil => exact absurd rfl hne
    | cons c w2 =>
      obtain ⟨h1, h2, h3, h4⟩ := ft c (asc_cons.mp (show asc (c :: (w2 ++ r)) = true from ha)).1 (hf c List.mem_cons_self)
      exact ⟨c, w2 ++ r, rfl, h1, h2, by_c _ _ ⟨h3, h4⟩⟩
  | str x => exact ⟨39, _, rfl, by decide, by decide, by_c _ _ ⟨by decide, by decide⟩⟩
  | sg w =>
    obtain ⟨c, w2, rfl, _, _, _, _, h1, h2, h3⟩ := sg_head (show w ∈ SGS from ht)
    refine ⟨c, w2 ++ r, rfl, h1, h2, ?_, ?_⟩
    · rw [pre1]
      exact decide_eq_false fun z => h3 z.symm
    · rw [pre2]
      refine decide_eq_false fun z => ?_
      obtain ⟨rfl, z2⟩ := z
      have hw : (40 :: w2) ∈ SGS := ht
      simp [SGS] at hw
      subst hw
      have := hr 42 z2
      exact this (by simp [TWOS])
def loopB : SM := (sCons (sIf (qCmp inD (eOp ixD (eVar 0) (eVar 2)) (eC (.str [32, 10]))) (sCons (sAug 2 iaddD (eC (.int 1))) sNil) (sCons (sIf (qTru (eMt "str" startsD (eVar 0) (aCons (eC (.tup (List.map D.str tab_COMMENTS))) (aCons (eVar 2) aNil)))) (sCons (sSet (eCall0 f_comment_end (aCons (eVar 0) (aCons (eVar 2) aNil))) (gNm 2)) sNil) (sCons (sSet (eCall0 f_token_at (aCons (eVar 0) (aCons (eVar 2) aNil))) (gTp 3 (gsCons (gNm 3) (gsCons (gNm 4) (gsCons (gNm 5) gsNil))))) (sCons (sExpr (eMt "list" appendD (eVar 1) (aCons (eTup (aCons (eVar 3) (aCons (eVar 4) (aStar (eCall0 f_place_of (aCons (eVar 0) (aCons (eVar 2) aNil))) aNil)))) aNil))) (sCons (sSet (eVar 5) (gNm 2)) sNil)))) sNil)) sNil)
theorem d_startsT {s : List Nat} {ps : List (List Nat)} {n : Nat} {S : Store} (h : n ≤ s.length) : startsD0 (.str s) (.tup (List.map D.str ps)) (.int n) S = some (.bl (ps.any fun p => isPre p (s.drop n)), S) := by
  have hn : natI (n : Int) s.length = some n := by
    unfold natI
    rw [if_pos ⟨by omega, by omega⟩]
    rfl
  have hs : ∀ ps : List (List Nat), strsD (List.map D.str ps) = some ps := by
    intro ps
    induction ps with
    | nil => rfl
    | cons q ps ih =>
      show (strsD (List.map D.str ps)).map (q :: ·) = _
      rw [ih]
      rfl
  show (strsD (List.map D.str ps)).bind (fun qs => (natI n s.length).map _) = _
  rw [hs, hn]
  rfl
theorem w_step {q : EM Bool} {b : SM} {k : Nat} {ev e1 : Ev} {S S1 S2 : Store} (hq : q ev S = .ok true S1) (hb : b ev S1 = .nx e1 S2) : sWhile q b (k + 1) ev S = sWhile q b k e1 S2 := by
  rw [sWhile]
  simp [hq, hb]
theorem w_stop {q : EM Bool} {b : SM} {k : Nat} {ev : Ev} {S S1 : Store} (hq : q ev S = .ok false S1) : sWhile q b (k + 1) ev S = .nx ev S1 := by
  rw [sWhile]
  simp [hq]
theorem d_app2 {S0 E : Store} {acc : List D} {y : D} (h : acc.length ≤ BIG) : appendD0 (.obj S0.length) y (S0 ++ (.lst acc :: E)) = some (.non, S0 ++ (.lst (acc ++ [y]) :: E)) := by
  show (cellAt (S0 ++ (.lst acc :: E)) S0.length).bind _ = _
  have e : cellAt (S0 ++ (.lst acc :: E)) S0.length = some acc := by
    unfold cellAt
    rw [gA0]
    rfl
  rw [e]
  show (if acc.length < LINE then _ else _) = _
  rw [if_pos (by have : acc.length < 16777216 := by unfold BIG at h; omega
                 exact this), sA0]
  rfl
theorem tokens_loop {s : List Nat} {S0 : Store} (hs : asc s = true) (hl : s.length ≤ BIG) : ∀ (segs : List Seg) (pre : List Nat) (k : Nat) (acc : List D) (E : Store) (d3 d4 d5 : Option D), s = pre ++ txt segs → wf segs → segs.length < k → acc.length + segs.length ≤ BIG →
    ∃ E' a3 a4 a5, sWhile (qCmp ltD (eVar 2) (eB lenD (aCons (eVar 0) aNil))) loopB k [some (.str s), some (.obj S0.length), some (.int pre.length), d3, d4, d5] (S0 ++ (.lst acc :: E)) =
      .nx [some (.str s), some (.obj S0.length), some (.int s.length), a3, a4, a5] (S0 ++ (.lst (acc ++ due (adl (1, 1) pre) segs) :: E'))
  | segs, pre, 0, acc, E, d3, d4, d5, he, hw, hk, ha => absurd hk (Nat.not_lt_zero _)
  | [], pre, k + 1, acc, E, d3, d4, d5, he, hw, hk, ha => by
    have e : s = pre := by rw [he]; exact List.append_nil _
    subst e
    refine ⟨E, d3, d4, d5, ?_⟩
    rw [w_stop (S1 := S0 ++ (.lst acc :: E)) (by simp [sCons, sSet, sIf, sRet, sRetN, sNil, sExpr, sAug, sPar2, sPar3, sBreak, sSub, eVar, eC, eOp, eUn, eB, eMt, eMt0, eTup, eLst, eIf, eOr, eAnd, eNot, eSl, ePart, eNoPart, eCall0, noX, aNil, aCons, aStar, qCmp, qTru, qAnd, qOr, qNot, qYes, ob, oo, oB, oS, gNm, gTp, gsNil, gsCons, f1, f2, m0, m1, m2, m3, LINE, d_len hl, ltD, cmpD])]
    rw [show acc ++ due (adl (1, 1) s) [] = acc from List.append_nil _]
  | g :: segs, pre, k + 1, acc, E, d3, d4, d5, he, hw, hk, ha => by
    obtain ⟨w1, w2, w3⟩ := hw
    have he2 : s = (pre ++ g.text) ++ txt segs := by
      rw [he, List.append_assoc]
      rfl
    have hpl : pre.length ≤ s.length := by
      rw [he, List.length_append]
      omega
    have hd : s.drop pre.length = g.text ++ txt segs := by
      rw [he, List.drop_left]
      rfl
    have hda : asc (g.text ++ txt segs) = true := by
      rw [← hd]
      exact asc_drop hs _
    have htk : s.take pre.length = pre := by
      rw [he, List.take_left]
    have hk2 : segs.length < k := by simp at hk; omega
    have tl : (pre ++ g.text).length = pre.length + g.text.length := List.length_append
    have ha2 : acc.length + segs.length + 1 ≤ BIG := by simp at ha; omega
    have go : ∀ (hlt : (pre.length : Int) < s.length) (acc' : List D) (E1 : Store) (b3 b4 b5 : Option D), acc'.length ≤ acc.length + 1 → acc' ++ due (adl (1, 1) (pre ++ g.text)) segs = acc ++ due (adl (1, 1) pre) (g :: segs) →
        loopB [some (.str s), some (.obj S0.length), some (.int pre.length), d3, d4, d5] (S0 ++ (.lst acc :: E)) = .nx [some (.str s), some (.obj S0.length), some (.int (pre.length + g.text.length : Nat)), b3, b4, b5] (S0 ++ (.lst acc' :: E1)) →
        ∃ E' a3 a4 a5, sWhile (qCmp ltD (eVar 2) (eB lenD (aCons (eVar 0) aNil))) loopB (k + 1) [some (.str s), some (.obj S0.length), some (.int pre.length), d3, d4, d5] (S0 ++ (.lst acc :: E)) =
          .nx [some (.str s), some (.obj S0.length), some (.int s.length), a3, a4, a5] (S0 ++ (.lst (acc ++ due (adl (1, 1) pre) (g :: segs)) :: E')) := by
      intro hlt acc' E1 b3 b4 b5 h1 h2 h3
      obtain ⟨E', a3, a4, a5, ih⟩ := tokens_loop (S0 := S0) hs hl segs (pre ++ g.text) k acc' E1 b3 b4 b5 he2 w3 hk2 (by omega)
      rw [tl] at ih
      refine ⟨E', a3, a4, a5, ?_⟩
      rw [w_step (S1 := S0 ++ (.lst acc :: E)) (by simp [sCons, sSet, sIf, sRet, sRetN, sNil, sExpr, sAug, sPar2, sPar3, sBreak, sSub, eVar, eC, eOp, eUn, eB, eMt, eMt0, eTup, eLst, eIf, eOr, eAnd, eNot, eSl, ePart, eNoPart, eCall0, noX, aNil, aCons, aStar, qCmp, qTru, qAnd, qOr, qNot, qYes, ob, oo, oB, oS, gNm, gTp, gsNil, gsCons, f1, f2, m0, m1, m2, m3, LINE, d_len hl, ltD, cmpD, hlt]) h3, ih, h2]
    have big : ∀ c r2, g.text ++ txt segs = c :: r2 → s[pre.length]? = some c ∧ (pre.length : Int) < s.length := by
      intro c r2 e
      obtain ⟨g1, g2, g3⟩ := get_drop (hd.trans e)
      exact ⟨g1, by omega⟩
    cases g with
    | bl c =>
      obtain ⟨g1, hlt⟩ := big c _ rfl
      have hb : memN c [32, 10] = true := by
        rcases (show c = 32 ∨ c = 10 from w1) with rfl | rfl <;> rfl
      refine go hlt acc E d3 d4 d5 (by omega) ?_ ?_
      · rw [adl_app]
        rfl
      · unfold loopB
        simp [sCons, sSet, sIf, sRet, sRetN, sNil, sExpr, sAug, sPar2, sPar3, sBreak, sSub, eVar, eC, eOp, eUn, eB, eMt, eMt0, eTup, eLst, eIf, eOr, eAnd, eNot, eSl, ePart, eNoPart, eCall0, noX, aNil, aCons, aStar, qCmp, qTru, qAnd, qOr, qNot, qYes, ob, oo, oB, oS, gNm, gTp, gsNil, gsCons, f1, f2, m0, m1, m2, m3, LINE, d_ix hl g1, d_in, hb, iaddD, Seg.text]
    | cm o i c =>
      obtain ⟨v1, v2, v3⟩ := w1
      have hd3 : s.drop pre.length = o ++ (i ++ (c ++ txt segs)) := by
        rw [hd]
        simp [Seg.text]
      obtain ⟨E2, hE⟩ := comment_ok (S := S0 ++ (.lst acc :: E)) hl hpl hd3 v1 v2 v3
      have ho : ∃ d r2, o ++ (i ++ (c ++ txt segs)) = d :: r2 ∧ memN d [32, 10] = false ∧ (tab_COMMENTS.any fun p => isPre p (o ++ (i ++ (c ++ txt segs)))) = true := by
        rcases v1 with rfl | rfl
        · exact ⟨123, _, rfl, by decide, by simp [tab_COMMENTS, isPre]⟩
        · exact ⟨40, _, rfl, by decide, by simp [tab_COMMENTS, isPre]⟩
      obtain ⟨d, r2, q1, q2, q3⟩ := ho
      obtain ⟨g1, hlt⟩ := big d r2 (by rw [← hd, hd3, q1])
      have st := d_startsT (s := s) (ps := tab_COMMENTS) (S := S0 ++ (.lst acc :: E)) hpl
      rw [hd3, q3] at st
      refine go hlt acc (E ++ E2) d3 d4 d5 (by omega) ?_ ?_
      · rw [adl_app]
        rfl
      · have e : (Seg.cm o i c).text.length = o.length + i.length + c.length := by
          simp [Seg.text]
          omega
        rw [e]
        generalize pre.length + (o.length + i.length + c.length) = m at *
        unfold loopB
        simp [sCons, sSet, sIf, sRet, sRetN, sNil, sExpr, sAug, sPar2, sPar3, sBreak, sSub, eVar, eC, eOp, eUn, eB, eMt, eMt0, eTup, eLst, eIf, eOr, eAnd, eNot, eSl, ePart, eNoPart, eCall0, noX, aNil, aCons, aStar, qCmp, qTru, qAnd, qOr, qNot, qYes, ob, oo, oB, oS, gNm, gTp, gsNil, gsCons, f1, f2, m0, m1, m2, m3, LINE, d_ix hl g1, d_in, q2, isTy, st, truD]
        simp at hE
        simp [hE]
    | tk t =>
      obtain ⟨c, r2, q1, q2, q3, q4, q5⟩ := tok_front (show t.ok from w1) w2 hda
      obtain ⟨g1, hlt⟩ := big c r2 q1
      have hb : memN c [32, 10] = false := by
        rw [memN_eq]
        simp [q2, q3]
      have st := d_startsT (s := s) (ps := tab_COMMENTS) (S := S0 ++ (.lst acc :: E)) hpl
      have h0 : (tab_COMMENTS.any fun p => isPre p (s.drop pre.length)) = false := by
        rw [hd]
        show (isPre [123] (t.text ++ txt segs) || (isPre [40, 42] (t.text ++ txt segs) || false)) = false
        have q1 : t.text ++ txt segs = c :: r2 := q1
        rw [q1, q4, q5]
        rfl
      rw [h0] at st
      obtain ⟨E2, hE⟩ := token_ok (S := S0 ++ (.lst acc :: E)) hs hl hpl (show s.drop pre.length = t.text ++ txt segs from hd) (show t.ok from w1) w2
      have hp := place_ok (s := s) (S0 ++ (.lst acc :: (E ++ E2))) hpl
      rw [htk] at hp
      have da := d_app2 (S0 := S0) (E := E ++ E2) (acc := acc) (y := .tup [.str t.sort, t.told, .int (adl (1, 1) pre).1, .int (adl (1, 1) pre).2]) (by omega)
      refine go hlt (acc ++ [.tup [.str t.sort, t.told, .int (adl (1, 1) pre).1, .int (adl (1, 1) pre).2]]) (E ++ E2) (some (.str t.sort)) (some t.told) (some (.int (pre.length + t.text.length : Nat))) (by simp) ?_ ?_
      · rw [adl_app, List.append_assoc]
        rfl
      · show loopB _ _ = .nx [_, _, some (.int (pre.length + t.text.length : Nat)), _, _, _] _
        generalize pre.length + t.text.length = m at *
        simp at hE
        unfold loopB
        simp [sCons, sSet, sIf, sRet, sRetN, sNil, sExpr, sAug, sPar2, sPar3, sBreak, sSub, eVar, eC, eOp, eUn, eB, eMt, eMt0, eTup, eLst, eIf, eOr, eAnd, eNot, eSl, ePart, eNoPart, eCall0, noX, aNil, aCons, aStar, qCmp, qTru, qAnd, qOr, qNot, qYes, ob, oo, oB, oS, gNm, gTp, gsNil, gsCons, f1, f2, m0, m1, m2, m3, LINE, d_ix hl g1, d_in, hb, isTy, st, truD, hE, hp, seqD, da]
theorem tokens_ok {segs : List Seg} {S : Store} (hs : asc (txt segs) = true) (hl : (txt segs).length ≤ BIG) (hw : wf segs) (hn : segs.length ≤ 100000) : ∃ E, f_tokens [.str (txt segs)] S = .ok (.tup (due (1, 1) segs)) (S ++ E) := by
  obtain ⟨E', a3, a4, a5, h⟩ := tokens_loop (S0 := S) hs hl segs [] FUEL [] [] none none none rfl hw (by unfold FUEL; omega) (by simp; unfold BIG; omega)
  refine ⟨.lst (due (1, 1) segs) :: E', fn_rt (y_cons (S1 := S) (y_if (k := false) (S1 := S) ?_ (fun z => absurd z (by decide)) (fun _ => rfl)) (y_cons (e1 := [some (.str (txt segs)), some (.obj S.length), some (.int 0), none, none, none]) (S1 := S ++ [Cell.lst []]) ?_ (y_cons h ?_)))⟩
  · have k : L2.kitB "str" "str" = some true := by decide +kernel
    simp [sCons, sSet, sIf, sRet, sRetN, sNil, sExpr, sAug, sPar2, sPar3, sBreak, sSub, eVar, eC, eOp, eUn, eB, eMt, eMt0, eTup, eLst, eIf, eOr, eAnd, eNot, eSl, ePart, eNoPart, eCall0, noX, aNil, aCons, aStar, qCmp, qTru, qAnd, qOr, qNot, qYes, ob, oo, oB, oS, gNm, gTp, gsNil, gsCons, f1, f2, m0, m1, m2, m3, LINE, eIs, tyD, k, truD]
  · simp [sCons, sSet, sIf, sRet, sRetN, sNil, sExpr, sAug, sPar2, sPar3, sBreak, sSub, eVar, eC, eOp, eUn, eB, eMt, eMt0, eTup, eLst, eIf, eOr, eAnd, eNot, eSl, ePart, eNoPart, eCall0, noX, aNil, aCons, aStar, qCmp, qTru, qAnd, qOr, qNot, qYes, ob, oo, oB, oS, gNm, gTp, gsNil, gsCons, f1, f2, m0, m1, m2, m3, LINE]
  · simp [sCons, sSet, sIf, sRet, sRetN, sNil, sExpr, sAug, sPar2, sPar3, sBreak, sSub, eVar, eC, eOp, eUn, eB, eMt, eMt0, eTup, eLst, eIf, eOr, eAnd, eNot, eSl, ePart, eNoPart, eCall0, noX, aNil, aCons, aStar, qCmp, qTru, qAnd, qOr, qNot, qYes, ob, oo, oB, oS, gNm, gTp, gsNil, gsCons, f1, f2, m0, m1, m2, m3, LINE, tupleD0, lstD, cellAt, gA0, adl]
end K00

/-! P8: _law_plain blanks the comments. -/
namespace K00
open Sh
def plB : SM := (sCons (sSet (eSl slD (eVar 0) (ePart (eVar 3)) (ePart (eOp addD (eVar 3) (eC (.int 2))))) (gNm 4)) (sCons (sIf (qCmp eqD (eVar 2) (eC (.str [99, 111, 109, 109, 101, 110, 116]))) (sCons (sSet (eIf (qCmp eqD (eVar 4) (eC (.str [42, 41]))) (eC (.int 2)) (eC (.int 1))) (gNm 5)) (sCons (sSet (eOr (eOp eqD (eVar 4) (eC (.str [42, 41]))) (eOp eqD (eOp ixD (eVar 0) (eVar 3)) (eC (.str [125])))) (gNm 6)) (sCons (sSet (eOp addD (eVar 1) (eIf (qCmp eqD (eOp ixD (eVar 0) (eVar 3)) (eC (.str [10]))) (eC (.str [10])) (eOp mulD (eC (.str [32])) (eVar 5)))) (gNm 1)) (sCons (sSet (eIf (qTru (eVar 6)) (eC (.str [])) (eVar 2)) (gNm 2)) sNil)))) (sCons (sIf (qCmp eqD (eVar 2) (eC (.str [115, 116, 114, 105, 110, 103]))) (sCons (sSet (eIf (qCmp eqD (eVar 4) (eC (.str [39, 39]))) (eC (.int 2)) (eC (.int 1))) (gNm 5)) (sCons (sPar2 1 2 (aCons (eOp addD (eVar 1) (eSl slD (eVar 0) (ePart (eVar 3)) (ePart (eOp addD (eVar 3) (eVar 5))))) (aCons (eIf (qAnd (qCmp eqD (eOp ixD (eVar 0) (eVar 3)) (eC (.str [39]))) (qCmp eqD (eVar 5) (eC (.int 1)))) (eC (.str [])) (eVar 2)) aNil))) sNil)) (sCons (sSet (eIf (qCmp eqD (eVar 4) (eC (.str [40, 42]))) (eC (.int 2)) (eC (.int 1))) (gNm 5)) (sCons (sSet (eOr (eOp eqD (eVar 4) (eC (.str [40, 42]))) (eOp eqD (eOp ixD (eVar 0) (eVar 3)) (eC (.str [123])))) (gNm 7)) (sCons (sSet (eIf (qTru (eVar 7)) (eC (.str [99, 111, 109, 109, 101, 110, 116])) (eIf (qCmp eqD (eOp ixD (eVar 0) (eVar 3)) (eC (.str [39]))) (eC (.str [115, 116, 114, 105, 110, 103])) (eC (.str [])))) (gNm 2)) (sCons (sSet (eOp addD (eVar 1) (eIf (qTru (eVar 7)) (eOp mulD (eC (.str [32])) (eVar 5)) (eOp ixD (eVar 0) (eVar 3)))) (gNm 1)) sNil))))) sNil)) (sCons (sSet (eOp addD (eVar 3) (eVar 5)) (gNm 3)) sNil)))
abbrev COM : List Nat := [99, 111, 109, 109, 101, 110, 116]
abbrev STG : List Nat := [115, 116, 114, 105, 110, 103]
theorem cut_any {α : Type} {s : List α} {n m : Nat} (h : n ≤ s.length) (hnm : n ≤ m) : cutL s (some (n : Int)) (some (m : Int)) = (s.drop n).take (m - n) := by
  unfold cutL
  rw [HT.sIx_nat, HT.sIx_nat, Nat.min_eq_left h]
  by_cases hm : m ≤ s.length
  · rw [Nat.min_eq_left hm]
  · rw [Nat.min_eq_right (by omega), List.take_of_length_le (by rw [List.length_drop]; exact Nat.le_refl _), List.take_of_length_le (by rw [List.length_drop]; omega)]
def Plr (s fin found mode : List Nat) (n : Nat) : Prop := ∀ (S : Store) (k : Nat) (d4 d5 d6 d7 : Option D), s.length - n < k → ∃ m a4 a5 a6 a7, sWhile (qCmp ltD (eVar 3) (eB lenD (aCons (eVar 0) aNil))) plB k [some (.str s), some (.str found), some (.str mode), some (.int n), d4, d5, d6, d7] S = .nx [some (.str s), some (.str fin), m, some (.int s.length), a4, a5, a6, a7] S
theorem plr_end {s found mode : List Nat} (hl : s.length ≤ BIG) : Plr s found found mode s.length := by
  intro S k d4 d5 d6 d7 hk
  cases k with
  | zero => exact absurd hk (Nat.not_lt_zero _)
  | succ k => exact ⟨_, _, _, _, _, w_stop (by simp [sCons, sSet, sIf, sRet, sRetN, sNil, sExpr, sAug, sPar2, sPar3, sBreak, sSub, eVar, eC, eOp, eUn, eB, eMt, eMt0, eTup, eLst, eIf, eOr, eAnd, eNot, eSl, ePart, eNoPart, eCall0, noX, aNil, aCons, aStar, qCmp, qTru, qAnd, qOr, qNot, qYes, ob, oo, oB, oS, gNm, gTp, gsNil, gsCons, f1, f2, m0, m1, m2, m3, LINE, d_len hl, ltD, cmpD])⟩
theorem plr_step {s fin found mode out mode2 : List Nat} {n z : Nat} (hl : s.length ≤ BIG) (hn : n < s.length) (hz : 0 < z) (hb : ∀ (S : Store) (d4 d5 d6 d7 : Option D), ∃ a4 a5 a6 a7, plB [some (.str s), some (.str found), some (.str mode), some (.int n), d4, d5, d6, d7] S = .nx [some (.str s), some (.str (found ++ out)), some (.str mode2), some (.int (n + z : Nat)), a4, a5, a6, a7] S)
    (h : Plr s fin (found ++ out) mode2 (n + z)) : Plr s fin found mode n := by
  intro S k d4 d5 d6 d7 hk
  cases k with
  | zero => exact absurd hk (Nat.not_lt_zero _)
  | succ k =>
    obtain ⟨a4, a5, a6, a7, hb⟩ := hb S d4 d5 d6 d7
    obtain ⟨m, b4, b5, b6, b7, hr⟩ := h S k a4 a5 a6 a7 (by omega)
    have hlt : (n : Int) < s.length := by omega
    exact ⟨m, b4, b5, b6, b7, (w_step (by simp [sCons, sSet, sIf, sRet, sRetN, sNil, sExpr, sAug, sPar2, sPar3, sBreak, sSub, eVar, eC, eOp, eUn, eB, eMt, eMt0, eTup, eLst, eIf, eOr, eAnd, eNot, eSl, ePart, eNoPart, eCall0, noX, aNil, aCons, aStar, qCmp, qTru, qAnd, qOr, qNot, qYes, ob, oo, oB, oS, gNm, gTp, gsNil, gsCons, f1, f2, m0, m1, m2, m3, LINE, d_len hl, ltD, cmpD, hlt]) hb).trans hr⟩
section
variable {s found : List Nat} {n c : Nat} {r : List Nat}
theorem take2 (hl : s.length ≤ BIG) (hd : s.drop n = c :: r) : cutL s (some (n : Int)) (some ((n : Int) + 2)) = c :: r.take 1 := by
  obtain ⟨g1, g2, g3⟩ := get_drop hd
  have e := cut_any (s := s) (n := n) (m := n + 2) (by omega) (by omega)
  rw [hd] at e
  have e2 : ((n + 2 : Nat) : Int) = (n : Int) + 2 := by omega
  rw [e2] at e
  rw [e, show n + 2 - n = 2 by omega]
  rfl
theorem take1 (hl : s.length ≤ BIG) (hd : s.drop n = c :: r) : cutL s (some (n : Int)) (some ((n : Int) + 1)) = [c] := by
  obtain ⟨g1, g2, g3⟩ := get_drop hd
  have e := cut_any (s := s) (n := n) (m := n + 1) (by omega) (by omega)
  rw [hd] at e
  have e2 : ((n + 1 : Nat) : Int) = (n : Int) + 1 := by omega
  rw [e2] at e
  rw [e, show n + 1 - n = 1 by omega]
  rfl
theorem two_eq (a b : Nat) : leqN (c :: r.take 1) [a, b] = decide (c = a ∧ r.head? = some b) := by
  rw [leqN_eq, Bool.eq_iff_iff]
  cases r with
  | nil => simp
  | cons d r => simp
theorem one_eq (a b : Nat) : leqN [a] [b] = decide (a = b) := by
  rw [leqN_eq]
  simp
theorem q1 : leqN [] COM = false := rfl
theorem q2 : leqN [] STG = false := rfl
theorem q3 : leqN COM COM = true := by decide
theorem q4 : leqN STG COM = false := by decide
theorem q5 : leqN STG STG = true := by decide
/-! outside -/
theorem pl_0 (hl : s.length ≤ BIG) (hd : s.drop n = c :: r) (hf : found.length ≤ n) (h2 : ¬ (c = 40 ∧ r.head? = some 42)) (h3 : c ≠ 123) {fin mode2 : List Nat} (hm : mode2 = if c = 39 then STG else []) (h : Plr s fin (found ++ [c]) mode2 (n + 1)) : Plr s fin found [] n := by
  obtain ⟨g1, g2, g3⟩ := get_drop hd
  refine plr_step hl g2 (by omega) (fun S d4 d5 d6 d7 => ?_) h
  have hs2 : s.length ≤ 16777216 := by unfold BIG at hl; omega
  have hfl : found.length + 1 ≤ 16777216 := by omega
  have hc2 := take2 hl hd
  refine ⟨some (.str (c :: r.take 1)), some (.int 1), d6, some (.bl false), ?_⟩
  subst hm
  unfold plB
  by_cases h39 : c = 39
  · simp [sCons, sSet, sIf, sRet, sRetN, sNil, sExpr, sAug, sPar2, sPar3, sBreak, sSub, eVar, eC, eOp, eUn, eB, eMt, eMt0, eTup, eLst, eIf, eOr, eAnd, eNot, eSl, ePart, eNoPart, eCall0, noX, aNil, aCons, aStar, qCmp, qTru, qAnd, qOr, qNot, qYes, ob, oo, oB, oS, gNm, gTp, gsNil, gsCons, f1, f2, m0, m1, m2, m3, LINE, slD, hs2, hc2, addD, eqD, scalD, q1, q2, two_eq, one_eq, h2, h3, d_ix hl g1, truD, h39, hfl]
  · simp [sCons, sSet, sIf, sRet, sRetN, sNil, sExpr, sAug, sPar2, sPar3, sBreak, sSub, eVar, eC, eOp, eUn, eB, eMt, eMt0, eTup, eLst, eIf, eOr, eAnd, eNot, eSl, ePart, eNoPart, eCall0, noX, aNil, aCons, aStar, qCmp, qTru, qAnd, qOr, qNot, qYes, ob, oo, oB, oS, gNm, gTp, gsNil, gsCons, f1, f2, m0, m1, m2, m3, LINE, slD, hs2, hc2, addD, eqD, scalD, q1, q2, two_eq, one_eq, h2, h3, d_ix hl g1, truD, h39, hfl]
/-- a comment begins -/
theorem pl_c (hl : s.length ≤ BIG) (hf : found.length ≤ n) {op : List Nat} (ho : op = [123] ∨ op = [40, 42]) (hd : s.drop n = op ++ r) {fin : List Nat} (h : Plr s fin (found ++ op.map fun _ => 32) COM (n + op.length)) : Plr s fin found [] n := by
  have hs2 : s.length ≤ 16777216 := by unfold BIG at hl; omega
  rcases ho with rfl | rfl
  · obtain ⟨g1, g2, g3⟩ := get_drop (show s.drop n = 123 :: r from hd)
    refine plr_step hl g2 (by decide) (fun S d4 d5 d6 d7 => ?_) h
    have hfl : found.length + 1 ≤ 16777216 := by omega
    have hc2 := take2 hl (show s.drop n = 123 :: r from hd)
    refine ⟨some (.str (123 :: r.take 1)), some (.int 1), d6, some (.bl true), ?_⟩
    unfold plB
    simp [sCons, sSet, sIf, sRet, sRetN, sNil, sExpr, sAug, sPar2, sPar3, sBreak, sSub, eVar, eC, eOp, eUn, eB, eMt, eMt0, eTup, eLst, eIf, eOr, eAnd, eNot, eSl, ePart, eNoPart, eCall0, noX, aNil, aCons, aStar, qCmp, qTru, qAnd, qOr, qNot, qYes, ob, oo, oB, oS, gNm, gTp, gsNil, gsCons, f1, f2, m0, m1, m2, m3, LINE, slD, hs2, hc2, addD, eqD, scalD, q1, q2, two_eq, one_eq, d_ix hl g1, truD, hfl, mulD, repN]
  · obtain ⟨g1, g2, g3⟩ := get_drop (show s.drop n = 40 :: 42 :: r from hd)
    obtain ⟨g4, g5, g6⟩ := get_drop g3
    refine plr_step hl g2 (by decide) (fun S d4 d5 d6 d7 => ?_) h
    have hfl : found.length + 2 ≤ 16777216 := by omega
    have hc2 := take2 hl (show s.drop n = 40 :: 42 :: r from hd)
    refine ⟨some (.str [40, 42]), some (.int 2), d6, some (.bl true), ?_⟩
    have e : leqN [40, 42] [40, 42] = true := rfl
    unfold plB
    simp [sCons, sSet, sIf, sRet, sRetN, sNil, sExpr, sAug, sPar2, sPar3, sBreak, sSub, eVar, eC, eOp, eUn, eB, eMt, eMt0, eTup, eLst, eIf, eOr, eAnd, eNot, eSl, ePart, eNoPart, eCall0, noX, aNil, aCons, aStar, qCmp, qTru, qAnd, qOr, qNot, qYes, ob, oo, oB, oS, gNm, gTp, gsNil, gsCons, f1, f2, m0, m1, m2, m3, LINE, slD, hs2, hc2, addD, eqD, scalD, q1, q2, e, d_ix hl g1, truD, hfl, mulD, repN]
/-- in a comment -/
theorem pl_in (hl : s.length ≤ BIG) (hd : s.drop n = c :: r) (hf : found.length ≤ n) (h2 : ¬ (c = 42 ∧ r.head? = some 41)) (h3 : c ≠ 125) {fin : List Nat} (h : Plr s fin (found ++ [if c = 10 then 10 else 32]) COM (n + 1)) : Plr s fin found COM n := by
  obtain ⟨g1, g2, g3⟩ := get_drop hd
  refine plr_step hl g2 (by omega) (fun S d4 d5 d6 d7 => ?_) h
  have hs2 : s.length ≤ 16777216 := by unfold BIG at hl; omega
  have hfl : found.length + 1 ≤ 16777216 := by omega
  have hc2 := take2 hl hd
  refine ⟨some (.str (c :: r.take 1)), some (.int 1), some (.bl false), d7, ?_⟩
  unfold plB
  by_cases h10 : c = 10
  · simp [sCons, sSet, sIf, sRet, sRetN, sNil, sExpr, sAug, sPar2, sPar3, sBreak, sSub, eVar, eC, eOp, eUn, eB, eMt, eMt0, eTup, eLst, eIf, eOr, eAnd, eNot, eSl, ePart, eNoPart, eCall0, noX, aNil, aCons, aStar, qCmp, qTru, qAnd, qOr, qNot, qYes, ob, oo, oB, oS, gNm, gTp, gsNil, gsCons, f1, f2, m0, m1, m2, m3, LINE, slD, hs2, hc2, addD, eqD, scalD, q3, two_eq, one_eq, h2, h3, d_ix hl g1, truD, h10, hfl, mulD, repN]
  · simp [sCons, sSet, sIf, sRet, sRetN, sNil, sExpr, sAug, sPar2, sPar3, sBreak, sSub, eVar, eC, eOp, eUn, eB, eMt, eMt0, eTup, eLst, eIf, eOr, eAnd, eNot, eSl, ePart, eNoPart, eCall0, noX, aNil, aCons, aStar, qCmp, qTru, qAnd, qOr, qNot, qYes, ob, oo, oB, oS, gNm, gTp, gsNil, gsCons, f1, f2, m0, m1, m2, m3, LINE, slD, hs2, hc2, addD, eqD, scalD, q3, two_eq, one_eq, h2, h3, d_ix hl g1, truD, h10, hfl, mulD, repN]
/-- it ends -/
theorem pl_e (hl : s.length ≤ BIG) (hf : found.length ≤ n) {cl : List Nat} (ho : cl = [125] ∨ cl = [42, 41]) (hd : s.drop n = cl ++ r) {fin : List Nat} (h : Plr s fin (found ++ cl.map fun _ => 32) [] (n + cl.length)) : Plr s fin found COM n := by
  have hs2 : s.length ≤ 16777216 := by unfold BIG at hl; omega
  rcases ho with rfl | rfl
  · obtain ⟨g1, g2, g3⟩ := get_drop (show s.drop n = 125 :: r from hd)
    refine plr_step hl g2 (by decide) (fun S d4 d5 d6 d7 => ?_) h
    have hfl : found.length + 1 ≤ 16777216 := by omega
    have hc2 := take2 hl (show s.drop n = 125 :: r from hd)
    refine ⟨some (.str (125 :: r.take 1)), some (.int 1), some (.bl true), d7, ?_⟩
    unfold plB
    simp [sCons, sSet, sIf, sRet, sRetN, sNil, sExpr, sAug, sPar2, sPar3, sBreak, sSub, eVar, eC, eOp, eUn, eB, eMt, eMt0, eTup, eLst, eIf, eOr, eAnd, eNot, eSl, ePart, eNoPart, eCall0, noX, aNil, aCons, aStar, qCmp, qTru, qAnd, qOr, qNot, qYes, ob, oo, oB, oS, gNm, gTp, gsNil, gsCons, f1, f2, m0, m1, m2, m3, LINE, slD, hs2, hc2, addD, eqD, scalD, q3, two_eq, one_eq, d_ix hl g1, truD, hfl, mulD, repN]
  · obtain ⟨g1, g2, g3⟩ := get_drop (show s.drop n = 42 :: 41 :: r from hd)
    obtain ⟨g4, g5, g6⟩ := get_drop g3
    refine plr_step hl g2 (by decide) (fun S d4 d5 d6 d7 => ?_) h
    have hfl : found.length + 2 ≤ 16777216 := by omega
    have hc2 := take2 hl (show s.drop n = 42 :: 41 :: r from hd)
    refine ⟨some (.str [42, 41]), some (.int 2), some (.bl true), d7, ?_⟩
    have e : leqN [42, 41] [42, 41] = true := rfl
    have e2 : leqN [42] [10] = false := rfl
    unfold plB
    simp [sCons, sSet, sIf, sRet, sRetN, sNil, sExpr, sAug, sPar2, sPar3, sBreak, sSub, eVar, eC, eOp, eUn, eB, eMt, eMt0, eTup, eLst, eIf, eOr, eAnd, eNot, eSl, ePart, eNoPart, eCall0, noX, aNil, aCons, aStar, qCmp, qTru, qAnd, qOr, qNot, qYes, ob, oo, oB, oS, gNm, gTp, gsNil, gsCons, f1, f2, m0, m1, m2, m3, LINE, slD, hs2, hc2, addD, eqD, scalD, q3, e, e2, d_ix hl g1, truD, hfl, mulD, repN]
/-- in a string: a plain sign -/
theorem pl_s (hl : s.length ≤ BIG) (hd : s.drop n = c :: r) (hf : found.length ≤ n) (h2 : c ≠ 39) {fin : List Nat} (h : Plr s fin (found ++ [c]) STG (n + 1)) : Plr s fin found STG n := by
  obtain ⟨g1, g2, g3⟩ := get_drop hd
  refine plr_step hl g2 (by omega) (fun S d4 d5 d6 d7 => ?_) h
  have hs2 : s.length ≤ 16777216 := by unfold BIG at hl; omega
  have hfl : found.length + 1 ≤ 16777216 := by omega
  have hc2 := take2 hl hd
  have hc1 := take1 hl hd
  refine ⟨some (.str (c :: r.take 1)), some (.int 1), d6, d7, ?_⟩
  unfold plB
  simp [sCons, sSet, sIf, sRet, sRetN, sNil, sExpr, sAug, sPar2, sPar3, sBreak, sSub, eVar, eC, eOp, eUn, eB, eMt, eMt0, eTup, eLst, eIf, eOr, eAnd, eNot, eSl, ePart, eNoPart, eCall0, noX, aNil, aCons, aStar, qCmp, qTru, qAnd, qOr, qNot, qYes, ob, oo, oB, oS, gNm, gTp, gsNil, gsCons, f1, f2, m0, m1, m2, m3, LINE, slD, hs2, hc2, hc1, addD, eqD, scalD, q4, q5, two_eq, one_eq, h2, d_ix hl g1, truD, hfl]
/-- two quotes -/
theorem pl_qq (hl : s.length ≤ BIG) (hd : s.drop n = 39 :: 39 :: r) (hf : found.length ≤ n) {fin : List Nat} (h : Plr s fin (found ++ [39, 39]) STG (n + 2)) : Plr s fin found STG n := by
  obtain ⟨g1, g2, g3⟩ := get_drop hd
  obtain ⟨g4, g5, g6⟩ := get_drop g3
  refine plr_step hl g2 (by omega) (fun S d4 d5 d6 d7 => ?_) h
  have hs2 : s.length ≤ 16777216 := by unfold BIG at hl; omega
  have hfl : found.length + 2 ≤ 16777216 := by omega
  have hc2 := take2 hl hd
  refine ⟨some (.str [39, 39]), some (.int 2), d6, d7, ?_⟩
  have e : leqN [39, 39] [39, 39] = true := rfl
  unfold plB
  simp [sCons, sSet, sIf, sRet, sRetN, sNil, sExpr, sAug, sPar2, sPar3, sBreak, sSub, eVar, eC, eOp, eUn, eB, eMt, eMt0, eTup, eLst, eIf, eOr, eAnd, eNot, eSl, ePart, eNoPart, eCall0, noX, aNil, aCons, aStar, qCmp, qTru, qAnd, qOr, qNot, qYes, ob, oo, oB, oS, gNm, gTp, gsNil, gsCons, f1, f2, m0, m1, m2, m3, LINE, slD, hs2, hc2, addD, eqD, scalD, q4, q5, e, one_eq, d_ix hl g1, truD, hfl]
/-- the last quote -/
theorem pl_q (hl : s.length ≤ BIG) (hd : s.drop n = 39 :: r) (hr : r.head? ≠ some 39) (hf : found.length ≤ n) {fin : List Nat} (h : Plr s fin (found ++ [39]) [] (n + 1)) : Plr s fin found STG n := by
  obtain ⟨g1, g2, g3⟩ := get_drop hd
  refine plr_step hl g2 (by omega) (fun S d4 d5 d6 d7 => ?_) h
  have hs2 : s.length ≤ 16777216 := by unfold BIG at hl; omega
  have hfl : found.length + 1 ≤ 16777216 := by omega
  have hc2 := take2 hl hd
  have hc1 := take1 hl hd
  refine ⟨some (.str (39 :: r.take 1)), some (.int 1), d6, d7, ?_⟩
  unfold plB
  simp [sCons, sSet, sIf, sRet, sRetN, sNil, sExpr, sAug, sPar2, sPar3, sBreak, sSub, eVar, eC, eOp, eUn, eB, eMt, eMt0, eTup, eLst, eIf, eOr, eAnd, eNot, eSl, ePart, eNoPart, eCall0, noX, aNil, aCons, aStar, qCmp, qTru, qAnd, qOr, qNot, qYes, ob, oo, oB, oS, gNm, gTp, gsNil, gsCons, f1, f2, m0, m1, m2, m3, LINE, slD, hs2, hc2, hc1, addD, eqD, scalD, q4, q5, two_eq, one_eq, hr, d_ix hl g1, truD, hfl]
end
end K00

/-! P9: the text without its comments. -/
namespace K00
open Sh
def bls (s : List Nat) : List Seg := s.map fun c => .bl (if c = 10 then 10 else 32)
def blank : List Seg → List Seg
  | [] => []
  | .cm o i c :: r => bls (o ++ (i ++ c)) ++ blank r
  | s :: r => s :: blank r
def bch (c : Nat) : Nat := if c = 10 then 10 else 32
theorem txt_bls : ∀ s : List Nat, txt (bls s) = s.map bch
  | [] => rfl
  | c :: s => by
    show [if c = 10 then 10 else 32] ++ txt (bls s) = _
    rw [txt_bls s]
    rfl
theorem bch_like (c : Nat) : likeC c (bch c) := by
  unfold likeC bch
  by_cases h : c = 10
  · simp [h]
  · simp [h]
theorem due_bls : ∀ (s : List Nat) (p : Pl) (r : List Seg), due p (bls s ++ r) = due (adl p s) r
  | [], p, r => rfl
  | c :: s, p, r => by
    show due (adl p [if c = 10 then 10 else 32]) (bls s ++ r) = _
    rw [due_bls s]
    have e : adl p [if c = 10 then 10 else 32] = adl p [c] := (adl_map (f := bch) [c] p fun d _ => bch_like d)
    rw [e]
    rfl
theorem due_blank : ∀ (segs : List Seg) (p : Pl), due p (blank segs) = due p segs
  | [], p => rfl
  | .cm o i c :: r, p => by
    show due p (bls (o ++ (i ++ c)) ++ blank r) = due (adl p (o ++ (i ++ c))) r
    rw [due_bls, due_blank r]
  | .bl c :: r, p => due_blank r _
  | .tk t :: r, p => by
    show _ :: due (adl p t.text) (blank r) = _ :: due (adl p t.text) r
    rw [due_blank r]
theorem txt_blank : ∀ segs : List Seg, (txt (blank segs)).length = (txt segs).length
  | [] => rfl
  | .cm o i c :: r => by
    show (txt (bls (o ++ (i ++ c)) ++ blank r)).length = (o ++ (i ++ c) ++ txt r).length
    rw [txt_app, txt_bls, List.length_append, List.length_append, List.length_map, txt_blank r]
  | .bl c :: r => congrArg (· + 1) (txt_blank r)
  | .tk t :: r => by
    show (t.text ++ txt (blank r)).length = (t.text ++ txt r).length
    rw [List.length_append, List.length_append, txt_blank r]
theorem fol32 (t : Tok) : t.fol 32 ∧ t.fol 10 := by
  have no : ∀ (w : List Nat) (a : Nat), a = 32 ∨ a = 10 → w ++ [a] ∉ TWOS := by
    intro w a ha h
    have hl : (w ++ [a]).getLast? = some a := by simp
    have : ∀ u ∈ TWOS, u.getLast? ≠ some 32 ∧ u.getLast? ≠ some 10 := by decide
    have z := this _ h
    rw [hl] at z
    rcases ha with rfl | rfl
    · exact z.1 rfl
    · exact z.2 rfl
  cases t with
  | id w => exact ⟨(by show idc 32 = false; decide), (by show idc 10 = false; decide)⟩
  | num w v => exact ⟨(by show isFig 32 = false; decide), (by show isFig 10 = false; decide)⟩
  | str x => exact ⟨(by show (32 : Nat) ≠ 39; decide), (by show (10 : Nat) ≠ 39; decide)⟩
  | sg w => exact ⟨no w 32 (.inl rfl), no w 10 (.inr rfl)⟩
theorem wf_bls : ∀ (s : List Nat) (r : List Seg), wf r → wf (bls s ++ r)
  | [], r, h => h
  | c :: s, r, h => by
    refine ⟨?_, fun _ _ => trivial, wf_bls s r h⟩
    show (if c = 10 then 10 else 32) = 32 ∨ (if c = 10 then 10 else 32) = 10
    by_cases e : c = 10
    · simp [e]
    · simp [e]
theorem head_blank : ∀ segs : List Seg, wf segs → ∀ c, (txt (blank segs)).head? = some c → (txt segs).head? = some c ∨ c = 32
  | [], _, c, h => .inl h
  | .cm o i k :: r, w, c, h => by
    obtain ⟨⟨w1, _⟩, _⟩ := w
    rcases w1 with rfl | rfl
    · have h : some 32 = some c := h
      exact .inr (Option.some.inj h).symm
    · have h : some 32 = some c := h
      exact .inr (Option.some.inj h).symm
  | .bl d :: r, w, c, h => .inl h
  | .tk t :: r, w, c, h => by
    left
    have hne : t.text ≠ [] := by
      have ht : t.ok := w.1
      cases t with
      | id u =>
        obtain ⟨c, w2, rfl, _⟩ := (show IdW u from ht).ne
        exact List.cons_ne_nil _ _
      | num u v => exact (show NumV u v from ht).ne
      | str x => exact List.cons_ne_nil _ _
      | sg u =>
        obtain ⟨c, w2, rfl, _⟩ := sg_head (show u ∈ SGS from ht)
        exact List.cons_ne_nil _ _
    have h : (t.text ++ txt (blank r)).head? = some c := h
    show (t.text ++ txt r).head? = some c
    cases e : t.text with
    | nil => exact absurd e hne
    | cons a b =>
      rw [e] at h
      exact h
theorem wf_blank : ∀ segs : List Seg, wf segs → wf (blank segs)
  | [], _ => trivial
  | .cm o i k :: r, w => wf_bls _ _ (wf_blank r w.2.2)
  | .bl d :: r, w => ⟨w.1, fun _ _ => trivial, wf_blank r w.2.2⟩
  | .tk t :: r, w => by
    refine ⟨w.1, fun c h => ?_, wf_blank r w.2.2⟩
    rcases head_blank r w.2.2 c h with h | rfl
    · exact w.2.1 c h
    · exact (fol32 t).1
theorem asc_blank : ∀ segs : List Seg, asc (txt segs) = true → asc (txt (blank segs)) = true
  | [], _ => rfl
  | .cm o i k :: r, h => by
    have h : asc (o ++ (i ++ k) ++ txt r) = true := h
    rw [asc_app, Bool.and_eq_true] at h
    show asc (txt (bls (o ++ (i ++ k)) ++ blank r)) = true
    rw [txt_app, asc_app, asc_blank r h.2, txt_bls, Bool.and_true]
    unfold asc
    rw [List.all_map, List.all_eq_true]
    intro c _
    show Nat.blt (bch c) 128 = true
    unfold bch
    split <;> rfl
  | .bl d :: r, h => by
    have h : asc ([d] ++ txt r) = true := h
    rw [asc_app, Bool.and_eq_true] at h
    show asc ([d] ++ txt (blank r)) = true
    rw [asc_app, h.1, asc_blank r h.2]
    rfl
  | .tk t :: r, h => by
    have h : asc (t.text ++ txt r) = true := h
    rw [asc_app, Bool.and_eq_true] at h
    show asc (t.text ++ txt (blank r)) = true
    rw [asc_app, h.1, asc_blank r h.2]
    rfl
/-! ### the def -/
section
variable {s fin : List Nat}
theorem pl_run (hl : s.length ≤ BIG) : ∀ (w r found : List Nat) (n : Nat), s.drop n = w ++ r → (∀ c ∈ w, c ≠ 39 ∧ c ≠ 123 ∧ c ≠ 40) → found.length ≤ n → Plr s fin (found ++ w) [] (n + w.length) → Plr s fin found [] n
  | [], r, found, n, hd, hw, hf, h => by
    rw [List.append_nil] at h
    exact h
  | c :: w, r, found, n, hd, hw, hf, h => by
    obtain ⟨h1, h2, h3⟩ := hw c List.mem_cons_self
    obtain ⟨g1, g2, g3⟩ := get_drop (show s.drop n = c :: (w ++ r) from hd)
    refine pl_0 hl hd hf (fun z => h3 z.1) h2 (by rw [if_neg h1]) (pl_run hl w r (found ++ [c]) (n + 1) g3 (fun d hd => hw d (List.mem_cons_of_mem _ hd)) (by rw [List.length_append, List.length_singleton]; omega) ?_)
    rw [List.append_assoc, List.singleton_append, show n + 1 + w.length = n + (w.length + 1) by omega]
    exact h
theorem pl_esc (hl : s.length ≤ BIG) : ∀ (x r found : List Nat) (n : Nat), s.drop n = escL x ++ r → found.length ≤ n → Plr s fin (found ++ escL x) STG (n + (escL x).length) → Plr s fin found STG n
  | [], r, found, n, hd, hf, h => by
    rw [show escL [] = [] from rfl, List.append_nil] at h
    exact h
  | c :: x, r, found, n, hd, hf, h => by
    by_cases h39 : c = 39
    · subst h39
      have e : escL (39 :: x) = 39 :: 39 :: escL x := rfl
      rw [e] at hd h
      obtain ⟨g1, g2, g3⟩ := get_drop (show s.drop n = 39 :: (39 :: (escL x ++ r)) from hd)
      obtain ⟨g4, g5, g6⟩ := get_drop g3
      refine pl_qq hl hd hf (pl_esc hl x r (found ++ [39, 39]) (n + 2) g6 (by rw [List.length_append]; simp; omega) ?_)
      rw [List.append_assoc, show n + 2 + (escL x).length = n + ((escL x).length + 1 + 1) by omega]
      exact h
    · have e : escL (c :: x) = c :: escL x := by simp [escL, h39]
      rw [e] at hd h
      obtain ⟨g1, g2, g3⟩ := get_drop (show s.drop n = c :: (escL x ++ r) from hd)
      refine pl_s hl hd hf h39 (pl_esc hl x r (found ++ [c]) (n + 1) g3 (by rw [List.length_append]; simp; omega) ?_)
      rw [List.append_assoc, show n + 1 + (escL x).length = n + ((escL x).length + 1) by omega]
      exact h
theorem pl_inn (hl : s.length ≤ BIG) {cl : List Nat} (hcl : cl ≠ []) : ∀ (x r found : List Nat) (n : Nat), s.drop n = x ++ (cl ++ r) → noE x cl → found.length ≤ n → Plr s fin (found ++ x.map bch) COM (n + x.length) → Plr s fin found COM n
  | [], r, found, n, hd, hx, hf, h => by
    rw [List.map_nil, List.append_nil] at h
    exact h
  | c :: x, r, found, n, hd, hx, hf, h => by
    obtain ⟨h1, h2, h3⟩ := hx
    obtain ⟨g1, g2, g3⟩ := get_drop (show s.drop n = c :: (x ++ (cl ++ r)) from hd)
    refine pl_in hl hd hf ?_ h1 (pl_inn hl hcl x r (found ++ [bch c]) (n + 1) g3 h3 (by rw [List.length_append, List.length_singleton]; omega) ?_)
    · show ¬(c = 42 ∧ (x ++ (cl ++ r)).head? = some 41)
      rw [head_app hcl]
      exact h2
    · rw [List.append_assoc, show n + 1 + x.length = n + (x.length + 1) by omega]
      exact h
theorem pl_tok (hl : s.length ≤ BIG) {t : Tok} {r found : List Nat} {n : Nat} (hs : asc s = true) (hd : s.drop n = t.text ++ r) (ht : t.ok) (hr : ∀ c, r.head? = some c → t.fol c) (hf : found.length ≤ n) (h : Plr s fin (found ++ t.text) [] (n + t.text.length)) : Plr s fin found [] n := by
  have ha : ∀ c ∈ t.text, c < 128 := fun c hc => asc_lt hs c (List.mem_of_mem_drop (by rw [hd]; exact List.mem_append_left _ hc))
  have idf : ∀ c, c < 128 → idc c = true → c ≠ 39 ∧ c ≠ 123 ∧ c ≠ 40 := by decide +kernel
  have fif : ∀ c, c < 128 → isFig c = true → c ≠ 39 ∧ c ≠ 123 ∧ c ≠ 40 := by decide +kernel
  cases t with
  | id w => exact pl_run hl w r found n hd (fun c hc => idf c (ha c hc) ((show IdW w from ht).id c hc)) hf h
  | num w v => exact pl_run hl w r found n hd (fun c hc => fif c (ha c hc) ((show NumV w v from ht).fig c hc)) hf h
  | str x =>
    have hd2 : s.drop n = 39 :: (escL x ++ (39 :: r)) := by
      rw [hd]
      simp [Tok.text]
    obtain ⟨g1, g2, g3⟩ := get_drop hd2
    have g4 : s.drop (n + 1 + (escL x).length) = 39 :: r := by
      rw [← List.drop_drop, g3, List.drop_left]
    refine pl_0 hl hd2 hf (fun z => absurd z.1 (by decide)) (by decide) rfl (pl_esc hl x (39 :: r) (found ++ [39]) (n + 1) g3 (by simp; omega) (pl_q hl g4 (fun z => hr 39 z rfl) ?_ ?_))
    · have hlen := congrArg List.length (show found ++ [39] ++ escL x = found ++ [39] ++ escL x from rfl)
      simp
      omega
    · have e1 : found ++ [39] ++ escL x ++ [39] = found ++ (Tok.str x).text := by simp [Tok.text]
      have e2 : n + 1 + (escL x).length + 1 = n + (Tok.str x).text.length := by simp [Tok.text]; omega
      rw [e1, e2]
      exact h
  | sg w =>
    have hw : w ∈ SGS := ht
    by_cases h40 : w = [40]
    · subst h40
      have hd2 : s.drop n = 40 :: r := hd
      refine pl_0 hl hd2 hf (fun z => ?_) (by decide) rfl h
      exact hr 42 z.2 (by simp [Tok.fol, TWOS])
    · have : ∀ w ∈ SGS, w ≠ [40] → ∀ c ∈ w, c ≠ 39 ∧ c ≠ 123 ∧ c ≠ 40 := by decide
      exact pl_run hl w r found n hd (this w hw h40) hf h
theorem plain_segs (hl : s.length ≤ BIG) (hs : asc s = true) : ∀ (segs : List Seg) (pre found : List Nat), s = pre ++ txt segs → wf segs → found.length ≤ pre.length → fin = found ++ txt (blank segs) → Plr s fin found [] pre.length
  | [], pre, found, he, hw, hf, hfin => by
    have e1 : s = pre := by rw [he]; exact List.append_nil _
    have e2 : fin = found := by rw [hfin]; exact List.append_nil _
    rw [← e1, e2]
    exact plr_end hl
  | g :: segs, pre, found, he, hw, hf, hfin => by
    obtain ⟨w1, w2, w3⟩ := hw
    have he2 : s = (pre ++ g.text) ++ txt segs := by
      rw [he, List.append_assoc]
      rfl
    have hd : s.drop pre.length = g.text ++ txt segs := by
      rw [he, List.drop_left]
      rfl
    have tl : (pre ++ g.text).length = pre.length + g.text.length := List.length_append
    have go : ∀ out : List Nat, out.length = g.text.length → fin = (found ++ out) ++ txt (blank segs) → Plr s fin (found ++ out) [] (pre.length + g.text.length) := fun out h1 h2 => by
      rw [← tl]
      exact plain_segs hl hs segs (pre ++ g.text) (found ++ out) he2 w3 (by rw [List.length_append, List.length_append]; omega) h2
    cases g with
    | bl c =>
      have hc : c ≠ 39 ∧ c ≠ 123 ∧ c ≠ 40 := by
        rcases (show c = 32 ∨ c = 10 from w1) with rfl | rfl <;> decide
      refine pl_run hl [c] (txt segs) found pre.length hd (fun d hd => ?_) hf (go [c] rfl ?_)
      · rw [List.mem_singleton.mp hd]
        exact hc
      · rw [hfin, List.append_assoc]
        rfl
    | tk t =>
      refine pl_tok hl hs hd w1 w2 hf (go t.text rfl ?_)
      rw [hfin, List.append_assoc]
      rfl
    | cm o i c =>
      obtain ⟨v1, v2, v3⟩ := w1
      have hd3 : s.drop pre.length = o ++ (i ++ (c ++ txt segs)) := by
        rw [hd]
        simp [Seg.text]
      have hd4 : s.drop (pre.length + o.length) = i ++ (c ++ txt segs) := by
        rw [← List.drop_drop, hd3, List.drop_left]
      have hd5 : s.drop (pre.length + o.length + i.length) = c ++ txt segs := by
        rw [← List.drop_drop, hd4, List.drop_left]
      have hcl : c ≠ [] := by rcases v2 with rfl | rfl <;> simp
      have k1 : (o.map fun _ => 32) = o.map bch := by rcases v1 with rfl | rfl <;> rfl
      have k2 : (c.map fun _ => 32) = c.map bch := by rcases v2 with rfl | rfl <;> rfl
      refine pl_c hl hf v1 hd3 (pl_inn hl hcl i (txt segs) _ _ hd4 v3 (by simp; omega) (pl_e hl (by simp; omega) v2 hd5 ?_))
      rw [k1, k2]
      have e1 : pre.length + o.length + i.length + c.length = pre.length + (Seg.cm o i c).text.length := by simp [Seg.text]; omega
      have e2 : found ++ o.map bch ++ i.map bch ++ c.map bch = found ++ (o ++ (i ++ c)).map bch := by simp
      rw [e1, e2]
      refine go _ (by simp [Seg.text]) ?_
      rw [hfin, List.append_assoc]
      show found ++ txt (bls (o ++ (i ++ c)) ++ blank segs) = _
      rw [txt_app, txt_bls]
end
theorem plain_ok {segs : List Seg} {S : Store} (hs : asc (txt segs) = true) (hl : (txt segs).length ≤ BIG) (hw : wf segs) : f__law_plain [.str (txt segs)] S = .ok (.str (txt (blank segs))) S := by
  have h := plain_segs (fin := txt (blank segs)) hl hs segs [] [] rfl hw (Nat.le_refl _) rfl
  obtain ⟨m, a4, a5, a6, a7, h⟩ := h S FUEL none none none none (by unfold FUEL; unfold BIG at hl; omega)
  refine fn_rt (y_cons (e1 := [some (.str (txt segs)), some (.str []), some (.str []), some (.int 0), none, none, none, none]) (S1 := S) ?_ (y_cons h (y_rt (y_ret (x_var rfl)))))
  simp [sCons, sSet, sIf, sRet, sRetN, sNil, sExpr, sAug, sPar2, sPar3, sBreak, sSub, eVar, eC, eOp, eUn, eB, eMt, eMt0, eTup, eLst, eIf, eOr, eAnd, eNot, eSl, ePart, eNoPart, eCall0, noX, aNil, aCons, aStar, qCmp, qTru, qAnd, qOr, qNot, qYes, ob, oo, oB, oS, gNm, gTp, gsNil, gsCons, f1, f2, m0, m1, m2, m3, LINE]
end K00

/-! P10: _law_small lowers what stands outside the strings. -/
namespace K00
open Sh
def lowQ : Bool → List Nat → List Nat
  | _, [] => []
  | b, c :: r => if c = 39 then 39 :: lowQ (!b) r else (if b = true then c else lo c) :: lowQ b r
def lowAlt : Bool → List (List Nat) → List (List Nat)
  | _, [] => []
  | b, p :: r => (if b = true then p else lowL p) :: lowAlt (!b) r
theorem spl_ne (acc : List Nat) : ∀ s, ∃ p r, TL.spl [39] 0 acc s = p :: r
  | [] => ⟨acc, [], by rw [TL.spl_nil]⟩
  | c :: s => by
    cases h : TL.pre [39] (c :: s) with
    | true => exact ⟨_, _, TL.spl_hit h⟩
    | false =>
      rw [TL.spl_miss h]
      exact spl_ne (acc ++ [c]) s
theorem join_alt : ∀ (s acc : List Nat) (b : Bool), TL.joinL [39] (lowAlt b (TL.spl [39] 0 acc s)) = (if b = true then acc else lowL acc) ++ lowQ b s
  | [], acc, b => by
    rw [TL.spl_nil]
    show (if b = true then acc else lowL acc) = (if b = true then acc else lowL acc) ++ []
    rw [List.append_nil]
  | c :: s, acc, b => by
    by_cases h39 : c = 39
    · subst h39
      have h : TL.pre [39] (39 :: s) = true := by simp [TL.pre]
      rw [TL.spl_hit h]
      have ih := join_alt s [] (!b)
      obtain ⟨p, r, e⟩ := spl_ne [] s
      have e1 : TL.spl [39] ([39].length - 1) [] s = TL.spl [39] 0 [] s := rfl
      rw [e] at ih
      rw [e1, e]
      show (if b = true then acc else lowL acc) ++ ([39] ++ TL.joinL [39] (lowAlt (!b) (p :: r))) = _
      rw [ih]
      have e2 : (if (!b) = true then ([] : List Nat) else lowL []) = [] := by cases b <;> rfl
      rw [e2]
      have e3 : lowQ b (39 :: s) = 39 :: lowQ (!b) s := by
        rw [lowQ, if_pos rfl]
      rw [e3]
      rfl
    · have h : TL.pre [39] (c :: s) = false := by simp [TL.pre, h39]
      rw [TL.spl_miss h, join_alt s (acc ++ [c]) b, lowQ, if_neg h39]
      cases b
      · simp [lowL]
      · simp
def lowTok : Tok → Tok
  | .id w => .id (lowL w)
  | t => t
def lowSeg : Seg → Seg
  | .tk t => .tk (lowTok t)
  | s => s
/-- no comments -/
def noCm : List Seg → Prop
  | [] => True
  | .cm _ _ _ :: _ => False
  | _ :: r => noCm r
theorem lowQ_run : ∀ (w r : List Nat), (∀ c ∈ w, c ≠ 39) → lowQ false (w ++ r) = lowL w ++ lowQ false r
  | [], r, _ => rfl
  | c :: w, r, h => by
    show lowQ false (c :: (w ++ r)) = _
    rw [lowQ, if_neg (h c List.mem_cons_self), lowQ_run w r fun d hd => h d (List.mem_cons_of_mem _ hd)]
    rfl
theorem lowQ_esc : ∀ (x r : List Nat), lowQ true (escL x ++ r) = escL x ++ lowQ true r
  | [], r => rfl
  | c :: x, r => by
    by_cases h : c = 39
    · subst h
      have e : escL (39 :: x) = 39 :: 39 :: escL x := rfl
      rw [e]
      show lowQ true (39 :: 39 :: (escL x ++ r)) = 39 :: 39 :: (escL x ++ lowQ true r)
      rw [lowQ, if_pos rfl]
      show 39 :: lowQ false (39 :: (escL x ++ r)) = _
      rw [lowQ, if_pos rfl]
      show 39 :: 39 :: lowQ true (escL x ++ r) = _
      rw [lowQ_esc x r]
    · have e : escL (c :: x) = c :: escL x := by simp [escL, h]
      rw [e]
      show lowQ true (c :: (escL x ++ r)) = c :: (escL x ++ lowQ true r)
      rw [lowQ, if_neg h, lowQ_esc x r]
      rfl
theorem low_same {w : List Nat} (h : ∀ c ∈ w, lo c = c) : lowL w = w := by
  unfold lowL
  induction w with
  | nil => rfl
  | cons c w ih =>
    rw [List.map_cons, ih fun d hd => h d (List.mem_cons_of_mem _ hd)]
    exact congrArg (· :: w) (h c List.mem_cons_self)
theorem lowQ_tok {t : Tok} {r : List Nat} (ht : t.ok) (ha : asc t.text = true) : lowQ false (t.text ++ r) = (lowTok t).text ++ lowQ false r := by
  have ac : ∀ c ∈ t.text, c < 128 := asc_lt ha
  have idf : ∀ c, c < 128 → idc c = true → c ≠ 39 := by decide +kernel
  have fif : ∀ c, c < 128 → isFig c = true → c ≠ 39 ∧ lo c = c := by decide +kernel
  cases t with
  | id w => exact lowQ_run w r fun c hc => idf c (ac c hc) ((show IdW w from ht).id c hc)
  | num w v =>
    have hf := (show NumV w v from ht).fig
    show lowQ false (w ++ r) = w ++ lowQ false r
    have hs : lowL w = w := low_same fun c hc => (fif c (ac c hc) (hf c hc)).2
    rw [lowQ_run w r fun c hc => (fif c (ac c hc) (hf c hc)).1, hs]
  | str x =>
    have e : (Tok.str x).text ++ r = 39 :: (escL x ++ (39 :: r)) := by simp [Tok.text]
    show lowQ false ((Tok.str x).text ++ r) = (Tok.str x).text ++ lowQ false r
    rw [e, lowQ, if_pos rfl]
    show 39 :: lowQ true (escL x ++ (39 :: r)) = _
    rw [lowQ_esc, lowQ, if_pos rfl]
    simp [Tok.text]
  | sg w =>
    have : ∀ w ∈ SGS, ∀ c ∈ w, c ≠ 39 ∧ lo c = c := by decide
    have hw := this w ht
    show lowQ false (w ++ r) = w ++ lowQ false r
    rw [lowQ_run w r fun c hc => (hw c hc).1, low_same fun c hc => (hw c hc).2]
theorem lowQ_txt : ∀ segs : List Seg, wf segs → noCm segs → asc (txt segs) = true → lowQ false (txt segs) = txt (segs.map lowSeg)
  | [], _, _, _ => rfl
  | .cm _ _ _ :: _, _, h, _ => h.elim
  | .bl c :: r, w, h, a => by
    have hc : c ≠ 39 ∧ lo c = c := by rcases (show c = 32 ∨ c = 10 from w.1) with rfl | rfl <;> decide
    have a : asc ([c] ++ txt r) = true := a
    rw [asc_app, Bool.and_eq_true] at a
    show lowQ false (c :: txt r) = [c] ++ txt (r.map lowSeg)
    rw [lowQ, if_neg hc.1, lowQ_txt r w.2.2 h a.2]
    show lo c :: _ = _
    rw [hc.2]
    rfl
  | .tk t :: r, w, h, a => by
    have a : asc (t.text ++ txt r) = true := a
    rw [asc_app, Bool.and_eq_true] at a
    show lowQ false (t.text ++ txt r) = (lowTok t).text ++ txt (r.map lowSeg)
    rw [lowQ_tok w.1 a.1, lowQ_txt r w.2.2 h a.2]
/-! the lowered segments are good, and say the same -/
theorem low_like : ∀ {w : List Nat}, asc w = true → ∀ p, adl p (lowL w) = adl p w := fun {w} h p => adl_map (f := lo) w p fun c hc => (lo_fac c (asc_lt h c hc)).2.2.2.2.2.2
theorem low_low {w : List Nat} (h : asc w = true) : lowL (lowL w) = lowL w := low_same fun c hc => by
  obtain ⟨d, hd, rfl⟩ := List.mem_map.mp hc
  exact (lo_fac d (asc_lt h d hd)).2.1
theorem asc_low {w : List Nat} (h : asc w = true) : asc (lowL w) = true := by
  unfold asc lowL
  rw [List.all_map, List.all_eq_true]
  exact fun c hc => Nat.blt_eq.mpr (lo_fac c (asc_lt h c hc)).1
theorem low_ok {t : Tok} (ht : t.ok) (ha : asc t.text = true) : (lowTok t).ok := by
  cases t with
  | id w =>
    have hw : IdW w := ht
    obtain ⟨c, w2, rfl, hc⟩ := hw.ne
    have f := lo_fac
    refine ⟨⟨lo c, lowL w2, rfl, ?_⟩, fun d hd => ?_⟩
    · rw [(f c (asc_lt ha c List.mem_cons_self)).2.2.1]
      exact hc
    · obtain ⟨e, he, rfl⟩ := List.mem_map.mp hd
      have z := f e (asc_lt ha e he)
      show idc (lo e) = true
      unfold idc
      rw [z.2.2.1, z.2.2.2.1]
      exact hw.id e he
  | num w v => exact ht
  | str x => exact ht
  | sg w => exact ht
theorem low_fol {t : Tok} {c : Nat} (hc : c < 128) (h : t.fol c) : (lowTok t).fol (lo c) := by
  have z := lo_fac c hc
  cases t with
  | id w =>
    show idc (lo c) = false
    unfold idc
    rw [z.2.2.1, z.2.2.2.1]
    exact h
  | num w v =>
    show isFig (lo c) = false
    rw [z.2.2.2.1]
    exact h
  | str x => exact fun e => h (z.2.2.2.2.2.1.mpr e)
  | sg w =>
    show w ++ [lo c] ∉ TWOS
    by_cases hl : isLet c = true
    · intro hm
      have : ∀ u ∈ TWOS, ∀ a, u.getLast? = some a → isLet a = false := by decide
      have q := this _ hm (lo c) (by simp)
      rw [z.2.2.1, hl] at q
      cases q
    · rw [z.2.2.2.2.1 (by simpa using hl)]
      exact h
theorem head_low {segs : List Seg} (w : wf segs) (h : noCm segs) (a : asc (txt segs) = true) : ∀ c, (txt (segs.map lowSeg)).head? = some c → ∃ d, (txt segs).head? = some d ∧ d < 128 ∧ (c = lo d) := by
  intro c hc
  rw [← lowQ_txt segs w h a] at hc
  cases e : txt segs with
  | nil =>
    rw [e] at hc
    cases hc
  | cons d r =>
    rw [e] at hc
    have hd : d < 128 := asc_lt a d (by rw [e]; exact List.mem_cons_self)
    rw [lowQ] at hc
    by_cases h39 : d = 39
    · rw [if_pos h39] at hc
      have hc : some 39 = some c := hc
      refine ⟨d, rfl, hd, ?_⟩
      rw [← Option.some.inj hc, h39]
      rfl
    · rw [if_neg h39] at hc
      have hc : some (lo d) = some c := hc
      exact ⟨d, rfl, hd, (Option.some.inj hc).symm⟩
theorem wf_low : ∀ segs : List Seg, wf segs → noCm segs → asc (txt segs) = true → wf (segs.map lowSeg)
  | [], _, _, _ => trivial
  | .cm _ _ _ :: _, _, h, _ => h.elim
  | .bl c :: r, w, h, a => by
    have a : asc ([c] ++ txt r) = true := a
    rw [asc_app, Bool.and_eq_true] at a
    exact ⟨w.1, fun _ _ => trivial, wf_low r w.2.2 h a.2⟩
  | .tk t :: r, w, h, a => by
    have a : asc (t.text ++ txt r) = true := a
    rw [asc_app, Bool.and_eq_true] at a
    refine ⟨low_ok w.1 a.1, fun c hc => ?_, wf_low r w.2.2 h a.2⟩
    obtain ⟨d, h1, h2, rfl⟩ := head_low w.2.2 h a.2 c hc
    exact low_fol h2 (w.2.1 d h1)
theorem asc_lowseg : ∀ segs : List Seg, noCm segs → asc (txt segs) = true → asc (txt (segs.map lowSeg)) = true ∧ (txt (segs.map lowSeg)).length = (txt segs).length
  | [], _, _ => ⟨rfl, rfl⟩
  | .cm _ _ _ :: _, h, _ => h.elim
  | .bl c :: r, h, a => by
    have a : asc ([c] ++ txt r) = true := a
    rw [asc_app, Bool.and_eq_true] at a
    obtain ⟨h1, h2⟩ := asc_lowseg r h a.2
    constructor
    · show asc ([c] ++ txt (r.map lowSeg)) = true
      rw [asc_app, a.1, h1]
      rfl
    · exact congrArg (· + 1) h2
  | .tk t :: r, h, a => by
    have a : asc (t.text ++ txt r) = true := a
    rw [asc_app, Bool.and_eq_true] at a
    obtain ⟨h1, h2⟩ := asc_lowseg r h a.2
    have ht : asc (lowTok t).text = true ∧ (lowTok t).text.length = t.text.length := by
      cases t with
      | id w => exact ⟨asc_low a.1, List.length_map _⟩
      | num w v => exact ⟨a.1, rfl⟩
      | str x => exact ⟨a.1, rfl⟩
      | sg w => exact ⟨a.1, rfl⟩
    constructor
    · show asc ((lowTok t).text ++ txt (r.map lowSeg)) = true
      rw [asc_app, ht.1, h1]
      rfl
    · show ((lowTok t).text ++ txt (r.map lowSeg)).length = (t.text ++ txt r).length
      rw [List.length_append, List.length_append, ht.2, h2]
theorem due_low : ∀ (segs : List Seg) (p : Pl), noCm segs → asc (txt segs) = true → due p (segs.map lowSeg) = due p segs
  | [], _, _, _ => rfl
  | .cm _ _ _ :: _, _, h, _ => h.elim
  | .bl c :: r, p, h, a => by
    have a : asc ([c] ++ txt r) = true := a
    rw [asc_app, Bool.and_eq_true] at a
    exact due_low r _ h a.2
  | .tk t :: r, p, h, a => by
    have a : asc (t.text ++ txt r) = true := a
    rw [asc_app, Bool.and_eq_true] at a
    have ih := due_low r (adl p t.text) h a.2
    cases t with
    | id w =>
      show D.tup [.str (Tok.id (lowL w)).sort, (Tok.id (lowL w)).told, .int p.1, .int p.2] :: due (adl p (lowL w)) (r.map lowSeg) = D.tup [.str (Tok.id w).sort, (Tok.id w).told, .int p.1, .int p.2] :: due (adl p w) r
      have ll : lowL (lowL w) = lowL w := low_low a.1
      have e1 : (Tok.id (lowL w)).sort = (Tok.id w).sort := by
        show (if memS (lowL (lowL w)) tab_RESERVED = true then _ else _) = (if memS (lowL w) tab_RESERVED = true then _ else _)
        rw [ll]
      have e2 : (Tok.id (lowL w)).told = (Tok.id w).told := congrArg D.str ll
      have e3 : adl p (lowL w) = adl p w := low_like a.1 p
      rw [e1, e2, e3]
      exact congrArg _ ih
    | num w v => exact List.cons_eq_cons.mpr ⟨rfl, ih⟩
    | str x => exact List.cons_eq_cons.mpr ⟨rfl, ih⟩
    | sg w => exact List.cons_eq_cons.mpr ⟨rfl, ih⟩
theorem noCm_blank : ∀ segs : List Seg, noCm (blank segs)
  | [] => trivial
  | .cm o i c :: r => by
    have : ∀ (s : List Nat) (r : List Seg), noCm r → noCm (bls s ++ r) := by
      intro s r h
      induction s with
      | nil => exact h
      | cons c s ih => exact ih
    exact this _ _ (noCm_blank r)
  | .bl c :: r => noCm_blank r
  | .tk t :: r => noCm_blank r
/-! ### the def -/
theorem parts_small : ∀ (s acc : List Nat), asc s = true → asc acc = true → ∀ p ∈ TL.spl [39] 0 acc s, asc p = true ∧ p.length ≤ acc.length + s.length
  | [], acc, hs, ha, p, hp => by
    rw [TL.spl_nil] at hp
    rw [List.mem_singleton.mp hp]
    exact ⟨ha, Nat.le_add_right _ _⟩
  | c :: s, acc, hs, ha, p, hp => by
    have hc := asc_cons.mp hs
    cases h : TL.pre [39] (c :: s) with
    | true =>
      rw [TL.spl_hit h] at hp
      rcases List.mem_cons.mp hp with e | hp
      · rw [e]
        exact ⟨ha, Nat.le_add_right _ _⟩
      · obtain ⟨h1, h2⟩ := parts_small s [] hc.2 rfl p hp
        refine ⟨h1, ?_⟩
        simp at h2 ⊢
        omega
    | false =>
      rw [TL.spl_miss h] at hp
      obtain ⟨h1, h2⟩ := parts_small s (acc ++ [c]) hc.2 (by rw [asc_app, ha]; exact asc_cons.mpr ⟨hc.1, rfl⟩) p hp
      refine ⟨h1, ?_⟩
      simp at h2 ⊢
      omega
theorem spl_len : ∀ (s acc : List Nat), (TL.spl [39] 0 acc s).length ≤ s.length + 1 ∧ lenSum (TL.spl [39] 0 acc s) ≤ acc.length + s.length
  | [], acc => by
    rw [TL.spl_nil]
    simp [lenSum]
  | c :: s, acc => by
    cases h : TL.pre [39] (c :: s) with
    | true =>
      rw [TL.spl_hit h]
      have ih := spl_len s []
      have e : TL.spl [39] ([39].length - 1) [] s = TL.spl [39] 0 [] s := rfl
      rw [e]
      simp [lenSum] at ih ⊢
      omega
    | false =>
      rw [TL.spl_miss h]
      have ih := spl_len s (acc ++ [c])
      simp at ih ⊢
      omega
theorem lowAlt_app : ∀ (a : List (List Nat)) (b : Bool) (p : List Nat), lowAlt b (a ++ [p]) = lowAlt b a ++ [if (if a.length % 2 = 0 then b else !b) = true then p else lowL p]
  | [], b, p => rfl
  | q :: a, b, p => by
    show _ :: lowAlt (!b) (a ++ [p]) = _ :: (lowAlt (!b) a ++ _)
    rw [lowAlt_app a (!b) p]
    congr 3
    rw [List.length_cons]
    by_cases h : a.length % 2 = 0
    · have h2 : ¬ (a.length + 1) % 2 = 0 := by omega
      rw [if_pos h, if_neg h2]
    · have h2 : (a.length + 1) % 2 = 0 := by omega
      rw [if_neg h, if_pos h2]
      simp
theorem lowAlt_len : ∀ (a : List (List Nat)) (b : Bool), (lowAlt b a).length = a.length ∧ lenSum (lowAlt b a) = lenSum a
  | [], _ => ⟨rfl, rfl⟩
  | p :: a, b => by
    obtain ⟨h1, h2⟩ := lowAlt_len a (!b)
    constructor
    · show (lowAlt (!b) a).length + 1 = _
      rw [h1]
      rfl
    · show (if b = true then p else lowL p).length + lenSum (lowAlt (!b) a) = p.length + lenSum a
      rw [h2]
      cases b
      · simp [lowL]
      · rfl
theorem small_loop {parts : List (List Nat)} {S0 : Store} {ev : Ev} {t : D} (hp : ∀ p ∈ parts, asc p = true ∧ p.length ≤ BIG) (hn : parts.length ≤ BIG) : ∀ (todo done : List (List Nat)) (k : Nat), parts = done ++ todo → todo.length < k →
    lcLoop (.enl S0.length) (gTp 2 (gsCons (gNm 2) (gsCons (gNm 3) gsNil))) qYes (eIf (qCmp eqD (eOp modD (eB intD (aCons (eVar 2) aNil)) (eC (.int 2))) (eC (.int 1))) (eVar 3) (eMt0 "str" lowerD (eVar 3))) [some t, some (.obj S0.length), none, none] (S0.length + 1) k done.length (S0 ++ [.lst (parts.map D.str), .lst ((lowAlt false done).map D.str)]) =
      .ok (.obj (S0.length + 1)) (S0 ++ [.lst (parts.map D.str), .lst ((lowAlt false parts).map D.str)])
  | todo, done, 0, he, hk => absurd hk (Nat.not_lt_zero _)
  | [], done, k + 1, he, hk => by
    have e : parts = done := by rw [he, List.append_nil]
    subst e
    rw [lcLoop]
    have w : wkAt (.enl S0.length) (S0 ++ [.lst (parts.map D.str), .lst ((lowAlt false parts).map D.str)]) parts.length = some none := by
      simp [wkAt, cellAt, gA0]
    rw [w]
  | p :: todo, done, k + 1, he, hk => by
    have w : wkAt (.enl S0.length) (S0 ++ [.lst (parts.map D.str), .lst ((lowAlt false done).map D.str)]) done.length = some (some (.tup [.int done.length, .str p])) := by
      simp [wkAt, cellAt, gA0, he]
    obtain ⟨hpa, hpl⟩ := hp p (by rw [he]; simp)
    have ih := small_loop (S0 := S0) (ev := ev) (t := t) hp hn todo (done ++ [p]) k (by rw [he]; simp) (by simp at hk; omega)
    rw [List.length_append, List.length_singleton, lowAlt_app] at ih
    rw [lcLoop, w]
    have hdl : (lowAlt false done).length < 16777216 := by
      rw [(lowAlt_len done false).1]
      have := congrArg List.length he
      rw [List.length_append] at this
      unfold BIG at hn
      omega
    by_cases hm : done.length % 2 = 0
    · have h1 : ¬ ((done.length : Int) % 2 = 1) := by omega
      rw [if_pos hm] at ih
      simp [sCons, sSet, sIf, sRet, sRetN, sNil, sExpr, sAug, sPar2, sPar3, sBreak, sSub, eVar, eC, eOp, eUn, eB, eMt, eMt0, eTup, eLst, eIf, eOr, eAnd, eNot, eSl, ePart, eNoPart, eCall0, noX, aNil, aCons, aStar, qCmp, qTru, qAnd, qOr, qNot, qYes, ob, oo, oB, oS, gNm, gTp, gsNil, gsCons, f1, f2, m0, m1, m2, m3, LINE, intD0, modD, eqD, scalD, h1, isTy, d_low hpa hpl, gA, sA, hdl]
      simp at ih
      exact ih
    · have h1 : ((done.length : Int) % 2 = 1) := by omega
      rw [if_neg hm] at ih
      simp [sCons, sSet, sIf, sRet, sRetN, sNil, sExpr, sAug, sPar2, sPar3, sBreak, sSub, eVar, eC, eOp, eUn, eB, eMt, eMt0, eTup, eLst, eIf, eOr, eAnd, eNot, eSl, ePart, eNoPart, eCall0, noX, aNil, aCons, aStar, qCmp, qTru, qAnd, qOr, qNot, qYes, ob, oo, oB, oS, gNm, gTp, gsNil, gsCons, f1, f2, m0, m1, m2, m3, LINE, intD0, modD, eqD, scalD, h1, isTy, gA, sA, hdl]
      simp at ih
      exact ih
theorem strsD_map : ∀ ss : List (List Nat), strsD (ss.map D.str) = some ss
  | [] => rfl
  | s :: ss => by
    show (strsD (ss.map D.str)).map (s :: ·) = _
    rw [strsD_map ss]
    rfl
theorem small_ok {segs : List Seg} {S : Store} (hs : asc (txt segs) = true) (hl : (txt segs).length ≤ 100000) (hw : wf segs) (hc : noCm segs) : ∃ E, f__law_small [.str (txt segs)] S = .ok (.str (txt (segs.map lowSeg))) (S ++ E) := by
  have key := join_alt (txt segs) [] false
  have e0 : (if false = true then ([] : List Nat) else lowL []) = [] := rfl
  rw [e0, List.nil_append, lowQ_txt segs hw hc hs] at key
  have hp := parts_small (txt segs) [] hs rfl
  have hlen := spl_len (txt segs) []
  generalize hparts : TL.spl [39] 0 [] (txt segs) = parts at *
  have hpl : ∀ p ∈ parts, asc p = true ∧ p.length ≤ BIG := fun p hm => ⟨(hp p hm).1, by have := (hp p hm).2; simp at this; unfold BIG; omega⟩
  have hn : parts.length ≤ BIG := by unfold BIG; omega
  have loop := small_loop (S0 := S) (ev := []) (t := .str (txt segs)) hpl hn parts [] FUEL rfl (by unfold FUEL; unfold BIG at hn; omega)
  refine ⟨[.lst (parts.map D.str), .lst ((lowAlt false parts).map D.str)], fn_rt (y_cons (S1 := S ++ [Cell.lst (parts.map D.str)]) (y_set (d := .obj S.length) ?_ rfl) (y_rt (y_ret ?_)))⟩
  · have a39 : asc [39] = true := rfl
    have l2 : (txt segs).length + 2 ≤ 16777216 := by omega
    simp [sCons, sSet, sIf, sRet, sRetN, sNil, sExpr, sAug, sPar2, sPar3, sBreak, sSub, eVar, eC, eOp, eUn, eB, eMt, eMt0, eTup, eLst, eIf, eOr, eAnd, eNot, eSl, ePart, eNoPart, eCall0, noX, aNil, aCons, aStar, qCmp, qTru, qAnd, qOr, qNot, qYes, ob, oo, oB, oS, gNm, gTp, gsNil, gsCons, f1, f2, m0, m1, m2, m3, LINE, isTy, splitD0, a39, l2, hparts]
  · refine x_mt (x_c) rfl (x_cons (x := .obj (S.length + 1)) (S1 := S ++ [Cell.lst (parts.map D.str), Cell.lst ((lowAlt false parts).map D.str)]) ?_ x_nil) ?_
    · simp [eLc, iEnu, sCons, sSet, sIf, sRet, sRetN, sNil, sExpr, sAug, sPar2, sPar3, sBreak, sSub, eVar, eC, eOp, eUn, eB, eMt, eMt0, eTup, eLst, eIf, eOr, eAnd, eNot, eSl, ePart, eNoPart, eCall0, noX, aNil, aCons, aStar, qCmp, qTru, qAnd, qOr, qNot, qYes, ob, oo, oB, oS, gNm, gTp, gsNil, gsCons, f1, f2, m0, m1, m2, m3, LINE, enOf, gA0]
      simp at loop
      exact loop
    · show joinD0 (.str [39]) (.obj (S.length + 1)) _ = _
      show ((seqD (.obj (S.length + 1)) _).bind strsD).bind _ = _
      have q : seqD (.obj (S.length + 1)) (S ++ [Cell.lst (parts.map D.str), Cell.lst ((lowAlt false parts).map D.str)]) = some ((lowAlt false parts).map D.str) := by
        show cellAt _ _ = _
        unfold cellAt
        rw [gA]
        rfl
      rw [q]
      show (strsD ((lowAlt false parts).map D.str)).bind _ = _
      rw [strsD_map]
      show (if lenSum (lowAlt false parts) + (lowAlt false parts).length * 1 ≤ LINE then _ else _) = _
      rw [if_pos, key]
      have := lowAlt_len parts false
      have h2 := hlen.2
      simp at h2
      show _ ≤ 16777216
      omega
end K00

/-! P11: what is drawn. -/
namespace K00
open Sh
/-! numbers that are not too long -/
def Sm (i : Int) : Prop := i.natAbs < 2 ^ 2000
theorem sm_of {i : Int} (h1 : -1000000000000000000000000000000 ≤ i) (h2 : i ≤ 1000000000000000000000000000000) : Sm i := by
  have h : i.natAbs ≤ 1000000000000000000000000000000 := by omega
  exact Nat.lt_of_le_of_lt h (by decide +kernel)
theorem sm_log {i : Int} (h : Sm i) : i.natAbs.log2 < 2000 := by
  by_cases h0 : i.natAbs = 0
  · rw [h0]
    decide
  · exact (Nat.log2_lt h0).mpr h
theorem d_mul {i j : Int} {S : Store} (hi : Sm i) (hj : Sm j) : mulD (.int i) (.int j) S = some (.int (i * j), S) := by
  have h1 := sm_log hi
  have h2 := sm_log hj
  show (if i.natAbs.log2 + j.natAbs.log2 < 1000000 then _ else _) = _
  rw [if_pos (by omega)]
theorem d_pow {i : Int} {k : Nat} {S : Store} (hi : Sm i) (hk : k ≤ 1000) : powD (.int i) (.int k) S = some (.int (i ^ k), S) := by
  have h1 := sm_log hi
  have hb : PySem.Builtin.Int.intBits i ≤ 2000 := by
    unfold PySem.Builtin.Int.intBits
    split <;> omega
  have hm : ((PySem.Builtin.Int.intBits i : Nat) : Int) * (k : Int) ≤ 2 ^ 27 := by
    have : PySem.Builtin.Int.intBits i * k ≤ 2000 * 1000 := Nat.mul_le_mul hb hk
    have e : ((PySem.Builtin.Int.intBits i : Nat) : Int) * (k : Int) = ((PySem.Builtin.Int.intBits i * k : Nat) : Int) := by simp
    rw [e]
    omega
  show (if 0 ≤ (k : Int) ∧ _ then _ else _) = _
  rw [if_pos ⟨by omega, hm⟩]
  rfl
theorem d_mod {i j : Int} {S : Store} (hj : 0 < j) : modD (.int i) (.int j) S = some (.int (i % j), S) := by
  show (if 0 < j then _ else _) = _
  rw [if_pos hj]
theorem d_div {i j : Int} {S : Store} (hj : 0 < j) (h : Sm j) : fdivD (.int i) (.int j) S = some (.int (i / j), S) := by
  have := sm_log h
  show (if 0 < j ∧ j.natAbs.log2 < 9000 then _ else _) = _
  rw [if_pos ⟨hj, by omega⟩]
/-! the pot: a list of three numbers, at p; at most n drawn by blends -/
def Pot (S : Store) (p n : Nat) : Prop := ∃ a b c : Int, S[p]? = some (.lst [.int a, .int b, .int c]) ∧ 0 ≤ a ∧ 0 ≤ b ∧ b < 2305843009213693951 ∧ 0 ≤ c ∧ c ≤ n
/-- a step: the pot is written, at most k drawn; else all is kept -/
structure Go (p k : Nat) (S S' : Store) : Prop where
  len : S.length ≤ S'.length
  keep : ∀ i, i ≠ p → i < S.length → S'[i]? = S[i]?
  pot : ∀ n, Pot S p n → Pot S' p (n + k)
theorem Go.trans {p k j : Nat} {S S1 S2 : Store} (a : Go p k S S1) (b : Go p j S1 S2) : Go p (k + j) S S2 :=
  ⟨Nat.le_trans a.len b.len, fun i h1 h2 => (b.keep i h1 (Nat.lt_of_lt_of_le h2 a.len)).trans (a.keep i h1 h2), fun n h => by
    have := b.pot _ (a.pot n h)
    rw [Nat.add_assoc] at this
    exact this⟩
theorem Go.more {p k j : Nat} {S S1 : Store} (a : Go p k S S1) (h : k ≤ j) : Go p j S S1 := ⟨a.len, a.keep, fun n q => by
  obtain ⟨x, y, z, e, h1, h2, h3, h4, h5⟩ := a.pot n q
  exact ⟨x, y, z, e, h1, h2, h3, h4, by omega⟩⟩
theorem pot_lt {S : Store} {p n : Nat} (h : Pot S p n) : p < S.length := by
  obtain ⟨_, _, _, e, _⟩ := h
  exact (List.getElem?_eq_some_iff.mp e).1
theorem Go.refl (p : Nat) (S : Store) : Go p 0 S S := ⟨Nat.le_refl _, fun _ _ _ => rfl, fun n h => h⟩
/-- new cells behind -/
theorem Go.add (p : Nat) (S E : Store) : Go p 0 S (S ++ E) := by
  refine ⟨by rw [List.length_append]; omega, fun i _ h => List.getElem?_append_left h, fun n h => ?_⟩
  have hl := pot_lt h
  obtain ⟨a, b, c, e, h⟩ := h
  exact ⟨a, b, c, by rw [List.getElem?_append_left hl]; exact e, h⟩
theorem take_ok {S : Store} {p n : Nat} {upto : Int} (hp : Pot S p n) (hn : n ≤ 1000000) (h1 : 1 ≤ upto) (h2 : upto ≤ 10000000000) : ∃ (r : Int) (S' : Store), f__law_take [.obj p, .int upto] S = .ok (.int r) S' ∧ 0 ≤ r ∧ r < upto ∧ Go p 1 S S' := by
  have hl := pot_lt hp
  obtain ⟨a, b, c, e, ha, hb0, hb1, hc0, hc1⟩ := hp
  have up0 : 0 < upto := by omega
  have smu : Sm upto := sm_of (by omega) (by omega)
  have setGo : ∀ (x y z : Int) (E : Store), (x = a / upto ∧ y = b ∧ z = c ∨ x = a ∧ y = b ∧ z = c + 1) → 0 ≤ x → Go p 1 S (S.set p (.lst [.int x, .int y, .int z]) ++ E) := by
    intro x y z E hxyz hx
    refine ⟨by rw [List.length_append, List.length_set]; omega, fun i hi hil => ?_, fun m hm => ?_⟩
    · rw [List.getElem?_append_left (by rw [List.length_set]; exact hil), List.getElem?_set_ne (Ne.symm hi)]
    · obtain ⟨a', b', c', e', q1, q2, q3, q4, q5⟩ := hm
      rw [e] at e'
      cases e'
      refine ⟨x, y, z, ?_, hx, ?_, ?_, ?_, ?_⟩
      · rw [List.getElem?_append_left (by rw [List.length_set]; exact hl), List.getElem?_set_self hl]
      all_goals rcases hxyz with ⟨_, rfl, rfl⟩ | ⟨_, rfl, rfl⟩ <;> omega
  by_cases hpos : 0 < a
  · refine ⟨a % upto, S.set p (.lst [.int (a / upto), .int b, .int c]), fn_rt (y_rt (y_if (k := true) (S1 := S) ?_ (fun _ => ?_) (fun z => absurd z (by decide)))), Int.emod_nonneg _ (by omega), Int.emod_lt_of_pos _ up0, ?_⟩
    · simp [sCons, sSet, sIf, sRet, sRetN, sNil, sExpr, sAug, sPar2, sPar3, sBreak, sSub, eVar, eC, eOp, eUn, eB, eMt, eMt0, eTup, eLst, eIf, eOr, eAnd, eNot, eSl, ePart, eNoPart, eCall0, noX, aNil, aCons, aStar, qCmp, qTru, qAnd, qOr, qNot, qYes, ob, oo, oB, oS, gNm, gTp, gsNil, gsCons, f1, f2, m0, m1, m2, m3, LINE, ixD, seqD, cellAt, e, L2.atI, L2.ixN, gtD, cmpD, hpos]
    · simp [sCons, sSet, sIf, sRet, sRetN, sNil, sExpr, sAug, sPar2, sPar3, sBreak, sSub, eVar, eC, eOp, eUn, eB, eMt, eMt0, eTup, eLst, eIf, eOr, eAnd, eNot, eSl, ePart, eNoPart, eCall0, noX, aNil, aCons, aStar, qCmp, qTru, qAnd, qOr, qNot, qYes, ob, oo, oB, oS, gNm, gTp, gsNil, gsCons, f1, f2, m0, m1, m2, m3, LINE, ixD, seqD, cellAt, e, L2.atI, L2.ixN, intD0, d_mod up0, d_div up0 smu, setD]
    · have := setGo (a / upto) b c [] (.inl ⟨rfl, rfl, rfl⟩) (Int.ediv_nonneg ha (by omega))
      rw [List.append_nil] at this
      exact this
  · have e1 : (S.set p (.lst [.int a, .int b, .int (c + 1)]))[p]? = some (.lst [.int a, .int b, .int (c + 1)]) := List.getElem?_set_self hl
    generalize hS1 : S.set p (.lst [.int a, .int b, .int (c + 1)]) = S1 at *
    have hl1 : p < S1.length := by rw [← hS1, List.length_set]; exact hl
    have e2 : ∀ E : Store, (S1 ++ E)[p]? = some (.lst [.int a, .int b, .int (c + 1)]) := fun E => by
      rw [List.getElem?_append_left hl1]
      exact e1
    let primes : List D := [.int 2147483647, .int 2147483629, .int 2147483587, .int 2147483579, .int 2147483563]
    have hq : ∃ q : Int, 0 < q ∧ q ≤ 2147483647 ∧ L2.atI primes ((c + 1) % 5) = some (.int q) := by
      have hr : (c + 1) % 5 = 0 ∨ (c + 1) % 5 = 1 ∨ (c + 1) % 5 = 2 ∨ (c + 1) % 5 = 3 ∨ (c + 1) % 5 = 4 := by omega
      rcases hr with h | h | h | h | h <;> rw [h]
      · exact ⟨2147483647, by omega, by omega, rfl⟩
      · exact ⟨2147483629, by omega, by omega, rfl⟩
      · exact ⟨2147483587, by omega, by omega, rfl⟩
      · exact ⟨2147483579, by omega, by omega, rfl⟩
      · exact ⟨2147483563, by omega, by omega, rfl⟩
    obtain ⟨q, q0, q1, q2⟩ := hq
    generalize hm : c + 1 = m at *
    have m0 : 0 < m := by omega
    have m1 : m ≤ 1000001 := by omega
    have mm : m * m ≤ 1000001 * 1000001 := Int.mul_le_mul m1 m1 (by omega) (by omega)
    have mm0 : 0 ≤ m * m := Int.mul_nonneg (by omega) (by omega)
    have k1 : ∀ S, mulD (.int 96001) (.int m) S = some (.int (96001 * m), S) := fun S => d_mul (sm_of (by omega) (by omega)) (sm_of (by omega) (by omega))
    have k2 : ∀ S, mulD (.int (96001 * m)) (.int m) S = some (.int (96001 * m * m), S) := fun S => d_mul (sm_of (by omega) (by omega)) (sm_of (by omega) (by omega))
    have k3 : ∀ S, mulD (.int 151) (.int m) S = some (.int (151 * m), S) := fun S => d_mul (sm_of (by omega) (by omega)) (sm_of (by omega) (by omega))
    have ax : 96001 * m * m = 96001 * (m * m) := Int.mul_assoc _ _ _
    generalize hx : b + 96001 * m * m + 171 = x at *
    have sx : Sm x := by
      rw [ax] at hx
      generalize m * m = y at *
      exact sm_of (by omega) (by omega)
    have k4 : ∀ S, powD (.int x) (.int 3) S = some (.int (x ^ 3), S) := fun S => d_pow (k := 3) sx (by omega)
    have k5 : ∀ S, modD (.int (x ^ 3)) (.int q) S = some (.int (x ^ 3 % q), S) := fun S => d_mod q0
    have bl0 : 0 ≤ x ^ 3 % q := Int.emod_nonneg _ (by omega)
    have bl1 : x ^ 3 % q < q := Int.emod_lt_of_pos _ q0
    generalize x ^ 3 % q = z at *
    have z0 : 0 ≤ z % 10007 := Int.emod_nonneg _ (by omega)
    have z1 : z % 10007 < 10007 := Int.emod_lt_of_pos _ (by omega)
    have k6 : ∀ S, mulD (.int z) (.int (z % 10007 + 151 * m)) S = some (.int (z * (z % 10007 + 151 * m)), S) := fun S => d_mul (sm_of (by omega) (by omega)) (sm_of (by omega) (by omega))
    have k7 : ∀ (w : Int) S, fdivD (.int w) (.int 173) S = some (.int (w / 173), S) := fun w S => d_div (by omega) (sm_of (by omega) (by omega))
    refine ⟨(z * (z % 10007 + 151 * m) / 173) % upto, S1 ++ [.lst primes], fn_rt (y_cons (S1 := S) (y_if (k := false) (S1 := S) ?_ (fun z => absurd z (by decide)) (fun _ => rfl)) (y_cons (S1 := S1) (e1 := [some (.obj p), some (.int upto), none, none, none]) ?_ (y_cons (S1 := S1 ++ [Cell.lst primes]) (y_set (d := .int q) ?_ rfl) (y_cons (S1 := S1 ++ [Cell.lst primes]) (y_set (d := .int z) ?_ rfl) (y_rt (y_ret ?_)))))), Int.emod_nonneg _ (by omega), Int.emod_lt_of_pos _ up0, ?_⟩
    · simp [sCons, sSet, sIf, sRet, sRetN, sNil, sExpr, sAug, sPar2, sPar3, sBreak, sSub, eVar, eC, eOp, eUn, eB, eMt, eMt0, eTup, eLst, eIf, eOr, eAnd, eNot, eSl, ePart, eNoPart, eCall0, noX, aNil, aCons, aStar, qCmp, qTru, qAnd, qOr, qNot, qYes, ob, oo, oB, oS, gNm, gTp, gsNil, gsCons, f1, f2, m0, m1, m2, m3, LINE, ixD, seqD, cellAt, e, L2.atI, L2.ixN, gtD, cmpD, hpos]
    · simp [sCons, sSet, sIf, sRet, sRetN, sNil, sExpr, sAug, sPar2, sPar3, sBreak, sSub, eVar, eC, eOp, eUn, eB, eMt, eMt0, eTup, eLst, eIf, eOr, eAnd, eNot, eSl, ePart, eNoPart, eCall0, noX, aNil, aCons, aStar, qCmp, qTru, qAnd, qOr, qNot, qYes, ob, oo, oB, oS, gNm, gTp, gsNil, gsCons, f1, f2, m0, m1, m2, m3, LINE, ixD, seqD, cellAt, e, L2.atI, L2.ixN, addD, setD, hm, hS1]
    · have k8 : ixD (.obj S1.length) (.int (m % 5)) (S1 ++ [Cell.lst primes]) = some (.int q, S1 ++ [Cell.lst primes]) := by
        show ((seqD (.obj S1.length) (S1 ++ [Cell.lst primes])).bind _).map _ = _
        have : seqD (.obj S1.length) (S1 ++ [Cell.lst primes]) = some primes := by
          show cellAt _ _ = _
          unfold cellAt
          rw [gA0]
          rfl
        rw [this]
        show (L2.atI primes (m % 5)).map _ = _
        rw [q2]
        rfl
      have k9 : modD (.int m) (.int 5) (S1 ++ [Cell.lst primes]) = some (.int (m % 5), S1 ++ [Cell.lst primes]) := d_mod (by omega)
      have k10 : ixD (.obj p) (.int 2) (S1 ++ [Cell.lst primes]) = some (.int m, S1 ++ [Cell.lst primes]) := by
        simp [ixD, seqD, cellAt, e2, L2.atI, L2.ixN]
      refine x_op (x_lst (x_cons x_c (x_cons x_c (x_cons x_c (x_cons x_c (x_cons x_c x_nil)))))) (x_op (x_B (x_cons (x_op (x_var rfl) x_c k10) x_nil) rfl) x_c k9) k8
    · have k10 : ixD (.obj p) (.int 2) (S1 ++ [Cell.lst primes]) = some (.int m, S1 ++ [Cell.lst primes]) := by
        simp [ixD, seqD, cellAt, e2, L2.atI, L2.ixN]
      have k11 : ixD (.obj p) (.int 1) (S1 ++ [Cell.lst primes]) = some (.int b, S1 ++ [Cell.lst primes]) := by
        simp [ixD, seqD, cellAt, e2, L2.atI, L2.ixN]
      simp [sCons, sSet, sIf, sRet, sRetN, sNil, sExpr, sAug, sPar2, sPar3, sBreak, sSub, eVar, eC, eOp, eUn, eB, eMt, eMt0, eTup, eLst, eIf, eOr, eAnd, eNot, eSl, ePart, eNoPart, eCall0, noX, aNil, aCons, aStar, qCmp, qTru, qAnd, qOr, qNot, qYes, ob, oo, oB, oS, gNm, gTp, gsNil, gsCons, f1, f2, m0, m1, m2, m3, LINE, k10, k11, k1, k2, addD, hx, intD0, k4, k5]
    · have k10 : ixD (.obj p) (.int 2) (S1 ++ [Cell.lst primes]) = some (.int m, S1 ++ [Cell.lst primes]) := by
        simp [ixD, seqD, cellAt, e2, L2.atI, L2.ixN]
      have k12 : ∀ S, modD (.int z) (.int 10007) S = some (.int (z % 10007), S) := fun S => d_mod (by omega)
      have k13 : ∀ (w : Int) S, modD (.int w) (.int upto) S = some (.int (w % upto), S) := fun w S => d_mod up0
      simp [sCons, sSet, sIf, sRet, sRetN, sNil, sExpr, sAug, sPar2, sPar3, sBreak, sSub, eVar, eC, eOp, eUn, eB, eMt, eMt0, eTup, eLst, eIf, eOr, eAnd, eNot, eSl, ePart, eNoPart, eCall0, noX, aNil, aCons, aStar, qCmp, qTru, qAnd, qOr, qNot, qYes, ob, oo, oB, oS, gNm, gTp, gsNil, gsCons, f1, f2, m0, m1, m2, m3, LINE, k10, k12, k3, addD, intD0, k6, k7, k13]
    · rw [← hS1]
      exact setGo a b m _ (.inr ⟨rfl, rfl, rfl⟩) ha
theorem Go.upd {p k o : Nat} {S0 S : Store} {c : Cell} (g : Go p k S0 S) (h : S0.length ≤ o) : Go p k S0 (S.set o c) := by
  refine ⟨by rw [List.length_set]; exact g.len, fun i h1 h2 => ?_, fun n hn => ?_⟩
  · rw [List.getElem?_set_ne (by omega)]
    exact g.keep i h1 h2
  · have hl := pot_lt hn
    obtain ⟨a, b, c', e, hh⟩ := g.pot n hn
    exact ⟨a, b, c', by rw [List.getElem?_set_ne (by omega)]; exact e, hh⟩
theorem of_str {S : Store} {p n : Nat} {t : List Nat} (hp : Pot S p n) (hn : n ≤ 1000000) (h0 : t ≠ []) (hl : t.length ≤ 1000) : ∃ c S', f__law_of [.obj p, .str t] S = .ok (.str [c]) S' ∧ c ∈ t ∧ Go p 1 S S' := by
  have hpos : 0 < t.length := List.length_pos_iff.mpr h0
  obtain ⟨r, S', e, r0, r1, g⟩ := take_ok (upto := (t.length : Int)) hp hn (by omega) (by omega)
  obtain ⟨k, rfl⟩ : ∃ k : Nat, r = (k : Int) := ⟨r.toNat, by omega⟩
  have hk : k < t.length := by omega
  have hb : t.length ≤ BIG := by unfold BIG; omega
  have hx := d_ix (S := S') hb (List.getElem?_eq_getElem hk)
  exact ⟨t[k], S', fn_rt (y_rt (y_ret (x_op (x_var rfl) (x_call (x_cons (x_var rfl) (x_cons (x_B (x_cons (x_var rfl) x_nil) (d_len hb)) x_nil)) e) hx))), List.getElem_mem hk, g⟩
theorem of_lst {S : Store} {p n o : Nat} {xs : List D} (hp : Pot S p n) (hn : n ≤ 1000000) (ho : S[o]? = some (.lst xs)) (hop : o ≠ p) (h0 : xs ≠ []) (hl : xs.length ≤ 1000) : ∃ x S', f__law_of [.obj p, .obj o] S = .ok x S' ∧ x ∈ xs ∧ Go p 1 S S' := by
  have hpos : 0 < xs.length := List.length_pos_iff.mpr h0
  obtain ⟨r, S', e, r0, r1, g⟩ := take_ok (upto := (xs.length : Int)) hp hn (by omega) (by omega)
  obtain ⟨k, rfl⟩ : ∃ k : Nat, r = (k : Int) := ⟨r.toNat, by omega⟩
  have hk : k < xs.length := by omega
  have hol : o < S.length := (List.getElem?_eq_some_iff.mp ho).1
  have ho2 := (g.keep o hop hol).trans ho
  have e1 : lenD0 (.obj o) S = some (.int xs.length, S) := by
    show (seqD (.obj o) S).map _ = _
    have : seqD (.obj o) S = some xs := by
      show cellAt S o = _
      unfold cellAt
      rw [ho]
    rw [this]
    rfl
  have e2 : ixD (.obj o) (.int k) S' = some (xs[k], S') := by
    show ((seqD (.obj o) S').bind _).map _ = _
    have : seqD (.obj o) S' = some xs := by
      show cellAt S' o = _
      unfold cellAt
      rw [ho2]
    rw [this]
    show (L2.atI xs (k : Int)).map _ = _
    rw [atI_nat, List.getElem?_eq_getElem hk]
    rfl
  exact ⟨xs[k], S', fn_rt (y_rt (y_ret (x_op (x_var rfl) (x_call (x_cons (x_var rfl) (x_cons (x_B (x_cons (x_var rfl) x_nil) e1) x_nil)) e) e2))), List.getElem_mem hk, g⟩
/-- a comprehension that draws -/
theorem lc_go {p j v m N : Nat} {w : Wk} {ev : Ev} {e : EM D} {S0 : Store} (it : Nat → D) (P : Nat → D → Prop) (hw : ∀ S i, i < m → wkAt w S i = some (some (it i))) (hend : ∀ S, wkAt w S m = some none)
    (he : ∀ i S n, i < m → Pot S p n → n ≤ N → (∀ q, q ≠ p → q < S0.length → S[q]? = S0[q]?) → ∃ y S', e (ev.set v (some (it i))) S = .ok y S' ∧ Go p j S S' ∧ P i y) (hm : m ≤ 1000) {n0 : Nat} (hp0 : Pot S0 p n0) (hN : n0 + j * m ≤ N) :
    ∀ (todo i k : Nat) (S : Store) (acc : List D), i + todo = m → todo < k → Go p (j * i) S0 S → S[S0.length]? = some (.lst acc) → acc.length = i → (∀ a y, acc[a]? = some y → P a y) →
    ∃ ys S', lcLoop w (gNm v) qYes e ev S0.length k i S = .ok (.obj S0.length) S' ∧ Go p (j * m) S0 S' ∧ S'[S0.length]? = some (.lst ys) ∧ ys.length = m ∧ ∀ a y, ys[a]? = some y → P a y
  | todo, i, 0, S, acc, hi, hk, g, hS, ha, hP => absurd hk (Nat.not_lt_zero _)
  | 0, i, k + 1, S, acc, hi, hk, g, hS, ha, hP => by
    have e1 : i = m := by omega
    subst e1
    refine ⟨acc, S, ?_, g, hS, ha, hP⟩
    rw [lcLoop, hend]
  | todo + 1, i, k + 1, S, acc, hi, hk, g, hS, ha, hP => by
    have him : i < m := by omega
    have hji : j * i ≤ j * m := Nat.mul_le_mul_left j (by omega)
    obtain ⟨y, S2, e1, g1, hy⟩ := he i S (n0 + j * i) him (g.pot n0 hp0) (by omega) g.keep
    have hlt0 := pot_lt hp0
    have hlen := g.len
    have hol : S0.length < S.length := (List.getElem?_eq_some_iff.mp hS).1
    have hS2 : S2[S0.length]? = some (.lst acc) := (g1.keep _ (by omega) hol).trans hS
    have hol2 : S0.length < S2.length := (List.getElem?_eq_some_iff.mp hS2).1
    have g2 : Go p (j * (i + 1)) S0 (S2.set S0.length (.lst (acc ++ [y]))) := by
      rw [Nat.mul_add, Nat.mul_one]
      exact (g.trans g1).upd (Nat.le_refl _)
    obtain ⟨ys, S', h1, h2, h3, h4, h5⟩ := lc_go it P hw hend he hm hp0 hN todo (i + 1) k (S2.set S0.length (.lst (acc ++ [y]))) (acc ++ [y]) (by omega) (by omega) g2 (List.getElem?_set_self hol2) (by simp [ha]) (by
      intro a z hz
      by_cases haa : a < acc.length
      · rw [List.getElem?_append_left haa] at hz
        exact hP a z hz
      · have := (List.getElem?_eq_some_iff.mp hz).1
        simp at this
        have e : a = acc.length := by omega
        subst e
        simp at hz
        rw [← hz, ha]
        exact hy)
    refine ⟨ys, S', ?_, h2, h3, h4, h5⟩
    rw [lcLoop, hw S i him]
    have hacc : acc.length < LINE := by
      rw [ha]
      show i < 16777216
      omega
    simp only [gNm, qYes, e1, if_true, hS2, hacc]
    exact h1
end K00

/-! P12: words, names, numbers, strings drawn. -/
namespace K00
open Sh
theorem pick {R : Nat → Nat → Prop} : ∀ {ys : List D}, (∀ a y, ys[a]? = some y → ∃ d, y = sgn d ∧ R a d) → ∃ ds : List Nat, ys = ds.map sgn ∧ ds.length = ys.length ∧ ∀ a d, ds[a]? = some d → R a d
  | [], _ => ⟨[], rfl, rfl, fun a d h => by simp at h⟩
  | y :: ys, h => by
    obtain ⟨d, e, hr⟩ := h 0 y rfl
    obtain ⟨ds, h1, h2, h3⟩ := pick (R := fun a d => R (a + 1) d) (ys := ys) fun a z hz => h (a + 1) z (by simpa using hz)
    refine ⟨d :: ds, by rw [e, h1]; rfl, by simp [h2], fun a z hz => ?_⟩
    cases a with
    | zero =>
      simp at hz
      rw [← hz]
      exact hr
    | succ a => exact h3 a z (by simpa using hz)
theorem seq_at {S : Store} {o : Nat} {xs : List D} (h : S[o]? = some (.lst xs)) : seqD (.obj o) S = some xs := by
  show cellAt S o = _
  unfold cellAt
  rw [h]
theorem d_join {S : Store} {o : Nat} {ds : List Nat} (h : S[o]? = some (.lst (ds.map sgn))) (hl : ds.length ≤ BIG) : joinD0 (.str []) (.obj o) S = some (.str ds, S) := by
  show ((seqD (.obj o) S).bind strsD).bind _ = _
  rw [seq_at h]
  show (strsD (ds.map sgn)).bind _ = _
  rw [strs_D]
  show (if lenSum (ds.map fun c => [c]) + _ * 0 ≤ LINE then _ else _) = _
  rw [len_ones, if_pos, join_ones]
  show ds.length + _ * 0 ≤ 16777216
  unfold BIG at hl
  omega
theorem up_fac : ∀ c, c < 128 → 97 ≤ c → c ≤ 122 → (PyProof.Rows.up1 c < 128 ∧ lo (PyProof.Rows.up1 c) = c ∧ isLet (PyProof.Rows.up1 c) = true ∧ lo c = c ∧ isLet c = true) := by decide +kernel
theorem d_up1 {c : Nat} {S : Store} (h : c < 128) : upD0 (.str [c]) S = some (.str [PyProof.Rows.up1 c], S) := by
  unfold upD0
  have : asc [c] = true := asc_cons.mpr ⟨h, rfl⟩
  simp [this, upL]
theorem map_get {f : Nat → Nat} : ∀ {ds w : List Nat}, ds.length = w.length → (∀ (a d : Nat), ds[a]? = some d → ∃ c : Nat, w[a]? = some c ∧ f d = c) → ds.map f = w
  | [], [], _, _ => rfl
  | [], _ :: _, h, _ => by simp at h
  | _ :: _, [], h, _ => by simp at h
  | d :: ds, c :: w, hl, h => by
    obtain ⟨c', e1, e2⟩ := h 0 d rfl
    simp at e1
    subst e1
    rw [List.map_cons, e2, map_get (by simpa using hl) fun a z hz => by
      obtain ⟨c', e1, e2⟩ := h (a + 1) z (by simpa using hz)
      exact ⟨c', by simpa using e1, e2⟩]
theorem spelt_ok {S : Store} {p n : Nat} {w : List Nat} (hp : Pot S p n) (hn : n + 20 ≤ 1000000) (hw : ∀ c ∈ w, 97 ≤ c ∧ c ≤ 122) (hl : w.length ≤ 20) :
    ∃ s S', f__law_spelt [.obj p, .str w] S = .ok (.str s) S' ∧ lowL s = w ∧ (∀ c ∈ s, isLet c = true ∧ c < 128) ∧ s.length = w.length ∧ Go p 20 S S' := by
  have loop := lc_go (p := p) (j := 1) (v := 2) (m := w.length) (N := 1000000) (w := .str w) (ev := [some (.obj p), some (.str w), none]) (S0 := S)
    (e := eIf (qCmp eqD (eCall0 f__law_take (aCons (eVar 0) (aCons (eC (.int 3)) aNil))) (eC (.int 0))) (eMt0 "str" upperD (eVar 2)) (eVar 2))
    (fun i => .str [w.getD i 0]) (fun i y => ∃ d, y = sgn d ∧ lo d = w.getD i 0 ∧ isLet d = true ∧ d < 128) ?_ ?_ ?_ (by omega) hp (by omega) w.length 0 FUEL (S ++ [.lst []]) [] (by omega) (by unfold FUEL; omega) (Go.add p S _) (by simp) rfl (by simp)
  · obtain ⟨ys, S', h1, h2, h3, h4, h5⟩ := loop
    obtain ⟨ds, rfl, g2, g3⟩ := pick (R := fun i d => lo d = w.getD i 0 ∧ isLet d = true ∧ d < 128) fun a y hy => by
      obtain ⟨d, e, r⟩ := h5 a y hy
      exact ⟨d, e, r⟩
    have hdl : ds.length = w.length := g2.trans h4
    refine ⟨ds, S', fn_rt (y_rt (y_ret (x_mt x_c rfl (x_cons (x := .obj S.length) (S1 := S') ?_ x_nil) (d_join h3 (by rw [hdl]; unfold BIG; omega))))), ?_, ?_, hdl, h2.more (by omega)⟩
    · simp [eLc, iSeq, sCons, sSet, sIf, sRet, sRetN, sNil, sExpr, sAug, sPar2, sPar3, sBreak, sSub, eVar, eC, eOp, eUn, eB, eMt, eMt0, eTup, eLst, eIf, eOr, eAnd, eNot, eSl, ePart, eNoPart, eCall0, noX, aNil, aCons, aStar, qCmp, qTru, qAnd, qOr, qNot, qYes, ob, oo, oB, oS, gNm, gTp, gsNil, gsCons, f1, f2, m0, m1, m2, m3, LINE, wkOf]
      exact h1
    · refine map_get hdl fun a d hd => ?_
      have ha : a < ds.length := (List.getElem?_eq_some_iff.mp hd).1
      refine ⟨w[a]'(by omega), List.getElem?_eq_getElem _, ?_⟩
      have := (g3 a d hd).1
      rw [List.getD_eq_getElem?_getD, List.getElem?_eq_getElem (by omega)] at this
      exact this
    · intro c hc
      obtain ⟨a, ha, e⟩ := List.mem_iff_getElem.mp hc
      have := g3 a c (by rw [List.getElem?_eq_getElem ha, e])
      exact ⟨this.2.1, this.2.2⟩
  · intro T i hi
    unfold wkAt
    simp [List.getElem?_eq_getElem hi]
  · intro T
    unfold wkAt
    simp
  · intro i T m hi hT hm _
    obtain ⟨r, S', e, r0, r1, g⟩ := take_ok (upto := 3) hT hm (by omega) (by omega)
    have hwi := hw (w.getD i 0) (by
      rw [List.getD_eq_getElem?_getD, List.getElem?_eq_getElem hi]
      exact List.getElem_mem hi)
    generalize w.getD i 0 = c at *
    obtain ⟨u1, u2, u3, u4, u5⟩ := up_fac c (by omega) hwi.1 hwi.2
    by_cases h0 : r = 0
    · refine ⟨.str [PyProof.Rows.up1 c], S', ?_, g, _, rfl, u2, u3, u1⟩
      have c128 : c < 128 := by omega
      simp [sCons, sSet, sIf, sRet, sRetN, sNil, sExpr, sAug, sPar2, sPar3, sBreak, sSub, eVar, eC, eOp, eUn, eB, eMt, eMt0, eTup, eLst, eIf, eOr, eAnd, eNot, eSl, ePart, eNoPart, eCall0, noX, aNil, aCons, aStar, qCmp, qTru, qAnd, qOr, qNot, qYes, ob, oo, oB, oS, gNm, gTp, gsNil, gsCons, f1, f2, m0, m1, m2, m3, LINE, e, eqD, scalD, h0, isTy, d_up1 c128]
    · refine ⟨.str [c], S', ?_, g, c, rfl, u4, u5, by omega⟩
      simp [sCons, sSet, sIf, sRet, sRetN, sNil, sExpr, sAug, sPar2, sPar3, sBreak, sSub, eVar, eC, eOp, eUn, eB, eMt, eMt0, eTup, eLst, eIf, eOr, eAnd, eNot, eSl, ePart, eNoPart, eCall0, noX, aNil, aCons, aStar, qCmp, qTru, qAnd, qOr, qNot, qYes, ob, oo, oB, oS, gNm, gTp, gsNil, gsCons, f1, f2, m0, m1, m2, m3, LINE, e, eqD, scalD, h0]
/-! ### strings -/
def ALPH : List Nat := [97, 98, 122, 65, 90, 48, 49, 57, 32, 39, 39, 39, 123, 125, 40, 42, 41, 43, 45, 59, 58, 61, 46, 44, 60, 62, 91, 93, 94, 33, 35, 36, 38, 47, 63, 64, 95, 124, 126]
theorem rep_esc : ∀ x : List Nat, PySem.StrLaws.replL [39] [39, 39] x = escL x
  | [] => by
    unfold PySem.StrLaws.replL
    rw [PySem.StrLaws.replS]
    rfl
  | c :: x => by
    have ih := rep_esc x
    unfold PySem.StrLaws.replL at ih ⊢
    rw [PySem.StrLaws.replS]
    by_cases h : c = 39
    · rw [if_pos (by simp [h])]
      show [39, 39] ++ PySem.StrLaws.replS [39] [39, 39] 0 x = _
      rw [ih]
      simp [escL, h]
    · rw [if_neg (by simpa using h)]
      rw [ih]
      simp [escL, h]
theorem esc_len : ∀ x : List Nat, (escL x).length ≤ 2 * x.length
  | [] => Nat.le_refl _
  | c :: x => by
    have := esc_len x
    unfold escL
    split <;> simp <;> omega
theorem string_drawn {S : Store} {p n : Nat} (hp : Pot S p n) (hn : n + 10 ≤ 1000000) : ∃ x S', f__law_string [.obj p] S = .ok (.tup [.str (39 :: (escL x ++ [39])), .str x]) S' ∧ x ≠ [] ∧ x.length ≤ 6 ∧ (∀ c ∈ x, c ∈ ALPH) ∧ Go p 7 S S' := by
  obtain ⟨r, S1, e1, r0, r1, g1⟩ := take_ok (upto := 6) hp (by omega) (by omega) (by omega)
  obtain ⟨m, hm⟩ : ∃ m : Nat, (1 : Int) + r = (m : Int) := ⟨(1 + r).toNat, by omega⟩
  have m1 : 1 ≤ m := by omega
  have m2 : m ≤ 6 := by omega
  have loop := lc_go (p := p) (j := 1) (v := 2) (m := m) (N := 1000000) (w := .rng 0 m) (ev := [some (.obj p), none, none]) (S0 := S1)
    (e := eCall0 f__law_of (aCons (eVar 0) (aCons (eC (.str ALPH)) aNil)))
    (fun i => .int (0 + (i : Nat))) (fun i y => ∃ d, y = sgn d ∧ d ∈ ALPH) ?_ ?_ ?_ (by omega) (g1.pot n hp) (by omega) m 0 FUEL (S1 ++ [.lst []]) [] (by omega) (by unfold FUEL; omega) (Go.add p S1 _) (by simp) rfl (by simp)
  · obtain ⟨ys, S', h1, h2, h3, h4, h5⟩ := loop
    obtain ⟨ds, rfl, g2, g3⟩ := pick (R := fun i d => d ∈ ALPH) fun a y hy => h5 a y hy
    have hdl : ds.length = m := g2.trans h4
    refine ⟨ds, S', fn_rt (y_cons (S1 := S') (y_set (d := .str ds) (x_mt x_c rfl (x_cons (x := .obj S1.length) (S1 := S') ?_ x_nil) (d_join h3 (by rw [hdl]; unfold BIG; omega))) rfl) (y_rt (y_ret ?_))), ?_, by omega, ?_, (g1.trans h2).more (by omega)⟩
    · have hb : (m : Int) < 4611686018427387904 := by omega
      have hb2 : (-4611686018427387904 : Int) ≤ m := by omega
      simp [eLc, iRng1, sCons, sSet, sIf, sRet, sRetN, sNil, sExpr, sAug, sPar2, sPar3, sBreak, sSub, eVar, eC, eOp, eUn, eB, eMt, eMt0, eTup, eLst, eIf, eOr, eAnd, eNot, eSl, ePart, eNoPart, eCall0, noX, aNil, aCons, aStar, qCmp, qTru, qAnd, qOr, qNot, qYes, ob, oo, oB, oS, gNm, gTp, gsNil, gsCons, f1, f2, m0, m1, m2, m3, LINE, e1, addD, hm, hb, hb2]
      exact h1
    · have el := esc_len ds
      have h16 : ds.length + (ds.length + 1) * 2 ≤ 16777216 := by omega
      have h17 : 1 + (escL ds).length ≤ 16777216 := by omega
      have h19 : 1 + (escL ds).length + 1 ≤ 16777216 := by omega
      have h18 : (escL ds).length + 1 + 1 ≤ 16777216 := by omega
      simp [sCons, sSet, sIf, sRet, sRetN, sNil, sExpr, sAug, sPar2, sPar3, sBreak, sSub, eVar, eC, eOp, eUn, eB, eMt, eMt0, eTup, eLst, eIf, eOr, eAnd, eNot, eSl, ePart, eNoPart, eCall0, noX, aNil, aCons, aStar, qCmp, qTru, qAnd, qOr, qNot, qYes, ob, oo, oB, oS, gNm, gTp, gsNil, gsCons, f1, f2, m0, m1, m2, m3, LINE, eRep, h16, rep_esc, addD, h17, h18, h19]
    · intro z
      rw [z] at hdl
      simp at hdl
      omega
    · intro c hc
      obtain ⟨a, ha, e⟩ := List.mem_iff_getElem.mp hc
      exact g3 a c (by rw [List.getElem?_eq_getElem ha, e])
  · intro T i hi
    unfold wkAt
    simp [hi]
  · intro T
    unfold wkAt
    simp
  · intro i T k hi hT hk _
    obtain ⟨c, S', e, hc, g⟩ := of_str (t := ALPH) hT hk (by decide) (by decide)
    exact ⟨.str [c], S', x_call (x_cons (x_var rfl) (x_cons x_c x_nil)) e, g, c, rfl, hc⟩
end K00

/-! P13: numbers, names. -/
namespace K00
open Sh
theorem numT_eq (n : Nat) : numT (n : Int) = TL.numL n := TL.tl_num n
theorem memN48 (c : Nat) : memN c [48] = decide (c = 48) := by
  rw [memN_eq]
  simp
theorem numL_head : ∀ (n : Nat), 0 < n → ∃ c r, TL.numL n = c :: r ∧ c ≠ 48 := by
  intro n
  induction n using Nat.strongRecOn with
  | _ n ih =>
    intro h0
    by_cases h : n < 10
    · exact ⟨48 + n, [], TL.numL_lt h, by omega⟩
    · obtain ⟨c, r, e, hc⟩ := ih (n / 10) (by omega) (by omega)
      exact ⟨c, r ++ [48 + n % 10], by rw [TL.numL_step (by omega), e]; rfl, hc⟩
theorem numV_of {n k : Nat} (h : n ≤ 2147483647) : NumV (List.replicate k 48 ++ TL.numL n) n := by
  have hd := TL.numL_digits n
  have hlen : (TL.numL n).length ≤ 10 := TL.numL_len (by decide) (by omega)
  have z : numZ (List.replicate k 48 ++ TL.numL n) = if n = 0 then [] else TL.numL n := by
    unfold numZ
    have rep : ∀ (k : Nat) (l : List Nat), (List.replicate k 48 ++ l).dropWhile (fun c => memN c [48]) = l.dropWhile (fun c => memN c [48]) := by
      intro k l
      induction k with
      | zero => rfl
      | succ k ih =>
        rw [List.replicate_succ, List.cons_append, List.dropWhile_cons_of_pos (by rfl)]
        exact ih
    rw [rep]
    by_cases h0 : n = 0
    · subst h0
      rfl
    · obtain ⟨c, r, e, hc⟩ := numL_head n (by omega)
      rw [if_neg h0, e, List.dropWhile_cons_of_neg (by rw [memN48]; simpa using hc)]
  refine ⟨fun e => TL.numL_ne n (List.append_eq_nil_iff.mp e).2, fun c hc => ?_, ?_, ?_, h⟩
  · rcases List.mem_append.mp hc with hc | hc
    · rw [(List.mem_replicate.mp hc).2]
      rfl
    · have := hd c hc
      unfold isFig
      rw [Bool.and_eq_true, Nat.ble_eq, Nat.ble_eq]
      omega
  · rw [z]
    split
    · exact Nat.zero_le _
    · exact hlen
  · rw [z]
    by_cases h0 : n = 0
    · subst h0
      rw [if_pos rfl]
      show PySem.intText? (tx [48]) = some ((0 : Nat) : Int)
      have e : tx [48] = PySem.Str.ofString (toString ((0 : Nat) : Int)) := by
        apply TL.ext_tl
        rw [TL.tl_num, TL.numL_lt (by decide)]
      rw [e]
      exact TL.int_num (n := 0) (by omega)
    · rw [if_neg h0]
      have hne := TL.numL_ne n
      have e : (TL.numL n).isEmpty = false := by
        cases hq : TL.numL n with
        | nil => exact absurd hq hne
        | cons _ _ => rfl
      rw [e]
      show PySem.intText? (tx (TL.numL n)) = _
      have := TL.int_num (n := n) (by omega)
      rw [← this]
      congr 1
      apply TL.ext_tl
      rw [TL.tl_num]
theorem repN_48 : ∀ k : Nat, repN [48] k = List.replicate k 48
  | 0 => rfl
  | k + 1 => by
    rw [repN, repN_48 k, List.replicate_succ]
    rfl
theorem number_drawn {S : Store} {p n : Nat} (hp : Pot S p n) (hn : n + 10 ≤ 1000000) : ∃ w v S', f__law_number [.obj p] S = .ok (.tup [.str w, .int (v : Nat)]) S' ∧ NumV w v ∧ w.length ≤ 13 ∧ Go p 4 S S' := by
  have hl := pot_lt hp
  obtain ⟨r1, S1, e1, a0, a1, g1⟩ := take_ok (upto := 2147483648) hp (by omega) (by omega) (by omega)
  have hp1 := g1.pot n hp
  obtain ⟨r2, S2, e2, b0, b1, g2⟩ := take_ok (upto := 1000) hp1 (by omega) (by omega) (by omega)
  have hp2 := g2.pot _ hp1
  let xs : List D := [.int 0, .int 1, .int 9, .int 10, .int 255, .int 2147483647, .int 2147483646, .int r1, .int r2]
  have g3 := Go.add p S2 [.lst xs]
  have hp3 := g3.pot _ hp2
  have hl2 := pot_lt hp2
  obtain ⟨x, S4, e4, hx, g4⟩ := of_lst (o := S2.length) (xs := xs) hp3 (by omega) (by rw [gA0]; rfl) (by omega) (by simp [xs]) (by simp [xs])
  have hp4 := g4.pot _ hp3
  have hv : ∃ v : Nat, x = .int (v : Nat) ∧ v ≤ 2147483647 := by
    have hx2 : x = .int 0 ∨ x = .int 1 ∨ x = .int 9 ∨ x = .int 10 ∨ x = .int 255 ∨ x = .int 2147483647 ∨ x = .int 2147483646 ∨ x = .int r1 ∨ x = .int r2 := by simpa [xs] using hx
    rcases hx2 with h | h | h | h | h | h | h | h | h
    · exact ⟨0, h, by omega⟩
    · exact ⟨1, h, by omega⟩
    · exact ⟨9, h, by omega⟩
    · exact ⟨10, h, by omega⟩
    · exact ⟨255, h, by omega⟩
    · exact ⟨2147483647, h, by omega⟩
    · exact ⟨2147483646, h, by omega⟩
    · exact ⟨r1.toNat, by rw [h]; congr 1; omega, by omega⟩
    · exact ⟨r2.toNat, by rw [h]; congr 1; omega, by omega⟩
  obtain ⟨v, rfl, hv⟩ := hv
  let zs : List D := [.int 0, .int 0, .int 0, .int 0, .int 1, .int 3]
  have g5 := Go.add p S4 [.lst zs]
  have hp5 := g5.pot _ hp4
  have hl4 := pot_lt hp4
  obtain ⟨y, S6, e6, hy, g6⟩ := of_lst (o := S4.length) (xs := zs) hp5 (by omega) (by rw [gA0]; rfl) (by omega) (by simp [zs]) (by simp [zs])
  have hk : ∃ k : Nat, y = .int (k : Nat) ∧ k ≤ 3 := by
    have hy2 : y = .int 0 ∨ y = .int 1 ∨ y = .int 3 := by
      have : y = .int 0 ∨ y = .int 0 ∨ y = .int 0 ∨ y = .int 0 ∨ y = .int 1 ∨ y = .int 3 := by simpa [zs] using hy
      rcases this with h | h | h | h | h | h <;> simp [h]
    rcases hy2 with h | h | h
    · exact ⟨0, h, by omega⟩
    · exact ⟨1, h, by omega⟩
    · exact ⟨3, h, by omega⟩
  obtain ⟨k, rfl, hk⟩ := hk
  have hnl : (TL.numL v).length ≤ 10 := TL.numL_len (by decide) (by omega)
  refine ⟨List.replicate k 48 ++ TL.numL v, v, S6, fn_rt (y_cons (S1 := S4) (y_set (d := .int (v : Nat)) (x_call (x_cons (x_var rfl) (x_cons (x := .obj S2.length) (S1 := S2 ++ [Cell.lst xs]) ?_ x_nil)) e4) rfl) (y_rt (y_ret (x_tup (x_cons (S1 := S6) (x_op (S2 := S6) (x_op (y := .int (k : Nat)) (S2 := S6) (d := .str (List.replicate k 48)) (S3 := S6) x_c (x_call (x_cons (x_var rfl) (x_cons (x := .obj S4.length) (S1 := S4 ++ [Cell.lst zs]) ?_ x_nil)) e6) ?_) (x_B (S2 := S6) (d := .str (TL.numL v)) (x_cons (x_B (x_cons (x_var rfl) x_nil) rfl) x_nil) ?_) ?_) (x_cons (x_B (x_cons (x_var rfl) x_nil) rfl) x_nil)))))), numV_of hv, by simp; omega, ((((g1.trans g2).trans g3).trans g4).trans (g5.trans g6)).more (by omega)⟩
  · exact x_lst (x_cons x_c (x_cons x_c (x_cons x_c (x_cons x_c (x_cons x_c (x_cons x_c (x_cons x_c (x_cons (x_call (x_cons (x_var rfl) (x_cons x_c x_nil)) e1) (x_cons (x_call (x_cons (x_var rfl) (x_cons x_c x_nil)) e2) x_nil)))))))))
  · exact x_lst (x_cons x_c (x_cons x_c (x_cons x_c (x_cons x_c (x_cons x_c (x_cons x_c x_nil))))))
  · have h1 : (k : Int) ≤ 1000 ∧ (-1000 : Int) ≤ k := by omega
    simp [mulD, h1, repN_48]
  · show strD0 (.int (v : Int)) S6 = _
    have hlog : ((v : Int)).natAbs.log2 < 1920 := by
      have := sm_log (i := (v : Int)) (sm_of (by omega) (by omega))
      by_cases h0 : v = 0
      · subst h0
        decide
      · have : (v : Int).natAbs < 2 ^ 1920 := Nat.lt_of_le_of_lt (show (v : Int).natAbs ≤ 2147483647 by omega) (by decide +kernel)
        exact (Nat.log2_lt (by omega)).mpr this
    show (if (v : Int).natAbs.log2 < 1920 then some (D.str (numT (v : Int)), S6) else none) = _
    rw [if_pos hlog, numT_eq]
  · have : k + (TL.numL v).length ≤ 16777216 := by omega
    simp [addD, this]
/-! ### the words of the law -/
def WORDS : List (List Nat) := TL.spl [32] 0 [] ([97, 110, 100, 32, 97, 114, 114, 97, 121, 32, 98, 101, 103, 105, 110, 32, 99, 97, 115, 101, 32, 99, 111, 110, 115, 116, 32, 100, 105, 118, 32, 100, 111, 32, 100, 111, 119, 110, 116, 111, 32, 101, 108, 115, 101, 32, 101, 110, 100, 32, 102, 105, 108, 101, 32, 102, 111, 114, 32, 102, 117, 110, 99, 116, 105, 111, 110, 32, 103, 111, 116, 111, 32, 105, 102, 32, 105, 110, 32, 108, 97, 98, 101, 108, 32, 109, 111, 100, 32, 110, 105, 108, 32, 110, 111, 116, 32, 111, 102, 32, 111, 114] ++ [32] ++ [112, 97, 99, 107, 101, 100, 32, 112, 114, 111, 99, 101, 100, 117, 114, 101, 32, 112, 114, 111, 103, 114, 97, 109, 32, 114, 101, 99, 111, 114, 100, 32, 114, 101, 112, 101, 97, 116, 32, 115, 101, 116, 32, 116, 104, 101, 110, 32, 116, 111, 32, 117, 110, 116, 105, 108, 32, 118, 97, 114, 32, 119, 104, 105, 108, 101, 32, 119, 105, 116, 104])
def ALLW : List (List Nat) := WORDS ++ [[116, 121, 112, 101]]
theorem words_res : (∀ w ∈ ALLW, w ∈ tab_RESERVED) ∧ (∀ w ∈ tab_RESERVED, w ∈ ALLW) := by decide +kernel
theorem memS_eq (w : List Nat) (ss : List (List Nat)) : memS w ss = decide (w ∈ ss) := by
  unfold memS
  rw [Bool.eq_iff_iff, List.any_eq_true, decide_eq_true_eq]
  constructor
  · rintro ⟨x, hx, h⟩
    rw [leqN_eq] at h
    rw [← of_decide_eq_true h]
    exact hx
  · intro h
    exact ⟨w, h, by rw [leqN_eq]; exact decide_eq_true rfl⟩
theorem words_mem (w : List Nat) : memS w ALLW = memS w tab_RESERVED := by
  rw [memS_eq, memS_eq, Bool.eq_iff_iff, decide_eq_true_eq, decide_eq_true_eq]
  exact ⟨words_res.1 w, words_res.2 w⟩
theorem words_ok (S : Store) : f__law_words [] S = .ok (.obj (S.length + 2)) (S ++ [.lst (WORDS.map D.str), .lst [.str [116, 121, 112, 101]], .lst (ALLW.map D.str)]) := by
  refine fn_rt (y_cons (S1 := S) (y_set x_c rfl) (y_cons (S1 := S) (y_set x_c rfl) (y_rt (y_ret (x_op (x := .obj S.length) (S1 := S ++ [Cell.lst (WORDS.map D.str)]) (y := .obj (S.length + 1)) (S2 := S ++ [Cell.lst (WORDS.map D.str), Cell.lst [D.str [116, 121, 112, 101]]]) ?_ ?_ ?_)))))
  · refine x_mt (S1 := S) (x_op (x_op (x_var rfl) x_c rfl) (x_var rfl) rfl) rfl (x_cons x_c x_nil) rfl
  · have := x_lst (ev := [some (D.str []), some (D.str [])]) (S := S ++ [Cell.lst (WORDS.map D.str)]) (x_cons (x_op (f := addD) (a := eC (.str [116, 121])) (b := eC (.str [112, 101])) x_c x_c rfl) x_nil)
    simp [sCons, sSet, sIf, sRet, sRetN, sNil, sExpr, sAug, sPar2, sPar3, sBreak, sSub, eVar, eC, eOp, eUn, eB, eMt, eMt0, eTup, eLst, eIf, eOr, eAnd, eNot, eSl, ePart, eNoPart, eCall0, noX, aNil, aCons, aStar, qCmp, qTru, qAnd, qOr, qNot, qYes, ob, oo, oB, oS, gNm, gTp, gsNil, gsCons, f1, f2, m0, m1, m2, m3, LINE, addD]
  · have hl : WORDS.length + 1 ≤ 16777216 := by decide +kernel
    simp [addD, cellAt, gA, gA0, ALLW, hl]
end K00

/-! P14: names, tokens drawn. -/
namespace K00
open Sh
def LT52 : List Nat := [97, 98, 99, 100, 101, 102, 103, 104, 105, 106, 107, 108, 109, 110, 111, 112, 113, 114, 115, 116, 117, 118, 119, 120, 121, 122, 65, 66, 67, 68, 69, 70, 71, 72, 73, 74, 75, 76, 77, 78, 79, 80, 81, 82, 83, 84, 85, 86, 87, 88, 89, 90]
def LT62 : List Nat := [97, 98, 99, 100, 101, 102, 103, 104, 105, 106, 107, 108, 109, 110, 111, 112, 113, 114, 115, 116, 117, 118, 119, 120, 121, 122, 65, 66, 67, 68, 69, 70, 71, 72, 73, 74, 75, 76, 77, 78, 79, 80, 81, 82, 83, 84, 85, 86, 87, 88, 89, 90, 48, 49, 50, 51, 52, 53, 54, 55, 56, 57]
theorem lt52 : ∀ c ∈ LT52, isLet c = true ∧ c < 128 := by decide +kernel
theorem lt62 : ∀ c ∈ LT62, idc c = true ∧ c < 128 := by decide +kernel
structure Nm (w : List Nat) : Prop where
  id : IdW w
  as : ∀ c ∈ w, c < 128
theorem rng1_ok {m : Nat} {r : EM (List D)} {ev : Ev} {S S1 : Store} (hm : m ≤ 1000) (e : r ev S = .ok [.int m] S1) : iRng1 r ev S = .ok (.rng 0 m) S1 := by
  have hb : (-(2 ^ 62) : Int) ≤ (m : Int) ∧ (m : Int) < 2 ^ 62 := by omega
  unfold iRng1 ob
  rw [e]
  simp only [hb, and_self, if_true, Int.toNat_natCast]
theorem f_stop {w : Wk} {g : GM} {b : SM} {k i : Nat} {ev : Ev} {S : Store} (h : wkAt w S i = some none) : sForL w g b (k + 1) i ev S = .nx ev S := by
  rw [sForL]
  simp [h]
theorem f_step {w : Wk} {g : GM} {b : SM} {k i : Nat} {ev ev1 e2 : Ev} {S S2 : Store} {d : D} (h : wkAt w S i = some (some d)) (hg : g d ev = some ev1) (hb : b ev1 S = .nx e2 S2) : sForL w g b (k + 1) i ev S = sForL w g b k (i + 1) e2 S2 := by
  rw [sForL]
  simp [h, hg, hb]
theorem f_for {n : Nat} {iw : EM Wk} {g : GM} {b : SM} {ev : Ev} {S S1 : Store} {w : Wk} (h : iw ev S = .ok w S1) : sFor n iw g b ev S = sForL w g b n 0 ev S1 := by
  unfold sFor
  rw [h]
theorem name_loop {p m : Nat} {N : Nat} (hN : N ≤ 1000000) : ∀ (todo i k n : Nat) (S : Store) (found : List Nat) (l : Option D), i + todo = m → todo < k → Pot S p n → n + todo ≤ N → Nm found → found.length + todo ≤ 1000 →
    ∃ w l2 S', sForL (.rng 0 m) (gNm 3) (sCons (sSet (eOp addD (eVar 2) (eCall0 f__law_of (aCons (eVar 0) (aCons (eC (.str LT62)) aNil)))) (gNm 2)) sNil) k i [some (.obj p), some (.int m), some (.str found), l] S = .nx [some (.obj p), some (.int m), some (.str w), l2] S' ∧ Nm w ∧ w.length = found.length + todo ∧ Go p todo S S'
  | todo, i, 0, n, S, found, l, hi, hk, hp, hn, hf, hl => absurd hk (Nat.not_lt_zero _)
  | 0, i, k + 1, n, S, found, l, hi, hk, hp, hn, hf, hl => by
    refine ⟨found, l, S, ?_, hf, rfl, Go.refl p S⟩
    have e : wkAt (.rng 0 m) S i = some none := by
      unfold wkAt
      simp
      omega
    exact f_stop e
  | todo + 1, i, k + 1, n, S, found, l, hi, hk, hp, hn, hf, hl => by
    have e : wkAt (.rng 0 m) S i = some (some (.int (0 + (i : Nat)))) := by
      unfold wkAt
      have : i < m := by omega
      simp [this]
    obtain ⟨c, S1, e1, hc, g1⟩ := of_str (t := LT62) hp (by omega) (by decide) (by decide)
    obtain ⟨c1, c2⟩ := lt62 c hc
    have hf2 : Nm (found ++ [c]) := by
      obtain ⟨⟨a, r, q1, q2⟩, q3⟩ := hf.id
      refine ⟨⟨⟨a, r ++ [c], by rw [q1]; rfl, q2⟩, fun d hd => ?_⟩, fun d hd => ?_⟩
      · rcases List.mem_append.mp hd with hd | hd
        · exact q3 d hd
        · rw [List.mem_singleton.mp hd]
          exact c1
      · rcases List.mem_append.mp hd with hd | hd
        · exact hf.as d hd
        · rw [List.mem_singleton.mp hd]
          exact c2
    obtain ⟨w, l2, S', h1, h2, h3, h4⟩ := name_loop (p := p) (m := m) hN todo (i + 1) k (n + 1) S1 (found ++ [c]) (some (.int (0 + (i : Nat)))) (by omega) (by omega) (g1.pot n hp) (by omega) hf2 (by simp; omega)
    refine ⟨w, l2, S', ?_, h2, by simp at h3; omega, by
      have := g1.trans h4
      rw [Nat.add_comm] at this
      exact this⟩
    have hlen : found.length + 1 ≤ 16777216 := by omega
    have body : sCons (sSet (eOp addD (eVar 2) (eCall0 f__law_of (aCons (eVar 0) (aCons (eC (.str LT62)) aNil)))) (gNm 2)) sNil [some (.obj p), some (.int m), some (.str found), some (.int (0 + (i : Nat)))] S = .nx [some (.obj p), some (.int m), some (.str (found ++ [c])), some (.int (0 + (i : Nat)))] S1 := by
      simp [sCons, sSet, sIf, sRet, sRetN, sNil, sExpr, sAug, sPar2, sPar3, sBreak, sSub, eVar, eC, eOp, eUn, eB, eMt, eMt0, eTup, eLst, eIf, eOr, eAnd, eNot, eSl, ePart, eNoPart, eCall0, noX, aNil, aCons, aStar, qCmp, qTru, qAnd, qOr, qNot, qYes, ob, oo, oB, oS, gNm, gTp, gsNil, gsCons, f1, f2, m0, m1, m2, m3, LINE, e1, addD, hlen]
    exact (f_step e rfl body).trans h1
theorem asc_of {w : List Nat} (h : ∀ c ∈ w, c < 128) : asc w = true := by
  unfold asc
  rw [List.all_eq_true]
  exact fun c hc => Nat.blt_eq.mpr (h c hc)
theorem name_drawn {S : Store} {p n : Nat} (hp : Pot S p n) (hn : n + 20 ≤ 1000000) : ∃ w S', f__law_name [.obj p] S = .ok (.str w) S' ∧ Nm w ∧ w.length ≤ 11 ∧ memS (lowL w) tab_RESERVED = false ∧ Go p 11 S S' := by
  have hl := pot_lt hp
  let xs : List D := [.int 0, .int 0, .int 1, .int 2, .int 3, .int 5, .int 9]
  have g1 := Go.add p S [.lst xs]
  have hp1 := g1.pot _ hp
  obtain ⟨x, S2, e2, hx, g2⟩ := of_lst (o := S.length) (xs := xs) hp1 (by omega) (by rw [gA0]; rfl) (by omega) (by simp [xs]) (by simp [xs])
  have hp2 := g2.pot _ hp1
  have hm : ∃ m : Nat, x = .int (m : Nat) ∧ m ≤ 9 := by
    have : x = .int 0 ∨ x = .int 0 ∨ x = .int 1 ∨ x = .int 2 ∨ x = .int 3 ∨ x = .int 5 ∨ x = .int 9 := by simpa [xs] using hx
    rcases this with h | h | h | h | h | h | h
    · exact ⟨0, h, by omega⟩
    · exact ⟨0, h, by omega⟩
    · exact ⟨1, h, by omega⟩
    · exact ⟨2, h, by omega⟩
    · exact ⟨3, h, by omega⟩
    · exact ⟨5, h, by omega⟩
    · exact ⟨9, h, by omega⟩
  obtain ⟨m, rfl, hm⟩ := hm
  obtain ⟨c, S3, e3, hc, g3⟩ := of_str (t := LT52) hp2 (by omega) (by decide) (by decide)
  have hp3 := g3.pot _ hp2
  obtain ⟨c1, c2⟩ := lt52 c hc
  have hf : Nm [c] := ⟨⟨⟨c, [], rfl, c1⟩, fun d hd => by rw [List.mem_singleton.mp hd]; unfold idc; rw [c1]; rfl⟩, fun d hd => by rw [List.mem_singleton.mp hd]; exact c2⟩
  obtain ⟨w, l2, S4, e4, hw, hwl, g4⟩ := name_loop (p := p) (m := m) (N := 1000000) (Nat.le_refl _) m 0 FUEL _ S3 [c] none (by omega) (by unfold FUEL; omega) hp3 (by omega) hf (by simp; omega)
  have hwl : w.length = 1 + m := hwl
  have hp4 := g4.pot _ hp3
  have g5 := Go.add p S4 [.lst (WORDS.map D.str), .lst [.str [116, 121, 112, 101]], .lst (ALLW.map D.str)]
  have e5 := words_ok S4
  have haw : asc w = true := asc_of hw.as
  have elow : ∀ T, lowD0 (.str w) T = some (.str (lowL w), T) := fun T => d_low haw (by unfold BIG; omega)
  have ein : inD (.str (lowL w)) (.obj (S4.length + 2)) (S4 ++ [.lst (WORDS.map D.str), .lst [.str [116, 121, 112, 101]], .lst (ALLW.map D.str)]) = some (.bl (memS (lowL w) tab_RESERVED), S4 ++ [.lst (WORDS.map D.str), .lst [.str [116, 121, 112, 101]], .lst (ALLW.map D.str)]) := by
    show (inD1 _ _ _).map _ = _
    show (((seqD (.obj (S4.length + 2)) _).bind (inFl (.str (lowL w)))).map fun b => (D.bl b, _)) = _
    rw [seq_at (by rw [gA]; rfl)]
    show ((inFl (.str (lowL w)) (ALLW.map D.str)).map fun b => (D.bl b, _)) = _
    rw [inFl_strs, words_mem]
    rfl
  have hb4 : (-(2 ^ 62) : Int) ≤ (m : Int) ∧ (m : Int) < 2 ^ 62 := by omega
  have fin : ∀ (w' : List Nat), f__law_name [.obj p] S = .ok (.str w') (S4 ++ [.lst (WORDS.map D.str), .lst [.str [116, 121, 112, 101]], .lst (ALLW.map D.str)]) → Nm w' → w'.length ≤ 11 → memS (lowL w') tab_RESERVED = false → ∃ w S', f__law_name [.obj p] S = .ok (.str w) S' ∧ Nm w ∧ w.length ≤ 11 ∧ memS (lowL w) tab_RESERVED = false ∧ Go p 11 S S' :=
    fun w' h1 h2 h3 h4 => ⟨w', _, h1, h2, h3, h4, (((g1.trans g2).trans g3).trans (g4.trans g5)).more (by omega)⟩
  have run : ∀ w' : List Nat, addD (.str w) (.str (repN [113] (if memS (lowL w) tab_RESERVED = true then 1 else 0))) (S4 ++ [.lst (WORDS.map D.str), .lst [.str [116, 121, 112, 101]], .lst (ALLW.map D.str)]) = some (.str w', S4 ++ [.lst (WORDS.map D.str), .lst [.str [116, 121, 112, 101]], .lst (ALLW.map D.str)]) →
      f__law_name [.obj p] S = .ok (.str w') (S4 ++ [.lst (WORDS.map D.str), .lst [.str [116, 121, 112, 101]], .lst (ALLW.map D.str)]) := by
    intro w' ha
    refine fn_rt (y_cons (S1 := S2) (y_set (d := .int (m : Nat)) (x_call (x_cons (x_var rfl) (x_cons (x := .obj S.length) (S1 := S ++ [Cell.lst xs]) (x_lst (x_cons x_c (x_cons x_c (x_cons x_c (x_cons x_c (x_cons x_c (x_cons x_c (x_cons x_c x_nil)))))))) x_nil)) e2) rfl) (y_cons (S1 := S3) (y_set (d := .str [c]) (x_call (x_cons (x_var rfl) (x_cons x_c x_nil)) e3) rfl) (y_cons (S1 := S4) (e1 := [some (.obj p), some (.int m), some (.str w), l2]) ?_ (y_rt (y_ret ?_)))))
    · exact (f_for (rng1_ok (by omega) (x_cons (x_var rfl) x_nil))).trans e4
    · refine x_op (S2 := S4 ++ [.lst (WORDS.map D.str), .lst [.str [116, 121, 112, 101]], .lst (ALLW.map D.str)]) (x_var rfl) (x_op (S2 := S4 ++ [.lst (WORDS.map D.str), .lst [.str [116, 121, 112, 101]], .lst (ALLW.map D.str)]) (y := .int (if memS (lowL w) tab_RESERVED = true then 1 else 0)) x_c (x_B (x_cons (x_op (x_mt0 (x_var rfl) rfl (elow _)) (x_call x_nil e5) ein) x_nil) rfl) ?_) ha
      cases memS (lowL w) tab_RESERVED <;> simp [mulD]
  by_cases hmem : memS (lowL w) tab_RESERVED = true
  · refine fin (w ++ [113]) (run _ ?_) ?_ (by simp; omega) ?_
    · rw [if_pos hmem]
      have : w.length + 1 ≤ 16777216 := by omega
      simp [addD, repN, this]
    · obtain ⟨⟨a, r, q1, q2⟩, q3⟩ := hw.id
      refine ⟨⟨⟨a, r ++ [113], by rw [q1]; rfl, q2⟩, fun d hd => ?_⟩, fun d hd => ?_⟩
      · rcases List.mem_append.mp hd with hd | hd
        · exact q3 d hd
        · rw [List.mem_singleton.mp hd]
          decide
      · rcases List.mem_append.mp hd with hd | hd
        · exact hw.as d hd
        · rw [List.mem_singleton.mp hd]
          decide
    · rw [memS_eq]
      refine decide_eq_false fun h => ?_
      have no : ∀ u ∈ tab_RESERVED, u.getLast? ≠ some 113 := by decide +kernel
      refine no _ h ?_
      unfold lowL
      rw [List.map_append]
      simp
      decide
  · have hmem : memS (lowL w) tab_RESERVED = false := by simpa using hmem
    refine fin w (run _ ?_) hw (by omega) hmem
    rw [hmem]
    have : w.length ≤ 16777216 := by omega
    simp [addD, repN, this]
end K00

/-! P15: tokens drawn. -/
namespace K00
open Sh
def SIGW : List (List Nat) := TL.spl [32] 0 [] [43, 32, 45, 32, 42, 32, 61, 32, 60, 32, 62, 32, 60, 62, 32, 60, 61, 32, 62, 61, 32, 40, 32, 41, 32, 91, 32, 93, 32, 46, 32, 46, 46, 32, 44, 32, 58, 32, 58, 61, 32, 59, 32, 94, 32, 60, 32, 62, 32, 46, 32, 58, 32, 40, 32, 42, 32, 61, 32, 62, 61]
theorem sigw : (∀ w ∈ SIGW, w ∈ SGS) ∧ SIGW ≠ [] ∧ SIGW.length ≤ 100 := by decide +kernel
theorem sgs_asc : ∀ w ∈ SGS, asc w = true ∧ w.length ≤ 2 := by decide +kernel
theorem allw : (∀ w ∈ ALLW, (∀ c ∈ w, 97 ≤ c ∧ c ≤ 122) ∧ w.length ≤ 20 ∧ w ≠ []) ∧ ALLW ≠ [] ∧ ALLW.length ≤ 100 := by decide +kernel
theorem alph_asc : ∀ c ∈ ALPH, c < 128 ∧ c ≠ 10 := by decide +kernel
theorem esc_asc : ∀ {x : List Nat}, (∀ c ∈ x, c < 128) → asc (escL x) = true
  | [], _ => rfl
  | c :: x, h => by
    have ih := esc_asc (x := x) fun d hd => h d (List.mem_cons_of_mem _ hd)
    unfold escL
    split
    · exact asc_cons.mpr ⟨by decide, asc_cons.mpr ⟨by decide, ih⟩⟩
    · exact asc_cons.mpr ⟨h c List.mem_cons_self, ih⟩
structure TokD (t : Tok) : Prop where
  ok : t.ok
  as : asc t.text = true
  len : t.text.length ≤ 20
theorem token_drawn {S : Store} {p n : Nat} (hp : Pot S p n) (hn : n + 50 ≤ 1000000) : ∃ t S', f__law_token [.obj p] S = .ok (.tup [.str t.sort, .str t.text, t.told]) S' ∧ TokD t ∧ Go p 25 S S' := by
  obtain ⟨r, S1, e1, r0, r1, g1⟩ := take_ok (upto := 9) hp (by omega) (by omega) (by omega)
  have hp1 := g1.pot n hp
  have st1 : sSet (eCall0 f__law_take (aCons (eVar 0) (aCons (eC (.int 9)) aNil))) (gNm 1) [some (.obj p), none, none, none, none, none] S = .nx [some (.obj p), some (.int r), none, none, none, none] S1 := y_set (x_call (x_cons (x_var rfl) (x_cons x_c x_nil)) e1) rfl
  by_cases h2 : r < 2
  · -- a reserved word
    have e2 := words_ok S1
    have g2 := Go.add p S1 [.lst (WORDS.map D.str), .lst [.str [116, 121, 112, 101]], .lst (ALLW.map D.str)]
    have hp2 := g2.pot _ hp1
    have hl1 := pot_lt hp1
    obtain ⟨x, S3, e3, hx, g3⟩ := of_lst (o := S1.length + 2) (xs := ALLW.map D.str) hp2 (by omega) (by rw [gA]; rfl) (by omega) (by simpa using allw.2.1) (by rw [List.length_map]; have := allw.2.2; omega)
    have hp3 := g3.pot _ hp2
    obtain ⟨w, hw, rfl⟩ := List.mem_map.mp hx
    obtain ⟨w1, w2, w3⟩ := allw.1 w hw
    obtain ⟨s, S4, e4, q1, q2, q3, g4⟩ := spelt_ok hp3 (by omega) w1 w2
    refine ⟨.id s, S4, fn_rt (y_cons st1 (y_rt (y_if (k := true) (S1 := S1) ?_ (fun _ => y_cons (S1 := S3) (y_set (d := .str w) (x_call (x_cons (x_var rfl) (x_cons (x_call x_nil e2) x_nil)) e3) rfl) (y_rt (y_ret ?_))) (fun z => absurd z (by decide))))), ⟨⟨?_, ?_⟩, ?_, ?_⟩, (((g1.trans g2).trans g3).trans g4).more (by omega)⟩
    · simp [sCons, sSet, sIf, sRet, sRetN, sNil, sExpr, sAug, sPar2, sPar3, sBreak, sSub, eVar, eC, eOp, eUn, eB, eMt, eMt0, eTup, eLst, eIf, eOr, eAnd, eNot, eSl, ePart, eNoPart, eCall0, noX, aNil, aCons, aStar, qCmp, qTru, qAnd, qOr, qNot, qYes, ob, oo, oB, oS, gNm, gTp, gsNil, gsCons, f1, f2, m0, m1, m2, m3, LINE, ltD, cmpD, h2]
    · have es : (Tok.id s).sort = [119, 111, 114, 100] := by
        show (if memS (lowL s) tab_RESERVED = true then _ else _) = _
        rw [q1, memS_eq, if_pos (decide_eq_true (words_res.1 w hw))]
      rw [es]
      have et : (Tok.id s).told = D.str w := congrArg D.str q1
      rw [et]
      exact x_tup (x_cons x_c (x_cons (x_call (x_cons (x_var rfl) (x_cons (x_var rfl) x_nil)) e4) (x_cons (x_var rfl) x_nil)))
    · cases s with
      | nil =>
        rw [← q1] at w3
        exact absurd rfl w3
      | cons c s => exact ⟨c, s, rfl, (q2 c List.mem_cons_self).1⟩
    · intro c hc
      unfold idc
      rw [(q2 c hc).1]
      rfl
    · exact asc_of fun c hc => (q2 c hc).2
    · show s.length ≤ 20
      omega
  by_cases h4 : r < 4
  · obtain ⟨w, S2, e2, hw, hwl, hm, g2⟩ := name_drawn hp1 (by omega)
    have elow : lowD0 (.str w) S2 = some (.str (lowL w), S2) := d_low (asc_of hw.as) (by unfold BIG; omega)
    refine ⟨.id w, S2, fn_rt (y_cons st1 (y_cons (S1 := S1) (y_if (k := false) (S1 := S1) ?_ (fun z => absurd z (by decide)) (fun _ => rfl)) (y_rt (y_if (k := true) (S1 := S1) ?_ (fun _ => y_cons (S1 := S2) (y_set (d := .str w) (x_call (x_cons (x_var rfl) x_nil) e2) rfl) (y_rt (y_ret ?_))) (fun z => absurd z (by decide)))))), ⟨hw.id, asc_of hw.as, (by show w.length ≤ 20; omega)⟩, (g1.trans g2).more (by omega)⟩
    · simp [sCons, sSet, sIf, sRet, sRetN, sNil, sExpr, sAug, sPar2, sPar3, sBreak, sSub, eVar, eC, eOp, eUn, eB, eMt, eMt0, eTup, eLst, eIf, eOr, eAnd, eNot, eSl, ePart, eNoPart, eCall0, noX, aNil, aCons, aStar, qCmp, qTru, qAnd, qOr, qNot, qYes, ob, oo, oB, oS, gNm, gTp, gsNil, gsCons, f1, f2, m0, m1, m2, m3, LINE, ltD, cmpD, h2]
    · simp [sCons, sSet, sIf, sRet, sRetN, sNil, sExpr, sAug, sPar2, sPar3, sBreak, sSub, eVar, eC, eOp, eUn, eB, eMt, eMt0, eTup, eLst, eIf, eOr, eAnd, eNot, eSl, ePart, eNoPart, eCall0, noX, aNil, aCons, aStar, qCmp, qTru, qAnd, qOr, qNot, qYes, ob, oo, oB, oS, gNm, gTp, gsNil, gsCons, f1, f2, m0, m1, m2, m3, LINE, ltD, cmpD, h4]
    · have es : (Tok.id w).sort = [110, 97, 109, 101] := by
        show (if memS (lowL w) tab_RESERVED = true then _ else _) = _
        rw [hm]
        rfl
      rw [es]
      exact x_tup (x_cons x_c (x_cons (x_var rfl) (x_cons (x_mt0 (x_var rfl) rfl elow) x_nil)))
  by_cases h44 : r = 4
  · obtain ⟨w, v, S2, e2, hv, hwl, g2⟩ := number_drawn hp1 (by omega)
    have ha : asc w = true := asc_of fun c hc => by
      have := hv.fig c hc
      unfold isFig at this
      rw [Bool.and_eq_true, Nat.ble_eq, Nat.ble_eq] at this
      omega
    refine ⟨.num w v, S2, fn_rt (y_cons st1 (y_cons (S1 := S1) (y_if (k := false) (S1 := S1) ?_ (fun z => absurd z (by decide)) (fun _ => rfl)) (y_cons (S1 := S1) (y_if (k := false) (S1 := S1) ?_ (fun z => absurd z (by decide)) (fun _ => rfl)) (y_rt (y_if (k := true) (S1 := S1) ?_ (fun _ => y_rt (y_ret (x_op (x_tup (x_cons x_c x_nil)) (x_call (x_cons (x_var rfl) x_nil) e2) ?_))) (fun z => absurd z (by decide))))))), ⟨hv, ha, (by show w.length ≤ 20; omega)⟩, (g1.trans g2).more (by omega)⟩
    · simp [sCons, sSet, sIf, sRet, sRetN, sNil, sExpr, sAug, sPar2, sPar3, sBreak, sSub, eVar, eC, eOp, eUn, eB, eMt, eMt0, eTup, eLst, eIf, eOr, eAnd, eNot, eSl, ePart, eNoPart, eCall0, noX, aNil, aCons, aStar, qCmp, qTru, qAnd, qOr, qNot, qYes, ob, oo, oB, oS, gNm, gTp, gsNil, gsCons, f1, f2, m0, m1, m2, m3, LINE, ltD, cmpD, h2]
    · simp [sCons, sSet, sIf, sRet, sRetN, sNil, sExpr, sAug, sPar2, sPar3, sBreak, sSub, eVar, eC, eOp, eUn, eB, eMt, eMt0, eTup, eLst, eIf, eOr, eAnd, eNot, eSl, ePart, eNoPart, eCall0, noX, aNil, aCons, aStar, qCmp, qTru, qAnd, qOr, qNot, qYes, ob, oo, oB, oS, gNm, gTp, gsNil, gsCons, f1, f2, m0, m1, m2, m3, LINE, ltD, cmpD, h4]
    · simp [sCons, sSet, sIf, sRet, sRetN, sNil, sExpr, sAug, sPar2, sPar3, sBreak, sSub, eVar, eC, eOp, eUn, eB, eMt, eMt0, eTup, eLst, eIf, eOr, eAnd, eNot, eSl, ePart, eNoPart, eCall0, noX, aNil, aCons, aStar, qCmp, qTru, qAnd, qOr, qNot, qYes, ob, oo, oB, oS, gNm, gTp, gsNil, gsCons, f1, f2, m0, m1, m2, m3, LINE, eqD, scalD, h44]
    · simp [addD, LINE, Tok.sort, Tok.text, Tok.told]
  by_cases h5 : r = 5
  · obtain ⟨x, S2, e2, hx0, hxl, hxa, g2⟩ := string_drawn hp1 (by omega)
    have ha : ∀ c ∈ x, c < 128 := fun c hc => (alph_asc c (hxa c hc)).1
    refine ⟨.str x, S2, fn_rt (y_cons st1 (y_cons (S1 := S1) (y_if (k := false) (S1 := S1) ?_ (fun z => absurd z (by decide)) (fun _ => rfl)) (y_cons (S1 := S1) (y_if (k := false) (S1 := S1) ?_ (fun z => absurd z (by decide)) (fun _ => rfl)) (y_cons (S1 := S1) (y_if (k := false) (S1 := S1) ?_ (fun z => absurd z (by decide)) (fun _ => rfl)) (y_rt (y_if (k := true) (S1 := S1) ?_ (fun _ => y_rt (y_ret (x_op (x_tup (x_cons x_c x_nil)) (x_call (x_cons (x_var rfl) x_nil) e2) ?_))) (fun z => absurd z (by decide)))))))), ⟨⟨hx0, fun c hc => (alph_asc c (hxa c hc)).2, by omega⟩, ?_, ?_⟩, (g1.trans g2).more (by omega)⟩
    · simp [sCons, sSet, sIf, sRet, sRetN, sNil, sExpr, sAug, sPar2, sPar3, sBreak, sSub, eVar, eC, eOp, eUn, eB, eMt, eMt0, eTup, eLst, eIf, eOr, eAnd, eNot, eSl, ePart, eNoPart, eCall0, noX, aNil, aCons, aStar, qCmp, qTru, qAnd, qOr, qNot, qYes, ob, oo, oB, oS, gNm, gTp, gsNil, gsCons, f1, f2, m0, m1, m2, m3, LINE, ltD, cmpD, h2]
    · simp [sCons, sSet, sIf, sRet, sRetN, sNil, sExpr, sAug, sPar2, sPar3, sBreak, sSub, eVar, eC, eOp, eUn, eB, eMt, eMt0, eTup, eLst, eIf, eOr, eAnd, eNot, eSl, ePart, eNoPart, eCall0, noX, aNil, aCons, aStar, qCmp, qTru, qAnd, qOr, qNot, qYes, ob, oo, oB, oS, gNm, gTp, gsNil, gsCons, f1, f2, m0, m1, m2, m3, LINE, ltD, cmpD, h4]
    · simp [sCons, sSet, sIf, sRet, sRetN, sNil, sExpr, sAug, sPar2, sPar3, sBreak, sSub, eVar, eC, eOp, eUn, eB, eMt, eMt0, eTup, eLst, eIf, eOr, eAnd, eNot, eSl, ePart, eNoPart, eCall0, noX, aNil, aCons, aStar, qCmp, qTru, qAnd, qOr, qNot, qYes, ob, oo, oB, oS, gNm, gTp, gsNil, gsCons, f1, f2, m0, m1, m2, m3, LINE, eqD, scalD, h44]
    · simp [sCons, sSet, sIf, sRet, sRetN, sNil, sExpr, sAug, sPar2, sPar3, sBreak, sSub, eVar, eC, eOp, eUn, eB, eMt, eMt0, eTup, eLst, eIf, eOr, eAnd, eNot, eSl, ePart, eNoPart, eCall0, noX, aNil, aCons, aStar, qCmp, qTru, qAnd, qOr, qNot, qYes, ob, oo, oB, oS, gNm, gTp, gsNil, gsCons, f1, f2, m0, m1, m2, m3, LINE, eqD, scalD, h5]
    · simp [addD, LINE, Tok.sort, Tok.text, Tok.told]
    · show asc (39 :: (escL x ++ [39])) = true
      rw [asc_cons, asc_app, esc_asc ha]
      exact ⟨by decide, rfl⟩
    · have := esc_len x
      simp [Tok.text]
      omega
  · have g2 := Go.add p S1 [.lst (SIGW.map D.str)]
    have hp2 := g2.pot _ hp1
    have hl1 := pot_lt hp1
    obtain ⟨x, S3, e3, hx, g3⟩ := of_lst (o := S1.length) (xs := SIGW.map D.str) hp2 (by omega) (by rw [gA0]; rfl) (by omega) (by simpa using sigw.2.1) (by rw [List.length_map]; have := sigw.2.2; omega)
    obtain ⟨w, hw, rfl⟩ := List.mem_map.mp hx
    have hw2 := sigw.1 w hw
    obtain ⟨a1, a2⟩ := sgs_asc w hw2
    refine ⟨.sg w, S3, fn_rt (y_cons st1 (y_cons (S1 := S1) (y_if (k := false) (S1 := S1) ?_ (fun z => absurd z (by decide)) (fun _ => rfl)) (y_cons (S1 := S1) (y_if (k := false) (S1 := S1) ?_ (fun z => absurd z (by decide)) (fun _ => rfl)) (y_cons (S1 := S1) (y_if (k := false) (S1 := S1) ?_ (fun z => absurd z (by decide)) (fun _ => rfl)) (y_cons (S1 := S1) (y_if (k := false) (S1 := S1) ?_ (fun z => absurd z (by decide)) (fun _ => rfl)) (y_cons (S1 := S1 ++ [Cell.lst (SIGW.map D.str)]) (y_set (d := .obj S1.length) (x_mt x_c rfl (x_cons x_c x_nil) rfl) rfl) (y_cons (S1 := S3) (y_set (d := .str w) (x_call (x_cons (x_var rfl) (x_cons (x_var rfl) x_nil)) e3) rfl) (y_rt (y_ret (x_tup (x_cons x_c (x_cons (x_var rfl) (x_cons (x_var rfl) x_nil))))))))))))), ⟨hw2, a1, (by show w.length ≤ 20; omega)⟩, ((g1.trans g2).trans g3).more (by omega)⟩
    · simp [sCons, sSet, sIf, sRet, sRetN, sNil, sExpr, sAug, sPar2, sPar3, sBreak, sSub, eVar, eC, eOp, eUn, eB, eMt, eMt0, eTup, eLst, eIf, eOr, eAnd, eNot, eSl, ePart, eNoPart, eCall0, noX, aNil, aCons, aStar, qCmp, qTru, qAnd, qOr, qNot, qYes, ob, oo, oB, oS, gNm, gTp, gsNil, gsCons, f1, f2, m0, m1, m2, m3, LINE, ltD, cmpD, h2]
    · simp [sCons, sSet, sIf, sRet, sRetN, sNil, sExpr, sAug, sPar2, sPar3, sBreak, sSub, eVar, eC, eOp, eUn, eB, eMt, eMt0, eTup, eLst, eIf, eOr, eAnd, eNot, eSl, ePart, eNoPart, eCall0, noX, aNil, aCons, aStar, qCmp, qTru, qAnd, qOr, qNot, qYes, ob, oo, oB, oS, gNm, gTp, gsNil, gsCons, f1, f2, m0, m1, m2, m3, LINE, ltD, cmpD, h4]
    · simp [sCons, sSet, sIf, sRet, sRetN, sNil, sExpr, sAug, sPar2, sPar3, sBreak, sSub, eVar, eC, eOp, eUn, eB, eMt, eMt0, eTup, eLst, eIf, eOr, eAnd, eNot, eSl, ePart, eNoPart, eCall0, noX, aNil, aCons, aStar, qCmp, qTru, qAnd, qOr, qNot, qYes, ob, oo, oB, oS, gNm, gTp, gsNil, gsCons, f1, f2, m0, m1, m2, m3, LINE, eqD, scalD, h44]
    · simp [sCons, sSet, sIf, sRet, sRetN, sNil, sExpr, sAug, sPar2, sPar3, sBreak, sSub, eVar, eC, eOp, eUn, eB, eMt, eMt0, eTup, eLst, eIf, eOr, eAnd, eNot, eSl, ePart, eNoPart, eCall0, noX, aNil, aCons, aStar, qCmp, qTru, qAnd, qOr, qNot, qYes, ob, oo, oB, oS, gNm, gTp, gsNil, gsCons, f1, f2, m0, m1, m2, m3, LINE, eqD, scalD, h5]
end K00

/-! P16: comments and gaps drawn. -/
namespace K00
open Sh
theorem joinL_nil : ∀ ss : List (List Nat), TL.joinL [] ss = ss.flatten
  | [] => rfl
  | [p] => by simp [TL.joinL]
  | p :: q :: r => by
    have := joinL_nil (q :: r)
    show p ++ ([] ++ TL.joinL [] (q :: r)) = _
    rw [this]
    rfl
theorem pick2 {R : Nat → List Nat → Prop} : ∀ {ys : List D}, (∀ a y, ys[a]? = some y → ∃ d, y = .str d ∧ R a d) → ∃ ds : List (List Nat), ys = ds.map D.str ∧ ds.length = ys.length ∧ ∀ (a : Nat) (d : List Nat), ds[a]? = some d → R a d
  | [], _ => ⟨[], rfl, rfl, fun a d h => by simp at h⟩
  | y :: ys, h => by
    obtain ⟨d, e, hr⟩ := h 0 y rfl
    obtain ⟨ds, h1, h2, h3⟩ := pick2 (R := fun a d => R (a + 1) d) (ys := ys) fun a z hz => h (a + 1) z (by simpa using hz)
    refine ⟨d :: ds, by rw [e, h1]; rfl, by simp [h2], fun a z hz => ?_⟩
    cases a with
    | zero =>
      simp at hz
      rw [← hz]
      exact hr
    | succ a => exact h3 a z (by simpa using hz)
theorem d_joinS {S : Store} {o : Nat} {ss : List (List Nat)} (h : S[o]? = some (.lst (ss.map D.str))) (hl : lenSum ss ≤ 1000) : joinD0 (.str []) (.obj o) S = some (.str ss.flatten, S) := by
  show ((seqD (.obj o) S).bind strsD).bind _ = _
  rw [seq_at h]
  show (strsD (ss.map D.str)).bind _ = _
  rw [strsD_map]
  show (if lenSum ss + _ * 0 ≤ LINE then _ else _) = _
  rw [if_pos, joinL_nil]
  show lenSum ss + _ * 0 ≤ 16777216
  omega
def PCS : List (List Nat) := [[97], [39], [123], [40, 42], [42], [98, 101, 103, 105, 110], [32], [10], [59], [49, 50], [40], [42, 32, 41], [39, 39]]
/-- such a piece may stand in a comment -/
structure Pc (p : List Nat) : Prop where
  len : p.length ≤ 5
  as : asc p = true
  go : ∀ r cl : List Nat, (r ++ cl).head? ≠ some 41 → noE r cl → noE (p ++ r) cl ∧ (p ++ r ++ cl).head? ≠ some 41
theorem pcs : ∀ p ∈ PCS, Pc p := by
  intro p hp
  simp [PCS] at hp
  rcases hp with rfl | rfl | rfl | rfl | rfl | rfl | rfl | rfl | rfl | rfl | rfl | rfl | rfl
  all_goals
    refine ⟨by decide, by decide, fun r cl h1 h2 => ?_⟩
    simp [noE, h1, h2]
    try (cases r <;> simp_all)
theorem pcs_flat : ∀ {ss : List (List Nat)} {cl : List Nat}, (∀ s ∈ ss, Pc s) → cl.head? ≠ some 41 → noE ss.flatten cl ∧ (ss.flatten ++ cl).head? ≠ some 41
  | [], cl, _, h => ⟨trivial, h⟩
  | s :: ss, cl, hs, h => by
    obtain ⟨h1, h2⟩ := pcs_flat (ss := ss) (fun t ht => hs t (List.mem_cons_of_mem _ ht)) h
    exact (hs s List.mem_cons_self).go _ _ h2 h1
theorem rep_id {z cl : List Nat} : ∀ x : List Nat, noE x cl → PySem.StrLaws.replL [42, 41] z x = x
  | [], _ => by
    unfold PySem.StrLaws.replL
    rw [PySem.StrLaws.replS]
  | c :: x, h => by
    have ih := rep_id (z := z) x h.2.2
    unfold PySem.StrLaws.replL at ih ⊢
    rw [PySem.StrLaws.replS, if_neg, ih]
    intro e
    cases x with
    | nil => simp at e
    | cons d x =>
      simp at e
      exact h.2.1 ⟨e.1, by rw [e.2]; rfl⟩
theorem flat_fac : ∀ {ss : List (List Nat)}, (∀ s ∈ ss, Pc s) → asc ss.flatten = true ∧ ss.flatten.length ≤ 5 * ss.length ∧ lenSum ss ≤ 5 * ss.length
  | [], _ => ⟨rfl, Nat.le_refl _, Nat.le_refl _⟩
  | s :: ss, h => by
    obtain ⟨h1, h2, h3⟩ := flat_fac (ss := ss) fun t ht => h t (List.mem_cons_of_mem _ ht)
    have hs := h s List.mem_cons_self
    refine ⟨?_, ?_, ?_⟩
    · rw [List.flatten_cons, asc_app, hs.as, h1]
      rfl
    · rw [List.flatten_cons, List.length_append, List.length_cons]
      have := hs.len
      omega
    · show s.length + lenSum ss ≤ _
      rw [List.length_cons]
      have := hs.len
      omega
theorem lc_start {n : Nat} {iw : EM Wk} {g : GM} {q : EM Bool} {e : EM D} {own : List Nat} {ev : Ev} {S S1 : Store} {w : Wk} (h : iw ev S = .ok w S1) : eLc n iw g q e own ev S = lcLoop w g q e (wipeE ev own) S1.length n 0 (S1 ++ [.lst []]) := by
  unfold eLc
  rw [h]
  rfl
theorem comment_drawn {S : Store} {p n : Nat} (hp : Pot S p n) (hn : n + 20 ≤ 1000000) : ∃ op inner cl S', f__law_comment [.obj p] S = .ok (.str (op ++ (inner ++ cl))) S' ∧ (Seg.cm op inner cl).ok ∧ asc (op ++ (inner ++ cl)) = true ∧ (op ++ (inner ++ cl)).length ≤ 30 ∧ Go p 8 S S' := by
  have hl := pot_lt hp
  have g0 := Go.add p S [.lst (PCS.map D.str)]
  have hp0 := g0.pot _ hp
  obtain ⟨r, S1, e1, r0, r1, g1⟩ := take_ok (upto := 5) hp0 (by omega) (by omega) (by omega)
  have hp1 := g1.pot _ hp0
  obtain ⟨m, rfl⟩ : ∃ m : Nat, r = (m : Int) := ⟨r.toNat, by omega⟩
  have hS1 : S1[S.length]? = some (.lst (PCS.map D.str)) := by
    rw [g1.keep _ (by omega) (by simp), gA0]
    rfl
  have hS1l : S.length < S1.length := (List.getElem?_eq_some_iff.mp hS1).1
  have loop := lc_go (p := p) (j := 1) (v := 3) (m := m) (N := 1000000) (w := .rng 0 m) (ev := [some (.obj p), some (.obj S.length), none, none]) (S0 := S1)
    (e := eCall0 f__law_of (aCons (eVar 0) (aCons (eVar 1) aNil)))
    (fun i => .int (0 + (i : Nat))) (fun i y => ∃ d, y = .str d ∧ d ∈ PCS) ?_ ?_ ?_ (by omega) hp1 (by omega) m 0 FUEL (S1 ++ [.lst []]) [] (by omega) (by unfold FUEL; omega) (Go.add p S1 _) (by simp) rfl (by simp)
  · obtain ⟨ys, S2, h1, h2, h3, h4, h5⟩ := loop
    obtain ⟨ss, rfl, g2, g3⟩ := pick2 (R := fun i d => d ∈ PCS) fun a y hy => h5 a y hy
    have hsl : ss.length = m := g2.trans h4
    have hss : ∀ s ∈ ss, Pc s := fun s hs => by
      obtain ⟨a, ha, e⟩ := List.mem_iff_getElem.mp hs
      exact pcs s (g3 a s (by rw [List.getElem?_eq_getElem ha, e]))
    obtain ⟨f1, f2, f3⟩ := flat_fac hss
    have hp2 := h2.pot _ hp1
    have hl2 := pot_lt hp2
    have g4 := Go.add p S2 [.lst [.str [123], .str [40, 42]]]
    have hp3 := g4.pot _ hp2
    obtain ⟨x, S4, e4, hx, g5⟩ := of_lst (o := S2.length) (xs := [.str [123], .str [40, 42]]) hp3 (by omega) (by rw [gA0]; rfl) (by omega) (by simp) (by simp)
    have hp4 := g5.pot _ hp3
    have hl4 := pot_lt hp4
    have g6 := Go.add p S4 [.lst [.str [125], .str [42, 41]]]
    have hp5 := g6.pot _ hp4
    obtain ⟨y, S6, e6, hy, g7⟩ := of_lst (o := S4.length) (xs := [.str [125], .str [42, 41]]) hp5 (by omega) (by rw [gA0]; rfl) (by omega) (by simp) (by simp)
    obtain ⟨op, rfl, hop⟩ : ∃ op : List Nat, x = .str op ∧ (op = [123] ∨ op = [40, 42]) := by
      have : x = .str [123] ∨ x = .str [40, 42] := by simpa using hx
      rcases this with h | h
      · exact ⟨_, h, .inl rfl⟩
      · exact ⟨_, h, .inr rfl⟩
    obtain ⟨cl, rfl, hcl⟩ : ∃ cl : List Nat, y = .str cl ∧ (cl = [125] ∨ cl = [42, 41]) := by
      have : y = .str [125] ∨ y = .str [42, 41] := by simpa using hy
      rcases this with h | h
      · exact ⟨_, h, .inl rfl⟩
      · exact ⟨_, h, .inr rfl⟩
    have ho : asc op = true ∧ op.length ≤ 2 := by rcases hop with rfl | rfl <;> exact ⟨rfl, by decide⟩
    have hc : asc cl = true ∧ cl.length ≤ 2 ∧ cl.head? ≠ some 41 := by rcases hcl with rfl | rfl <;> exact ⟨rfl, by decide, by decide⟩
    have hno := (pcs_flat hss hc.2.2).1
    refine ⟨op, ss.flatten, cl, S6, fn_rt (y_cons (S1 := S ++ [Cell.lst (PCS.map D.str)]) (y_set (d := .obj S.length) (x_lst (x_cons x_c (x_cons x_c (x_cons x_c (x_cons x_c (x_cons x_c (x_cons x_c (x_cons x_c (x_cons x_c (x_cons x_c (x_cons x_c (x_cons x_c (x_cons x_c (x_cons x_c x_nil)))))))))))))) rfl) (y_cons (S1 := S2) (y_set (d := .str ss.flatten) (x_mt x_c rfl (x_cons (x := .obj S1.length) (S1 := S2) ?_ x_nil) (d_joinS h3 (by omega))) rfl) (y_cons (S1 := S2) (y_set (d := .str ss.flatten) ?_ rfl) (y_rt (y_ret (x_op (S2 := S6) (x_op (S1 := S4) (d := .str (op ++ ss.flatten)) (x_call (x_cons (x_var rfl) (x_cons (x := .obj S2.length) (S1 := S2 ++ [Cell.lst [.str [123], .str [40, 42]]]) (x_lst (x_cons x_c (x_cons x_c x_nil))) x_nil)) e4) (x_var rfl) ?_) (x_call (x_cons (x_var rfl) (x_cons (x := .obj S4.length) (S1 := S4 ++ [Cell.lst [.str [125], .str [42, 41]]]) (x_lst (x_cons x_c (x_cons x_c x_nil))) x_nil)) e6) ?_)))))), ⟨hop, hcl, hno⟩, ?_, ?_, (((((g0.trans g1).trans h2).trans g4).trans g5).trans (g6.trans g7)).more (by omega)⟩
    · have it : iRng1 (aCons (eCall0 f__law_take (aCons (eVar 0) (aCons (eC (.int 5)) aNil))) aNil) [some (.obj p), some (.obj S.length), none, none] (S ++ [Cell.lst (PCS.map D.str)]) = .ok (.rng 0 m) S1 := rng1_ok (by omega) (x_cons (x_call (x_cons (x_var rfl) (x_cons x_c x_nil)) e1) x_nil)
      exact (lc_start it).trans h1
    · have h16 : ss.flatten.length + (ss.flatten.length + 1) * 3 ≤ 16777216 := by omega
      generalize ss.flatten = xx at h16 hno ⊢
      simp [sCons, sSet, sIf, sRet, sRetN, sNil, sExpr, sAug, sPar2, sPar3, sBreak, sSub, eVar, eC, eOp, eUn, eB, eMt, eMt0, eTup, eLst, eIf, eOr, eAnd, eNot, eSl, ePart, eNoPart, eCall0, noX, aNil, aCons, aStar, qCmp, qTru, qAnd, qOr, qNot, qYes, ob, oo, oB, oS, gNm, gTp, gsNil, gsCons, f1, f2, m0, m1, m2, m3, LINE, eRep, h16, rep_id (z := [42, 32, 41]) _ hno]
    · have : op.length + ss.flatten.length ≤ 16777216 := by omega
      show (if op.length + ss.flatten.length ≤ LINE then _ else _) = _
      rw [if_pos this]
    · have : (op ++ ss.flatten).length + cl.length ≤ 16777216 := by rw [List.length_append]; omega
      show (if (op ++ ss.flatten).length + cl.length ≤ LINE then _ else _) = _
      rw [if_pos this, List.append_assoc]
    · rw [asc_app, asc_app, ho.1, f1, hc.1]
      rfl
    · rw [List.length_append, List.length_append]
      omega
  · intro T i hi
    unfold wkAt
    simp [hi]
  · intro T
    unfold wkAt
    simp
  · intro i T k hi hT hk hkeep
    obtain ⟨x, S', e, hx, g⟩ := of_lst (o := S.length) (xs := PCS.map D.str) hT hk (by rw [hkeep _ (by omega) hS1l]; exact hS1) (by omega) (by decide) (by decide)
    obtain ⟨d, hd, rfl⟩ := List.mem_map.mp hx
    exact ⟨.str d, S', x_call (x_cons (x_var rfl) (x_cons (x_var rfl) x_nil)) e, g, d, rfl, hd⟩
end K00

/-! P17: what may touch; gaps drawn. -/
namespace K00
open Sh
theorem cut_to {α : Type} {s : List α} {m : Nat} : cutL s none (some (m : Int)) = s.take m := by
  unfold cutL
  rw [HT.sIx_none, HT.sIx_nat, List.drop_zero, Nat.sub_zero]
  by_cases h : m ≤ s.length
  · rw [Nat.min_eq_left h]
  · rw [Nat.min_eq_right (by omega), List.take_length, List.take_of_length_le (by omega)]
theorem cut_lastN {α : Type} {s : List α} (h : 0 < s.length) : cutL s (some (-1 : Int)) none = s.drop (s.length - 1) := by
  unfold cutL
  have e : HT.sIx s.length 0 (some (-1 : Int)) = s.length - 1 := by
    show (if (-1 : Int) < 0 then ((-1 : Int) + (s.length : Int)).toNat else min (-1 : Int).toNat s.length) = _
    rw [if_pos (by omega)]
    omega
  rw [e, HT.sIx_none, List.take_of_length_le (by rw [List.length_drop]; exact Nat.le_refl _)]
theorem d_is1 {q : Nat → Bool} {c : Nat} {S : Store} (h : c < 128) : isD0 q (.str [c]) S = some (.bl (q c), S) := by
  show (if asc [c] = true then some (D.bl (!([c] : List Nat).isEmpty && [c].all q), S) else none) = _
  rw [if_pos (asc_cons.mpr ⟨h, rfl⟩)]
  simp
theorem sg_last : ∀ w ∈ SGS, leqN (w.drop (w.length - 1)) [39] = false ∧ w ≠ [] ∧ (∀ c, w.head? = some c → isLet c = false ∧ isFig c = false) := by decide +kernel
theorem inL {S : Store} {o : Nat} {w : List Nat} {ss : List (List Nat)} (h : S[o]? = some (.lst (ss.map D.str))) : notInD (.str w) (.obj o) S = some (.bl (!memS w ss), S) := by
  show (inD1 _ _ _).map _ = _
  show (((seqD (.obj o) S).bind (inFl (.str w))).map fun b => (D.bl (!b), S)) = _
  rw [seq_at h]
  show ((inFl (.str w) (ss.map D.str)).map fun b => (D.bl (!b), S)) = _
  rw [inFl_strs]
  rfl
theorem head_split {t : Tok} (ht : TokD t) : ∃ h w, t.text = h :: w ∧ h < 128 := by
  have ha := ht.as
  have hok := ht.ok
  cases t with
  | id u =>
    obtain ⟨c, r, e, _⟩ := (show IdW u from hok).ne
    have ha : asc u = true := ha
    rw [e] at ha
    exact ⟨c, r, e, (asc_cons.mp ha).1⟩
  | num u v =>
    have hne := (show NumV u v from hok).ne
    cases u with
    | nil => exact absurd rfl hne
    | cons c r => exact ⟨c, r, rfl, (asc_cons.mp ha).1⟩
  | str x => exact ⟨39, _, rfl, by decide⟩
  | sg u =>
    obtain ⟨c, r, e, h, _⟩ := sg_head (show u ∈ SGS from hok)
    exact ⟨c, r, e, h⟩
theorem may_ok {t : Tok} {c : Nat} {r : List Nat} (S : Store) (ht : TokD t) (hc : c < 128) (hr : (c :: r).length ≤ 1000) : ∃ b E, f__law_may_touch [.str t.text, .str (c :: r)] S = .ok (.bl b) (S ++ E) ∧ (b = true → t.fol c) := by
  obtain ⟨h, w, e, h128⟩ := head_split ht
  have htl := ht.len
  rw [e] at htl
  have n1 : leqN (h :: w) [] = false := rfl
  have n2 : leqN (c :: r) [] = false := rfl
  have l1 : (h :: w).length ≤ 16777216 := by omega
  have l2 : (c :: r).length ≤ 16777216 := by omega
  have c1 : cutL (h :: w) none (some (1 : Int)) = [h] := cut_to (m := 1)
  have c2 : cutL (c :: r) none (some (1 : Int)) = [c] := cut_to (m := 1)
  have c3 : cutL (h :: w) (some (-1 : Int)) none = (h :: w).drop ((h :: w).length - 1) := cut_lastN (by simp)
  have key : ∀ (b : Bool) (E : Store), sCons (sIf (qTru (eMt0 "str" isalphaD (eSl slD (eVar 0) eNoPart (ePart (eC (.int 1)))))) (sCons (sRet (eNot (eMt0 "str" isalnumD (eVar 3)))) sNil) sNil) (sCons (sIf (qTru (eMt0 "str" isdigitD (eSl slD (eVar 0) eNoPart (ePart (eC (.int 1)))))) (sCons (sRet (eNot (eMt0 "str" isdigitD (eVar 3)))) sNil) sNil) (sCons (sIf (qCmp eqD (eVar 2) (eC (.str [39]))) (sCons (sRet (eOp neD (eVar 3) (eC (.str [39])))) sNil) sNil) (sCons (sRet (eOp notInD (eOp addD (eVar 0) (eVar 3)) (eLst (aCons (eC (.str [60, 61])) (aCons (eC (.str [60, 62])) (aCons (eC (.str [62, 61])) (aCons (eC (.str [46, 46])) (aCons (eC (.str [58, 61])) (aCons (eC (.str [40, 42])) aNil))))))))) sNil)))
      [some (.str (h :: w)), some (.str (c :: r)), some (.str ((h :: w).drop ((h :: w).length - 1))), some (.str [c])] S = .rt (.bl b) (S ++ E) → f__law_may_touch [.str (h :: w), .str (c :: r)] S = .ok (.bl b) (S ++ E) := by
    intro b E hk
    refine fn_rt (y_cons (S1 := S) (y_if (k := false) (S1 := S) ?_ (fun z => absurd z (by decide)) (fun _ => rfl)) (y_cons (S1 := S) (e1 := [some (.str (h :: w)), some (.str (c :: r)), some (.str ((h :: w).drop ((h :: w).length - 1))), some (.str [c])]) ?_ hk))
    · simp [sCons, sSet, sIf, sRet, sRetN, sNil, sExpr, sAug, sPar2, sPar3, sBreak, sSub, eVar, eC, eOp, eUn, eB, eMt, eMt0, eTup, eLst, eIf, eOr, eAnd, eNot, eSl, ePart, eNoPart, eCall0, noX, aNil, aCons, aStar, qCmp, qTru, qAnd, qOr, qNot, qYes, ob, oo, oB, oS, gNm, gTp, gsNil, gsCons, f1, f2, m0, m1, m2, m3, LINE, eqD, scalD, n1, n2]
    · have k1 : slD (.str (h :: w)) (some (-1)) none S = some (.str ((h :: w).drop ((h :: w).length - 1)), S) := by
        show (if (h :: w).length ≤ LINE then _ else _) = _
        rw [if_pos l1, c3]
      have k2 : slD (.str (c :: r)) none (some 1) S = some (.str [c], S) := by
        show (if (c :: r).length ≤ LINE then _ else _) = _
        rw [if_pos l2, c2]
      have ea : aCons (eSl slD (eVar 0) (ePart (eUn negD (eC (.int 1)))) eNoPart) (aCons (eSl slD (eVar 1) eNoPart (ePart (eC (.int 1)))) aNil) [some (.str (h :: w)), some (.str (c :: r)), none, none] S = .ok [.str ((h :: w).drop ((h :: w).length - 1)), .str [c]] S :=
        x_cons (x_sl (x_var rfl) (x_part (x_un x_c rfl)) x_nopart k1) (x_cons (x_sl (x_var rfl) x_nopart (x_part x_c) k2) x_nil)
      show sPar2 2 3 _ [some (.str (h :: w)), some (.str (c :: r)), none, none] S = _
      unfold sPar2
      rw [ea]
      rfl
  have k3 : slD (.str (h :: w)) none (some 1) S = some (.str [h], S) := by
    show (if (h :: w).length ≤ LINE then _ else _) = _
    rw [if_pos l1, c1]
  rw [e]
  generalize hlast : (h :: w).drop ((h :: w).length - 1) = last at *
  have hok := ht.ok
  cases t with
  | id u =>
    have eu : u = h :: w := e
    have hlet : isLet h = true := by
      obtain ⟨c', r', e', hl⟩ := (show IdW u from hok).ne
      rw [eu] at e'
      cases e'
      exact hl
    refine ⟨!idc c, [], key _ _ ?_, fun z => by show idc c = false; simpa using z⟩
    rw [List.append_nil]
    have i1 : isD0 isLet (.str [h]) S = some (.bl true, S) := by rw [d_is1 h128, hlet]
    have i2 : isD0 (fun c => isLet c || isFig c) (.str [c]) S = some (.bl (idc c), S) := d_is1 hc
    simp [sCons, sSet, sIf, sRet, sRetN, sNil, sExpr, sAug, sPar2, sPar3, sBreak, sSub, eVar, eC, eOp, eUn, eB, eMt, eMt0, eTup, eLst, eIf, eOr, eAnd, eNot, eSl, ePart, eNoPart, eCall0, noX, aNil, aCons, aStar, qCmp, qTru, qAnd, qOr, qNot, qYes, ob, oo, oB, oS, gNm, gTp, gsNil, gsCons, f1, f2, m0, m1, m2, m3, LINE, k3, isTy, i1, i2, truD]
  | num u v =>
    have eu : u = h :: w := e
    have hf : isFig h = true := (show NumV u v from hok).fig h (by rw [eu]; exact List.mem_cons_self)
    have nl : ∀ c, c < 128 → isFig c = true → isLet c = false := by decide +kernel
    refine ⟨!isFig c, [], key _ _ ?_, fun z => by show isFig c = false; simpa using z⟩
    rw [List.append_nil]
    have i1 : isD0 isLet (.str [h]) S = some (.bl false, S) := by rw [d_is1 h128, nl h h128 hf]
    have i2 : isD0 isFig (.str [h]) S = some (.bl true, S) := by rw [d_is1 h128, hf]
    have i3 : isD0 isFig (.str [c]) S = some (.bl (isFig c), S) := d_is1 hc
    simp [sCons, sSet, sIf, sRet, sRetN, sNil, sExpr, sAug, sPar2, sPar3, sBreak, sSub, eVar, eC, eOp, eUn, eB, eMt, eMt0, eTup, eLst, eIf, eOr, eAnd, eNot, eSl, ePart, eNoPart, eCall0, noX, aNil, aCons, aStar, qCmp, qTru, qAnd, qOr, qNot, qYes, ob, oo, oB, oS, gNm, gTp, gsNil, gsCons, f1, f2, m0, m1, m2, m3, LINE, k3, isTy, i1, i2, i3, truD]
  | str x =>
    have ex : h :: w = 39 :: (escL x ++ [39]) := e.symm
    have h39 : h = 39 := by cases ex; rfl
    have hl39 : last = [39] := by
      rw [← hlast, ex]
      simp
    subst h39 hl39
    refine ⟨!leqN [c] [39], [], key _ _ ?_, fun z => ?_⟩
    · rw [List.append_nil]
      have i1 : isD0 isLet (.str [39]) S = some (.bl false, S) := d_is1 (by decide)
      have i2 : isD0 isFig (.str [39]) S = some (.bl false, S) := d_is1 (by decide)
      have e39 : leqN [39] [39] = true := rfl
      simp [sCons, sSet, sIf, sRet, sRetN, sNil, sExpr, sAug, sPar2, sPar3, sBreak, sSub, eVar, eC, eOp, eUn, eB, eMt, eMt0, eTup, eLst, eIf, eOr, eAnd, eNot, eSl, ePart, eNoPart, eCall0, noX, aNil, aCons, aStar, qCmp, qTru, qAnd, qOr, qNot, qYes, ob, oo, oB, oS, gNm, gTp, gsNil, gsCons, f1, f2, m0, m1, m2, m3, LINE, k3, isTy, i1, i2, truD, eqD, neD, scalD, e39]
    · rw [one_eq] at z
      show c ≠ 39
      simpa using z
  | sg u =>
    have eu : u = h :: w := e
    have hu : u ∈ SGS := hok
    obtain ⟨s1, s2, s3⟩ := sg_last u hu
    rw [eu, hlast] at s1
    obtain ⟨s4, s5⟩ := s3 h (by rw [eu]; rfl)
    refine ⟨!memS (h :: w ++ [c]) TWOS, [.lst (TWOS.map D.str)], key _ _ ?_, fun z => ?_⟩
    · have i1 : isD0 isLet (.str [h]) S = some (.bl false, S) := by rw [d_is1 h128, s4]
      have i2 : isD0 isFig (.str [h]) S = some (.bl false, S) := by rw [d_is1 h128, s5]
      refine y_cons (S1 := S) (y_if (k := false) (S1 := S) ?_ (fun z => absurd z (by decide)) (fun _ => rfl)) (y_cons (S1 := S) (y_if (k := false) (S1 := S) ?_ (fun z => absurd z (by decide)) (fun _ => rfl)) (y_cons (S1 := S) (y_if (k := false) (S1 := S) ?_ (fun z => absurd z (by decide)) (fun _ => rfl)) (y_rt (y_ret (x_op (S1 := S) (x := .str (h :: w ++ [c])) (S2 := S ++ [Cell.lst (TWOS.map D.str)]) (x_op (x_var rfl) (x_var rfl) ?_) (x_lst (x_cons x_c (x_cons x_c (x_cons x_c (x_cons x_c (x_cons x_c (x_cons x_c x_nil)))))) ) (inL (by rw [gA0]; rfl)))))))
      · simp [sCons, sSet, sIf, sRet, sRetN, sNil, sExpr, sAug, sPar2, sPar3, sBreak, sSub, eVar, eC, eOp, eUn, eB, eMt, eMt0, eTup, eLst, eIf, eOr, eAnd, eNot, eSl, ePart, eNoPart, eCall0, noX, aNil, aCons, aStar, qCmp, qTru, qAnd, qOr, qNot, qYes, ob, oo, oB, oS, gNm, gTp, gsNil, gsCons, f1, f2, m0, m1, m2, m3, LINE, k3, isTy, i1, truD]
      · simp [sCons, sSet, sIf, sRet, sRetN, sNil, sExpr, sAug, sPar2, sPar3, sBreak, sSub, eVar, eC, eOp, eUn, eB, eMt, eMt0, eTup, eLst, eIf, eOr, eAnd, eNot, eSl, ePart, eNoPart, eCall0, noX, aNil, aCons, aStar, qCmp, qTru, qAnd, qOr, qNot, qYes, ob, oo, oB, oS, gNm, gTp, gsNil, gsCons, f1, f2, m0, m1, m2, m3, LINE, k3, isTy, i2, truD]
      · simp [sCons, sSet, sIf, sRet, sRetN, sNil, sExpr, sAug, sPar2, sPar3, sBreak, sSub, eVar, eC, eOp, eUn, eB, eMt, eMt0, eTup, eLst, eIf, eOr, eAnd, eNot, eSl, ePart, eNoPart, eCall0, noX, aNil, aCons, aStar, qCmp, qTru, qAnd, qOr, qNot, qYes, ob, oo, oB, oS, gNm, gTp, gsNil, gsCons, f1, f2, m0, m1, m2, m3, LINE, eqD, scalD, s1]
      · have : (h :: w).length + 1 ≤ 16777216 := by omega
        show (if (h :: w).length + 1 ≤ LINE then _ else _) = _
        rw [if_pos this]
    · rw [memS_eq] at z
      show u ++ [c] ∉ TWOS
      rw [eu]
      simpa using z
theorem may_none (S : Store) (x : List Nat) : f__law_may_touch [.str [], .str x] S = .ok (.bl true) S := by
  refine fn_rt (y_rt (y_if (k := true) (S1 := S) ?_ (fun _ => y_rt (y_ret x_c)) (fun z => absurd z (by decide))))
  have n1 : leqN [] [] = true := rfl
  simp [sCons, sSet, sIf, sRet, sRetN, sNil, sExpr, sAug, sPar2, sPar3, sBreak, sSub, eVar, eC, eOp, eUn, eB, eMt, eMt0, eTup, eLst, eIf, eOr, eAnd, eNot, eSl, ePart, eNoPart, eCall0, noX, aNil, aCons, aStar, qCmp, qTru, qAnd, qOr, qNot, qYes, ob, oo, oB, oS, gNm, gTp, gsNil, gsCons, f1, f2, m0, m1, m2, m3, LINE, eqD, scalD, n1]
end K00

/-! P18: gaps drawn. -/
namespace K00
open Sh
/-- blanks and comments -/
structure Gp (g : List Seg) : Prop where
  wf : ∀ r, wf r → wf (g ++ r)
  as : asc (txt g) = true
  len : (txt g).length ≤ 40
  num : g.length ≤ 5
  due : ∀ p, due p g = []
  hd : ∀ c, (txt g).head? = some c → c = 32 ∨ c = 10 ∨ c = 123 ∨ c = 40
  ne : g ≠ [] → txt g ≠ []
theorem gp_nil : Gp [] := ⟨fun r h => h, rfl, by decide, by decide, fun p => rfl, fun c h => (by cases h), fun h => absurd rfl h⟩
theorem gp_bl {c : Nat} {g : List Seg} (hc : c = 32 ∨ c = 10) (h : Gp g) (hl : (txt g).length ≤ 39) (hn : g.length ≤ 4) : Gp (.bl c :: g) := by
  have ca : c < 128 := by rcases hc with rfl | rfl <;> decide
  refine ⟨fun r w => ⟨hc, fun _ _ => trivial, h.wf r w⟩, asc_cons.mpr ⟨ca, h.as⟩, ?_, ?_, fun p => h.due _, fun d hd => ?_, fun _ => List.cons_ne_nil _ _⟩
  · show (txt g).length + 1 ≤ 40
    omega
  · show g.length + 1 ≤ 5
    omega
  · have : some c = some d := hd
    rw [← Option.some.inj this]
    rcases hc with rfl | rfl
    · exact .inl rfl
    · exact .inr (.inl rfl)
theorem gp_cm {o i c : List Nat} {g : List Seg} (ok : (Seg.cm o i c).ok) (ha : asc (o ++ (i ++ c)) = true) (hl : (o ++ (i ++ c)).length ≤ 30) (h : Gp g) (hgl : (txt g).length ≤ 10) (hn : g.length ≤ 4) : Gp (.cm o i c :: g) := by
  refine ⟨fun r w => ⟨ok, fun _ _ => trivial, h.wf r w⟩, ?_, ?_, ?_, fun p => h.due _, fun d hd => ?_, fun _ => ?_⟩
  · show asc ((o ++ (i ++ c)) ++ txt g) = true
    rw [asc_app, ha, h.as]
    rfl
  · show ((o ++ (i ++ c)) ++ txt g).length ≤ 40
    rw [List.length_append]
    omega
  · show g.length + 1 ≤ 5
    omega
  · obtain ⟨v1, _⟩ := ok
    rcases v1 with rfl | rfl
    · have : some 123 = some d := hd
      rw [← Option.some.inj this]
      exact .inr (.inr (.inl rfl))
    · have : some 40 = some d := hd
      rw [← Option.some.inj this]
      exact .inr (.inr (.inr rfl))
  · obtain ⟨v1, _⟩ := ok
    rcases v1 with rfl | rfl <;> exact List.cons_ne_nil _ _
theorem gp_fol (t : Tok) {c : Nat} (h : c = 32 ∨ c = 10 ∨ c = 123 ∨ c = 40) : t.fol c := by
  have no : ∀ (w : List Nat), w ++ [c] ∉ TWOS := by
    intro w hm
    have hl : (w ++ [c]).getLast? = some c := by simp
    have : ∀ u ∈ TWOS, u.getLast? ≠ some 32 ∧ u.getLast? ≠ some 10 ∧ u.getLast? ≠ some 123 ∧ u.getLast? ≠ some 40 := by decide
    have z := this _ hm
    rw [hl] at z
    rcases h with rfl | rfl | rfl | rfl
    · exact z.1 rfl
    · exact z.2.1 rfl
    · exact z.2.2.1 rfl
    · exact z.2.2.2 rfl
  cases t with
  | id w =>
    show idc c = false
    rcases h with rfl | rfl | rfl | rfl <;> decide
  | num w v =>
    show isFig c = false
    rcases h with rfl | rfl | rfl | rfl <;> decide
  | str x =>
    show c ≠ 39
    rcases h with rfl | rfl | rfl | rfl <;> decide
  | sg w => exact no w
theorem gap_drawn {S : Store} {p n : Nat} {one other : List Nat} {Tch : Prop} (hp : Pot S p n) (hn : n + 50 ≤ 1000000) (hm : ∃ b E, f__law_may_touch [.str one, .str other] S = .ok (.bl b) (S ++ E) ∧ (b = true → Tch)) :
    ∃ g S', f__law_gap [.obj p, .str one, .str other] S = .ok (.str (txt g)) S' ∧ Gp g ∧ (g = [] → Tch) ∧ Go p 20 S S' := by
  obtain ⟨b, E, e0, hb⟩ := hm
  have g0 := Go.add p S E
  have hp0 := g0.pot _ hp
  have em : eCall0 f__law_may_touch (aCons (eVar 1) (aCons (eVar 2) aNil)) [some (.obj p), some (.str one), some (.str other), none] S = .ok (.bl b) (S ++ E) := x_call (x_cons (x_var rfl) (x_cons (x_var rfl) x_nil)) e0
  -- the gap that is not empty
  have full : ∀ (S1 : Store) (k : Nat), Go p k S S1 → k ≤ 1 → sIf (qAnd (qTru (eCall0 f__law_may_touch (aCons (eVar 1) (aCons (eVar 2) aNil)))) (qCmp eqD (eCall0 f__law_take (aCons (eVar 0) (aCons (eC (.int 2)) aNil))) (eC (.int 0)))) (sCons (sRet (eC (.str []))) sNil) sNil [some (.obj p), some (.str one), some (.str other), none] S = .nx [some (.obj p), some (.str one), some (.str other), none] S1 →
      ∃ g S', f__law_gap [.obj p, .str one, .str other] S = .ok (.str (txt g)) S' ∧ Gp g ∧ (g = [] → Tch) ∧ Go p 20 S S' := by
    intro S1 k g1 hk hif
    have hp1 := g1.pot _ hp
    obtain ⟨o1, i1, c1, S2, e2, k2, a2, l2, g2⟩ := comment_drawn hp1 (by omega)
    have hp2 := g2.pot _ hp1
    obtain ⟨o2, i2, c2, S3, e3, k3, a3, l3, g3⟩ := comment_drawn hp2 (by omega)
    have hp3 := g3.pot _ hp2
    have hl3 := pot_lt hp3
    let xs : List D := [.str [32], .str [10], .str [32, 32], .str [32, 10, 32], .str [10, 10], .str (o1 ++ (i1 ++ c1)), .str ([32] ++ (o2 ++ (i2 ++ c2)) ++ [32])]
    have g4 := Go.add p S3 [.lst xs]
    have hp4 := g4.pot _ hp3
    obtain ⟨x, S5, e5, hx, g5⟩ := of_lst (o := S3.length) (xs := xs) hp4 (by omega) (by rw [gA0]; rfl) (by omega) (by simp [xs]) (by simp [xs])
    have hg : ∃ g, x = .str (txt g) ∧ Gp g ∧ g ≠ [] := by
      have hx2 : x = .str [32] ∨ x = .str [10] ∨ x = .str [32, 32] ∨ x = .str [32, 10, 32] ∨ x = .str [10, 10] ∨ x = .str (o1 ++ (i1 ++ c1)) ∨ x = .str ([32] ++ (o2 ++ (i2 ++ c2)) ++ [32]) := by simpa [xs] using hx
      have b32 : Gp [.bl 32] := gp_bl (.inl rfl) gp_nil (by decide) (by decide)
      have b10 : Gp [.bl 10] := gp_bl (.inr rfl) gp_nil (by decide) (by decide)
      rcases hx2 with h | h | h | h | h | h | h
      · exact ⟨[.bl 32], h, b32, by simp⟩
      · exact ⟨[.bl 10], h, b10, by simp⟩
      · exact ⟨[.bl 32, .bl 32], h, gp_bl (.inl rfl) b32 (by decide) (by decide), by simp⟩
      · exact ⟨[.bl 32, .bl 10, .bl 32], h, gp_bl (.inl rfl) (gp_bl (.inr rfl) b32 (by decide) (by decide)) (by decide) (by decide), by simp⟩
      · exact ⟨[.bl 10, .bl 10], h, gp_bl (.inr rfl) b10 (by decide) (by decide), by simp⟩
      · refine ⟨[.cm o1 i1 c1], ?_, gp_cm k2 a2 l2 gp_nil (by decide) (by decide), by simp⟩
        rw [h]
        show _ = D.str ((o1 ++ (i1 ++ c1)) ++ [])
        rw [List.append_nil]
      · have t32 : txt [.bl 32] = [32] := rfl
        have gc : Gp [.cm o2 i2 c2, .bl 32] := gp_cm k3 a3 l3 b32 (by decide) (by decide)
        refine ⟨[.bl 32, .cm o2 i2 c2, .bl 32], ?_, gp_bl (.inl rfl) gc ?_ (by simp), by simp⟩
        · rw [h]
          show _ = D.str ([32] ++ ((o2 ++ (i2 ++ c2)) ++ [32]))
          rw [List.append_assoc]
        · show ((o2 ++ (i2 ++ c2)) ++ [32]).length ≤ 39
          rw [List.length_append]
          simp only [List.length_singleton]
          omega
    obtain ⟨g, rfl, hg1, hg2⟩ := hg
    refine ⟨g, S5, fn_rt (y_cons hif (y_cons (S1 := S5) (y_set (d := .str (txt g)) (x_call (x_cons (x_var rfl) (x_cons (x := .obj S3.length) (S1 := S3 ++ [Cell.lst xs]) (x_lst (x_cons x_c (x_cons x_c (x_cons x_c (x_cons x_c (x_cons x_c (x_cons (x_call (x_cons (x_var rfl) x_nil) e2) (x_cons (x_op (x := .str ([32] ++ (o2 ++ (i2 ++ c2)))) (S1 := S3) (S2 := S3) (x_op x_c (x_call (x_cons (x_var rfl) x_nil) e3) ?_) x_c ?_) x_nil)))))))) x_nil)) e5) rfl) (y_rt (y_ret (x_var rfl))))), hg1, fun z => absurd z hg2, ((((g1.trans g2).trans g3).trans g4).trans g5).more (by omega)⟩
    · have : [32].length + (o2 ++ (i2 ++ c2)).length ≤ 16777216 := by simp only [List.length_singleton]; omega
      show (if [32].length + (o2 ++ (i2 ++ c2)).length ≤ LINE then _ else _) = _
      rw [if_pos this]
    · have : ([32] ++ (o2 ++ (i2 ++ c2))).length + [32].length ≤ 16777216 := by rw [List.length_append]; simp only [List.length_singleton]; omega
      show (if ([32] ++ (o2 ++ (i2 ++ c2))).length + [32].length ≤ LINE then _ else _) = _
      rw [if_pos this]
  cases b with
  | false =>
    refine full (S ++ E) 0 g0 (by omega) (y_if (k := false) (S1 := S ++ E) ?_ (fun z => absurd z (by decide)) (fun _ => rfl))
    exact x_qand (k := false) (x_qtru em rfl) (fun z => absurd z (by decide)) (fun _ => rfl)
  | true =>
    obtain ⟨r, S1, e1, r0, r1, g1⟩ := take_ok (upto := 2) hp0 (by omega) (by omega) (by omega)
    by_cases h0 : r = 0
    · refine ⟨[], S1, fn_rt (y_rt (y_if (k := true) (S1 := S1) ?_ (fun _ => y_rt (y_ret x_c)) (fun z => absurd z (by decide)))), gp_nil, fun _ => hb rfl, (g0.trans g1).more (by omega)⟩
      refine x_qand (k := true) (x_qtru em rfl) (fun _ => ?_) (fun z => absurd z (by decide))
      simp [sCons, sSet, sIf, sRet, sRetN, sNil, sExpr, sAug, sPar2, sPar3, sBreak, sSub, eVar, eC, eOp, eUn, eB, eMt, eMt0, eTup, eLst, eIf, eOr, eAnd, eNot, eSl, ePart, eNoPart, eCall0, noX, aNil, aCons, aStar, qCmp, qTru, qAnd, qOr, qNot, qYes, ob, oo, oB, oS, gNm, gTp, gsNil, gsCons, f1, f2, m0, m1, m2, m3, LINE, e1, eqD, scalD, h0]
    · refine full S1 1 ((g0.trans g1).more (by omega)) (by omega) (y_if (k := false) (S1 := S1) ?_ (fun z => absurd z (by decide)) (fun _ => rfl))
      refine x_qand (k := true) (x_qtru em rfl) (fun _ => ?_) (fun z => absurd z (by decide))
      simp [sCons, sSet, sIf, sRet, sRetN, sNil, sExpr, sAug, sPar2, sPar3, sBreak, sSub, eVar, eC, eOp, eUn, eB, eMt, eMt0, eTup, eLst, eIf, eOr, eAnd, eNot, eSl, ePart, eNoPart, eCall0, noX, aNil, aCons, aStar, qCmp, qTru, qAnd, qOr, qNot, qYes, ob, oo, oB, oS, gNm, gTp, gsNil, gsCons, f1, f2, m0, m1, m2, m3, LINE, e1, eqD, scalD, h0]
end K00

/-! P19: rows. -/
namespace K00
open Sh
theorem seg_ne {s : Seg} (h : s.ok) : s.text ≠ [] := by
  cases s with
  | bl c => exact List.cons_ne_nil _ _
  | cm o i c =>
    obtain ⟨v1, _⟩ := h
    rcases v1 with rfl | rfl <;> exact List.cons_ne_nil _ _
  | tk t =>
    have ht : t.ok := h
    cases t with
    | id u =>
      obtain ⟨c, r, e, _⟩ := (show IdW u from ht).ne
      show u ≠ []
      rw [e]
      exact List.cons_ne_nil _ _
    | num u v => exact (show NumV u v from ht).ne
    | str x => exact List.cons_ne_nil _ _
    | sg u =>
      obtain ⟨c, r, e, _⟩ := sg_head (show u ∈ SGS from ht)
      show u ≠ []
      rw [e]
      exact List.cons_ne_nil _ _
theorem wf_app : ∀ {a b : List Seg}, wf a → wf b → (∀ t, a.getLast? = some (.tk t) → ∀ c, (txt b).head? = some c → t.fol c) → wf (a ++ b)
  | [], b, _, hb, _ => hb
  | [s], b, ha, hb, h => by
    refine ⟨ha.1, fun c hc => ?_, hb⟩
    cases s with
    | bl _ => trivial
    | cm _ _ _ => trivial
    | tk t => exact h t rfl c hc
  | s :: s2 :: a, b, ha, hb, h => by
    obtain ⟨h1, h2, h3⟩ := ha
    refine ⟨h1, fun c hc => h2 c ?_, wf_app h3 hb fun t ht => h t (by rw [List.getLast?_cons_cons]; exact ht)⟩
    have hne := seg_ne h3.1
    have e1 : txt (s2 :: a ++ b) = s2.text ++ txt (a ++ b) := rfl
    have e2 : txt (s2 :: a) = s2.text ++ txt a := rfl
    have hc : (txt (s2 :: a ++ b)).head? = some c := hc
    rw [e1] at hc
    rw [e2]
    cases q : s2.text with
    | nil => exact absurd q hne
    | cons x y =>
      rw [q] at hc
      exact hc
theorem spl10 : ∀ (s acc : List Nat) (l : Int), ∃ q last, TL.spl [10] 0 acc s = q ++ [last] ∧ adl (l, 1 + (acc.length : Int)) s = (l + q.length, 1 + (last.length : Int)) ∧ last.length ≤ acc.length + s.length
  | [], acc, l => ⟨[], acc, by rw [TL.spl_nil]; rfl, by simp [adl], by simp⟩
  | c :: s, acc, l => by
    by_cases h : c = 10
    · subst h
      obtain ⟨q, last, e1, e2, e3⟩ := spl10 s [] (l + 1)
      have hp : TL.pre [10] (10 :: s) = true := by simp [TL.pre]
      refine ⟨acc :: q, last, ?_, ?_, ?_⟩
      · rw [TL.spl_hit hp]
        show acc :: TL.spl [10] 0 [] s = _
        rw [e1]
        rfl
      · rw [adl_cons]
        show adl (l + 1, 1) s = _
        have e2 : adl (l + 1, 1) s = (l + 1 + (q.length : Int), 1 + (last.length : Int)) := e2
        rw [e2, List.length_cons]
        congr 1
        omega
      · simp at e3 ⊢
        omega
    · obtain ⟨q, last, e1, e2, e3⟩ := spl10 s (acc ++ [c]) l
      have hp : TL.pre [10] (c :: s) = false := by simp [TL.pre, h]
      refine ⟨q, last, ?_, ?_, ?_⟩
      · rw [TL.spl_miss hp]
        exact e1
      · rw [adl_cons]
        have : adv (l, 1 + (acc.length : Int)) c = (l, 1 + ((acc ++ [c]).length : Int)) := by
          unfold adv
          rw [if_neg h]
          simp
          omega
        rw [this]
        exact e2
      · simp at e3 ⊢
        omega
theorem rel_len {ss : List (List Nat)} : (ss.map D.str).length = ss.length := List.length_map _
def rowB : SM := (sCons (sSet (eCall0 f__law_token (aCons (eVar 0) aNil)) (gTp 3 (gsCons (gNm 5) (gsCons (gNm 6) (gsCons (gNm 7) gsNil))))) (sCons (sSet (eIf (qCmp neD (eVar 3) (eC (.str []))) (eOp addD (eVar 1) (eCall0 f__law_gap (aCons (eVar 0) (aCons (eVar 3) (aCons (eVar 6) aNil))))) (eVar 1)) (gNm 1)) (sCons (sSet (eMt "str" splitD (eVar 1) (aCons (eC (.str [10])) aNil)) (gNm 8)) (sCons (sExpr (eMt "list" appendD (eVar 2) (aCons (eTup (aCons (eVar 5) (aCons (eVar 7) (aCons (eB lenD (aCons (eVar 8) aNil)) (aCons (eOp addD (eC (.int 1)) (eB lenD (aCons (eOp ixD (eVar 8) (eUn negD (eC (.int 1)))) aNil))) aNil))))) aNil))) (sCons (sPar2 1 3 (aCons (eOp addD (eVar 1) (eVar 6)) (aCons (eVar 6) aNil))) sNil)))))
/-- the text so far, its last token -/
structure RowI (segs : List Seg) (a : Option Tok) (i : Nat) : Prop where
  wf : wf segs
  as : asc (txt segs) = true
  len : (txt segs).length ≤ 40 + 60 * i
  num : segs.length ≤ 5 + 6 * i
  last : match a with
    | none => ∀ t, segs.getLast? ≠ some (.tk t)
    | some t => segs.getLast? = some (.tk t) ∧ TokD t
def ahead : Option Tok → List Nat
  | none => []
  | some t => t.text
theorem pot_set {S : Store} {p n d : Nat} {c : Cell} (h : Pot S p n) (hd : d ≠ p) : Pot (S.set d c) p n := by
  obtain ⟨x, y, z, e, r⟩ := h
  exact ⟨x, y, z, by rw [List.getElem?_set_ne hd]; exact e, r⟩
theorem pot_more {S : Store} {p n m : Nat} (h : Pot S p n) (hd : n ≤ m) : Pot S p m := by
  obtain ⟨x, y, z, e, h1, h2, h3, h4, h5⟩ := h
  exact ⟨x, y, z, e, h1, h2, h3, h4, by omega⟩
theorem row_step {S0 S : Store} {p n d i K : Nat} {segs : List Seg} {a : Option Tok} {dl : List D} {lap d5 d6 d7 d8 : Option D} (hp : Pot S p n) (hn : n + 100 ≤ 1000000) (hi : i ≤ 24) (R : RowI segs a i) (hd : S[d]? = some (.lst dl)) (hdl : dl = due (1, 1) segs) (hdn : dl.length ≤ 1000) (hdp : d ≠ p) (hd0 : S0.length ≤ d) (g0 : Go p K S0 S) :
    ∃ segs' t S' e5 e6 e7 e8, rowB [some (.obj p), some (.str (txt segs)), some (.obj d), some (.str (ahead a)), lap, d5, d6, d7, d8] S = .nx [some (.obj p), some (.str (txt segs')), some (.obj d), some (.str (ahead (some t))), lap, e5, e6, e7, e8] S' ∧ RowI segs' (some t) (i + 1) ∧
      S'[d]? = some (.lst (due (1, 1) segs')) ∧ (due (1, 1) segs').length = dl.length + 1 ∧ Go p (K + 50) S0 S' ∧ Pot S' p (n + 50) := by
  obtain ⟨t, S1, e1, ht, g1⟩ := token_drawn hp (by omega)
  have hp1 := g1.pot _ hp
  obtain ⟨c, w, ew, c128⟩ := head_split ht
  have htl := ht.len
  have hdS : d < S.length := (List.getElem?_eq_some_iff.mp hd).1
  have hd1 : S1[d]? = some (.lst dl) := (g1.keep d hdp hdS).trans hd
  have hdS1 : d < S1.length := (List.getElem?_eq_some_iff.mp hd1).1
  -- the gap
  have gap : ∃ g S2, sSet (eIf (qCmp neD (eVar 3) (eC (.str []))) (eOp addD (eVar 1) (eCall0 f__law_gap (aCons (eVar 0) (aCons (eVar 3) (aCons (eVar 6) aNil))))) (eVar 1)) (gNm 1) [some (.obj p), some (.str (txt segs)), some (.obj d), some (.str (ahead a)), lap, some (.str t.sort), some (.str t.text), some t.told, d8] S1 = .nx [some (.obj p), some (.str (txt (segs ++ g))), some (.obj d), some (.str (ahead a)), lap, some (.str t.sort), some (.str t.text), some t.told, d8] S2 ∧
      Gp g ∧ (∀ u, segs.getLast? = some (.tk u) → ∀ c', (txt g ++ t.text).head? = some c' → u.fol c') ∧ Go p 20 S1 S2 := by
    cases a with
    | none =>
      refine ⟨[], S1, ?_, gp_nil, fun u hu => absurd hu (R.last u), (Go.refl p S1).more (by omega)⟩
      have n1 : leqN [] [] = true := rfl
      rw [List.append_nil]
      exact y_set (x_if (k := false) (S1 := S1) (by simp [sCons, sSet, sIf, sRet, sRetN, sNil, sExpr, sAug, sPar2, sPar3, sBreak, sSub, eVar, eC, eOp, eUn, eB, eMt, eMt0, eTup, eLst, eIf, eOr, eAnd, eNot, eSl, ePart, eNoPart, eCall0, noX, aNil, aCons, aStar, qCmp, qTru, qAnd, qOr, qNot, qYes, ob, oo, oB, oS, gNm, gTp, gsNil, gsCons, f1, f2, m0, m1, m2, m3, LINE, neD, scalD, ahead, n1]) (fun z => absurd z (by decide)) (fun _ => x_var rfl)) rfl
    | some u =>
      obtain ⟨hu1, hu2⟩ := R.last
      have hm : ∃ b E, f__law_may_touch [.str u.text, .str t.text] S1 = .ok (.bl b) (S1 ++ E) ∧ (b = true → u.fol c) := by
        rw [ew]
        exact may_ok S1 hu2 c128 (by rw [← ew]; omega)
      obtain ⟨g, S2, e2, hg, htch, g2⟩ := gap_drawn hp1 (by omega) hm
      refine ⟨g, S2, ?_, hg, fun u' hu' c' hc' => ?_, g2⟩
      · have hl : (txt segs).length + (txt g).length ≤ 16777216 := by
          have h1 := R.len
          have h2 := hg.len
          omega
        have hne : leqN u.text [] = false := by
          obtain ⟨x, y, exy, _⟩ := head_split hu2
          rw [exy]
          rfl
        refine y_set (d := .str (txt (segs ++ g))) (x_if (k := true) (S1 := S1) (by simp [sCons, sSet, sIf, sRet, sRetN, sNil, sExpr, sAug, sPar2, sPar3, sBreak, sSub, eVar, eC, eOp, eUn, eB, eMt, eMt0, eTup, eLst, eIf, eOr, eAnd, eNot, eSl, ePart, eNoPart, eCall0, noX, aNil, aCons, aStar, qCmp, qTru, qAnd, qOr, qNot, qYes, ob, oo, oB, oS, gNm, gTp, gsNil, gsCons, f1, f2, m0, m1, m2, m3, LINE, neD, scalD, ahead, hne]) (fun _ => ?_) (fun z => absurd z (by decide))) rfl
        refine x_op (x_var rfl) (x_call (x_cons (x_var rfl) (x_cons (x_var rfl) (x_cons (x_var rfl) x_nil))) e2) ?_
        show (if (txt segs).length + (txt g).length ≤ LINE then _ else _) = _
        rw [if_pos hl, txt_app]
      · rw [hu1] at hu'
        cases hu'
        by_cases hg0 : g = []
        · subst hg0
          have hc' : t.text.head? = some c' := hc'
          rw [ew] at hc'
          cases hc'
          exact htch rfl
        · have hne := hg.ne hg0
          cases q : txt g with
          | nil => exact absurd q hne
          | cons x y =>
            rw [q] at hc'
            have hc' : some x = some c' := hc'
            exact gp_fol u (hg.hd c' (by rw [q]; exact hc'))
  obtain ⟨g, S2, e2, hg, hfol, g2⟩ := gap
  have hp2 := g2.pot _ hp1
  have hd2 : S2[d]? = some (.lst dl) := (g2.keep d hdp hdS1).trans hd1
  have hdS2 : d < S2.length := (List.getElem?_eq_some_iff.mp hd2).1
  obtain ⟨q, last, q1, q2, q3⟩ := spl10 (txt (segs ++ g)) [] 1
  have hxl : (txt (segs ++ g)).length ≤ 80 + 60 * i := by
    rw [txt_app, List.length_append]
    have h1 := R.len
    have h2 := hg.len
    omega
  have hq : adl (1, 1) (txt (segs ++ g)) = (1 + (q.length : Int), 1 + (last.length : Int)) := q2
  have hw : wf (segs ++ (g ++ [.tk t])) := by
    refine wf_app R.wf (hg.wf _ ⟨ht.ok, fun c h => (by cases h), trivial⟩) fun u hu c' hc' => ?_
    refine hfol u hu c' ?_
    rw [txt_app] at hc'
    have e : txt [Seg.tk t] = t.text := List.append_nil _
    rw [e] at hc'
    exact hc'
  have hdue : due (1, 1) (segs ++ (g ++ [.tk t])) = dl ++ [.tup [.str t.sort, t.told, .int (1 + (q.length : Int)), .int (1 + (last.length : Int))]] := by
    rw [← List.append_assoc, due_app, due_app, hg.due, List.append_nil, hq, ← hdl]
    rfl
  have etx : txt (segs ++ (g ++ [.tk t])) = txt (segs ++ g) ++ t.text := by
    rw [← List.append_assoc, txt_app]
    have e : txt [Seg.tk t] = t.text := List.append_nil _
    rw [e]
  have g3 := Go.add p S2 [.lst ((q ++ [last]).map D.str)]
  have hlast : (segs ++ (g ++ [Seg.tk t])).getLast? = some (.tk t) := by simp
  have hs : seqD (.obj S2.length) (S2 ++ [Cell.lst ((q ++ [last]).map D.str)]) = some ((q ++ [last]).map D.str) := seq_at (by rw [gA0]; rfl)
  have hlen : ∀ ev : Ev, ev[8]? = some (some (.obj S2.length)) → eB lenD (aCons (eVar 8) aNil) ev (S2 ++ [Cell.lst ((q ++ [last]).map D.str)]) = .ok (.int (1 + (q.length : Int))) (S2 ++ [Cell.lst ((q ++ [last]).map D.str)]) := by
    intro ev he
    refine x_B (x_cons (x_var he) x_nil) ?_
    show (seqD (.obj S2.length) _).map _ = _
    rw [hs]
    simp
    omega
  have hcol : ∀ ev : Ev, ev[8]? = some (some (.obj S2.length)) → eB lenD (aCons (eOp ixD (eVar 8) (eUn negD (eC (.int 1)))) aNil) ev (S2 ++ [Cell.lst ((q ++ [last]).map D.str)]) = .ok (.int (last.length : Int)) (S2 ++ [Cell.lst ((q ++ [last]).map D.str)]) := by
    intro ev he
    have k1 : ixD (.obj S2.length) (.int (-1)) (S2 ++ [Cell.lst ((q ++ [last]).map D.str)]) = some (.str last, S2 ++ [Cell.lst ((q ++ [last]).map D.str)]) := by
      show ((seqD (.obj S2.length) _).bind _).map _ = some (D.str last, _)
      rw [hs]
      show (L2.atI ((q ++ [last]).map D.str) (-1)).map _ = _
      have : L2.atI ((q ++ [last]).map D.str) (-1) = some (.str last) := by
        unfold L2.atI L2.ixN
        rw [if_neg (by omega), if_pos (by simp; omega)]
        simp
        have : ((-1 : Int) + ((q.length : Int) + 1)).toNat = q.length := by omega
        rw [this]
        simp
      rw [this]
      rfl
    refine x_B (x_cons (x_op (x_var he) (x_un x_c rfl) k1) x_nil) (d_len ?_)
    have : last.length ≤ (txt (segs ++ g)).length := by simpa using q3
    unfold BIG
    omega
  refine ⟨segs ++ (g ++ [.tk t]), t, (S2 ++ [Cell.lst ((q ++ [last]).map D.str)]).set d (Cell.lst (dl ++ [D.tup [D.str t.sort, t.told, D.int (1 + (q.length : Int)), D.int (1 + (last.length : Int))]])), some (.str t.sort), some (.str t.text), some t.told, some (.obj S2.length),
    y_cons (y_set (x_call (x_cons (x_var rfl) x_nil) e1) rfl) (y_cons e2 (y_cons (S1 := S2 ++ [Cell.lst ((q ++ [last]).map D.str)]) (y_set (d := .obj S2.length) (x_mt (x_var rfl) rfl (x_cons x_c x_nil) ?_) rfl) (y_cons (S1 := (S2 ++ [Cell.lst ((q ++ [last]).map D.str)]).set d (Cell.lst (dl ++ [D.tup [D.str t.sort, t.told, D.int (1 + (q.length : Int)), D.int (1 + (last.length : Int))]]))) (y_expr (d := .non) (x_mt (x_var rfl) ?_ (x_cons (x_tup (x_cons (x_var rfl) (x_cons (x_var rfl) (x_cons (hlen _ rfl) (x_cons (x_op x_c (hcol _ rfl) rfl) x_nil))))) x_nil) ?_)) ?_))), ⟨hw, ?_, ?_, ?_, hlast, ht⟩, ?_, ?_, ?_, ?_⟩
  · have l2 : (txt (segs ++ g)).length + 2 ≤ 16777216 := by omega
    show (if ([10] : List Nat).isEmpty = false ∧ asc [10] = true ∧ (txt (segs ++ g)).length + 2 ≤ LINE then _ else _) = _
    rw [if_pos ⟨rfl, rfl, l2⟩, q1]
  · show isTy "list" (.obj d) _ = true
    have hx : (S2 ++ [Cell.lst ((q ++ [last]).map D.str)])[d]? = some (.lst dl) := by
      rw [List.getElem?_append_left hdS2]
      exact hd2
    show (match (S2 ++ [Cell.lst ((q ++ [last]).map D.str)])[d]? with | some (.lst _) => _ | none => _) = true
    rw [hx]
    rfl
  · show (cellAt (S2 ++ [Cell.lst ((q ++ [last]).map D.str)]) d).bind _ = _
    have hc : cellAt (S2 ++ [Cell.lst ((q ++ [last]).map D.str)]) d = some dl := by
      unfold cellAt
      rw [List.getElem?_append_left hdS2, hd2]
    rw [hc]
    show (if dl.length < LINE then _ else _) = _
    rw [if_pos (show dl.length < 16777216 by omega)]
  · have hl : (txt (segs ++ g)).length + t.text.length ≤ 16777216 := by omega
    have ea : ∀ (T : Store) (l d5 d7 d8 : Option D), aCons (eOp addD (eVar 1) (eVar 6)) (aCons (eVar 6) aNil) [some (.obj p), some (.str (txt (segs ++ g))), some (.obj d), some (.str (ahead a)), l, d5, some (.str t.text), d7, d8] T = .ok [.str (txt (segs ++ g) ++ t.text), .str t.text] T := by
      intro T l d5 d7 d8
      refine x_cons (x_op (x_var rfl) (x_var rfl) ?_) (x_cons (x_var rfl) x_nil)
      show (if (txt (segs ++ g)).length + t.text.length ≤ LINE then _ else _) = _
      rw [if_pos hl]
    refine y_cons (e1 := [some (.obj p), some (.str (txt (segs ++ (g ++ [.tk t])))), some (.obj d), some (.str t.text), lap, some (.str t.sort), some (.str t.text), some t.told, some (.obj S2.length)]) ?_ rfl
    rw [etx]
    show sPar2 1 3 _ [some (.obj p), some (.str (txt (segs ++ g))), some (.obj d), some (.str (ahead a)), lap, some (.str t.sort), some (.str t.text), some t.told, some (.obj S2.length)] _ = _
    unfold sPar2
    rw [ea]
    rfl
  · rw [etx, asc_app, ht.as, txt_app, asc_app, R.as, hg.as]
    rfl
  · rw [etx, List.length_append]
    omega
  · rw [List.length_append, List.length_append]
    have h1 := R.num
    have h2 := hg.num
    simp
    omega
  · rw [List.getElem?_set_self (by rw [List.length_append]; omega), hdue]
  · rw [hdue]
    simp
  · exact ((((g0.trans g1).trans g2).trans g3).upd hd0).more (by omega)
  · exact pot_set (pot_more (g3.pot _ hp2) (by omega)) hdp
theorem row_loop {S0 : Store} {p d m N : Nat} (hN : N ≤ 900000) (hm : m ≤ 24) (hdp : d ≠ p) (hd0 : S0.length ≤ d) : ∀ (todo i k n K : Nat) (S : Store) (segs : List Seg) (a : Option Tok) (lap d5 d6 d7 d8 : Option D), i + todo = m → todo < k → Pot S p n → n + 50 * todo ≤ N → RowI segs a i → S[d]? = some (.lst (due (1, 1) segs)) → (due (1, 1) segs).length = i → Go p K S0 S →
    ∃ segs' a' S' e4 e5 e6 e7 e8, sForL (.rng 0 m) (gNm 4) rowB k i [some (.obj p), some (.str (txt segs)), some (.obj d), some (.str (ahead a)), lap, d5, d6, d7, d8] S = .nx [some (.obj p), some (.str (txt segs')), some (.obj d), some (.str (ahead a')), e4, e5, e6, e7, e8] S' ∧ RowI segs' a' m ∧ S'[d]? = some (.lst (due (1, 1) segs')) ∧ (due (1, 1) segs').length = m ∧ Go p (K + 50 * todo) S0 S' ∧ Pot S' p (n + 50 * todo)
  | todo, i, 0, n, K, S, segs, a, lap, d5, d6, d7, d8, hi, hk, hp, hn, R, hd, hl, g => absurd hk (Nat.not_lt_zero _)
  | 0, i, k + 1, n, K, S, segs, a, lap, d5, d6, d7, d8, hi, hk, hp, hn, R, hd, hl, g => by
    have e : wkAt (.rng 0 m) S i = some none := by
      unfold wkAt
      simp
      omega
    have him : i = m := by omega
    subst him
    exact ⟨segs, a, S, lap, d5, d6, d7, d8, f_stop e, R, hd, hl, g, hp⟩
  | todo + 1, i, k + 1, n, K, S, segs, a, lap, d5, d6, d7, d8, hi, hk, hp, hn, R, hd, hl, g => by
    have e : wkAt (.rng 0 m) S i = some (some (.int (0 + (i : Nat)))) := by
      unfold wkAt
      have : i < m := by omega
      simp [this]
    obtain ⟨segs', t, S', e5, e6, e7, e8, h1, h2, h3, h4, h5, h6⟩ := row_step (lap := some (.int (0 + (i : Nat)))) (d5 := d5) (d6 := d6) (d7 := d7) (d8 := d8) hp (by omega) (by omega) R hd rfl (by omega) hdp hd0 g
    obtain ⟨segs2, a2, S2, f4, f5, f6, f7, f8, q1, q2, q3, q4, q5, q6⟩ := row_loop hN hm hdp hd0 todo (i + 1) k (n + 50) (K + 50) S' segs' (some t) (some (.int (0 + (i : Nat)))) e5 e6 e7 e8 (by omega) (by omega) h6 (by omega) h2 h3 (by omega) h5
    refine ⟨segs2, a2, S2, f4, f5, f6, f7, f8, (f_step e rfl h1).trans q1, q2, q3, q4, q5.more (by omega), pot_more q6 (by omega)⟩
/-- a row: its text, the list of what is due -/
theorem row_drawn {S : Store} {p n : Nat} (hp : Pot S p n) (hn : n ≤ 500000) : ∃ segs d S', f__law_row [.obj p] S = .ok (.tup [.str (txt segs), .obj d]) S' ∧ wf segs ∧ asc (txt segs) = true ∧ (txt segs).length ≤ 2000 ∧ segs.length ≤ 200 ∧ S'[d]? = some (.lst (due (1, 1) segs)) ∧ (due (1, 1) segs).length ≤ 24 ∧ d ≠ p ∧ S.length ≤ d ∧ Go p 1300 S S' ∧ Pot S' p (n + 1300) := by
  have hlp := pot_lt hp
  -- a gap or nothing
  have opt : ∀ (T : Store) (k : Nat) (ev : Ev), Pot T p k → k ≤ 600000 → ev[0]? = some (some (.obj p)) → ∃ g T', eIf (qCmp eqD (eCall0 f__law_take (aCons (eVar 0) (aCons (eC (.int 2)) aNil))) (eC (.int 0))) (eCall0 f__law_gap (aCons (eVar 0) (aCons (eC (.str [])) (aCons (eC (.str [])) aNil)))) (eC (.str [])) ev T = .ok (.str (txt g)) T' ∧ Gp g ∧ Go p 21 T T' := by
    intro T k ev hT hk hev
    obtain ⟨r, T1, e1, r0, r1, g1⟩ := take_ok (upto := 2) hT (by omega) (by omega) (by omega)
    have hT1 := g1.pot _ hT
    obtain ⟨g, T2, e2, hg, _, g2⟩ := gap_drawn (one := []) (other := []) (Tch := True) hT1 (by omega) ⟨true, [], by rw [List.append_nil]; exact may_none T1 [], fun _ => trivial⟩
    have et : eCall0 f__law_take (aCons (eVar 0) (aCons (eC (.int 2)) aNil)) ev T = .ok (.int r) T1 := x_call (x_cons (x_var hev) (x_cons x_c x_nil)) e1
    by_cases h0 : r = 0
    · exact ⟨g, T2, x_if (k := true) (S1 := T1) (x_qcmp (x_op et x_c (by simp [eqD, scalD, h0]))) (fun _ => x_call (x_cons (x_var hev) (x_cons x_c (x_cons x_c x_nil))) e2) (fun z => absurd z (by decide)), hg, (g1.trans g2).more (by omega)⟩
    · exact ⟨[], T1, x_if (k := false) (S1 := T1) (x_qcmp (x_op et x_c (by simp [eqD, scalD, h0]))) (fun z => absurd z (by decide)) (fun _ => x_c), gp_nil, g1.more (by omega)⟩
  obtain ⟨g, S1, e1, hg, g1⟩ := opt S n [some (.obj p), none, none, none, none, none, none, none, none] hp (by omega) rfl
  have hp1 := g1.pot _ hp
  have hl1 := g1.len
  have g2 := Go.add p S1 [.lst []]
  have hp2 := g2.pot _ hp1
  let xs : List D := [.int 0, .int 1, .int 2, .int 5, .int 9, .int 16, .int 24]
  have g3 := Go.add p (S1 ++ [.lst []]) [.lst xs]
  have hp3 := g3.pot _ hp2
  obtain ⟨x, S4, e4, hx, g4⟩ := of_lst (o := (S1 ++ [Cell.lst []]).length) (xs := xs) hp3 (by omega) (by rw [gA0]; rfl) (by simp; omega) (by simp [xs]) (by simp [xs])
  have hp4 := g4.pot _ hp3
  obtain ⟨m, rfl, hm⟩ : ∃ m : Nat, x = .int (m : Nat) ∧ m ≤ 24 := by
    have : x = .int 0 ∨ x = .int 1 ∨ x = .int 2 ∨ x = .int 5 ∨ x = .int 9 ∨ x = .int 16 ∨ x = .int 24 := by simpa [xs] using hx
    rcases this with h | h | h | h | h | h | h
    · exact ⟨0, h, by omega⟩
    · exact ⟨1, h, by omega⟩
    · exact ⟨2, h, by omega⟩
    · exact ⟨5, h, by omega⟩
    · exact ⟨9, h, by omega⟩
    · exact ⟨16, h, by omega⟩
    · exact ⟨24, h, by omega⟩
  have hd4 : S4[S1.length]? = some (.lst []) := by
    rw [g4.keep _ (by omega) (by simp), List.getElem?_append_left (by simp), gA0]
    rfl
  have hdue0 : due (1, 1) g = [] := hg.due _
  have wfg : wf g := by
    have := hg.wf [] trivial
    rw [List.append_nil] at this
    exact this
  have noTk : ∀ t, g.getLast? ≠ some (.tk t) := by
    intro t ht
    obtain ⟨h0, e0⟩ := List.getLast?_eq_some_iff.mp ht
    have := hg.due (1, 1)
    rw [e0, due_app] at this
    have h2 := (List.append_eq_nil_iff.mp this).2
    exact List.cons_ne_nil _ _ h2
  have R0 : RowI g none 0 := ⟨wfg, hg.as, by have := hg.len; omega, by have := hg.num; omega, noTk⟩
  obtain ⟨segs, a, S5, f4, f5, f6, f7, f8, q1, q2, q3, q4, q5, q6⟩ := row_loop (S0 := S1) (p := p) (d := S1.length) (m := m) (N := 900000) (Nat.le_refl _) hm (by omega) (Nat.le_refl _) m 0 FUEL _ (0 + 0 + 1) S4 g none none none none none none (by omega) (by unfold FUEL; omega) hp4 (by omega) R0 (by rw [hdue0]; exact hd4) (by rw [hdue0]; rfl) ((g2.trans g3).trans g4)
  obtain ⟨g', S6, e6, hg', g6⟩ := opt S5 _ [some (.obj p), some (.str (txt segs)), some (.obj S1.length), some (.str (ahead a)), f4, f5, f6, f7, f8] q6 (by omega) rfl
  have hlen : (txt segs).length + (txt g').length ≤ 2000 := by
    have h1 := q2.len
    have h2 := hg'.len
    omega
  have hS5 : S1.length < S5.length := (List.getElem?_eq_some_iff.mp q3).1
  have hdue2 : due (1, 1) (segs ++ g') = due (1, 1) segs := by rw [due_app, hg'.due, List.append_nil]
  refine ⟨segs ++ g', S1.length, S6, fn_rt (y_cons (e1 := [some (.obj p), some (.str (txt g)), some (.obj S1.length), some (.str []), none, none, none, none, none]) (S1 := S1 ++ [Cell.lst []]) ?_ (y_cons (S1 := S5) (e1 := [some (.obj p), some (.str (txt segs)), some (.obj S1.length), some (.str (ahead a)), f4, f5, f6, f7, f8]) ?_ (y_rt (y_ret (x_tup (x_cons (S1 := S6) (x_op (x_var rfl) e6 ?_) (x_cons (x_var rfl) x_nil))))))), ?_, ?_, ?_, ?_, ?_, ?_, by omega, by omega, ?_, ?_⟩
  · have ea : aCons (eIf (qCmp eqD (eCall0 f__law_take (aCons (eVar 0) (aCons (eC (.int 2)) aNil))) (eC (.int 0))) (eCall0 f__law_gap (aCons (eVar 0) (aCons (eC (.str [])) (aCons (eC (.str [])) aNil)))) (eC (.str []))) (aCons (eLst aNil) (aCons (eC (.str [])) aNil)) [some (.obj p), none, none, none, none, none, none, none, none] S = .ok [.str (txt g), .obj S1.length, .str []] (S1 ++ [Cell.lst []]) :=
      x_cons e1 (x_cons (x_lst x_nil) (x_cons x_c x_nil))
    show sPar3 1 2 3 _ [some (.obj p), none, none, none, none, none, none, none, none] S = _
    unfold sPar3
    rw [ea]
    rfl
  · exact (f_for (rng1_ok (by omega) (x_cons (x_call (x_cons (x_var rfl) (x_cons (x_lst (x_cons x_c (x_cons x_c (x_cons x_c (x_cons x_c (x_cons x_c (x_cons x_c (x_cons x_c x_nil)))))))) x_nil)) e4) x_nil))).trans q1
  · show (if (txt segs).length + (txt g').length ≤ LINE then _ else _) = _
    rw [if_pos (show (txt segs).length + (txt g').length ≤ 16777216 by omega), txt_app]
  · refine wf_app q2.wf (by have := hg'.wf [] trivial; rw [List.append_nil] at this; exact this) fun t _ c hc => gp_fol t (hg'.hd c hc)
  · rw [txt_app, asc_app, q2.as, hg'.as]
    rfl
  · rw [txt_app, List.length_append]
    exact hlen
  · rw [List.length_append]
    have h1 := q2.num
    have h2 := hg'.num
    omega
  · rw [hdue2, g6.keep _ (by omega) hS5]
    exact q3
  · rw [hdue2, q4]
    exact hm
  · exact ((g1.trans q5).trans g6).more (by omega)
  · exact pot_more (g6.pot _ q6) (by omega)
end K00

/-! P20: what is shown; later rows. -/
namespace K00
open Sh
def small (i : Int) : Prop := -1000000000000 ≤ i ∧ i ≤ 1000000000000
structure TokP (d : D) : Prop where
  ex : ∃ (a : List Nat) (t : D) (l c : Int), d = .tup [.str a, t, .int l, .int c] ∧ asc a = true ∧ a.length ≤ 20 ∧ ((∃ b, t = .str b ∧ asc b = true ∧ b.length ≤ 5000) ∨ ∃ v : Int, t = .int v ∧ small v) ∧ small l ∧ small c
theorem small_show {i : Int} (h : small i) : i.natAbs.log2 < 1920 := by
  by_cases h0 : i.natAbs = 0
  · rw [h0]
    decide
  · exact (Nat.log2_lt h0).mpr (Nat.lt_of_le_of_lt (show i.natAbs ≤ 1000000000000 by have := h.1; have := h.2; omega) (by decide +kernel))
theorem show_str {a : List Nat} (h : asc a = true) : (PySem.PyData.shown (.str (tx a))).length ≤ 10 * a.length + 2 := by
  have := PySem.StrLaws.reprText_len (tx a) fun c hc => by
    have := asc_lt h c hc
    omega
  rw [tx_len] at this
  exact this
theorem show_int {i : Int} (h : small i) : (PySem.PyData.shown (.int i)).length ≤ 1921 := PyProof.Rows.int_text_len_1921 (small_show h)
theorem tup_len (ts : List PySem.Str) : (PySem.tupleText ts).length ≤ (ts.map (·.length)).sum + ts.length * 2 + 3 := by
  have h1 := PySem.StrLaws.join_length_le ", " ts
  have e0 : ((", " : String) : PySem.Str).length = 2 := rfl
  rw [e0] at h1
  unfold PySem.tupleText
  rw [PySem.strLen_append, PySem.strLen_append]
  have e1 : ((("(" : String) : PySem.Str)).length = 1 := rfl
  have e2 : (((if ts.length == 1 then ",)" else ")" : String) : PySem.Str)).length ≤ 2 := by split <;> decide
  omega
theorem tokP_P {d : D} (h : TokP d) : ∃ q : PySem.PyData, toP d = some q ∧ q.showable = true ∧ q.hasDict = false ∧ q.depth ≤ 1 ∧ q.shown.length ≤ 60000 := by
  obtain ⟨a, t, l, c, rfl, ha, hal, ht, hl, hc⟩ := h.ex
  have sa := show_str ha
  have sl := show_int hl
  have sc := show_int hc
  rcases ht with ⟨b, rfl, hb, hbl⟩ | ⟨v, rfl, hv⟩
  · have sb := show_str hb
    refine ⟨.tuple [.str (tx a), .str (tx b), .int l, .int c], rfl, ?_, ?_, ?_, ?_⟩
    · simp [PySem.PyData.showable, PySem.PyData.showableAll, small_show hl, small_show hc]
    · simp [PySem.PyData.hasDict, PySem.PyData.hasDictAll]
    · simp [PySem.PyData.depth, PySem.PyData.depthAll]
    · rw [PySem.PyData.shown]
      refine Nat.le_trans (tup_len _) ?_
      simp only [PySem.PyData.shownAll, List.map_cons, List.map_nil, List.sum_cons, List.sum_nil, List.length_cons, List.length_nil]
      omega
  · have sv := show_int hv
    refine ⟨.tuple [.str (tx a), .int v, .int l, .int c], rfl, ?_, ?_, ?_, ?_⟩
    · simp [PySem.PyData.showable, PySem.PyData.showableAll, small_show hl, small_show hc, small_show hv]
    · simp [PySem.PyData.hasDict, PySem.PyData.hasDictAll]
    · simp [PySem.PyData.depth, PySem.PyData.depthAll]
    · rw [PySem.PyData.shown]
      refine Nat.le_trans (tup_len _) ?_
      simp only [PySem.PyData.shownAll, List.map_cons, List.map_nil, List.sum_cons, List.sum_nil, List.length_cons, List.length_nil]
      omega
theorem toks_P : ∀ {ds : List D}, (∀ d ∈ ds, TokP d) → ∃ qs : List PySem.PyData, toPs ds = some qs ∧ PySem.PyData.showableAll qs = true ∧ PySem.PyData.hasDictAll qs = false ∧ PySem.PyData.depthAll qs ≤ 1 ∧ qs.length = ds.length ∧ ((PySem.PyData.shownAll qs).map (·.length)).sum ≤ 60000 * ds.length ∧ (PySem.PyData.shownAll qs).length = ds.length
  | [], _ => ⟨[], rfl, by simp [PySem.PyData.showableAll], by simp [PySem.PyData.hasDictAll], by simp [PySem.PyData.depthAll], rfl, by simp [PySem.PyData.shownAll], by simp [PySem.PyData.shownAll]⟩
  | d :: ds, h => by
    obtain ⟨q, e1, a1, a2, a3, a4⟩ := tokP_P (h d List.mem_cons_self)
    obtain ⟨qs, e2, b1, b2, b3, b4, b5, b6⟩ := toks_P (ds := ds) fun x hx => h x (List.mem_cons_of_mem _ hx)
    refine ⟨q :: qs, ?_, ?_, ?_, ?_, ?_, ?_, ?_⟩
    · show (toP d).bind (fun y => (toPs ds).map fun ys => y :: ys) = _
      rw [e1, e2]
      rfl
    · rw [PySem.PyData.showableAll, a1, b1]
      rfl
    · rw [PySem.PyData.hasDictAll, a2, b2]
      rfl
    · rw [PySem.PyData.depthAll]
      omega
    · rw [List.length_cons, List.length_cons, b4]
    · rw [PySem.PyData.shownAll, List.map_cons, List.sum_cons, List.length_cons]
      omega
    · rw [PySem.PyData.shownAll, List.length_cons, List.length_cons, b6]
theorem repr_row {ds : List D} (h : ∀ d ∈ ds, TokP d) (hn : ds.length ≤ 100) : ∃ R : List Nat, ∀ S : Store, reprD0 (.tup ds) S = some (.str R, S) := by
  obtain ⟨qs, e, b1, b2, b3, b4, b5, b6⟩ := toks_P h
  refine ⟨(PySem.PyData.tuple qs).shown.cps.toList, fun S => ?_⟩
  have hp : toP (.tup ds) = some (.tuple qs) := by
    show (toPs ds).map PySem.PyData.tuple = _
    rw [e]
    rfl
  have hok : reprOk (.tuple qs) = some (.tuple qs) := by
    unfold reprOk
    rw [if_pos]
    refine ⟨?_, ?_, ?_, ?_⟩
    · rw [PySem.PyData.showable]
      exact b1
    · rw [PySem.PyData.hasDict]
      exact b2
    · rw [PySem.PyData.depth]
      omega
    · rw [PySem.PyData.shown]
      have := tup_len (PySem.PyData.shownAll qs)
      rw [b6] at this
      show _ ≤ 16777216
      omega
  show ((toP (.tup ds)).bind reprOk).map _ = _
  rw [hp]
  show (reprOk (.tuple qs)).map _ = _
  rw [hok]
  rfl
/-! what is due is such -/
theorem adl_small : ∀ (s : List Nat) (p : Pl), p.1 ≤ (adl p s).1 ∧ (adl p s).1 ≤ p.1 + s.length ∧ (0 ≤ p.2 → 0 ≤ (adl p s).2 ∧ (adl p s).2 ≤ p.2 + 1 + s.length)
  | [], p => by
    simp [adl]
    omega
  | c :: s, p => by
    have ih := adl_small s (adv p c)
    rw [adl_cons, List.length_cons]
    unfold adv at ih ⊢
    by_cases h : c = 10
    · rw [if_pos h] at ih ⊢
      simp only at ih
      omega
    · rw [if_neg h] at ih ⊢
      simp only at ih
      omega
theorem due_P : ∀ (segs : List Seg) (p : Pl) (L : Nat), wf segs → asc (txt segs) = true → (txt segs).length ≤ L → L ≤ 5000 → -100000 ≤ p.1 → p.1 + L ≤ 1000000 → 0 ≤ p.2 → p.2 + 2 * L ≤ 1000000 → ∀ d ∈ due p segs, TokP d
  | [], p, L, _, _, _, _, _, _, _, _, d, hd => by
    have hd : d ∈ ([] : List D) := hd
    simp at hd
  | s :: segs, p, L, hw, ha, hl, hL, h1, h2, h3, h4, d, hd => by
    have hl : (s.text ++ txt segs).length ≤ L := hl
    have ha : asc (s.text ++ txt segs) = true := ha
    rw [List.length_append] at hl
    rw [asc_app, Bool.and_eq_true] at ha
    have q := adl_small s.text p
    have q3 := q.2.2 h3
    have hne := seg_ne hw.1
    have hpos : 0 < s.text.length := List.length_pos_iff.mpr hne
    have ih : ∀ d ∈ due (adl p s.text) segs, TokP d := due_P segs (adl p s.text) (L - s.text.length) hw.2.2 ha.2 (by omega) (by omega) (by omega) (by omega) q3.1 (by omega)
    cases s with
    | bl c => exact ih d hd
    | cm o i c => exact ih d hd
    | tk t =>
      rcases List.mem_cons.mp hd with rfl | hd
      · have hs : asc t.sort = true ∧ t.sort.length ≤ 20 := by
          cases t with
          | id w =>
            show asc (if memS (lowL w) tab_RESERVED = true then _ else _) = true ∧ (if memS (lowL w) tab_RESERVED = true then _ else _ : List Nat).length ≤ 20
            split <;> exact ⟨rfl, by decide⟩
          | num w v => exact ⟨rfl, Nat.le_of_ble_eq_true rfl⟩
          | str x => exact ⟨rfl, Nat.le_of_ble_eq_true rfl⟩
          | sg w => exact ⟨rfl, Nat.le_of_ble_eq_true rfl⟩
        refine ⟨t.sort, t.told, p.1, p.2, rfl, hs.1, hs.2, ?_, ⟨by omega, by omega⟩, ⟨by omega, by omega⟩⟩
        have hat : asc t.text = true := ha.1
        have hlt : t.text.length ≤ L := by
          have : (Seg.tk t).text = t.text := rfl
          rw [this] at hl
          omega
        cases t with
        | id w => exact .inl ⟨lowL w, rfl, asc_low hat, by
            have : (lowL w).length = w.length := List.length_map _
            have : w.length ≤ L := hlt
            omega⟩
        | num w v =>
          have := (show NumV w v from hw.1).le
          exact .inr ⟨v, rfl, by omega, by omega⟩
        | str x =>
          refine .inl ⟨x, rfl, ?_, ?_⟩
          · have h39 : asc (39 :: (escL x ++ [39])) = true := hat
            have h40 := (asc_cons.mp h39).2
            rw [asc_app, Bool.and_eq_true] at h40
            have sub : ∀ (x : List Nat) c, c ∈ x → c ∈ escL x := by
              intro x
              induction x with
              | nil => intro c hc; simp at hc
              | cons a x ih =>
                intro c hc
                unfold escL
                rcases List.mem_cons.mp hc with e | hc
                · subst e
                  split
                  · rename_i e; rw [e]; exact List.mem_cons_self
                  · exact List.mem_cons_self
                · split
                  · exact List.mem_cons_of_mem _ (List.mem_cons_of_mem _ (ih c hc))
                  · exact List.mem_cons_of_mem _ (ih c hc)
            exact asc_of fun c hc => asc_lt h40.1 c (sub x c hc)
          · have := (show (Tok.str x).ok from hw.1).2.2
            omega
        | sg w => exact .inl ⟨w, rfl, hat, by
            have : w.length ≤ L := hlt
            omega⟩
      · exact ih d hd
/-! moved down by lines -/
def shiftD (f : Int) (d : D) : D := match d with
  | .tup [s, t, .int l, .int c] => .tup [s, t, .int (l + f), .int c]
  | d => d
theorem adl_shift : ∀ (s : List Nat) (l c f : Int), adl (l + f, c) s = ((adl (l, c) s).1 + f, (adl (l, c) s).2)
  | [], l, c, f => rfl
  | a :: s, l, c, f => by
    rw [adl_cons, adl_cons]
    unfold adv
    by_cases h : a = 10
    · rw [if_pos h, if_pos h]
      show adl (l + f + 1, 1) s = _
      rw [show l + f + 1 = (l + 1) + f by omega, adl_shift s]
    · rw [if_neg h, if_neg h]
      exact adl_shift s l (c + 1) f
theorem due_shift : ∀ (segs : List Seg) (l c f : Int), due (l + f, c) segs = (due (l, c) segs).map (shiftD f)
  | [], l, c, f => rfl
  | s :: segs, l, c, f => by
    have ih := due_shift segs (adl (l, c) s.text).1 (adl (l, c) s.text).2 f
    rw [← adl_shift] at ih
    cases s with
    | bl a => exact ih
    | cm o i k => exact ih
    | tk t => exact List.cons_eq_cons.mpr ⟨rfl, ih⟩
end K00

/-! P21: one pot's rows are right. -/
namespace K00
open Sh
/-- repr(tokens(text)), repr(tuple(list)) -/
theorem show_toks {segs : List Seg} {R : List Nat} {ev : Ev} {e : EM D} {T T1 : Store} (he : e ev T = .ok (.str (txt segs)) T1) (hs : asc (txt segs) = true) (hl : (txt segs).length ≤ 100000) (hw : wf segs) (hn : segs.length ≤ 100000) (hR : ∀ S : Store, reprD0 (.tup (due (1, 1) segs)) S = some (.str R, S)) :
    ∃ E, eB reprD (aCons (eCall0 f_tokens (aCons e aNil)) aNil) ev T = .ok (.str R) (T1 ++ E) := by
  obtain ⟨E, h⟩ := tokens_ok (S := T1) hs (by unfold BIG; omega) hw hn
  exact ⟨E, x_B (x_cons (x_call (x_cons he x_nil) h) x_nil) (hR _)⟩
theorem show_list {ds : List D} {R : List Nat} {ev : Ev} {T T1 : Store} {d : Nat} {e : EM D} (he : e ev T = .ok (.obj d) T1) (hd : T1[d]? = some (.lst ds)) (hR : ∀ S : Store, reprD0 (.tup ds) S = some (.str R, S)) : eB reprD (aCons (eB tupleD (aCons e aNil)) aNil) ev T = .ok (.str R) T1 := by
  refine x_B (S1 := T1) (x_cons (x_B (d := .tup ds) (S2 := T1) (x_cons he x_nil) ?_) x_nil) (hR T1)
  show (lstD (.obj d) T1).map _ = _
  have : lstD (.obj d) T1 = some ds := by
    show cellAt T1 d = _
    unfold cellAt
    rw [hd]
  rw [this]
  rfl
theorem same_txt (R : List Nat) : leqN R R = true := by
  rw [leqN_eq]
  exact decide_eq_true rfl
theorem ne_same {a b : EM D} {ev : Ev} {T T1 T2 : Store} {R : List Nat} (h1 : a ev T = .ok (.str R) T1) (h2 : b ev T1 = .ok (.str R) T2) : qCmp neD a b ev T = .ok false T2 := by
  refine x_qcmp (x_op h1 h2 ?_)
  show (scalD (.str R) (.str R)).map _ = _
  show (some (leqN R R)).map _ = _
  rw [same_txt]
  rfl
/-- the comprehension of the later row -/
theorem later_loop {T0 : Store} {d : Nat} {f : Int} {ds : List D} {ev0 ev1 ev2 ev3 ev4 ev5 ev6 ev7 : Option D} (hd : T0[d]? = some (.lst ds)) (hn : ds.length ≤ 1000) (hP : ∀ x ∈ ds, TokP x) (hf : ev5 = some (.int f)) : ∀ (todo done : List D) (k : Nat) (d8 d9 d10 d11 : Option D), ds = done ++ todo → todo.length < k →
    lcLoop (.lst d) (gTp 4 (gsCons (gNm 8) (gsCons (gNm 9) (gsCons (gNm 10) (gsCons (gNm 11) gsNil))))) qYes (eTup (aCons (eVar 8) (aCons (eVar 9) (aCons (eOp addD (eVar 10) (eVar 5)) (aCons (eVar 11) aNil))))) [ev0, ev1, ev2, ev3, ev4, ev5, ev6, ev7, none, none, none, none] T0.length k done.length (T0 ++ [.lst (done.map (shiftD f))]) = .ok (.obj T0.length) (T0 ++ [.lst (ds.map (shiftD f))])
  | todo, done, 0, _, _, _, _, he, hk => absurd hk (Nat.not_lt_zero _)
  | [], done, k + 1, _, _, _, _, he, hk => by
    have e : ds = done := by rw [he, List.append_nil]
    subst e
    have hl := (List.getElem?_eq_some_iff.mp hd).1
    have w : wkAt (.lst d) (T0 ++ [.lst (ds.map (shiftD f))]) ds.length = some none := by
      unfold wkAt cellAt
      simp [List.getElem?_append_left hl, hd]
    rw [lcLoop, w]
  | x :: todo, done, k + 1, d8, d9, d10, d11, he, hk => by
    have hl := (List.getElem?_eq_some_iff.mp hd).1
    have w : wkAt (.lst d) (T0 ++ [.lst (done.map (shiftD f))]) done.length = some (some x) := by
      unfold wkAt cellAt
      simp [List.getElem?_append_left hl, hd, he]
    obtain ⟨a, t, l, c, rfl, _⟩ := (hP x (by rw [he]; simp)).ex
    have ih := later_loop (T0 := T0) (ev0 := ev0) (ev1 := ev1) (ev2 := ev2) (ev3 := ev3) (ev4 := ev4) (ev5 := ev5) (ev6 := ev6) (ev7 := ev7) hd hn hP hf todo (done ++ [.tup [.str a, t, .int l, .int c]]) k d8 d9 d10 d11 (by rw [he]; simp) (by simp at hk; omega)
    rw [List.length_append, List.length_singleton, List.map_append] at ih
    have hdl : done.length < 16777216 := by
      have := congrArg List.length he
      rw [List.length_append] at this
      omega
    subst hf
    rw [lcLoop, w]
    simp [sCons, sSet, sIf, sRet, sRetN, sNil, sExpr, sAug, sPar2, sPar3, sBreak, sSub, eVar, eC, eOp, eUn, eB, eMt, eMt0, eTup, eLst, eIf, eOr, eAnd, eNot, eSl, ePart, eNoPart, eCall0, noX, aNil, aCons, aStar, qCmp, qTru, qAnd, qOr, qNot, qYes, ob, oo, oB, oS, gNm, gTp, gsNil, gsCons, f1, f2, m0, m1, m2, m3, LINE, addD, gA0, sA0, hdl]
    simp [shiftD] at ih
    exact ih
theorem right_ok {S : Store} {p n : Nat} (hp : Pot S p n) (hn : n ≤ 100000) : ∃ S', f__law_right [.obj p] S = .ok (.bl true) S' ∧ (∀ i, i ≠ p → i < S.length → S'[i]? = S[i]?) ∧ S.length ≤ S'.length := by
  obtain ⟨A, d1, S1, e1, wA, aA, lA, nA, c1, m1, p1, g01, g1, hp1⟩ := row_drawn hp (by omega)
  obtain ⟨B, d2, S2, e2, wB, aB, lB, nB, c2, m2, p2, g02, g2, hp2⟩ := row_drawn hp1 (by omega)
  have l1 : d1 < S1.length := (List.getElem?_eq_some_iff.mp c1).1
  have c1' : S2[d1]? = some (.lst (due (1, 1) A)) := (g2.keep d1 p1 l1).trans c1
  have l2 : d2 < S2.length := (List.getElem?_eq_some_iff.mp c2).1
  have l12 : d1 < S2.length := (List.getElem?_eq_some_iff.mp c1').1
  have PA := due_P A (1, 1) 2000 wA aA lA (by omega) (by show (-100000 : Int) ≤ 1; omega) (by show (1 : Int) + ((2000 : Nat) : Int) ≤ 1000000; omega) (by show (0 : Int) ≤ 1; omega) (by show (1 : Int) + 2 * ((2000 : Nat) : Int) ≤ 1000000; omega)
  have PB := due_P B (1, 1) 2000 wB aB lB (by omega) (by show (-100000 : Int) ≤ 1; omega) (by show (1 : Int) + ((2000 : Nat) : Int) ≤ 1000000; omega) (by show (0 : Int) ≤ 1; omega) (by show (1 : Int) + 2 * ((2000 : Nat) : Int) ≤ 1000000; omega)
  obtain ⟨RA, hRA⟩ := repr_row PA (by omega)
  obtain ⟨RB, hRB⟩ := repr_row PB (by omega)
  obtain ⟨q, last, q1, q2, q3⟩ := spl10 (txt A) [] 1
  have hq : adl (1, 1) (txt A) = (1 + (q.length : Int), 1 + (last.length : Int)) := q2
  -- both, one below the other
  have wAB : wf (A ++ (.bl 10 :: B)) := wf_app wA ⟨.inr rfl, fun _ _ => trivial, wB⟩ fun t _ c hc => by
    have : some 10 = some c := hc
    rw [← Option.some.inj this]
    exact (fol32 t).2
  have tAB : txt (A ++ (.bl 10 :: B)) = txt A ++ [10] ++ txt B := by
    rw [txt_app, List.append_assoc]
    rfl
  have dAB : due (1, 1) (A ++ (.bl 10 :: B)) = due (1, 1) A ++ (due (1, 1) B).map (shiftD ((q.length : Int) + 1)) := by
    rw [due_app, hq]
    have e : due (1 + (q.length : Int), 1 + (last.length : Int)) (.bl 10 :: B) = due (1 + ((q.length : Int) + 1), 1) B := by
      show due (adl (1 + (q.length : Int), 1 + (last.length : Int)) [10]) B = _
      have : adl (1 + (q.length : Int), 1 + (last.length : Int)) [10] = (1 + ((q.length : Int) + 1), 1) := by
        show (1 + (q.length : Int) + 1, (1 : Int)) = _
        rw [Int.add_assoc]
      rw [this]
    rw [e, due_shift]
  have aAB : asc (txt (A ++ (.bl 10 :: B))) = true := by
    rw [tAB, asc_app, asc_app, aA, aB]
    rfl
  have lAB : (txt (A ++ (.bl 10 :: B))).length ≤ 4001 := by
    rw [tAB, List.length_append, List.length_append, List.length_singleton]
    omega
  have PAB := due_P (A ++ (.bl 10 :: B)) (1, 1) 4001 wAB aAB lAB (by omega) (by show (-100000 : Int) ≤ 1; omega) (by show (1 : Int) + ((4001 : Nat) : Int) ≤ 1000000; omega) (by show (0 : Int) ≤ 1; omega) (by show (1 : Int) + 2 * ((4001 : Nat) : Int) ≤ 1000000; omega)
  have nAB : (due (1, 1) (A ++ (.bl 10 :: B))).length ≤ 100 := by
    rw [dAB, List.length_append, List.length_map]
    omega
  obtain ⟨RAB, hRAB⟩ := repr_row PAB nAB
  -- the blanked row, the lowered row
  have wP := wf_blank A wA
  have aP := asc_blank A aA
  have lP : (txt (blank A)).length ≤ 2000 := by rw [txt_blank]; exact lA
  have cP := noCm_blank A
  have segP : ∀ s : List Seg, wf s → s.length ≤ (txt s).length := by
    intro s
    induction s with
    | nil => intro _; exact Nat.le_refl _
    | cons a s ih =>
      intro w
      have := ih w.2.2
      have h2 := List.length_pos_iff.mpr (seg_ne w.1)
      show s.length + 1 ≤ (a.text ++ txt s).length
      rw [List.length_append]
      omega
  have nP : (blank A).length ≤ 2000 := Nat.le_trans (segP _ wP) lP
  have wS := wf_low _ wP cP aP
  obtain ⟨aS, lS⟩ := asc_lowseg _ cP aP
  have nS : ((blank A).map lowSeg).length ≤ 2000 := by rw [List.length_map]; exact nP
  have rP : ∀ S : Store, reprD0 (.tup (due (1, 1) (blank A))) S = some (.str RA, S) := by rw [due_blank]; exact hRA
  have rS : ∀ S : Store, reprD0 (.tup (due (1, 1) ((blank A).map lowSeg))) S = some (.str RA, S) := by rw [due_low _ _ cP aP, due_blank]; exact hRA
  have keepA : ∀ {T E : Store} {i : Nat} {c : Cell}, T[i]? = some c → (T ++ E)[i]? = some c := fun {T E i c} h => by
    rw [List.getElem?_append_left (List.getElem?_eq_some_iff.mp h).1]
    exact h
  -- the first test
  let ev2 : Ev := [some (.obj p), some (.str (txt A)), some (.obj d1), some (.str (txt B)), some (.obj d2), none, none, none, none, none, none, none]
  obtain ⟨E1, t1⟩ := show_toks (ev := ev2) (e := eVar 1) (T := S2) (T1 := S2) (x_var rfl) aA (by omega) wA (by omega) hRA
  have u1 := show_list (ev := ev2) (e := eVar 2) (T := S2 ++ E1) (T1 := S2 ++ E1) (x_var rfl) (keepA c1') hRA
  obtain ⟨E2, t2⟩ := show_toks (ev := ev2) (e := eVar 3) (T := S2 ++ E1) (T1 := S2 ++ E1) (x_var rfl) aB (by omega) wB (by omega) hRB
  have u2 := show_list (ev := ev2) (e := eVar 4) (T := S2 ++ E1 ++ E2) (T1 := S2 ++ E1 ++ E2) (x_var rfl) (keepA (keepA c2)) hRB
  generalize hT3 : S2 ++ E1 ++ E2 = T3 at *
  have c13 : T3[d1]? = some (.lst (due (1, 1) A)) := by rw [← hT3]; exact keepA (keepA c1')
  have c23 : T3[d2]? = some (.lst (due (1, 1) B)) := by rw [← hT3]; exact keepA (keepA c2)
  -- the feeds
  have l2c : (txt A).length + 2 ≤ 16777216 := by omega
  have f1 : splitD0 (.str (txt A)) (.str [10]) T3 = some (.obj T3.length, T3 ++ [.lst ((q ++ [last]).map D.str)]) := by
    show (if ([10] : List Nat).isEmpty = false ∧ asc [10] = true ∧ (txt A).length + 2 ≤ LINE then _ else _) = _
    rw [if_pos ⟨rfl, rfl, l2c⟩, q1]
  have f2 : lenD0 (.obj T3.length) (T3 ++ [.lst ((q ++ [last]).map D.str)]) = some (.int ((q.length : Int) + 1), T3 ++ [.lst ((q ++ [last]).map D.str)]) := by
    show (seqD (.obj T3.length) _).map _ = _
    rw [seq_at (by rw [gA0]; rfl)]
    simp
  generalize hT4 : T3 ++ [.lst ((q ++ [last]).map D.str)] = T4 at *
  have c14 : T4[d1]? = some (.lst (due (1, 1) A)) := by rw [← hT4]; exact keepA c13
  have c24 : T4[d2]? = some (.lst (due (1, 1) B)) := by rw [← hT4]; exact keepA c23
  -- the later row
  have later := later_loop (T0 := T4) (d := d2) (f := (q.length : Int) + 1) (ev0 := some (.obj p)) (ev1 := some (.str (txt A))) (ev2 := some (.obj d1)) (ev3 := some (.str (txt B))) (ev4 := some (.obj d2)) (ev5 := some (.int ((q.length : Int) + 1))) (ev6 := none) (ev7 := none) c24 (by omega) PB rfl (due (1, 1) B) [] FUEL none none none none rfl (by unfold FUEL; omega)
  have wk : iSeq (eVar 4) [some (.obj p), some (.str (txt A)), some (.obj d1), some (.str (txt B)), some (.obj d2), some (.int ((q.length : Int) + 1)), none, none, none, none, none, none] T4 = .ok (.lst d2) T4 := by
    simp [iSeq, sCons, sSet, sIf, sRet, sRetN, sNil, sExpr, sAug, sPar2, sPar3, sBreak, sSub, eVar, eC, eOp, eUn, eB, eMt, eMt0, eTup, eLst, eIf, eOr, eAnd, eNot, eSl, ePart, eNoPart, eCall0, noX, aNil, aCons, aStar, qCmp, qTru, qAnd, qOr, qNot, qYes, ob, oo, oB, oS, gNm, gTp, gsNil, gsCons, f1, f2, m0, m1, m2, m3, LINE, wkOf, c24]
  have elat := (lc_start (n := FUEL) (g := gTp 4 (gsCons (gNm 8) (gsCons (gNm 9) (gsCons (gNm 10) (gsCons (gNm 11) gsNil))))) (q := qYes) (e := eTup (aCons (eVar 8) (aCons (eVar 9) (aCons (eOp addD (eVar 10) (eVar 5)) (aCons (eVar 11) aNil))))) (own := [8, 9, 10, 11]) wk).trans later
  let ev6 : Ev := [some (.obj p), some (.str (txt A)), some (.obj d1), some (.str (txt B)), some (.obj d2), some (.int ((q.length : Int) + 1)), some (.obj T4.length), none, none, none, none, none]
  have c64 : (T4 ++ [Cell.lst ((due (1, 1) B).map (shiftD ((q.length : Int) + 1)))])[T4.length]? = some (.lst ((due (1, 1) B).map (shiftD ((q.length : Int) + 1)))) := by rw [gA0]; rfl
  have c15 : (T4 ++ [Cell.lst ((due (1, 1) B).map (shiftD ((q.length : Int) + 1)))])[d1]? = some (.lst (due (1, 1) A)) := keepA c14
  generalize hT5 : T4 ++ [Cell.lst ((due (1, 1) B).map (shiftD ((q.length : Int) + 1)))] = T5 at *
  -- both rows in one text
  have a1 : addD (.str (txt A)) (.str [10]) T5 = some (.str (txt A ++ [10]), T5) := by
    show (if (txt A).length + 1 ≤ LINE then _ else _) = _
    rw [if_pos (show (txt A).length + 1 ≤ 16777216 by omega)]
  have a2 : addD (.str (txt A ++ [10])) (.str (txt B)) T5 = some (.str (txt (A ++ (.bl 10 :: B))), T5) := by
    show (if (txt A ++ [10]).length + (txt B).length ≤ LINE then _ else _) = _
    have hle : (txt A ++ [10]).length + (txt B).length ≤ 16777216 := by
      rw [List.length_append, List.length_singleton]
      omega
    rw [if_pos hle, tAB]
  have nABs : (A ++ (Seg.bl 10 :: B)).length ≤ 100000 := by
    rw [List.length_append, List.length_cons]
    omega
  obtain ⟨E3, t3⟩ := show_toks (ev := ev6) (e := eOp addD (eOp addD (eVar 1) (eC (.str [10]))) (eVar 3)) (T := T5) (T1 := T5) (x_op (x_op (x_var rfl) x_c a1) (x_var rfl) a2) aAB (by omega) wAB nABs hRAB
  have a3 : addD (.obj d1) (.obj T4.length) (T5 ++ E3) = some (.obj (T5 ++ E3).length, T5 ++ E3 ++ [.lst (due (1, 1) (A ++ (.bl 10 :: B)))]) := by
    have z1 : cellAt (T5 ++ E3) d1 = some (due (1, 1) A) := by
      unfold cellAt
      rw [keepA c15]
    have z2 : cellAt (T5 ++ E3) T4.length = some ((due (1, 1) B).map (shiftD ((q.length : Int) + 1))) := by
      unfold cellAt
      rw [keepA c64]
    have z3 : (due (1, 1) A).length + ((due (1, 1) B).map (shiftD ((q.length : Int) + 1))).length ≤ 16777216 := by rw [List.length_map]; omega
    unfold addD
    simp only [z1, z2]
    rw [if_pos (show _ ≤ LINE from z3), dAB]
  have u3 := show_list (ev := ev6) (e := eOp addD (eVar 2) (eVar 6)) (T := T5 ++ E3) (T1 := T5 ++ E3 ++ [.lst (due (1, 1) (A ++ (.bl 10 :: B)))]) (d := (T5 ++ E3).length) (x_op (x_var rfl) (x_var rfl) a3) (by rw [gA0]; rfl) hRAB
  have c16 : (T5 ++ E3 ++ [Cell.lst (due (1, 1) (A ++ (.bl 10 :: B)))])[d1]? = some (.lst (due (1, 1) A)) := keepA (keepA c15)
  generalize hT6 : T5 ++ E3 ++ [Cell.lst (due (1, 1) (A ++ (.bl 10 :: B)))] = T6 at *
  -- plain and small
  have pl := plain_ok (S := T6) aA (by unfold BIG; omega) wA
  let ev7 : Ev := [some (.obj p), some (.str (txt A)), some (.obj d1), some (.str (txt B)), some (.obj d2), some (.int ((q.length : Int) + 1)), some (.obj T4.length), some (.str (txt (blank A))), none, none, none, none]
  obtain ⟨E4, t4⟩ := show_toks (ev := ev7) (e := eVar 7) (T := T6) (T1 := T6) (x_var rfl) aP (by omega) wP (by omega) rP
  have u4 := show_list (ev := ev7) (e := eVar 2) (T := T6 ++ E4) (T1 := T6 ++ E4) (x_var rfl) (keepA c16) hRA
  obtain ⟨E5, sm⟩ := small_ok (S := T6 ++ E4) aP (by omega) wP cP
  obtain ⟨E6, t5⟩ := show_toks (ev := ev7) (e := eCall0 f__law_small (aCons (eVar 7) aNil)) (T := T6 ++ E4) (T1 := T6 ++ E4 ++ E5) (x_call (x_cons (x_var rfl) x_nil) sm) aS (by omega) wS (by omega) rS
  have u5 := show_list (ev := ev7) (e := eVar 2) (T := T6 ++ E4 ++ E5 ++ E6) (T1 := T6 ++ E4 ++ E5 ++ E6) (x_var rfl) (keepA (keepA (keepA c16))) hRA
  generalize hT7 : T6 ++ E4 ++ E5 ++ E6 = T7 at *
  have c17 : T7[d1]? = some (.lst (due (1, 1) A)) := by rw [← hT7]; exact keepA (keepA (keepA c16))
  obtain ⟨E7, t6⟩ := show_toks (ev := ev7) (e := eVar 1) (T := T7) (T1 := T7) (x_var rfl) aA (by omega) wA (by omega) hRA
  have u6 := show_list (ev := ev7) (e := eVar 2) (T := T7 ++ E7) (T1 := T7 ++ E7) (x_var rfl) (keepA c17) hRA
  have last : eqD (.str RA) (.str RA) (T7 ++ E7) = some (.bl true, T7 ++ E7) := by
    show (some (leqN RA RA)).map _ = _
    rw [same_txt]
    rfl
  refine ⟨T7 ++ E7, fn_rt (y_cons (y_set (x_call (x_cons (x_var rfl) x_nil) e1) rfl) (y_cons (e1 := ev2) (y_set (x_call (x_cons (x_var rfl) x_nil) e2) rfl) (y_cons (e1 := ev2) (S1 := T3) (y_if (k := false) (S1 := T3) (x_qor (k := false) (ne_same t1 u1) (fun _ => ne_same t2 u2) (fun z => absurd z (by decide))) (fun z => absurd z (by decide)) (fun _ => rfl)) (y_cons (S1 := T4) (y_set (d := .int ((q.length : Int) + 1)) (x_B (x_cons (x_mt (x_var rfl) rfl (x_cons x_c x_nil) f1) x_nil) f2) rfl) (y_cons (e1 := ev6) (S1 := T5) (y_set elat rfl) (y_cons (e1 := ev6) (S1 := T6) (y_if (k := false) (S1 := T6) (ne_same t3 u3) (fun z => absurd z (by decide)) (fun _ => rfl)) (y_cons (e1 := ev7) (S1 := T6) (y_set (x_call (x_cons (x_var rfl) x_nil) pl) rfl) (y_cons (e1 := ev7) (S1 := T7) (y_if (k := false) (S1 := T7) (x_qor (k := false) (ne_same t4 u4) (fun _ => ne_same t5 u5) (fun z => absurd z (by decide))) (fun z => absurd z (by decide)) (fun _ => rfl)) (y_rt (y_ret (x_op t6 u6 last))))))))))), ?_, ?_⟩
  · intro i hi hil
    have h1 : S2[i]? = S[i]? := (g2.keep i hi (Nat.lt_of_lt_of_le hil g1.len)).trans (g1.keep i hi hil)
    have hs : ∃ c, S2[i]? = some c := ⟨_, h1.trans (List.getElem?_eq_getElem hil)⟩
    obtain ⟨c, hc⟩ := hs
    have : (T7 ++ E7)[i]? = some c := by
      rw [← hT7, ← hT6, ← hT5, ← hT4, ← hT3]
      exact keepA (keepA (keepA (keepA (keepA (keepA (keepA (keepA (keepA (keepA hc)))))))))
    rw [this, ← h1, hc]
  · have := g1.len
    have := g2.len
    rw [← hT7, ← hT6, ← hT5, ← hT4, ← hT3]
    simp only [List.length_append]
    omega
end K00

/-! P22: the pots, the law. -/
namespace K00
open Sh
theorem intsD_map : ∀ ns : List Int, intsD (ns.map D.int) = some ns
  | [] => rfl
  | i :: ns => by
    show (intsD (ns.map D.int)).map (i :: ·) = _
    rw [intsD_map ns]
    rfl
theorem pot_ok (ns : List Int) (hn : ns.length ≤ 63) (i : Nat) (hi : i ≤ 3) (S : Store) : ∃ k S', f__law_pot [.rol (ns.map D.int), .int i] S = .ok (.obj k) S' ∧ Pot S' k 0 ∧ S.length ≤ k ∧ S.length ≤ S'.length ∧ ∀ j, j < S.length → S'[j]? = S[j]? := by
  have hcell : ∃ (cell : Int) (E : Store), ∀ ev : Ev, ev[0]? = some (some (.rol (ns.map D.int))) → ev[1]? = some (some (.int i)) → eIf (qCmp ltD (eVar 1) (eB lenD (aCons (eVar 0) aNil))) (eOp ixD (eVar 0) (eVar 1)) (eOp addD (eOp addD (eOp modD (eB intD (aCons (eB sumD (aCons (eSl slD (eVar 0) eNoPart (ePart (eC (.int 1)))) aNil)) aNil)) (eC (.int 1000003))) (eOp mulD (eC (.int 601)) (eVar 1))) (eC (.int 211))) ev S = .ok (.int cell) (S ++ E) := by
    have el : lenD0 (.rol (ns.map D.int)) S = some (.int (ns.length : Nat), S) := by
      simp [lenD0, seqD]
    by_cases h : i < ns.length
    · refine ⟨ns[i], [], fun ev h0 h1 => x_if (k := true) (S1 := S) ?_ (fun _ => ?_) (fun z => absurd z (by decide))⟩
      · refine x_qcmp (x_op (x_var h1) (x_B (x_cons (x_var h0) x_nil) el) ?_)
        have hh : (i : Int) < ((ns.length : Nat) : Int) := by omega
        simp only [ltD, cmpD, hh, decide_true]
      · rw [List.append_nil]
        refine x_op (x_var h0) (x_var h1) ?_
        show ((seqD (.rol (ns.map D.int)) S).bind _).map _ = _
        show ((some (ns.map D.int)).bind fun xs => L2.atI xs (i : Int)).map _ = _
        show (L2.atI (ns.map D.int) (i : Int)).map _ = _
        rw [atI_nat, List.getElem?_map, List.getElem?_eq_getElem h]
        rfl
    · refine ⟨(ns.take 1).sum % 1000003 + 601 * i + 211, [.lst ((ns.take 1).map D.int)], fun ev h0 h1 => x_if (k := false) (S1 := S) ?_ (fun z => absurd z (by decide)) (fun _ => ?_)⟩
      · refine x_qcmp (x_op (x_var h1) (x_B (x_cons (x_var h0) x_nil) el) ?_)
        have hh : ¬ (i : Int) < ((ns.length : Nat) : Int) := by omega
        simp only [ltD, cmpD, hh, decide_false]
      · have k1 : slD (.rol (ns.map D.int)) none (some 1) S = some (.obj S.length, S ++ [.lst ((ns.take 1).map D.int)]) := by
          show some (D.obj S.length, S ++ [Cell.lst (cutL (ns.map D.int) none (some ((1 : Nat) : Int)))]) = _
          rw [cut_to, List.map_take]
        have k2 : sumD0 (.obj S.length) (S ++ [.lst ((ns.take 1).map D.int)]) = some (.int (ns.take 1).sum, S ++ [.lst ((ns.take 1).map D.int)]) := by
          show ((lstD (.obj S.length) _).bind intsD).map _ = _
          have : lstD (.obj S.length) (S ++ [Cell.lst ((ns.take 1).map D.int)]) = some ((ns.take 1).map D.int) := by
            show cellAt _ _ = _
            unfold cellAt
            rw [gA0]
            rfl
          rw [this]
          show (intsD ((ns.take 1).map D.int)).map _ = _
          rw [intsD_map]
          rfl
        refine x_op (x_op (x_op (x_B (x_cons (x_B (x_cons (x_sl (x_var h0) x_nopart (x_part x_c) k1) x_nil) k2) x_nil) rfl) x_c (d_mod (by omega))) (x_op x_c (x_var h1) (d_mul (sm_of (by omega) (by omega)) (sm_of (by omega) (by omega)))) rfl) x_c rfl
  obtain ⟨cell, E, hc⟩ := hcell
  have s10 : Sm 10 := sm_of (by omega) (by omega)
  have s60 : Sm ((10 : Int) ^ 60) := by
    unfold Sm
    decide +kernel
  have pos : (0 : Int) < ((10 : Int) ^ 60) ^ 5 := by decide +kernel
  have big : Sm (((10 : Int) ^ 60) ^ 5) := by
    unfold Sm
    decide +kernel
  have p1 : ∀ S, powD (.int 10) (.int 60) S = some (.int ((10 : Int) ^ 60), S) := fun S => d_pow (k := 60) s10 (by omega)
  have p2 : ∀ S, powD (.int ((10 : Int) ^ 60)) (.int 5) S = some (.int (((10 : Int) ^ 60) ^ 5), S) := fun S => d_pow (k := 5) s60 (by omega)
  have p3 : ∀ S, powD (.int 10) (.int 18) S = some (.int ((10 : Int) ^ 18), S) := fun S => d_pow (k := 18) s10 (by omega)
  generalize hM : ((10 : Int) ^ 60) ^ 5 = M at *
  generalize hab : (if cell < 0 then -cell else cell) = ab
  have k1 : ∀ S, modD (.int ab) (.int M) S = some (.int (ab % M), S) := fun S => d_mod pos
  have a0 : 0 ≤ ab % M := Int.emod_nonneg _ (by omega)
  have a1 : ab % M < M := Int.emod_lt_of_pos _ pos
  have sa : Sm (ab % M) := by
    unfold Sm at big ⊢
    omega
  generalize hflag : decide (ab ≥ (10 : Int) ^ 18) = flag
  have k2 : ∀ S, geD (.int ab) (.int ((10 : Int) ^ 18)) S = some (.bl flag, S) := fun S => by
    rw [← hflag]
    rfl
  have sf : Sm (if flag = true then (1 : Int) else 0) := by
    cases flag
    · exact sm_of (by decide) (by decide)
    · exact sm_of (by decide) (by decide)
  have k3 : ∀ S, mulD (.int (ab % M)) (.int (if flag = true then 1 else 0)) S = some (.int (ab % M * (if flag = true then 1 else 0)), S) := fun S => d_mul sa sf
  have own0 : 0 ≤ ab % M * (if flag = true then (1 : Int) else 0) := Int.mul_nonneg a0 (by cases flag <;> decide)
  generalize ab % M * (if flag = true then (1 : Int) else 0) = own at *
  have q0 : 0 ≤ cell % 2305843009213693951 := Int.emod_nonneg _ (by omega)
  have q1 : cell % 2305843009213693951 < 2305843009213693951 := Int.emod_lt_of_pos _ (by omega)
  have k4 : ∀ S, modD (.int cell) (.int 2305843009213693951) S = some (.int (cell % 2305843009213693951), S) := fun S => d_mod (by omega)
  generalize cell % 2305843009213693951 = sm at *
  have k5 : ∀ S, mulD (.int sm) (.int 75003) S = some (.int (sm * 75003), S) := fun S => d_mul (sm_of (by omega) (by omega)) (sm_of (by omega) (by omega))
  have k6 : ∀ S, mulD (.int 7001) (.int i) S = some (.int (7001 * i), S) := fun S => d_mul (sm_of (by omega) (by omega)) (sm_of (by omega) (by omega))
  have k7 : ∀ S, mulD (.int (7001 * i)) (.int i) S = some (.int (7001 * i * i), S) := fun S => d_mul (sm_of (by omega) (by omega)) (sm_of (by omega) (by omega))
  have k8 : ∀ (x : Int) S, modD (.int x) (.int 2305843009213693921) S = some (.int (x % 2305843009213693921), S) := fun x S => d_mod (by omega)
  have r0 : 0 ≤ (sm * 75003 + 7001 * i * i + 301) % 2305843009213693921 := Int.emod_nonneg _ (by omega)
  have r1 : (sm * 75003 + 7001 * i * i + 301) % 2305843009213693921 < 2305843009213693921 := Int.emod_lt_of_pos _ (by omega)
  refine ⟨(S ++ E).length, S ++ E ++ [.lst [.int own, .int ((sm * 75003 + 7001 * i * i + 301) % 2305843009213693921), .int 0]], fn_rt (y_cons (S1 := S ++ E) (y_set (hc _ rfl rfl) rfl) (y_cons (S1 := S ++ E) (y_set (d := .int own) ?_ rfl) (y_cons (S1 := S ++ E) (y_set (d := .int sm) ?_ rfl) (y_rt (y_ret ?_))))), ?_, ?_, ?_, ?_⟩
  · have eab : absD0 (.int cell) (S ++ E) = some (.int ab, S ++ E) := by
      rw [← hab]
      rfl
    exact x_op (x_op (x_B (x_cons (x_B (x_cons (x_var rfl) x_nil) eab) x_nil) rfl) (x_op (x_op x_c x_c (p1 _)) x_c (p2 _)) (k1 _)) (x_B (x_cons (x_op (x_B (x_cons (x_var rfl) x_nil) eab) (x_op x_c x_c (p3 _)) (k2 _)) x_nil) rfl) (k3 _)
  · exact x_op (x_B (x_cons (x_var rfl) x_nil) rfl) x_c (k4 _)
  · exact x_lst (x_cons (x_var rfl) (x_cons (x_op (x_B (x_cons (x_op (x_op (x_op (x_var rfl) x_c (k5 _)) (x_op (x_op x_c (x_var rfl) (k6 _)) (x_var rfl) (k7 _)) rfl) x_c rfl) x_nil) rfl) x_c (k8 _ _)) (x_cons x_c x_nil)))
  · exact ⟨own, _, 0, by rw [gA0]; rfl, own0, r0, by omega, by omega, by omega⟩
  · rw [List.length_append]
    omega
  · rw [List.length_append, List.length_append]
    omega
  · intro j hj
    rw [List.append_assoc, List.getElem?_append_left hj]
theorem law_loop {ns : List Int} {T0 : Store} {d m : Nat} (hn : ns.length ≤ 63) (hm : m ≤ 3) (hd : d < T0.length) : ∀ (todo i k : Nat) (S : Store), i + todo = m → todo < k → S[d]? = some (.lst ((List.range m).map fun i : Nat => D.int i)) → S[T0.length]? = some (.lst (List.replicate i (.bl true))) →
    ∃ S', lcLoop (.lst d) (gNm 1) qYes (eCall0 f__law_right (aCons (eCall0 f__law_pot (aCons (eVar 0) (aCons (eVar 1) aNil))) aNil)) [some (.rol (ns.map D.int)), none] T0.length k i S = .ok (.obj T0.length) S' ∧ S'[T0.length]? = some (.lst (List.replicate m (.bl true)))
  | todo, i, 0, S, hi, hk, h1, h2 => absurd hk (Nat.not_lt_zero _)
  | 0, i, k + 1, S, hi, hk, h1, h2 => by
    have him : i = m := by omega
    subst him
    have w : wkAt (.lst d) S i = some none := by
      unfold wkAt cellAt
      simp [h1]
    refine ⟨S, ?_, h2⟩
    rw [lcLoop, w]
  | todo + 1, i, k + 1, S, hi, hk, h1, h2 => by
    have him : i < m := by omega
    have w : wkAt (.lst d) S i = some (some (.int i)) := by
      unfold wkAt cellAt
      simp [h1, him]
    have hcS : T0.length < S.length := (List.getElem?_eq_some_iff.mp h2).1
    have hdS : d < S.length := (List.getElem?_eq_some_iff.mp h1).1
    obtain ⟨p, S1, e1, hp, hp0, hl1, hk1⟩ := pot_ok ns hn i (by omega) S
    obtain ⟨S2, e2, hk2, hl2⟩ := right_ok hp (by omega)
    have c2 : S2[T0.length]? = some (.lst (List.replicate i (.bl true))) := ((hk2 _ (by omega) (by omega)).trans (hk1 _ hcS)).trans h2
    have d2 : S2[d]? = some (.lst ((List.range m).map fun i : Nat => D.int i)) := ((hk2 _ (by omega) (by omega)).trans (hk1 _ hdS)).trans h1
    have hc2 : T0.length < S2.length := (List.getElem?_eq_some_iff.mp c2).1
    obtain ⟨S', h3, h4⟩ := law_loop (ns := ns) (T0 := T0) hn hm hd todo (i + 1) k (S2.set T0.length (.lst (List.replicate i (.bl true) ++ [.bl true]))) (by omega) (by omega) (by rw [List.getElem?_set_ne (by omega)]; exact d2) (by rw [List.getElem?_set_self hc2, List.replicate_succ'])
    refine ⟨S', ?_, h4⟩
    have ee : eCall0 f__law_right (aCons (eCall0 f__law_pot (aCons (eVar 0) (aCons (eVar 1) aNil))) aNil) [some (.rol (ns.map D.int)), some (.int i)] S = .ok (.bl true) S2 := x_call (x_cons (x_call (x_cons (x_var rfl) (x_cons (x_var rfl) x_nil)) e1) x_nil) e2
    have hacc : (List.replicate i (D.bl true)).length < LINE := by
      rw [List.length_replicate]
      show i < 16777216
      omega
    rw [lcLoop, w]
    have eg : ([some (D.rol (ns.map D.int)), none] : Ev).set 1 (some (.int i)) = [some (.rol (ns.map D.int)), some (.int i)] := rfl
    simp only [gNm, qYes, eg, ee, if_true, c2, hacc]
    exact h3
theorem bls_rep : ∀ m : Nat, blsD (List.replicate m (.bl true)) = some (List.replicate m true)
  | 0 => rfl
  | m + 1 => by
    show (blsD (List.replicate m (.bl true))).map (true :: ·) = _
    rw [bls_rep m]
    rfl
theorem val (ns : List Int) (hl : ns.length ≤ 63) : ∃ S', f_law [.rol (ns.map D.int)] [] = .ok (.bl true) S' := by
  obtain ⟨m, hm, hm3⟩ : ∃ m : Nat, (if (if ((ns.length : Nat) : Int) < 3 then ((ns.length : Nat) : Int) else 3) > 1 then (if ((ns.length : Nat) : Int) < 3 then ((ns.length : Nat) : Int) else 3) else 1) = (m : Int) ∧ m ≤ 3 := by
    by_cases h : ((ns.length : Nat) : Int) < 3
    · rw [if_pos h]
      by_cases h2 : ((ns.length : Nat) : Int) > 1
      · exact ⟨ns.length, by rw [if_pos h2], by omega⟩
      · exact ⟨1, by rw [if_neg h2]; rfl, by omega⟩
    · rw [if_neg h]
      exact ⟨3, rfl, by omega⟩
  have cells : f__law_cells [.rol (ns.map D.int), .int 3] [] = .ok (.obj 0) [.lst ((List.range m).map fun i : Nat => D.int i)] := by
    have el : lenD0 (.rol (ns.map D.int)) [] = some (.int (ns.length : Nat), []) := by
      simp [lenD0, seqD]
    have e1 : eB max2D (aCons (eC (.int 1)) (aCons (eB min2D (aCons (eVar 1) (aCons (eB lenD (aCons (eVar 0) aNil)) aNil))) aNil)) [some (.rol (ns.map D.int)), some (.int 3)] [] = .ok (.int m) [] := by
      refine x_B (x_cons x_c (x_cons (x_B (x_cons (x_var rfl) (x_cons (x_B (x_cons (x_var rfl) x_nil) el) x_nil)) rfl) x_nil)) ?_
      show some (D.int (if (if ((ns.length : Nat) : Int) < 3 then ((ns.length : Nat) : Int) else 3) > 1 then (if ((ns.length : Nat) : Int) < 3 then ((ns.length : Nat) : Int) else 3) else 1), _) = _
      rw [hm]
    refine fn_rt (y_rt (y_ret ?_))
    show eLRg _ [some (.rol (ns.map D.int)), some (.int 3)] [] = _
    unfold eLRg ob
    rw [e1]
    show (if (m : Int) ≤ 16777216 ∧ -16777216 ≤ (m : Int) then Out.ok (D.obj 0) ([] ++ [Cell.lst ((List.range (m : Int).toNat).map fun i : Nat => D.int i)]) else .bad) = _
    rw [if_pos ⟨by omega, by omega⟩, Int.toNat_natCast]
    rfl
  obtain ⟨S', h1, h2⟩ := law_loop (ns := ns) (T0 := [.lst ((List.range m).map fun i : Nat => D.int i)]) (d := 0) (m := m) hl hm3 (by simp) m 0 FUEL ([.lst ((List.range m).map fun i : Nat => D.int i)] ++ [.lst []]) (by omega) (by unfold FUEL; omega) rfl rfl
  have wk : iSeq (eCall0 f__law_cells (aCons (eVar 0) (aCons (eC (.int 3)) aNil))) [some (.rol (ns.map D.int)), none] [] = .ok (.lst 0) [.lst ((List.range m).map fun i : Nat => D.int i)] := by
    have : eCall0 f__law_cells (aCons (eVar 0) (aCons (eC (.int 3)) aNil)) [some (.rol (ns.map D.int)), none] [] = .ok (.obj 0) [.lst ((List.range m).map fun i : Nat => D.int i)] := x_call (x_cons (x_var rfl) (x_cons x_c x_nil)) cells
    unfold iSeq ob
    rw [this]
    rfl
  refine ⟨S', fn_rt (y_rt (y_ret (x_B (x_cons ((lc_start wk).trans h1) x_nil) ?_)))⟩
  show ((lstD (.obj 1) S').bind blsD).map _ = _
  have hl2 : lstD (.obj 1) S' = some (List.replicate m (.bl true)) := by
    show cellAt S' 1 = _
    unfold cellAt
    have h2 : S'[1]? = some (.lst (List.replicate m (.bl true))) := h2
    rw [h2]
  rw [hl2]
  show (blsD (List.replicate m (.bl true))).map _ = _
  rw [bls_rep]
  show some (D.bl ((List.replicate m true).all id), S') = _
  rw [show (List.replicate m true).all id = true by rw [List.all_eq_true]; intro x hx; exact (List.mem_replicate.mp hx).2]
end K00

namespace K00
open PySem PySem.Spec PyProof.Rows L2 Sh
abbrev R : PySem.W.OpenRow := PySem.W.OpenLaw.row PySem.Challenge.rw_begunended_k00_whole_tokens_of_drawn_row
abbrev hk : PySem.W.Hook := hookT 4 fa fn tb
def ob (s : PySem.W.SharedT) : AlT := obsT 4 fa fn tb (HandSHeadRun.getT s)
theorem ob_eq (s : PySem.W.SharedT) : ob s = hk.obs s.abs := obsT_eq (HandSHeadRun.getT_eq s)
def loose : List Str := (["StageError", "BadToken", "WORD", "NAME", "NUMBER", "STRING", "SIGN", "RESERVED", "TWO_SIGNS", "ONE_SIGNS", "LETTERS", "FIGURES", "BLANKS", "FEED", "QUOTE", "COMMENTS", "ENDS", "MOST", "MOST_FIGURES"] : List Str) ++
  (["place_of", "run_end", "comment_end", "string_at", "number_at", "token_at", "tokens", "_law_pot", "_law_take", "_law_of", "_law_cells", "_law_name", "_law_words", "_law_spelt"] : List Str) ++ (["_law_string", "_law_number", "_law_token", "_law_may_touch", "_law_comment", "_law_gap", "_law_row", "_law_plain", "_law_small", "_law_right"] : List Str)
theorem run (w : World) : HandSHeadRun.RunEq R (PySem.W.view R.prog [46]) hk ob 4000 loose w := by
  intro os
  kernel_rfl
end K00
open PySem PySem.W PySem.Calls PyProof.Rows
theorem PySem.Challenge.cw_begunended_k00_whole_tokens_of_drawn_row_holds : PySem.Challenge.rw_begunended_k00_whole_tokens_of_drawn_row.Holds := by
  w_on; o_law
  refine HandSHeadRun.head_any (r := OpenLaw.row PySem.Challenge.rw_begunended_k00_whole_tokens_of_drawn_row) (q := view (OpenLaw.row PySem.Challenge.rw_begunended_k00_whole_tokens_of_drawn_row).prog [46]) (H := K00.hk) (ob := K00.ob) (M := 4000) (loose := K00.loose) (d := HandSHeadRun.topDef (OpenLaw.row PySem.Challenge.rw_begunended_k00_whole_tokens_of_drawn_row).prog 46) (kwd := []) K00.ob_eq
    (by kernel_rfl) (fun s => by kernel_rfl) K00.run (by kernel_rfl) (by kernel_rfl) (by kernel_rfl) (by rfl) (by first | assumption | decide +kernel) (by decide +kernel) ⟨rfl, rfl, rfl, rfl, rfl, by decide +kernel⟩ ?hw ?hc
  case hw => w_witness2
  case hc =>
    refine Sh.walk_end (l := PySem.Challenge.rw_begunended_k00_whole_tokens_of_drawn_row) (n := 63) (k := 7) (x := "script") (fn := K00.f_law) rfl (by decide) (by kernel_rfl) ⟨rfl, by decide, by decide⟩ rfl ?F fun ns h => K00.val ns h
    intro w mg fa h Y G hmg0
    obtain ⟨K, KX, c⟩ := Y
    have hmg : mg ("law" : PySem.Str) = some (.ref fa) := by
      have e : (HandSHeadRun.topDef (OpenLaw.row PySem.Challenge.rw_begunended_k00_whole_tokens_of_drawn_row).prog 46).name = ("law" : PySem.Str) := by kernel_rfl
      rw [← e]
      exact hmg0
    obtain ⟨fd, hb, hF⟩ := K00.facts (P := (PySem.Challenge.rw_begunended_k00_whole_tokens_of_drawn_row).prog) (w := w) KX G hmg c
    exact ⟨K, fd, KX, hb, hF⟩

