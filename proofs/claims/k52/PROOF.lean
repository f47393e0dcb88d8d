import PyProof.Rows.All
import Wide.All
import OpenK.AllK
import Wide.FinOn
import HandS.ForMost
import HandS.Wide
import HandS.Exc
import HandS.ExcOwn
import HandS.TryOnly
import HandS.WordsExc
import HandS.Defaults
import HandS.IsInst
import HandS.Zip
import HandS.Flow
import HandS.HeadHook1
import HandS.HeadEnd
import HandS.Style
import KE.KStateDown
import HandS.Head0
import HandS.Head1
import HandS.Head2
import HandS.HeadHook2
import HandS.TupAny
import HandS.TupMul
import KE.GoesEnum
import HandS.SlotsOwn
import PyProof.Rows.EqNone
import HandS.Flt
import HandS.TryMany
import HandS.Small
import HandS.Dict
import HandS.HeadHook3
import KE.DataEq
import HandS.Deep
import PySem.Challenge.RW_unitgrids_k52_whole_determinants_of_numb
set_option Elab.async false
set_option linter.all false
set_option maxRecDepth 100000
set_option maxHeartbeats 1000000
/-! DL, the data layer: values as trees, mutable objects as places of a store, expressions and statements as functions of both. -/
namespace DL
open PySem PySem.Spec PyProof.Rows L2

/-- data: a value without addresses -/
inductive D where
  | non
  | bl (b : Bool)
  | int (i : Int)
  | str (x : Str)
  | tup (xs : List D)
  /-- a list that is only read from here on -/
  | lst (xs : List D)
  /-- an instance that is only read from here on -/
  | ins (C : Addr) (ns : List Str) (xs : List D)
  /-- a dict that is only read from here on -/
  | dct (ks : List Key) (xs : List D)
  /-- an object of the written part -/
  | ref (a : Addr)
  | ty (n : String)
/-- what a name holds: data, or a place of the store -/
inductive W where
  | d (x : D)
  | loc (n : Nat)
/-- what stands at a place -/
inductive M where
  | lst (ws : List W)
  | ins (C : Addr) (ns : List Str) (ws : List W)
  | dead
abbrev Store := List M
/-- where the places lie; addresses that are kept for themselves (a list while a comprehension fills it) -/
structure Ad where
  pl : List (Option Addr)
  rs : List Addr := []
/-- no place, not kept -/
def Off (ρ : Ad) (a : Addr) : Prop := some a ∉ ρ.pl ∧ a ∉ ρ.rs
def Ad.add (ρ : Ad) (p : Addr) : Ad := ⟨ρ.pl ++ [some p], ρ.rs⟩
abbrev DEnv := List (Option W)
/-- an exception: its class's name, the attributes of its own dict -/
structure Ex where
  cls : Str
  ns : List Str
  ds : List D

/-- its class -/
def Ex.cl (K : PySem.W.Frag) (x : Ex) : Value := .ref (He.ga K x.cls)
/-- a list, a tuple of the written part -/
def KL (K : PySem.W.Frag) (a : Addr) (xs : List V) : Prop :=
  ∃ (o : Obj) (its : Array Value) (n : Nat), K.lookup a = some o ∧ o.cls = .type "list" ∧ o.dict = none ∧ o.data = .seq its n ∧ its.size ≤ sizeLine ∧ Vals xs its.toList
def KT (K : PySem.W.Frag) (a : Addr) (xs : List V) : Prop :=
  ∃ (o : Obj) (its : Array Value) (n : Nat), K.lookup a = some o ∧ o.cls = .type "tuple" ∧ o.data = .seq its n ∧ its.size ≤ sizeLine ∧ Vals xs its.toList
/-- a list, a tuple, that no place of the store holds -/
def LstF (K : PySem.W.Frag) (ρ : Ad) (H : Hp) (a : Addr) (xs : List V) : Prop := (Rd H a (.lst xs) ∧ Off ρ a) ∨ KL K a xs
def TupF (K : PySem.W.Frag) (ρ : Ad) (H : Hp) (a : Addr) (xs : List V) : Prop := (Rd H a (.tup xs) ∧ Off ρ a) ∨ KT K a xs
theorem LstF.sq {K : PySem.W.Frag} {ρ : Ad} {H : Hp} {a : Addr} {xs : List V} (h : LstF K ρ H a xs) : SqL K H a xs := h.elim (fun z => .inl z.1) .inr
theorem TupF.sq {K : PySem.W.Frag} {ρ : Ad} {H : Hp} {a : Addr} {xs : List V} (h : TupF K ρ H a xs) : SqT K H a xs := h.elim (fun z => .inl z.1) .inr

section
variable (K : PySem.W.Frag) (ρ : Ad) (H : Hp)
mutual
def RelD : D → V → Prop
  | .non, v => v = .non
  | .bl b, v => v = .bl b
  | .int i, v => v = .int i
  | .str x, v => v = .str x
  | .tup ds, v => ∃ a vs, v = .ref a ∧ TupF K ρ H a vs ∧ RelDs ds vs
  | .lst ds, v => ∃ a vs, v = .ref a ∧ LstF K ρ H a vs ∧ RelDs ds vs
  | .ins C ns ds, v => ∃ a dx vs, v = .ref a ∧ H a = some (.ins C dx (ns.zip vs)) ∧ Off ρ a ∧ RelDs ds vs ∧ ns.length = ds.length
  | .dct ks ds, v => ∃ a vs, v = .ref a ∧ H a = some (.dK (ks.zip vs)) ∧ Off ρ a ∧ RelDs ds vs ∧ ks.length = ds.length
  | .ref a, v => v = .ref a
  | .ty n, v => v = .ty n
def RelDs : List D → List V → Prop
  | [], vs => vs = []
  | d :: ds, vs => ∃ v vr, vs = v :: vr ∧ RelD d v ∧ RelDs ds vr
end
def RelW : W → V → Prop
  | .d x, v => RelD K ρ H x v
  | .loc n, v => n < ρ.pl.length ∧ ∀ a, ρ.pl[n]? = some (some a) → v = .ref a
def RelWs : List W → List V → Prop
  | [], vs => vs = []
  | d :: ds, vs => ∃ v vr, vs = v :: vr ∧ RelW K ρ H d v ∧ RelWs ds vr
def ObjR : M → Addr → Prop
  | .lst ws, a => ∃ vs, H a = some (.lst vs) ∧ RelWs K ρ H ws vs
  | .ins C ns ws, a => ∃ dx vs, H a = some (.ins C dx (ns.zip vs)) ∧ RelWs K ρ H ws vs ∧ ns.length = ws.length
  | .dead, _ => False
end
/-- how the heap goes on: what no place holds, and is not kept, stays -/
structure Stw (ρ : Ad) (H : Hp) (ρ' : Ad) (H' : Hp) : Prop where
  keep : ∀ a o, H a = some o → Off ρ a → H' a = some o
  off : ∀ a o, H a = some o → Off ρ a → Off ρ' a
  len : ρ.pl.length ≤ ρ'.pl.length
  same : ∀ (n : Nat) (a : Addr), n < ρ.pl.length → ρ'.pl[n]? = some (some a) → ρ.pl[n]? = some (some a)
/-- .. and what is kept stays -/
structure Step (ρ : Ad) (H : Hp) (ρ' : Ad) (H' : Hp) : Prop extends Stw ρ H ρ' H' where
  rs : ρ'.rs = ρ.rs
  kr : ∀ a o, a ∈ ρ.rs → H a = some o → H' a = some o
theorem Step.refl (ρ : Ad) (H : Hp) : Step ρ H ρ H := ⟨⟨fun _ _ h _ => h, fun _ _ _ h => h, Nat.le_refl _, fun _ _ _ h => h⟩, rfl, fun _ _ _ h => h⟩
theorem Stw.trans {ρ ρ1 ρ2 : Ad} {H H1 H2 : Hp} (a : Stw ρ H ρ1 H1) (b : Stw ρ1 H1 ρ2 H2) : Stw ρ H ρ2 H2 where
  keep := fun x o h n => b.keep x o (a.keep x o h n) (a.off x o h n)
  off := fun x o h n => b.off x o (a.keep x o h n) (a.off x o h n)
  len := Nat.le_trans a.len b.len
  same := fun n x h e => a.same n x h (b.same n x (Nat.lt_of_lt_of_le h a.len) e)
theorem Step.trans {ρ ρ1 ρ2 : Ad} {H H1 H2 : Hp} (a : Step ρ H ρ1 H1) (b : Step ρ1 H1 ρ2 H2) : Step ρ H ρ2 H2 :=
  ⟨a.toStw.trans b.toStw, b.rs.trans a.rs, fun x o h e => b.kr x o (by rw [a.rs]; exact h) (a.kr x o h e)⟩
section
variable {K : PySem.W.Frag} {ρ ρ' : Ad} {H H' : Hp}
theorem Stw.rd (s : Stw ρ H ρ' H') {a : Addr} {o : HO} (h : Rd H a o) (n : Off ρ a) : Rd H' a o ∧ Off ρ' a := by
  rcases h with h | ⟨u, h⟩
  · exact ⟨.inl (s.keep a _ h n), s.off a _ h n⟩
  · exact ⟨.inr ⟨u, s.keep a _ h n⟩, s.off a _ h n⟩
theorem LstF.monoW (s : Stw ρ H ρ' H') {a : Addr} {xs : List V} (h : LstF K ρ H a xs) : LstF K ρ' H' a xs := h.elim (fun z => .inl (s.rd z.1 z.2)) .inr
theorem TupF.monoW (s : Stw ρ H ρ' H') {a : Addr} {xs : List V} (h : TupF K ρ H a xs) : TupF K ρ' H' a xs := h.elim (fun z => .inl (s.rd z.1 z.2)) .inr
mutual
theorem RelD.monoW (s : Stw ρ H ρ' H') : ∀ (d : D) (v : V), RelD K ρ H d v → RelD K ρ' H' d v
  | .non, v, h => by simpa [RelD] using h
  | .bl b, v, h => by simpa [RelD] using h
  | .int i, v, h => by simpa [RelD] using h
  | .str x, v, h => by simpa [RelD] using h
  | .ref x, v, h => by simpa [RelD] using h
  | .ty x, v, h => by simpa [RelD] using h
  | .tup ds, v, h => by
    rw [RelD] at h ⊢
    obtain ⟨a, vs, e, h1, h2⟩ := h
    exact ⟨a, vs, e, h1.monoW s, RelDs.monoW s ds vs h2⟩
  | .lst ds, v, h => by
    rw [RelD] at h ⊢
    obtain ⟨a, vs, e, h1, h2⟩ := h
    exact ⟨a, vs, e, h1.monoW s, RelDs.monoW s ds vs h2⟩
  | .ins C ns ds, v, h => by
    rw [RelD] at h ⊢
    obtain ⟨a, dx, vs, e, h1, hn, h2, h3⟩ := h
    exact ⟨a, dx, vs, e, s.keep _ _ h1 hn, s.off _ _ h1 hn, RelDs.monoW s ds vs h2, h3⟩
  | .dct ks ds, v, h => by
    rw [RelD] at h ⊢
    obtain ⟨a, vs, e, h1, hn, h2, h3⟩ := h
    exact ⟨a, vs, e, s.keep _ _ h1 hn, s.off _ _ h1 hn, RelDs.monoW s ds vs h2, h3⟩
theorem RelDs.monoW (s : Stw ρ H ρ' H') : ∀ (ds : List D) (vs : List V), RelDs K ρ H ds vs → RelDs K ρ' H' ds vs
  | [], vs, h => by simpa [RelDs] using h
  | d :: ds, vs, h => by
    rw [RelDs] at h ⊢
    obtain ⟨v, vr, e, h1, h2⟩ := h
    exact ⟨v, vr, e, RelD.monoW s d v h1, RelDs.monoW s ds vr h2⟩
end
theorem RelW.monoW (s : Stw ρ H ρ' H') {w : W} {v : V} (h : RelW K ρ H w v) : RelW K ρ' H' w v := by
  cases w with
  | d x => exact RelD.monoW s x v h
  | loc n => exact ⟨Nat.lt_of_lt_of_le h.1 s.len, fun a e => h.2 a (s.same n a h.1 e)⟩
theorem RelWs.monoW (s : Stw ρ H ρ' H') : ∀ {ws : List W} {vs : List V}, RelWs K ρ H ws vs → RelWs K ρ' H' ws vs
  | [], vs, h => h
  | w :: ws, vs, h => by
    obtain ⟨v, vr, e, h1, h2⟩ := h
    exact ⟨v, vr, e, h1.monoW s, RelWs.monoW s h2⟩
theorem LstF.mono (s : Step ρ H ρ' H') {a : Addr} {xs : List V} (h : LstF K ρ H a xs) : LstF K ρ' H' a xs := h.monoW s.toStw
theorem TupF.mono (s : Step ρ H ρ' H') {a : Addr} {xs : List V} (h : TupF K ρ H a xs) : TupF K ρ' H' a xs := h.monoW s.toStw
theorem RelD.mono (s : Step ρ H ρ' H') (d : D) (v : V) (h : RelD K ρ H d v) : RelD K ρ' H' d v := RelD.monoW s.toStw d v h
theorem RelDs.mono (s : Step ρ H ρ' H') (d : List D) (v : List V) (h : RelDs K ρ H d v) : RelDs K ρ' H' d v := RelDs.monoW s.toStw d v h
theorem RelW.mono (s : Step ρ H ρ' H') {w : W} {v : V} (h : RelW K ρ H w v) : RelW K ρ' H' w v := h.monoW s.toStw
theorem RelWs.mono (s : Step ρ H ρ' H') {w : List W} {v : List V} (h : RelWs K ρ H w v) : RelWs K ρ' H' w v := h.monoW s.toStw
theorem RelWs.length : ∀ {ws : List W} {vs : List V}, RelWs K ρ H ws vs → ws.length = vs.length
  | [], vs, h => by cases (show vs = [] from h); rfl
  | w :: ws, vs, h => by
    obtain ⟨v, vr, rfl, h1, h2⟩ := h
    simp [RelWs.length h2]
theorem RelDs.length : ∀ {ws : List D} {vs : List V}, RelDs K ρ H ws vs → ws.length = vs.length
  | [], vs, h => by rw [RelDs] at h; subst h; rfl
  | w :: ws, vs, h => by
    rw [RelDs] at h
    obtain ⟨v, vr, rfl, h1, h2⟩ := h
    simp [RelDs.length h2]
theorem RelDs.get : ∀ {ds : List D} {vs : List V} {i : Nat} {d : D}, RelDs K ρ H ds vs → ds[i]? = some d → ∃ v, vs[i]? = some v ∧ RelD K ρ H d v
  | [], vs, i, d, h, e => by simp at e
  | w :: ws, vs, i, d, h, e => by
    rw [RelDs] at h
    obtain ⟨v, vr, rfl, h1, h2⟩ := h
    cases i with
    | zero => simp at e; subst e; exact ⟨v, rfl, h1⟩
    | succ i => simpa using RelDs.get (i := i) h2 (by simpa using e)
theorem RelDs.get' : ∀ {ds : List D} {vs : List V} {i : Nat} {v : V}, RelDs K ρ H ds vs → vs[i]? = some v → ∃ d, ds[i]? = some d ∧ RelD K ρ H d v
  | [], vs, i, d, h, e => by rw [RelDs] at h; subst h; simp at e
  | w :: ws, vs, i, d, h, e => by
    rw [RelDs] at h
    obtain ⟨v, vr, rfl, h1, h2⟩ := h
    cases i with
    | zero => simp at e; subst e; exact ⟨w, rfl, h1⟩
    | succ i => simpa using RelDs.get' (i := i) h2 (by simpa using e)
theorem RelWs.get : ∀ {ds : List W} {vs : List V} {i : Nat} {d : W}, RelWs K ρ H ds vs → ds[i]? = some d → ∃ v, vs[i]? = some v ∧ RelW K ρ H d v
  | [], vs, i, d, h, e => by simp at e
  | w :: ws, vs, i, d, h, e => by
    obtain ⟨v, vr, rfl, h1, h2⟩ := h
    cases i with
    | zero => simp at e; subst e; exact ⟨v, rfl, h1⟩
    | succ i => simpa using RelWs.get (i := i) h2 (by simpa using e)
theorem RelWs.get' : ∀ {ds : List W} {vs : List V} {i : Nat} {v : V}, RelWs K ρ H ds vs → vs[i]? = some v → ∃ d, ds[i]? = some d ∧ RelW K ρ H d v
  | [], vs, i, d, h, e => by cases (show vs = [] from h); simp at e
  | w :: ws, vs, i, d, h, e => by
    obtain ⟨v, vr, rfl, h1, h2⟩ := h
    cases i with
    | zero => simp at e; subst e; exact ⟨w, rfl, h1⟩
    | succ i => simpa using RelWs.get' (i := i) h2 (by simpa using e)
theorem RelWs.set : ∀ {ds : List W} {vs : List V} (i : Nat) {d : W} {v : V}, RelWs K ρ H ds vs → RelW K ρ H d v → RelWs K ρ H (ds.set i d) (vs.set i v)
  | [], vs, i, d, v, h, e => by cases (show vs = [] from h); exact rfl
  | w :: ws, vs, i, d, v, h, e => by
    obtain ⟨v0, vr, rfl, h1, h2⟩ := h
    cases i with
    | zero => exact ⟨v, vr, rfl, e, h2⟩
    | succ i => exact ⟨v0, _, rfl, h1, RelWs.set i h2 e⟩
theorem RelWs.app : ∀ {ds es : List W} {vs us : List V}, RelWs K ρ H ds vs → RelWs K ρ H es us → RelWs K ρ H (ds ++ es) (vs ++ us)
  | [], es, vs, us, h, e => by cases (show vs = [] from h); exact e
  | w :: ws, es, vs, us, h, e => by
    obtain ⟨v0, vr, rfl, h1, h2⟩ := h
    exact ⟨v0, _, rfl, h1, RelWs.app h2 e⟩
theorem RelDs.app : ∀ {ds es : List D} {vs us : List V}, RelDs K ρ H ds vs → RelDs K ρ H es us → RelDs K ρ H (ds ++ es) (vs ++ us)
  | [], es, vs, us, h, e => by rw [RelDs] at h; subst h; exact e
  | w :: ws, es, vs, us, h, e => by
    rw [RelDs] at h
    obtain ⟨v0, vr, rfl, h1, h2⟩ := h
    show RelDs K ρ H (w :: (ws ++ es)) (v0 :: (vr ++ us))
    rw [RelDs]
    exact ⟨v0, _, rfl, h1, RelDs.app h2 e⟩
/-- data alone -/
def pure? : List W → Option (List D)
  | [] => some []
  | .d x :: ws => (pure? ws).map (x :: ·)
  | .loc _ :: _ => none
theorem pure?_rel : ∀ {ws : List W} {ds : List D} {vs : List V}, pure? ws = some ds → RelWs K ρ H ws vs → RelDs K ρ H ds vs
  | [], ds, vs, e, h => by
    cases (show vs = [] from h)
    cases (show some [] = some ds from e)
    rw [RelDs]
  | .d x :: ws, ds, vs, e, h => by
    obtain ⟨v, vr, rfl, h1, h2⟩ := h
    obtain ⟨es, e1, e2⟩ := Option.map_eq_some_iff.mp (show (pure? ws).map (x :: ·) = some ds from e)
    subst e2
    rw [RelDs]
    exact ⟨v, vr, rfl, h1, pure?_rel e1 h2⟩
  | .loc _ :: _, ds, vs, e, h => by cases (show (none : Option (List D)) = some ds from e)
theorem pure?_map (ds : List D) : pure? (ds.map W.d) = some ds := by
  induction ds with
  | nil => rfl
  | cons d ds ih => show (pure? (ds.map W.d)).map _ = _; rw [ih]; rfl
theorem relWs_map : ∀ {ds : List D} {vs : List V}, RelDs K ρ H ds vs → RelWs K ρ H (ds.map W.d) vs
  | [], vs, h => by rw [RelDs] at h; exact h
  | d :: ds, vs, h => by
    rw [RelDs] at h
    obtain ⟨v, vr, rfl, h1, h2⟩ := h
    exact ⟨v, vr, rfl, h1, relWs_map h2⟩
end
/-- the store is held -/
structure Ok (K : PySem.W.Frag) (ρ : Ad) (S : Store) (H : Hp) : Prop where
  len : ρ.pl.length = S.length
  inj : ∀ (i j : Nat) (a : Addr), ρ.pl[i]? = some (some a) → ρ.pl[j]? = some (some a) → i = j
  obj : ∀ (n : Nat) (a : Addr), ρ.pl[n]? = some (some a) → ∃ m, S[n]? = some m ∧ ObjR K ρ H m a
  live : ∀ (n : Nat) m, S[n]? = some m → m ≠ .dead → ∃ a, ρ.pl[n]? = some (some a)
  res : ∀ a, a ∈ ρ.rs → ∃ o, H a = some o
  dis : ∀ a, a ∈ ρ.rs → some a ∉ ρ.pl
section
variable {K : PySem.W.Frag} {ρ ρ' : Ad} {H H' : Hp} {S S' : Store}
theorem ObjR.there {m : M} {a : Addr} (h : ObjR K ρ H m a) : ∃ o, H a = some o := by
  cases m with
  | lst ws => obtain ⟨vs, h, _⟩ := h; exact ⟨_, h⟩
  | ins C ns ws => obtain ⟨dx, vs, h, _⟩ := h; exact ⟨_, h⟩
  | dead => exact h.elim
theorem Ok.there (ok : Ok K ρ S H) {a : Addr} (h : some a ∈ ρ.pl) : ∃ o, H a = some o := by
  obtain ⟨n, hn⟩ := List.getElem?_of_mem h
  obtain ⟨m, _, r⟩ := ok.obj n a hn
  exact r.there
theorem Ok.off (ok : Ok K ρ S H) {p : Addr} (h : H p = none) : Off ρ p := ⟨fun m => (by
  obtain ⟨o, e⟩ := ok.there m
  rw [h] at e
  cases e), fun m => (by
  obtain ⟨o, e⟩ := ok.res p m
  rw [h] at e
  cases e)⟩
/-- something new that no place holds -/
theorem step_new (ok : Ok K ρ S H) {p : Addr} (o : HO) (h : H p = none) : Step ρ H ρ (upd H p o) :=
  ⟨⟨fun a u e _ => by rw [upd_ne (ne_of_none e h)]; exact e, fun _ _ _ z => z, Nat.le_refl _, fun _ _ _ z => z⟩, rfl, fun a u _ e => by rw [upd_ne (ne_of_none e h)]; exact e⟩
theorem ObjR.monoW (s : Stw ρ H ρ' H') {m : M} {a : Addr} (k : ∀ o, H a = some o → H' a = some o) (h : ObjR K ρ H m a) : ObjR K ρ' H' m a := by
  cases m with
  | lst ws => obtain ⟨vs, h1, h2⟩ := h; exact ⟨vs, k _ h1, h2.monoW s⟩
  | ins C ns ws => obtain ⟨dx, vs, h1, h2, h3⟩ := h; exact ⟨dx, vs, k _ h1, h2.monoW s, h3⟩
  | dead => exact h.elim
/-- a heap that grows by what no place holds -/
theorem ok_grow (ok : Ok K ρ S H) (k : ∀ a o, H a = some o → H' a = some o) : Ok K ρ S H' ∧ Step ρ H ρ H' := by
  have st : Step ρ H ρ H' := ⟨⟨fun a u e _ => k a u e, fun _ _ _ z => z, Nat.le_refl _, fun _ _ _ z => z⟩, rfl, fun a u _ e => k a u e⟩
  exact ⟨⟨ok.len, ok.inj, fun n a e => by
    obtain ⟨m, e1, r⟩ := ok.obj n a e
    exact ⟨m, e1, r.monoW st.toStw fun u z => k _ u z⟩, ok.live, fun a h => by obtain ⟨o, e⟩ := ok.res a h; exact ⟨o, k a o e⟩, ok.dis⟩, st⟩
theorem ok_new (ok : Ok K ρ S H) {p : Addr} (o : HO) (h : H p = none) : Ok K ρ S (upd H p o) := (ok_grow ok fun a u e => by rw [upd_ne (ne_of_none e h)]; exact e).1
/-- an address that is kept is written: what else there is stays related -/
theorem stw_res {D : Addr} {o : HO} (hd : D ∈ ρ.rs) : Stw ρ H ρ (upd H D o) :=
  ⟨fun a u e n => by rw [upd_ne (fun z => by subst z; exact n.2 hd)]; exact e, fun _ _ _ z => z, Nat.le_refl _, fun _ _ _ z => z⟩
theorem ok_res (ok : Ok K ρ S H) {D : Addr} {o : HO} (hd : D ∈ ρ.rs) : Ok K ρ S (upd H D o) :=
  ⟨ok.len, ok.inj, fun n a e => by
    obtain ⟨m, e1, r⟩ := ok.obj n a e
    exact ⟨m, e1, r.monoW (stw_res hd) fun u z => by rw [upd_ne (fun q => by subst q; exact ok.dis _ hd (List.mem_of_getElem? e))]; exact z⟩, ok.live, fun a h => by
    by_cases hx : a = D
    · subst hx; exact ⟨o, upd_same⟩
    · obtain ⟨u, e⟩ := ok.res a h
      exact ⟨u, by rw [upd_ne hx]; exact e⟩, ok.dis⟩
/-- an address is kept from here on; it is let go -/
def Ad.keep (ρ : Ad) (D : Addr) : Ad := ⟨ρ.pl, D :: ρ.rs⟩
def Ad.let (ρ : Ad) : Ad := ⟨ρ.pl, ρ.rs.tail⟩
theorem ok_keep (ok : Ok K ρ S H) {D : Addr} {o : HO} (h : H D = none) : Ok K (ρ.keep D) S (upd H D o) ∧ Stw ρ H (ρ.keep D) (upd H D o) := by
  have off := ok.off h
  have st : Stw ρ H (ρ.keep D) (upd H D o) := ⟨fun a u e _ => by rw [upd_ne (ne_of_none e h)]; exact e, fun a u e z => ⟨z.1, fun m => by
    rcases List.mem_cons.mp (show a ∈ D :: ρ.rs from m) with q | q
    · subst q; rw [h] at e; cases e
    · exact z.2 q⟩, Nat.le_refl _, fun _ _ _ z => z⟩
  refine ⟨⟨ok.len, ok.inj, fun n a e => ?_, ok.live, fun a m => ?_, fun a m => ?_⟩, st⟩
  · obtain ⟨m, e1, r⟩ := ok.obj n a e
    exact ⟨m, e1, r.monoW st fun u z => by rw [upd_ne (ne_of_none z h)]; exact z⟩
  · rcases List.mem_cons.mp (show a ∈ D :: ρ.rs from m) with q | q
    · subst q; exact ⟨o, upd_same⟩
    · obtain ⟨u, e⟩ := ok.res a q
      exact ⟨u, by rw [upd_ne (ne_of_none e h)]; exact e⟩
  · rcases List.mem_cons.mp (show a ∈ D :: ρ.rs from m) with q | q
    · subst q; exact off.1
    · exact ok.dis a q
/-- a new place -/
theorem add_key {ρ : Ad} {p a : Addr} {i : Nat} (e : (ρ.add p).pl[i]? = some (some a)) : (ρ.pl[i]? = some (some a) ∧ i < ρ.pl.length) ∨ (i = ρ.pl.length ∧ a = p) := by
  unfold Ad.add at e
  by_cases hi : i < ρ.pl.length
  · simp only [List.getElem?_append_left hi] at e; exact .inl ⟨e, hi⟩
  · by_cases hi2 : i = ρ.pl.length
    · subst hi2; simp at e; exact .inr ⟨rfl, e.symm⟩
    · have : (ρ.pl ++ [some p])[i]? = none := List.getElem?_eq_none (by simp; omega)
      rw [this] at e; cases e
/-- the places' list with one more: what another one was stays -/
theorem stw_add {p : Addr} (k : ∀ a o, H a = some o → H' a = some o) (h : ∀ o, H p ≠ some o) : Stw ρ H (ρ.add p) H' :=
  ⟨fun a u e _ => k a u e, fun a u e z => ⟨fun m => by
    rcases List.mem_append.mp (show some a ∈ ρ.pl ++ [some p] from m) with m | m
    · exact z.1 m
    · have q : a = p := by simpa using m
      (subst q; exact h u e), z.2⟩, by simp [Ad.add], fun n a hn e => by
    unfold Ad.add at e
    simpa only [List.getElem?_append_left hn] using e⟩
theorem ok_alloc (ok : Ok K ρ S H) {p : Addr} {o : HO} {m : M} (h : H p = none) (r : ∀ ρ' H', Step ρ H ρ' H' → H' p = some o → ObjR K ρ' H' m p) :
    Ok K (ρ.add p) (S ++ [m]) (upd H p o) ∧ Step ρ H (ρ.add p) (upd H p o) := by
  have off := ok.off h
  have k : ∀ a u, H a = some u → upd H p o a = some u := fun a u e => by rw [upd_ne (ne_of_none e h)]; exact e
  have st : Step ρ H (ρ.add p) (upd H p o) := ⟨stw_add k (fun u z => by rw [h] at z; cases z), rfl, fun a u _ e => k a u e⟩
  refine ⟨⟨by simp [Ad.add, ok.len], fun i j a h1 h2 => ?_, fun n a e => ?_, fun n m' e hm => ?_, fun a ha => ?_, fun a ha => ?_⟩, st⟩
  · rcases add_key h1 with ⟨a1, _⟩ | ⟨a1, a2⟩ <;> rcases add_key h2 with ⟨b1, _⟩ | ⟨b1, b2⟩
    · exact ok.inj i j a a1 b1
    · subst b2; exact absurd (List.mem_of_getElem? a1) off.1
    · subst a2; exact absurd (List.mem_of_getElem? b1) off.1
    · omega
  · rcases add_key e with ⟨a1, hl⟩ | ⟨a1, a2⟩
    · obtain ⟨m', e1, r'⟩ := ok.obj n a a1
      exact ⟨m', by rw [List.getElem?_append_left (by rw [← ok.len]; exact hl)]; exact e1, r'.monoW st.toStw fun u z => k a u z⟩
    · subst a1 a2
      exact ⟨m, by rw [ok.len]; simp, r _ _ st upd_same⟩
  · by_cases hn : n < S.length
    · rw [List.getElem?_append_left hn] at e
      obtain ⟨a, e1⟩ := ok.live n m' e hm
      exact ⟨a, by unfold Ad.add; rw [List.getElem?_append_left (by rw [ok.len]; exact hn)]; exact e1⟩
    · by_cases hi2 : n = S.length
      · subst hi2
        exact ⟨p, by rw [← ok.len]; simp [Ad.add]⟩
      · have : (S ++ [m])[n]? = none := List.getElem?_eq_none (by simp; omega)
        rw [this] at e; cases e
  · obtain ⟨u, e⟩ := ok.res a ha
    exact ⟨u, k a u e⟩
  · intro z
    rcases List.mem_append.mp (show some a ∈ ρ.pl ++ [some p] from z) with z | z
    · exact ok.dis a ha z
    · have e : a = p := by simpa using z
      subst e; exact off.2 ha
/-- a place is written -/
theorem ok_write (ok : Ok K ρ S H) {n : Nat} {p : Addr} {o : HO} {m : M} (h : ρ.pl[n]? = some (some p)) (r : ∀ H', Step ρ H ρ H' → H' p = some o → ObjR K ρ H' m p) :
    Ok K ρ (S.set n m) (upd H p o) ∧ Step ρ H ρ (upd H p o) := by
  have hmem : some p ∈ ρ.pl := List.mem_of_getElem? h
  have st : Step ρ H ρ (upd H p o) := ⟨⟨fun a u e hn => by
    rw [upd_ne (fun z => by subst z; exact hn.1 hmem)]; exact e, fun _ _ _ z => z, Nat.le_refl _, fun _ _ _ z => z⟩, rfl, fun a u ha e => by
    rw [upd_ne (fun z => by subst z; exact ok.dis _ ha hmem)]; exact e⟩
  have hlt : n < S.length := by rw [← ok.len]; exact (List.getElem?_eq_some_iff.mp h).1
  refine ⟨⟨by simp [ok.len], ok.inj, fun k a e => ?_, fun k m' e hm => ?_, fun a ha => ?_, ok.dis⟩, st⟩
  · by_cases hk : k = n
    · subst hk
      rw [h] at e
      cases e
      exact ⟨m, List.getElem?_set_self hlt, r _ st upd_same⟩
    · obtain ⟨m', e1, r'⟩ := ok.obj k a e
      refine ⟨m', by rw [List.getElem?_set_ne (Ne.symm hk)]; exact e1, r'.monoW st.toStw fun u z => ?_⟩
      rw [upd_ne (fun z => by subst z; exact hk (ok.inj _ _ _ e h))]; exact z
  · by_cases hk : k = n
    · subst hk; exact ⟨p, h⟩
    · rw [List.getElem?_set_ne (Ne.symm hk)] at e
      exact ok.live k m' e hm
  · obtain ⟨u, e⟩ := ok.res a ha
    exact ⟨u, st.kr a u ha e⟩
/-- the slots hold what the names hold -/
structure EnvR (K : PySem.W.Frag) (ρ : Ad) (H : Hp) (δ : DEnv) (σ : L2.St) : Prop where
  len : δ.length = σ.length
  rel : ∀ (i : Nat) w, δ[i]? = some (some w) → ∃ v, σ[i]? = some (some v) ∧ RelW K ρ H w v
theorem EnvR.monoW (s : Stw ρ H ρ' H') {δ : DEnv} {σ : L2.St} (e : EnvR K ρ H δ σ) : EnvR K ρ' H' δ σ :=
  ⟨e.len, fun i w h => let ⟨v, h1, h2⟩ := e.rel i w h; ⟨v, h1, h2.monoW s⟩⟩
theorem EnvR.mono (s : Step ρ H ρ' H') {δ : DEnv} {σ : L2.St} (e : EnvR K ρ H δ σ) : EnvR K ρ' H' δ σ := e.monoW s.toStw
theorem EnvR.set {δ : DEnv} {σ : L2.St} {w : W} {v : V} (e : EnvR K ρ H δ σ) (i : Nat) (r : RelW K ρ H w v) : EnvR K ρ H (δ.set i (some w)) (σ.set i (some v)) := by
  refine ⟨by simp [e.len], fun j u h => ?_⟩
  by_cases hj : j = i
  · subst hj
    by_cases hl : j < δ.length
    · rw [List.getElem?_set_self hl] at h
      cases h
      exact ⟨v, List.getElem?_set_self (by rw [← e.len]; exact hl), r⟩
    · rw [List.getElem?_eq_none (by simpa using hl)] at h; cases h
  · rw [List.getElem?_set_ne (Ne.symm hj)] at h ⊢
    exact e.rel j u h
end
end DL
set_option Elab.async false
set_option linter.all false
set_option maxRecDepth 100000
set_option maxHeartbeats 1000000
/-! DL2: results, expressions, operators. -/
namespace DL
open PySem PySem.Spec PyProof.Rows L2

abbrev Rs (α : Type) := Option (Except Ex α × Store)
def Rs.bind {α β : Type} (m : Rs α) (k : α → Store → Rs β) : Rs β := match m with
  | none => none
  | some (.error x, S) => some (.error x, S)
  | some (.ok a, S) => k a S
abbrev Fn := List W → Store → Rs W
abbrev FE := DEnv → Store → Rs W
abbrev FT := DEnv → Store → Rs Bool
abbrev FA := DEnv → Store → Rs (List W)
abbrev WF : WX := fun _ _ _ _ => False
section
variable (K : PySem.W.Frag)
/-- an exception as it lies -/
def ExR (ρ : Ad) (H : Hp) (x : Ex) (d : Option Addr) : Prop := match d with
  | none => x.ns = [] ∧ x.ds = []
  | some a => ∃ vs, H a = some (.xd (x.ns.zip vs)) ∧ Off ρ a ∧ RelDs K ρ H x.ds vs ∧ x.ns.length = x.ds.length
def Go (Wx : WX) (σ : L2.St) (ρ : Ad) (H : Hp) {α β : Type} (rel : Ad → Hp → α → β → Prop) (m : Rs α) (Q : β → Hp → Prop) : Prop :=
  ∃ r S', m = some (r, S') ∧ ∀ ρ' H', Ok K ρ' S' H' → Step ρ H ρ' H' → match r with
    | .ok a => ∀ b, rel ρ' H' a b → Q b H'
    | .error x => ∀ d, ExR K ρ' H' x d → Wx (x.cl K) d σ H'
abbrev relB : Ad → Hp → Bool → Bool → Prop := fun _ _ a b => a = b
def tE (Wx : WX) (f : FE) : TE := fun σ H Q => ∃ δ S ρ, Ok K ρ S H ∧ EnvR K ρ H δ σ ∧ Go K Wx σ ρ H (RelW K) (f δ S) Q
def tT (Wx : WX) (f : FT) : TT := fun σ H Q => ∃ δ S ρ, Ok K ρ S H ∧ EnvR K ρ H δ σ ∧ Go K Wx σ ρ H relB (f δ S) Q
def tA (Wx : WX) (f : FA) : TA := fun σ H Q => ∃ δ S ρ, Ok K ρ S H ∧ EnvR K ρ H δ σ ∧ Go K Wx σ ρ H (RelWs K) (f δ S) Q
end
section
variable {K : PySem.W.Frag} {Wx : WX} {σ : L2.St} {ρ ρ1 : Ad} {H H1 : Hp} {S S1 : Store} {α β γ ε : Type} {rel : Ad → Hp → α → β → Prop} {rel2 : Ad → Hp → γ → ε → Prop}
theorem Go.mono {m : Rs α} {Q Q' : β → Hp → Prop} (h : Go K Wx σ ρ H rel m Q) (i : ∀ b H', Q b H' → Q' b H') : Go K Wx σ ρ H rel m Q' := by
  obtain ⟨r, S', e, c⟩ := h
  refine ⟨r, S', e, fun ρ' H' ok st => ?_⟩
  have c' := c ρ' H' ok st
  cases r with
  | ok a => exact fun b hb => i b H' (c' b hb)
  | error x => exact c'
theorem go_bind {m : Rs α} {k : α → Store → Rs γ} {Q : ε → Hp → Prop} (h : Go K Wx σ ρ H rel2 (m.bind k) Q) :
    Go K Wx σ ρ H rel m (fun b H1 => ∃ a S1 ρ1, Ok K ρ1 S1 H1 ∧ Step ρ H ρ1 H1 ∧ rel ρ1 H1 a b ∧ Go K Wx σ ρ1 H1 rel2 (k a S1) Q) := by
  obtain ⟨r, S', e, c⟩ := h
  cases m with
  | none => exact nomatch (show (none : Rs γ) = some (r, S') from e)
  | some p =>
    obtain ⟨z, S1⟩ := p
    cases z with
    | error x =>
      obtain ⟨rfl, rfl⟩ : (Except.error x : Except Ex γ) = r ∧ S1 = S' := by
        have e' : some (Except.error x, S1) = some (r, S') := e
        injection e' with e1
        injection e1 with e2 e3
        exact ⟨e2, e3⟩
      exact ⟨.error x, S1, rfl, fun ρ' H' ok st => c ρ' H' ok st⟩
    | ok a => exact ⟨.ok a, S1, rfl, fun ρ1 H1 ok st b hb => ⟨a, S1, ρ1, ok, st, hb, r, S', e, fun ρ' H' ok' st' => c ρ' H' ok' (st.trans st')⟩⟩
/-- a value comes at once -/
theorem go_val {a : α} {Q : β → Hp → Prop} (ok : Ok K ρ S H) (h : Go K Wx σ ρ H rel (some (.ok a, S)) Q) {b : β} (r : rel ρ H a b) : Q b H := by
  obtain ⟨r', S', e, c⟩ := h
  cases e
  exact c ρ H ok (Step.refl ρ H) b r
theorem go_err {x : Ex} {Q : β → Hp → Prop} (ok : Ok K ρ S H) (h : Go K Wx σ ρ H (α := α) rel (some (.error x, S)) Q) {d : Option Addr} (r : ExR K ρ H x d) : Wx (x.cl K) d σ H := by
  obtain ⟨r', S', e, c⟩ := h
  cases e
  exact c ρ H ok (Step.refl ρ H) d r
theorem go_none {Q : β → Hp → Prop} {P : Prop} (h : Go K Wx σ ρ H (α := α) rel none Q) : P := by
  obtain ⟨_, _, e, _⟩ := h
  exact nomatch e
/-- a value comes in a state that goes on -/
theorem go_at {a : α} {Q : β → Hp → Prop} (h : Go K Wx σ ρ H rel (some (.ok a, S1)) Q) (ok : Ok K ρ1 S1 H1) (st : Step ρ H ρ1 H1) {b : β} (r : rel ρ1 H1 a b) : Q b H1 := by
  obtain ⟨r', S', e, c⟩ := h
  cases e
  exact c ρ1 H1 ok st b r
theorem go_mk {a : α} {Q : β → Hp → Prop} (h : ∀ ρ' H', Ok K ρ' S1 H' → Step ρ H ρ' H' → ∀ b, rel ρ' H' a b → Q b H') : Go K Wx σ ρ H rel (some (.ok a, S1)) Q := ⟨_, _, rfl, h⟩
end
theorem _root_.L2.PE.imp {X : Cx} {e : Expr} {t t' : TE} (h : PE X e t) (i : ∀ σ H Q, t' σ H Q → t σ H Q) : PE X e t' := ⟨fun pins s σ H Q I q => h.run pins s σ H Q I (i σ H Q q)⟩
theorem _root_.L2.PT.imp {X : Cx} {e : Expr} {t t' : TT} (h : PT X e t) (i : ∀ σ H Q, t' σ H Q → t σ H Q) : PT X e t' := ⟨fun pins s σ H Q I q => h.run pins s σ H Q I (i σ H Q q)⟩
theorem _root_.L2.PW.imp {X : Cx} {e : Expr} {t t' : TT} (h : PW X e t) (i : ∀ σ H Q, t' σ H Q → t σ H Q) : PW X e t' := ⟨fun wh pins s σ H Q I q => h.run wh pins s σ H Q I (i σ H Q q)⟩
theorem _root_.L2.PA.imp {X : Cx} {e : List Expr} {t t' : TA} (h : PA X e t) (i : ∀ σ H Q, t' σ H Q → t σ H Q) : PA X e t' := ⟨fun pos pins s σ H Q I q => h.run pos pins s σ H Q I (i σ H Q q)⟩

/-! ### names, constants -/
section
variable {X : Cx} {Wx : WX} {e a b c : Expr} {es : List Expr} {f g h : FE} {pos : Pos}
def dVar (i : Nat) : FE := fun δ S => match δ[i]? with
  | some (some w) => some (.ok w, S)
  | _ => none
def dC (x : D) : FE := fun _ S => some (.ok (.d x), S)
theorem de_c {v : V} {x : D} (he : PE X e (tC v)) (r : ∀ ρ H, RelD X.K ρ H x v) : PE X e (tE X.K Wx (dC x)) :=
  he.imp fun σ H Q ⟨δ, S, ρ, ok, en, q⟩ => go_val ok q (show RelW X.K ρ H (.d x) v from r ρ H)
theorem de_var {i : Nat} (he : PE X e (tVar i)) : PE X e (tE X.K Wx (dVar i)) := he.imp fun σ H Q ⟨δ, S, ρ, ok, en, q⟩ => by
  unfold dVar at q
  split at q
  · rename_i w e
    obtain ⟨v, e1, r⟩ := en.rel i w e
    exact ⟨v, e1, go_val ok q r⟩
  · exact go_none q
theorem de_int {i : Int} {j : Nat} : PE X (.Constant (.int i) j pos) (tE X.K Wx (dC (.int i))) := de_c pe_int fun _ _ => by rw [RelD]
theorem de_bl {i : Bool} {j : Nat} : PE X (.Constant (.bool i) j pos) (tE X.K Wx (dC (.bl i))) := de_c pe_bl fun _ _ => by rw [RelD]
theorem de_non {j : Nat} : PE X (.Constant .none j pos) (tE X.K Wx (dC .non)) := de_c pe_non fun _ _ => by rw [RelD]
theorem de_str {i : Str} {j : Nat} : PE X (.Constant (.str i) j pos) (tE X.K Wx (dC (.str i))) := de_c pe_str fun _ _ => by rw [RelD]
/-- a module's int -/
theorem de_gint {x : Str} {i : Int} {t : Tok} (hm : X.mg x = some (.int i t)) (hg : Gl X x := by rfl) (hd : (x == ("__debug__" : Str)) = false := by decide) : PE X (.Name x pos) (tE X.K Wx (dC (.int i))) :=
  de_c (pe_glob hg hm (v := .int i) ⟨t, rfl⟩ hd) fun _ _ => by rw [RelD]
/-- a module's object: a class, a def -/
theorem de_gref {x : Str} {a : Addr} (hm : X.mg x = some (.ref a)) (hg : Gl X x := by rfl) (hd : (x == ("__debug__" : Str)) = false := by decide) : PE X (.Name x pos) (tE X.K Wx (dC (.ref a))) :=
  de_c (pe_glob hg hm (v := .ref a) rfl hd) fun _ _ => by rw [RelD]
/-- a built-in class -/
theorem de_ty {x : Str} {n : String} (hm : X.mg x = none) (hv : bootBuiltins x = some (.type n)) (hg : Gl X x := by rfl) (hn : x ≠ "__name__" := by decide) (hd : (x == ("__debug__" : Str)) = false := by decide) : PE X (.Name x pos) (tE X.K Wx (dC (.ty n))) :=
  de_c (pe_bltn hg hm hv (v := .ty n) rfl hn hd) fun _ _ => by rw [RelD]

/-! ### two, one -/
abbrev F2 := W → W → Store → Rs W
def OpF (K : PySem.W.Frag) (Wx : WX) (r : R2) (op : F2) : Prop := ∀ (σ : L2.St) (ρ : Ad) (S : Store) (H : Hp) (x y : W) (a b : V) (Q : VK), Ok K ρ S H → RelW K ρ H x a → RelW K ρ H y b → Go K Wx σ ρ H (RelW K) (op x y S) Q → r a b H Q
def d2 (op : F2) (f g : FE) : FE := fun δ S => (f δ S).bind fun x S1 => (g δ S1).bind fun y S2 => op x y S2
theorem imp2 {K : PySem.W.Frag} {r : R2} {op : F2} (o : OpF K Wx r op) (σ : L2.St) (H : Hp) (Q : VK) (q : tE K Wx (d2 op f g) σ H Q) : tOp r (tE K Wx f) (tE K Wx g) σ H Q := by
  obtain ⟨δ, S, ρ, ok, en, q⟩ := q
  refine ⟨δ, S, ρ, ok, en, (go_bind q).mono fun v H1 ⟨x, S1, ρ1, ok1, st1, r1, q1⟩ => ?_⟩
  exact ⟨δ, S1, ρ1, ok1, en.mono st1, (go_bind q1).mono fun u H2 ⟨y, S2, ρ2, ok2, st2, r2, q2⟩ => o σ ρ2 S2 H2 x y v u Q ok2 (r1.mono st2) r2 q2⟩
theorem de_op {op : Operator} {r : R2} {fo : F2} (ho : OpR X (binaryOp op) r) (o : OpF X.K Wx r fo) (ha : PE X a (tE X.K Wx f)) (hb : PE X b (tE X.K Wx g)) : PE X (.BinOp a op b pos) (tE X.K Wx (d2 fo f g)) :=
  (pe_op ho ha hb).imp (imp2 o)
theorem de_ix {r : R2} {fo : F2} (ho : IxR X r) (o : OpF X.K Wx r fo) (ha : PE X a (tE X.K Wx f)) (hb : PE X b (tE X.K Wx g)) (hs : PlainIx b := by exact fun _ _ => rfl) : PE X (.Subscript a b pos) (tE X.K Wx (d2 fo f g)) :=
  (pe_ix ho ha hb hs).imp (imp2 o)
theorem de_cmp {op : CmpOp} {r : R2} {fo : F2} (ho : OpR X (compareOp op) r) (o : OpF X.K Wx r fo) (ha : PE X a (tE X.K Wx f)) (hb : PE X b (tE X.K Wx g)) (hm : behindInMarks op b = false := by first | exact nomark _ | rfl) : PE X (.Compare a [op] [b] pos) (tE X.K Wx (d2 fo f g)) :=
  (pe_cmpR ho ha hb hm).imp (imp2 o)
/-- a value that is a truth value, as a test -/
def asB : W → Store → Rs Bool
  | .d (.bl b), S => some (.ok b, S)
  | _, _ => none
theorem asB_inv {K : PySem.W.Frag} {σ : L2.St} {ρ : Ad} {H : Hp} {S : Store} {x : W} {v : V} {P : Prop} {Q : Bool → Hp → Prop} (ok : Ok K ρ S H) (r : RelW K ρ H x v) (q : Go K Wx σ ρ H relB (asB x S) Q) (k : ∀ b, x = .d (.bl b) → v = .bl b → Q b H → P) : P := by
  cases x with
  | loc n => exact go_none q
  | d x => cases x with
    | bl b => exact k b rfl (by simpa [RelW, RelD] using r) (go_val ok q rfl)
    | _ => exact go_none q
def dB (f : FE) : FT := fun δ S => (f δ S).bind asB
theorem impB {K : PySem.W.Frag} (σ : L2.St) (H : Hp) (Q : Bool → Hp → Prop) (q : tT K Wx (dB f) σ H Q) : tTest (tE K Wx f) σ H Q := by
  obtain ⟨δ, S, ρ, ok, en, q⟩ := q
  refine ⟨δ, S, ρ, ok, en, (go_bind q).mono fun v H1 ⟨x, S1, ρ1, ok1, st1, r1, q1⟩ => ?_⟩
  exact asB_inv ok1 r1 q1 fun b _ e q => ⟨b, e, q⟩
theorem dt_cmp {op : CmpOp} {r : R2} {fo : F2} (ho : OpR X (compareOp op) r) (o : OpF X.K Wx r fo) (ha : PE X a (tE X.K Wx f)) (hb : PE X b (tE X.K Wx g)) (hm : behindInMarks op b = false := by first | exact nomark _ | rfl) : PT X (.Compare a [op] [b] pos) (tT X.K Wx (dB (d2 fo f g))) :=
  ((pt_cmpR ho ha hb hm).imp fun σ H Q q => q).imp fun σ H Q q => by
    have q' := impB σ H Q q
    exact (imp2 o σ H _ q')
/-- a < b < c -/
def dChain (op op' : F2) (f g h : FE) : FE := fun δ S => (f δ S).bind fun x S1 => (g δ S1).bind fun y S2 => (op x y S2).bind fun z S3 => (asB z S3).bind fun k S4 =>
  if k = true then (h δ S4).bind fun u S5 => op' y u S5 else some (.ok (.d (.bl false)), S4)
theorem impChain {K : PySem.W.Frag} {r r' : R2} {op op' : F2} (o : OpF K Wx r op) (o' : OpF K Wx r' op') (σ : L2.St) (H : Hp) (Q : VK) (q : tE K Wx (dChain op op' f g h) σ H Q) : tChain r r' (tE K Wx f) (tE K Wx g) (tE K Wx h) σ H Q := by
  obtain ⟨δ, S, ρ, ok, en, q⟩ := q
  refine ⟨δ, S, ρ, ok, en, (go_bind q).mono fun v H1 ⟨x, S1, ρ1, ok1, st1, r1, q1⟩ => ?_⟩
  refine ⟨δ, S1, ρ1, ok1, en.mono st1, (go_bind q1).mono fun u H2 ⟨y, S2, ρ2, ok2, st2, r2, q2⟩ => ?_⟩
  refine o σ ρ2 S2 H2 x y v u _ ok2 (r1.mono st2) r2 ((go_bind q2).mono fun zv H3 ⟨z, S3, ρ3, ok3, st3, r3, q3⟩ => ?_)
  cases z with
  | loc n => exact go_none q3
  | d z => cases z with
    | bl b =>
      refine ⟨b, (by simpa [RelW, RelD] using r3), ?_⟩
      change Go K Wx σ ρ3 H3 (RelW K) (if b = true then _ else _) Q at q3
      cases b with
      | true =>
        rw [if_pos rfl] at q3
        refine iteT ⟨δ, S3, ρ3, ok3, ((en.mono st1).mono st2).mono st3, (go_bind q3).mono fun cv H4 ⟨c1, S4, ρ4, ok4, st4, r4, q4⟩ => ?_⟩
        exact o' σ ρ4 S4 H4 y c1 u cv Q ok4 ((r2.mono st3).mono st4) r4 q4
      | false =>
        rw [if_neg Bool.false_ne_true] at q3
        exact iteF (go_val ok3 q3 (by simp [RelW, RelD]))
    | _ => exact go_none q3
theorem de_chain {op op' : CmpOp} {r r' : R2} {fo fo' : F2} (ho : OpR X (compareOp op) r) (ho' : OpR X (compareOp op') r') (o : OpF X.K Wx r fo) (o' : OpF X.K Wx r' fo') (ha : PE X a (tE X.K Wx f)) (hb : PE X b (tE X.K Wx g)) (hc : PE X c (tE X.K Wx h)) (hm : lastMarks [op, op'] [b, c] = false := by with_unfolding_all rfl) :
    PE X (.Compare a [op, op'] [b, c] pos) (tE X.K Wx (dChain fo fo' f g h)) := (pe_chain ho ho' ha hb hc hm).imp (impChain o o')
theorem dt_chain {op op' : CmpOp} {r r' : R2} {fo fo' : F2} (ho : OpR X (compareOp op) r) (ho' : OpR X (compareOp op') r') (o : OpF X.K Wx r fo) (o' : OpF X.K Wx r' fo') (ha : PE X a (tE X.K Wx f)) (hb : PE X b (tE X.K Wx g)) (hc : PE X c (tE X.K Wx h)) (hm : lastMarks [op, op'] [b, c] = false := by with_unfolding_all rfl) :
    PT X (.Compare a [op, op'] [b, c] pos) (tT X.K Wx (dB (dChain fo fo' f g h))) := (pt_chain ho ho' ha hb hc hm).imp fun σ H Q q => impChain o o' σ H _ (impB σ H Q q)
end
end DL
set_option Elab.async false
set_option linter.all false
set_option maxRecDepth 100000
set_option maxHeartbeats 1000000
/-! DL3: tests, arguments, displays, operators by values. -/
namespace DL
open PySem PySem.Spec PyProof.Rows L2

section
variable {X : Cx} {Wx : WX} {e a b c : Expr} {es rest : List Expr} {f g h : FE} {ft gt : FT} {fa : FA} {pos : Pos}
/-! ### tests -/
def dAnd (t u : FT) : FT := fun δ S => (t δ S).bind fun c S1 => if c = true then u δ S1 else some (.ok false, S1)
def dOr (t u : FT) : FT := fun δ S => (t δ S).bind fun c S1 => if c = true then some (.ok true, S1) else u δ S1
def dNot (t : FT) : FT := fun δ S => (t δ S).bind fun c S1 => some (.ok (!c), S1)
theorem impAnd {K : PySem.W.Frag} (σ : L2.St) (H : Hp) (Q : Bool → Hp → Prop) (q : tT K Wx (dAnd ft gt) σ H Q) : tAnd (tT K Wx ft) (tT K Wx gt) σ H Q := by
  obtain ⟨δ, S, ρ, ok, en, q⟩ := q
  refine ⟨δ, S, ρ, ok, en, (go_bind q).mono fun v H1 ⟨x, S1, ρ1, ok1, st1, r1, q1⟩ => ?_⟩
  obtain rfl : x = v := r1
  cases x with
  | true =>
    rw [if_pos rfl] at q1
    exact iteT ⟨δ, S1, ρ1, ok1, en.mono st1, q1⟩
  | false =>
    rw [if_neg Bool.false_ne_true] at q1
    exact iteF (go_val ok1 q1 rfl)
theorem impOr {K : PySem.W.Frag} (σ : L2.St) (H : Hp) (Q : Bool → Hp → Prop) (q : tT K Wx (dOr ft gt) σ H Q) : tOr (tT K Wx ft) (tT K Wx gt) σ H Q := by
  obtain ⟨δ, S, ρ, ok, en, q⟩ := q
  refine ⟨δ, S, ρ, ok, en, (go_bind q).mono fun v H1 ⟨x, S1, ρ1, ok1, st1, r1, q1⟩ => ?_⟩
  obtain rfl : x = v := r1
  cases x with
  | false =>
    rw [if_neg Bool.false_ne_true] at q1
    exact iteF ⟨δ, S1, ρ1, ok1, en.mono st1, q1⟩
  | true =>
    rw [if_pos rfl] at q1
    exact iteT (go_val ok1 q1 rfl)
theorem dw_and1 (ha : PT X a (tT X.K Wx ft)) : PW X (.BoolOp .And [a] pos) (tT X.K Wx ft) := pw_and1 ha
theorem dw_or1 (ha : PT X a (tT X.K Wx ft)) : PW X (.BoolOp .Or [a] pos) (tT X.K Wx ft) := pw_or1 ha
theorem dw_and (ha : PT X a (tT X.K Wx ft)) (hb : PW X (.BoolOp .And (b :: rest) pos) (tT X.K Wx gt)) : PW X (.BoolOp .And (a :: b :: rest) pos) (tT X.K Wx (dAnd ft gt)) := (pw_and ha hb).imp impAnd
theorem dw_or (ha : PT X a (tT X.K Wx ft)) (hb : PW X (.BoolOp .Or (b :: rest) pos) (tT X.K Wx gt)) : PW X (.BoolOp .Or (a :: b :: rest) pos) (tT X.K Wx (dOr ft gt)) := (pw_or ha hb).imp impOr
theorem dt_not (ha : PT X a (tT X.K Wx ft)) : PT X (.UnaryOp .Not a pos) (tT X.K Wx (dNot ft)) := (pt_not ha).imp fun σ H Q q => by
  obtain ⟨δ, S, ρ, ok, en, q⟩ := q
  refine ⟨δ, S, ρ, ok, en, (go_bind q).mono fun v H1 ⟨x, S1, ρ1, ok1, st1, r1, q1⟩ => ?_⟩
  obtain rfl : x = v := r1
  exact go_val ok1 q1 rfl
/-- the truth of a value -/
def truth : W → Store → Rs Bool
  | .d .non, S => some (.ok false, S)
  | .d (.bl b), S => some (.ok b, S)
  | .d (.int i), S => some (.ok (i != 0), S)
  | .d (.tup ds), S => some (.ok (!ds.isEmpty), S)
  | .d (.lst ds), S => some (.ok (!ds.isEmpty), S)
  | .loc n, S => match S[n]? with
    | some (.lst ws) => some (.ok (!ws.isEmpty), S)
    | _ => none
  | _, _ => none
def dTru (f : FE) : FT := fun δ S => (f δ S).bind truth
theorem isEmpty_len {α β : Type} {xs : List α} {ys : List β} (h : xs.length = ys.length) : xs.isEmpty = ys.isEmpty := by
  cases xs <;> cases ys <;> first | rfl | simp at h
theorem truth_ok {K : PySem.W.Frag} {σ : L2.St} {ρ : Ad} {H : Hp} {S : Store} {x : W} {v : V} {Q : Bool → Hp → Prop} (ok : Ok K ρ S H) (r : RelW K ρ H x v) (q : Go K Wx σ ρ H relB (truth x S) Q) : ∃ k, TruV K v H k ∧ Q k H := by
  cases x with
  | loc n =>
    cases e : S[n]? with
    | none => simp only [truth, e] at q; exact go_none q
    | some m =>
      simp only [truth, e] at q
      cases m with
      | lst ws =>
        obtain ⟨a, ha⟩ := ok.live n _ e (by simp)
        obtain ⟨m', e1, o⟩ := ok.obj n a ha
        rw [e] at e1
        cases e1
        obtain ⟨vs, h1, h2⟩ := o
        obtain rfl := r.2 a ha
        exact ⟨!ws.isEmpty, .inl ⟨vs, SqL.of h1, by rw [isEmpty_len h2.length]⟩, go_val ok q rfl⟩
      | _ => exact go_none q
  | d x => cases x with
    | non =>
      obtain rfl : v = .non := by simpa [RelW, RelD] using r
      exact ⟨false, rfl, go_val ok q rfl⟩
    | bl b =>
      obtain rfl : v = .bl b := by simpa [RelW, RelD] using r
      exact ⟨b, rfl, go_val ok q rfl⟩
    | int i =>
      obtain rfl : v = .int i := by simpa [RelW, RelD] using r
      exact ⟨_, rfl, go_val ok q rfl⟩
    | tup ds =>
      obtain ⟨a, vs, rfl, h1, h2⟩ : ∃ a vs, v = .ref a ∧ TupF K ρ H a vs ∧ RelDs K ρ H ds vs := by simpa [RelW, RelD] using r
      exact ⟨!ds.isEmpty, .inr (.inl ⟨vs, h1.sq, by rw [isEmpty_len h2.length]⟩), go_val ok q rfl⟩
    | lst ds =>
      obtain ⟨a, vs, rfl, h1, h2⟩ : ∃ a vs, v = .ref a ∧ LstF K ρ H a vs ∧ RelDs K ρ H ds vs := by simpa [RelW, RelD] using r
      exact ⟨!ds.isEmpty, .inl ⟨vs, h1.sq, by rw [isEmpty_len h2.length]⟩, go_val ok q rfl⟩
    | _ => exact go_none q
theorem dt_tru (ha : PE X a (tE X.K Wx f)) (he : ∀ whole, isTrue a X.env whole = (do let v ← whole; standAt a.pos; holding [v] (truthy v)) := by intro _; rfl) : PT X a (tT X.K Wx (dTru f)) :=
  (pt_truth ha he).imp fun σ H Q q => by
    obtain ⟨δ, S, ρ, ok, en, q⟩ := q
    exact ⟨δ, S, ρ, ok, en, (go_bind q).mono fun v H1 ⟨x, S1, ρ1, ok1, st1, r1, q1⟩ => truth_ok ok1 r1 q1⟩
/-- and, or, not as values: truth values -/
def dAndV (f g : FE) : FE := fun δ S => (f δ S).bind fun x S1 => (asB x S1).bind fun c S2 => if c = true then g δ S2 else some (.ok (.d (.bl false)), S2)
def dOrV (f g : FE) : FE := fun δ S => (f δ S).bind fun x S1 => (asB x S1).bind fun c S2 => if c = true then some (.ok (.d (.bl true)), S2) else g δ S2
def dNotV (f : FE) : FE := fun δ S => (f δ S).bind fun x S1 => (asB x S1).bind fun c S2 => some (.ok (.d (.bl (!c))), S2)
theorem asB_bind {γ : Type} {K : PySem.W.Frag} {σ : L2.St} {ρ : Ad} {H : Hp} {S : Store} {x : W} {v : V} {P : Prop} {ε : Type} {rel2 : Ad → Hp → γ → ε → Prop} {Q : ε → Hp → Prop} {k : Bool → Store → Rs γ} (ok : Ok K ρ S H) (r : RelW K ρ H x v) (q : Go K Wx σ ρ H rel2 ((asB x S).bind k) Q)
    (z : ∀ b, v = .bl b → Go K Wx σ ρ H rel2 (k b S) Q → P) : P := by
  cases x with
  | loc n => exact go_none q
  | d x => cases x with
    | bl b => exact z b (by simpa [RelW, RelD] using r) q
    | _ => exact go_none q
theorem de_one {op} (h : PE X a (tE X.K Wx f)) : PE X (.BoolOp op [a] pos) (tE X.K Wx f) := pe_one h
theorem de_and (ha : PE X a (tE X.K Wx f)) (hb : PE X (.BoolOp .And (b :: rest) pos) (tE X.K Wx g)) : PE X (.BoolOp .And (a :: b :: rest) pos) (tE X.K Wx (dAndV f g)) := (pe_and ha hb).imp fun σ H Q q => by
  obtain ⟨δ, S, ρ, ok, en, q⟩ := q
  refine ⟨δ, S, ρ, ok, en, (go_bind q).mono fun v H1 ⟨x, S1, ρ1, ok1, st1, r1, q1⟩ => asB_bind ok1 r1 q1 fun c e q2 => ⟨c, e, ?_⟩⟩
  cases c with
  | true =>
    rw [if_pos rfl] at q2
    exact iteT ⟨δ, S1, ρ1, ok1, en.mono st1, q2⟩
  | false =>
    rw [if_neg Bool.false_ne_true] at q2
    exact iteF (go_val ok1 q2 (by simp [RelW, RelD]))
theorem de_or (ha : PE X a (tE X.K Wx f)) (hb : PE X (.BoolOp .Or (b :: rest) pos) (tE X.K Wx g)) : PE X (.BoolOp .Or (a :: b :: rest) pos) (tE X.K Wx (dOrV f g)) := (pe_or ha hb).imp fun σ H Q q => by
  obtain ⟨δ, S, ρ, ok, en, q⟩ := q
  refine ⟨δ, S, ρ, ok, en, (go_bind q).mono fun v H1 ⟨x, S1, ρ1, ok1, st1, r1, q1⟩ => asB_bind ok1 r1 q1 fun c e q2 => ⟨c, e, ?_⟩⟩
  cases c with
  | false =>
    rw [if_neg Bool.false_ne_true] at q2
    exact iteF ⟨δ, S1, ρ1, ok1, en.mono st1, q2⟩
  | true =>
    rw [if_pos rfl] at q2
    exact iteT (go_val ok1 q2 (by simp [RelW, RelD]))
theorem de_not (ha : PE X a (tE X.K Wx f)) : PE X (.UnaryOp .Not a pos) (tE X.K Wx (dNotV f)) := (pe_not ha).imp fun σ H Q q => by
  obtain ⟨δ, S, ρ, ok, en, q⟩ := q
  exact ⟨δ, S, ρ, ok, en, (go_bind q).mono fun v H1 ⟨x, S1, ρ1, ok1, st1, r1, q1⟩ => asB_bind ok1 r1 q1 fun c e q2 => ⟨c, e, go_val ok1 q2 (by simp [RelW, RelD])⟩⟩
/-- a if t else b -/
def dIf (t : FT) (f g : FE) : FE := fun δ S => (t δ S).bind fun c S1 => if c = true then f δ S1 else g δ S1
theorem de_if (hc : PT X c (tT X.K Wx ft)) (ha : PE X a (tE X.K Wx f)) (hb : PE X b (tE X.K Wx g)) : PE X (.IfExp c a b pos) (tE X.K Wx (dIf ft f g)) := (pe_ifExp hc ha hb).imp fun σ H Q q => by
  obtain ⟨δ, S, ρ, ok, en, q⟩ := q
  refine ⟨δ, S, ρ, ok, en, (go_bind q).mono fun v H1 ⟨x, S1, ρ1, ok1, st1, r1, q1⟩ => ?_⟩
  obtain rfl : x = v := r1
  cases x with
  | true =>
    rw [if_pos rfl] at q1
    exact iteT ⟨δ, S1, ρ1, ok1, en.mono st1, q1⟩
  | false =>
    rw [if_neg Bool.false_ne_true] at q1
    exact iteF ⟨δ, S1, ρ1, ok1, en.mono st1, q1⟩

/-! ### arguments, displays -/
def aNil : FA := fun _ S => some (.ok [], S)
def aCons (f : FE) (g : FA) : FA := fun δ S => (f δ S).bind fun x S1 => (g δ S1).bind fun xs S2 => some (.ok (x :: xs), S2)
theorem da_nil : PA X [] (tA X.K Wx aNil) := pa_nil.imp fun σ H Q q => by
  obtain ⟨δ, S, ρ, ok, en, q⟩ := q
  exact go_val ok q (show RelWs X.K ρ H [] [] from rfl)
theorem da_cons (ha : PE X e (tE X.K Wx f)) (hr : PA X es (tA X.K Wx fa)) (hs : starEach (e :: es) X.env = (false, eval e X.env) :: starEach es X.env := by rfl) : PA X (e :: es) (tA X.K Wx (aCons f fa)) :=
  (pa_cons ha hr hs).imp fun σ H Q q => by
    obtain ⟨δ, S, ρ, ok, en, q⟩ := q
    refine ⟨δ, S, ρ, ok, en, (go_bind q).mono fun v H1 ⟨x, S1, ρ1, ok1, st1, r1, q1⟩ => ?_⟩
    refine ⟨δ, S1, ρ1, ok1, en.mono st1, (go_bind q1).mono fun vs H2 ⟨xs, S2, ρ2, ok2, st2, r2, q2⟩ => ?_⟩
    exact go_val ok2 q2 (show RelWs X.K ρ2 H2 (x :: xs) (v :: vs) from ⟨v, vs, rfl, r1.mono st2, r2⟩)
/-- a list read-only from here on, a tuple -/
def mkTup (ws : List W) (S : Store) : Rs W := if ws.length ≤ sizeLine then (match pure? ws with
  | some ds => some (.ok (.d (.tup ds)), S)
  | none => none) else none
def mkLst (ws : List W) (S : Store) : Rs W := if ws.length ≤ sizeLine then (match pure? ws with
  | some ds => some (.ok (.d (.lst ds)), S)
  | none => none) else none
/-- a list at a new place -/
def mkLoc (ws : List W) (S : Store) : Rs W := if ws.length ≤ sizeLine then some (.ok (.loc S.length), S ++ [.lst ws]) else none
def dTup (g : FA) : FE := fun δ S => (g δ S).bind mkTup
def dLst (g : FA) : FE := fun δ S => (g δ S).bind mkLst
def dLoc (g : FA) : FE := fun δ S => (g δ S).bind mkLoc
theorem tupF_new {K : PySem.W.Frag} {ρ : Ad} {S : Store} {H : Hp} {p : Addr} {vs : List V} (ok : Ok K ρ S H) (h : H p = none) : TupF K ρ (upd H p (.tup vs)) p vs := .inl ⟨.inl upd_same, ok.off h⟩
theorem lstF_new {K : PySem.W.Frag} {ρ : Ad} {S : Store} {H : Hp} {p : Addr} {vs : List V} (ok : Ok K ρ S H) (h : H p = none) : LstF K ρ (upd H p (.lst vs)) p vs := .inl ⟨.inl upd_same, ok.off h⟩
theorem mkTup_ok {K : PySem.W.Frag} {σ : L2.St} {ρ : Ad} {H : Hp} {S : Store} {ws : List W} {vs : List V} {Q : VK} (ok : Ok K ρ S H) (r : RelWs K ρ H ws vs) (q : Go K Wx σ ρ H (RelW K) (mkTup ws S) Q) : vs.length ≤ sizeLine ∧ ∀ p, H p = none → Q (.ref p) (upd H p (.tup vs)) := by
  unfold mkTup at q
  split at q
  · rename_i hz
    refine ⟨by rw [← r.length]; exact hz, fun p hp => ?_⟩
    cases e : pure? ws with
    | none => rw [e] at q; exact go_none q
    | some ds =>
      rw [e] at q
      have st := step_new ok (.tup vs) hp
      exact go_at q (ok_new ok _ hp) st (show RelD K ρ (upd H p (.tup vs)) (.tup ds) (.ref p) by rw [RelD]; exact ⟨p, vs, rfl, tupF_new ok hp, RelDs.mono st ds vs (pure?_rel e r)⟩)
  · exact go_none q
theorem mkLst_ok {K : PySem.W.Frag} {σ : L2.St} {ρ : Ad} {H : Hp} {S : Store} {ws : List W} {vs : List V} {Q : VK} (ok : Ok K ρ S H) (r : RelWs K ρ H ws vs) (q : Go K Wx σ ρ H (RelW K) (mkLst ws S) Q) : vs.length ≤ sizeLine ∧ ∀ p, H p = none → Q (.ref p) (upd H p (.lst vs)) := by
  unfold mkLst at q
  split at q
  · rename_i hz
    refine ⟨by rw [← r.length]; exact hz, fun p hp => ?_⟩
    cases e : pure? ws with
    | none => rw [e] at q; exact go_none q
    | some ds =>
      rw [e] at q
      have st := step_new ok (.lst vs) hp
      exact go_at q (ok_new ok _ hp) st (show RelD K ρ (upd H p (.lst vs)) (.lst ds) (.ref p) by rw [RelD]; exact ⟨p, vs, rfl, lstF_new ok hp, RelDs.mono st ds vs (pure?_rel e r)⟩)
  · exact go_none q
theorem mkLoc_ok {K : PySem.W.Frag} {σ : L2.St} {ρ : Ad} {H : Hp} {S : Store} {ws : List W} {vs : List V} {Q : VK} (ok : Ok K ρ S H) (r : RelWs K ρ H ws vs) (q : Go K Wx σ ρ H (RelW K) (mkLoc ws S) Q) : vs.length ≤ sizeLine ∧ ∀ p, H p = none → Q (.ref p) (upd H p (.lst vs)) := by
  unfold mkLoc at q
  split at q
  · rename_i hz
    refine ⟨by rw [← r.length]; exact hz, fun p hp => ?_⟩
    obtain ⟨ok', st⟩ := ok_alloc ok (m := .lst ws) (o := .lst vs) hp fun ρ' H' st e => ⟨vs, e, r.mono st⟩
    exact go_at q ok' st (show RelW K (ρ.add p) (upd H p (.lst vs)) (.loc S.length) (.ref p) from ⟨by simp [Ad.add, ok.len], fun a e => by rw [← ok.len] at e; simp [Ad.add] at e; rw [e]⟩)
  · exact go_none q
theorem de_tup {k : Nat} (ha : PA X es (tA X.K Wx fa)) : PE X (.Tuple es k pos) (tE X.K Wx (dTup fa)) := (pe_tup ha).imp fun σ H Q q => by
  obtain ⟨δ, S, ρ, ok, en, q⟩ := q
  exact ⟨δ, S, ρ, ok, en, (go_bind q).mono fun vs H1 ⟨ws, S1, ρ1, ok1, st1, r1, q1⟩ => mkTup_ok ok1 r1 q1⟩
theorem de_lst (ha : PA X es (tA X.K Wx fa)) : PE X (.List es pos) (tE X.K Wx (dLst fa)) := (pe_lst ha).imp fun σ H Q q => by
  obtain ⟨δ, S, ρ, ok, en, q⟩ := q
  exact ⟨δ, S, ρ, ok, en, (go_bind q).mono fun vs H1 ⟨ws, S1, ρ1, ok1, st1, r1, q1⟩ => mkLst_ok ok1 r1 q1⟩
theorem de_loc (ha : PA X es (tA X.K Wx fa)) : PE X (.List es pos) (tE X.K Wx (dLoc fa)) := (pe_lst ha).imp fun σ H Q q => by
  obtain ⟨δ, S, ρ, ok, en, q⟩ := q
  exact ⟨δ, S, ρ, ok, en, (go_bind q).mono fun vs H1 ⟨ws, S1, ρ1, ok1, st1, r1, q1⟩ => mkLoc_ok ok1 r1 q1⟩
end

/-! ### what a sequence holds -/
/-- is it a tuple; its items -/
def seqW (S : Store) : W → Option (Bool × List W)
  | .d (.tup ds) => some (true, ds.map W.d)
  | .d (.lst ds) => some (false, ds.map W.d)
  | .loc n => match S[n]? with
    | some (.lst ws) => some (false, ws)
    | _ => none
  | _ => none
def SqW (K : PySem.W.Frag) (H : Hp) (t : Bool) (a : Addr) (vs : List V) : Prop := if t = true then SqT K H a vs else SqL K H a vs
theorem seqW_ok {K : PySem.W.Frag} {ρ : Ad} {H : Hp} {S : Store} {x : W} {v : V} {t : Bool} {ws : List W} (ok : Ok K ρ S H) (r : RelW K ρ H x v) (e : seqW S x = some (t, ws)) : ∃ a vs, v = .ref a ∧ SqW K H t a vs ∧ RelWs K ρ H ws vs := by
  cases x with
  | loc n =>
    cases e0 : S[n]? with
    | none => simp [seqW, e0] at e
    | some m =>
      simp only [seqW, e0] at e
      cases m with
      | lst us =>
        cases e
        obtain ⟨a, ha⟩ := ok.live n _ e0 (by simp)
        obtain ⟨m', e1, o⟩ := ok.obj n a ha
        rw [e0] at e1
        cases e1
        obtain ⟨vs, h1, h2⟩ := o
        exact ⟨a, vs, r.2 a ha, SqL.of h1, h2⟩
      | _ => cases e
  | d x => cases x with
    | tup ds =>
      obtain ⟨a, vs, rfl, h1, h2⟩ : ∃ a vs, v = .ref a ∧ TupF K ρ H a vs ∧ RelDs K ρ H ds vs := by simpa [RelW, RelD] using r
      cases e
      exact ⟨a, vs, rfl, h1.sq, relWs_map h2⟩
    | lst ds =>
      obtain ⟨a, vs, rfl, h1, h2⟩ : ∃ a vs, v = .ref a ∧ LstF K ρ H a vs ∧ RelDs K ρ H ds vs := by simpa [RelW, RelD] using r
      cases e
      exact ⟨a, vs, rfl, h1.sq, relWs_map h2⟩
    | _ => cases e
theorem SqW.or {K : PySem.W.Frag} {H : Hp} {t : Bool} {a : Addr} {vs : List V} (h : SqW K H t a vs) : SqL K H a vs ∨ SqT K H a vs := by
  cases t with
  | true => exact .inr h
  | false => exact .inl h

/-! ### operators by values -/
section
variable {X : Cx} {K : PySem.W.Frag} {Wx : WX}
theorem int2_inv {P : Prop} (x y : W) (h : ∀ i j, x = .d (.int i) → y = .d (.int j) → P) (h' : (∀ i j, x = .d (.int i) → y ≠ .d (.int j)) → P) : P := by
  by_cases e : ∃ i j, x = .d (.int i) ∧ y = .d (.int j)
  · obtain ⟨i, j, e1, e2⟩ := e
    exact h i j e1 e2
  · exact h' fun i j e1 e2 => e ⟨i, j, e1, e2⟩
/-- ints in, a value out -/
def oII (C : Int → Int → Prop) [∀ i j, Decidable (C i j)] (g : Int → Int → D) : F2
  | .d (.int i), .d (.int j), S => if C i j then some (.ok (.d (g i j)), S) else none
  | _, _, _ => none
theorem oII_ok {C : Int → Int → Prop} [∀ i j, Decidable (C i j)] {g : Int → Int → D} {gv : Int → Int → V} (hg : ∀ i j ρ H, RelD K ρ H (g i j) (gv i j)) : OpF K Wx (rI C gv) (oII C g) := by
  intro σ ρ S H x y a b Q ok rx ry q
  refine int2_inv x y (fun i j e1 e2 => ?_) (fun hn => ?_)
  · subst e1 e2
    by_cases hc : C i j
    · simp only [oII, if_pos hc] at q
      exact ⟨i, j, by simpa [RelW, RelD] using rx, by simpa [RelW, RelD] using ry, hc, go_val ok q (hg i j ρ H)⟩
    · simp only [oII, if_neg hc] at q
      exact go_none q
  · have e : oII C g x y S = none := by
      unfold oII
      split
      · exact absurd rfl (hn _ _ rfl)
      · rfl
    rw [e] at q
    exact go_none q
def oI0 (g : Int → Int → D) : F2
  | .d (.int i), .d (.int j), S => some (.ok (.d (g i j)), S)
  | _, _, _ => none
theorem oI0_ok {g : Int → Int → D} {gv : Int → Int → V} (hg : ∀ i j ρ H, RelD K ρ H (g i j) (gv i j)) : OpF K Wx (rI0 gv) (oI0 g) := by
  intro σ ρ S H x y a b Q ok rx ry q
  refine int2_inv x y (fun i j e1 e2 => ?_) (fun hn => ?_)
  · subst e1 e2
    exact ⟨i, j, by simpa [RelW, RelD] using rx, by simpa [RelW, RelD] using ry, go_val ok q (hg i j ρ H)⟩
  · have e : oI0 g x y S = none := by
      unfold oI0
      split
      · exact absurd rfl (hn _ _ rfl)
      · rfl
    rw [e] at q
    exact go_none q
abbrev oAdd : F2 := oI0 fun i j => .int (i + j)
abbrev oSub : F2 := oI0 fun i j => .int (i - j)
instance (i j : Int) : Decidable (CMulW i j) := by unfold CMulW; infer_instance
instance (i j : Int) : Decidable (CDivW i j) := by unfold CDivW; infer_instance
instance (i j : Int) : Decidable (CPow i j) := by unfold CPow; infer_instance
abbrev oMul : F2 := oII CMulW fun i j => .int (i * j)
abbrev oDiv : F2 := oII CDivW fun i j => .int (i / j)
abbrev oMod : F2 := oII (fun _ j => 0 < j) fun i j => .int (i % j)
abbrev oPow : F2 := oII CPow fun i j => .int (i ^ j.toNat)
abbrev oLt : F2 := oI0 fun i j => .bl (decide (i < j))
abbrev oLe : F2 := oI0 fun i j => .bl (decide (i ≤ j))
abbrev oGt : F2 := oI0 fun i j => .bl (decide (j < i))
abbrev oGe : F2 := oI0 fun i j => .bl (decide (j ≤ i))
theorem oAdd_ok : OpF K Wx (rI0 fun i j => .int (i + j)) oAdd := oI0_ok fun _ _ _ _ => by rw [RelD]
theorem oSub_ok : OpF K Wx (rI0 fun i j => .int (i - j)) oSub := oI0_ok fun _ _ _ _ => by rw [RelD]
theorem oMul_ok : OpF K Wx (rI CMulW fun i j => .int (i * j)) oMul := oII_ok fun _ _ _ _ => by rw [RelD]
theorem oDiv_ok : OpF K Wx (rI CDivW fun i j => .int (i / j)) oDiv := oII_ok fun _ _ _ _ => by rw [RelD]
theorem oMod_ok : OpF K Wx (rI (fun _ j => 0 < j) fun i j => .int (i % j)) oMod := oII_ok fun _ _ _ _ => by rw [RelD]
theorem oPow_ok : OpF K Wx (rI CPow fun i j => .int (i ^ j.toNat)) oPow := oII_ok fun _ _ _ _ => by rw [RelD]
theorem oLt_ok : OpF K Wx (rI0 fun i j => .bl (decide (i < j))) oLt := oI0_ok fun _ _ _ _ => by rw [RelD]
theorem oLe_ok : OpF K Wx (rI0 fun i j => .bl (decide (i ≤ j))) oLe := oI0_ok fun _ _ _ _ => by rw [RelD]
theorem oGt_ok : OpF K Wx (rI0 fun i j => .bl (decide (j < i))) oGt := oI0_ok fun _ _ _ _ => by rw [RelD]
theorem oGe_ok : OpF K Wx (rI0 fun i j => .bl (decide (j ≤ i))) oGe := oI0_ok fun _ _ _ _ => by rw [RelD]
/-- xs[i] -/
def oIx : F2 := fun x y S => match seqW S x, y with
  | some (_, ws), .d (.int i) => (match atI ws i with
    | some w => some (.ok w, S)
    | none => none)
  | _, _ => none
theorem atI_rel {ρ : Ad} {H : Hp} {ws : List W} {vs : List V} {i : Int} {w : W} (r : RelWs K ρ H ws vs) (e : atI ws i = some w) : ∃ v, atI vs i = some v ∧ RelW K ρ H w v := by
  unfold atI at e ⊢
  rw [← r.length]
  cases h : ixN ws.length i with
  | none => rw [h] at e; cases e
  | some j =>
    rw [h] at e
    exact r.get (i := j) e
theorem oIx_ok : OpF K Wx (rIx K) oIx := by
  intro σ ρ S H x y a b Q ok rx ry q
  unfold oIx at q
  split at q
  · rename_i t ws i e
    split at q
    · rename_i w ew
      obtain ⟨p, vs, rfl, h1, h2⟩ := seqW_ok ok rx e
      obtain ⟨v, e2, rv⟩ := atI_rel h2 ew
      have ey : b = .int i := by simpa [RelW, RelD] using ry
      cases t with
      | true => exact .inr (.inl ⟨p, vs, i, v, rfl, ey, h1, e2, go_val ok q rv⟩)
      | false => exact .inl ⟨p, vs, i, v, rfl, ey, h1, e2, go_val ok q rv⟩
    · exact go_none q
  · exact go_none q
/-! data as the library's == reads it -/
mutual
def toP : D → Option PyData
  | .non => some .none
  | .bl b => some (.bool b)
  | .int i => some (.int i)
  | .str x => some (.str x)
  | .tup ds => (toPs ds).map .tuple
  | .lst ds => (toPs ds).map .list
  | _ => none
def toPs : List D → Option (List PyData)
  | [] => some []
  | d :: ds => match toP d, toPs ds with
    | some p, some ps => some (p :: ps)
    | _, _ => none
end
mutual
theorem toP_ok {ρ : Ad} {H : Hp} : ∀ (d : D) (v : V) (p : PyData), toP d = some p → RelD K ρ H d v → Dp K H v p
  | .non, v, p, e, r => by rw [toP] at e; cases e; rw [RelD] at r; subst r; exact .non
  | .bl b, v, p, e, r => by rw [toP] at e; cases e; rw [RelD] at r; subst r; exact .bl b
  | .int b, v, p, e, r => by rw [toP] at e; cases e; rw [RelD] at r; subst r; exact .int b
  | .str b, v, p, e, r => by rw [toP] at e; cases e; rw [RelD] at r; subst r; exact .str b
  | .ref b, v, p, e, r => by simp [toP] at e
  | .ty b, v, p, e, r => by simp [toP] at e
  | .ins _ _ _, v, p, e, r => by simp [toP] at e
  | .dct _ _, v, p, e, r => by simp [toP] at e
  | .tup ds, v, p, e, r => by
    rw [toP] at e
    rw [RelD] at r
    obtain ⟨a, vs, rfl, h1, h2⟩ := r
    obtain ⟨ps, e1, rfl⟩ := Option.map_eq_some_iff.mp e
    exact .tup h1.sq (toPs_ok ds vs ps e1 h2)
  | .lst ds, v, p, e, r => by
    rw [toP] at e
    rw [RelD] at r
    obtain ⟨a, vs, rfl, h1, h2⟩ := r
    obtain ⟨ps, e1, rfl⟩ := Option.map_eq_some_iff.mp e
    exact .lst h1.sq (toPs_ok ds vs ps e1 h2)
theorem toPs_ok {ρ : Ad} {H : Hp} : ∀ (ds : List D) (vs : List V) (ps : List PyData), toPs ds = some ps → RelDs K ρ H ds vs → DpAll K H vs ps
  | [], vs, ps, e, r => by rw [toPs] at e; cases e; rw [RelDs] at r; subst r; exact .nil
  | d :: ds, vs, ps, e, r => by
    rw [toPs] at e
    rw [RelDs] at r
    obtain ⟨v, vr, rfl, h1, h2⟩ := r
    cases e1 : toP d with
    | none => simp [e1] at e
    | some p =>
      cases e2 : toPs ds with
      | none => simp [e1, e2] at e
      | some ps' =>
        simp [e1, e2] at e
        subst e
        exact .cons (toP_ok d v p e1 h1) (toPs_ok ds vr ps' e2 h2)
end
/-- ==, data alone -/
def eqW : W → W → Option Bool
  | .d x, .d y => match toP x, toP y with
    | some p, some q => if SeqAt.shaped p = true ∧ SeqAt.shaped q = true then some (PyData.eqv p q) else none
    | _, _ => none
  | _, _ => none
def oEq : F2 := fun x y S => match eqW x y with
  | some b => some (.ok (.d (.bl b)), S)
  | none => none
def oNe : F2 := fun x y S => match eqW x y with
  | some b => some (.ok (.d (.bl (!b))), S)
  | none => none
theorem eqW_ok {ρ : Ad} {H : Hp} {x y : W} {a b : V} {k : Bool} (rx : RelW K ρ H x a) (ry : RelW K ρ H y b) (e : eqW x y = some k) : ∃ p q, Dp K H a p ∧ Dp K H b q ∧ SeqAt.shaped p = true ∧ SeqAt.shaped q = true ∧ PyData.eqv p q = k := by
  unfold eqW at e
  split at e
  · rename_i x y
    split at e
    · rename_i p q e1 e2
      split at e
      · rename_i hs
        cases e
        exact ⟨p, q, toP_ok x a p e1 rx, toP_ok y b q e2 ry, hs.1, hs.2, rfl⟩
      · cases e
    · cases e
  · cases e
theorem oEq_ok : OpF K Wx (rEqD K) oEq := by
  intro σ ρ S H x y a b Q ok rx ry q
  unfold oEq at q
  split at q
  · rename_i k e
    obtain ⟨p, p', h1, h2, h3, h4, rfl⟩ := eqW_ok rx ry e
    exact ⟨p, p', h1, h2, h3, h4, go_val ok q (by simp [RelW, RelD])⟩
  · exact go_none q
theorem oNe_ok : OpF K Wx (rNeD K) oNe := by
  intro σ ρ S H x y a b Q ok rx ry q
  unfold oNe at q
  split at q
  · rename_i k e
    obtain ⟨p, p', h1, h2, h3, h4, rfl⟩ := eqW_ok rx ry e
    exact ⟨p, p', h1, h2, h3, h4, go_val ok q (by simp [RelW, RelD])⟩
  · exact go_none q
/-- is None, is not None -/
def isNonW : W → Bool
  | .d .non => true
  | _ => false
def oIsN : F2 := fun x y S => match x, y with
  | .d x, .d .non => some (.ok (.d (.bl (isNonW (.d x)))), S)
  | _, _ => none
def oNotN : F2 := fun x y S => match x, y with
  | .d x, .d .non => some (.ok (.d (.bl (!isNonW (.d x)))), S)
  | _, _ => none
theorem isNon_ok {ρ : Ad} {H : Hp} {x : D} {a : V} (r : RelD K ρ H x a) : isNonW (.d x) = decide (a = .non) := by
  cases x with
  | tup ds => rw [RelD] at r; obtain ⟨p, vs, rfl, _⟩ := r; simp [isNonW]
  | lst ds => rw [RelD] at r; obtain ⟨p, vs, rfl, _⟩ := r; simp [isNonW]
  | ins C ns ds => rw [RelD] at r; obtain ⟨p, dx, vs, rfl, _⟩ := r; simp [isNonW]
  | dct ks ds => rw [RelD] at r; obtain ⟨p, vs, rfl, _⟩ := r; simp [isNonW]
  | _ => rw [RelD] at r; subst r; simp [isNonW]
theorem oIsN_ok : OpF K Wx (fun x y H Q => y = .non ∧ Q (.bl (decide (x = .non))) H) oIsN := by
  intro σ ρ S H x y a b Q ok rx ry q
  unfold oIsN at q
  split at q
  · rename_i x
    exact ⟨by simpa [RelW, RelD] using ry, by rw [← isNon_ok (show RelD K ρ H x a from rx)]; exact go_val ok q (by simp [RelW, RelD])⟩
  · exact go_none q
theorem oNotN_ok : OpF K Wx (fun x y H Q => y = .non ∧ Q (.bl (!decide (x = .non))) H) oNotN := by
  intro σ ρ S H x y a b Q ok rx ry q
  unfold oNotN at q
  split at q
  · rename_i x
    exact ⟨by simpa [RelW, RelD] using ry, by rw [← isNon_ok (show RelD K ρ H x a from rx)]; exact go_val ok q (by simp [RelW, RelD])⟩
  · exact go_none q
end
/-! ### one operand -/
section
variable {X : Cx} {K : PySem.W.Frag} {Wx : WX} {a : Expr} {f : FE} {pos : Pos}
def oNeg : W → Store → Rs W
  | .d (.int i), S => some (.ok (.d (.int (-i))), S)
  | _, _ => none
def d1 (op : W → Store → Rs W) (f : FE) : FE := fun δ S => (f δ S).bind op
theorem de_neg (ha : PE X a (tE X.K Wx f)) : PE X (.UnaryOp .USub a pos) (tE X.K Wx (d1 oNeg f)) := (pe_un un_neg ha).imp fun σ H Q q => by
  obtain ⟨δ, S, ρ, ok, en, q⟩ := q
  refine ⟨δ, S, ρ, ok, en, (go_bind q).mono fun v H1 ⟨x, S1, ρ1, ok1, st1, r1, q1⟩ => ?_⟩
  cases x with
  | loc n => exact go_none q1
  | d x => cases x with
    | int i => exact ⟨i, by simpa [RelW, RelD] using r1, go_val ok1 q1 (by simp [RelW, RelD])⟩
    | _ => exact go_none q1
end
end DL
set_option Elab.async false
set_option linter.all false
set_option maxRecDepth 100000
set_option maxHeartbeats 1000000
/-! DL4: calls of defs, of built-ins; lists at places. -/
namespace DL
open PySem PySem.Spec PyProof.Rows L2

/-! ### defs -/
/-- a def's promise by its function -/
def spD (K : PySem.W.Frag) (n : Nat) (g : Fn) : Sp := fun vs H Q E => vs.length = n ∧ ∃ ws S ρ r S', RelWs K ρ H ws vs ∧ Ok K ρ S H ∧ g ws S = some (r, S') ∧ ∀ ρ' H', Ok K ρ' S' H' → Step ρ H ρ' H' → match r with
  | .ok w => ∀ v, RelW K ρ' H' w v → Q v H'
  | .error x => ∀ d, ExR K ρ' H' x d → E (x.cl K) d H'
/-- the def named x, of n parameters, does what g does -/
structure FnD (P : Program) (w : World) (K : PySem.W.Frag) (mg : Str → Option Value) (base : Heap) (k : Nat) (x : Str) (n : Nat) (g : Fn) : Prop where
  ex : ∃ f fd ps, FnOk P w K mg base (L2.CX P w) k f fd ps (spD K n g) ∧ mg x = some (.ref f) ∧ PySem.W.keepIn K (.ref f) = true ∧ Binds K fd ps []
def dCall (n : Nat) (g : Fn) (fa : FA) : FE := fun δ S => (fa δ S).bind fun ws S1 => if ws.length = n then g ws S1 else none
section
variable {X : Cx} {Wx : WX} {e a b c o : Expr} {es : List Expr} {f fo fi : FE} {fa : FA} {pos p apos : Pos} {k n : Nat} {g : Fn} {x : Str}
theorem de_call (F : FnD X.prog X.w X.K X.mg X.base k x n g) (tk : Takes X Wx) (hr : Room k X.A) (ha : PA X (e :: es) (tA X.K Wx fa)) (hg : Gl X x := by rfl) (hdb : (x == ("__debug__" : Str)) = false := by decide) (he : starEach (e :: es) X.env = (false, eval e X.env) :: starEach es X.env := by rfl) (hpl : (backTo pos (starEach es X.env)).any (·.1) = false := by rfl) :
    PE X (.Call (.Name x p) (e :: es) [] pos) (tE X.K Wx (dCall n g fa)) := by
  obtain ⟨f, fd, ps, F, hm, hk, hb⟩ := F.ex
  refine (pe_callS (E := WE Wx) F hr hg hm hk hb (fun σ => passAt tk σ) ha hdb he hpl).imp fun σ H Q q => ?_
  obtain ⟨δ, S, ρ, ok, en, q⟩ := q
  refine ⟨δ, S, ρ, ok, en, (go_bind q).mono fun vs H1 ⟨ws, S1, ρ1, ok1, st1, r1, q1⟩ => ?_⟩
  split at q1
  · rename_i hn
    obtain ⟨r, S', e1, c⟩ := q1
    refine ⟨by rw [← r1.length]; exact hn, ws, S1, ρ1, r, S', r1, ok1, e1, fun ρ' H' ok' st' => ?_⟩
    have c' := c ρ' H' ok' st'
    cases r with
    | ok w => exact c'
    | error x => exact c'
  · exact go_none q1

/-! ### built-ins -/
abbrev FB := List W → Store → Rs W
def CalF (K : PySem.W.Frag) (Wx : WX) (r : List V → Hp → VK → Prop) (op : FB) : Prop := ∀ (σ : L2.St) (ρ : Ad) (S : Store) (H : Hp) (ws : List W) (vs : List V) (Q : VK), Ok K ρ S H → RelWs K ρ H ws vs → Go K Wx σ ρ H (RelW K) (op ws S) Q → r vs H Q
def dCB (op : FB) (fa : FA) : FE := fun δ S => (fa δ S).bind op
theorem impCB {K : PySem.W.Frag} {r : List V → Hp → VK → Prop} {op : FB} (o : CalF K Wx r op) (σ : L2.St) (H : Hp) (Q : VK) (q : tE K Wx (dCB op fa) σ H Q) : tCB r (tA K Wx fa) σ H Q := by
  obtain ⟨δ, S, ρ, ok, en, q⟩ := q
  exact ⟨δ, S, ρ, ok, en, (go_bind q).mono fun vs H1 ⟨ws, S1, ρ1, ok1, st1, r1, q1⟩ => o σ ρ1 S1 H1 ws vs Q ok1 r1 q1⟩
theorem de_callB {id : String} {r : List V → Hp → VK → Prop} {op : FB} (hc : CallR X (.builtin id) r) (o : CalF X.K Wx r op) (hm : X.mg x = none) (hv : bootBuiltins x = some (.builtin id)) (ha : PA X (e :: es) (tA X.K Wx fa)) (hg : Gl X x := by rfl) (hn : x ≠ "__name__" := by decide) (hdb : (x == ("__debug__" : Str)) = false := by decide)
    (hs : starEach (e :: es) X.env = (false, eval e X.env) :: starEach es X.env := by rfl) (hplain : (backTo pos (starEach es X.env)).any (·.1) = false := by rfl) : PE X (.Call (.Name x p) (e :: es) [] pos) (tE X.K Wx (dCB op fa)) :=
  (pe_callB hc hg hm hv ha hn hdb hs hplain).imp (impCB o)
theorem de_callTy {T : String} {r : List V → Hp → VK → Prop} {op : FB} (hc : CallR X (.type T) r) (o : CalF X.K Wx r op) (hm : X.mg x = none) (hv : bootBuiltins x = some (.type T)) (ha : PA X (e :: es) (tA X.K Wx fa)) (hg : Gl X x := by rfl) (hn : x ≠ "__name__" := by decide) (hdb : (x == ("__debug__" : Str)) = false := by decide)
    (hs : starEach (e :: es) X.env = (false, eval e X.env) :: starEach es X.env := by rfl) (hplain : (backTo pos (starEach es X.env)).any (·.1) = false := by rfl) : PE X (.Call (.Name x p) (e :: es) [] pos) (tE X.K Wx (dCB op fa)) :=
  (pe_callTy hc hg hm hv ha hn hdb hs hplain).imp (impCB o)
end
section
variable {X : Cx} {K : PySem.W.Frag} {Wx : WX} {ρ : Ad} {H : Hp}
theorem relWs1 {w : W} {vs : List V} (r : RelWs K ρ H [w] vs) : ∃ v, vs = [v] ∧ RelW K ρ H w v := by
  obtain ⟨v, vr, rfl, h1, h2⟩ := r
  cases (show vr = [] from h2)
  exact ⟨v, rfl, h1⟩
theorem relWs2 {w u : W} {vs : List V} (r : RelWs K ρ H [w, u] vs) : ∃ v z, vs = [v, z] ∧ RelW K ρ H w v ∧ RelW K ρ H u z := by
  obtain ⟨v, vr, rfl, h1, h2⟩ := r
  obtain ⟨z, rfl, h3⟩ := relWs1 h2
  exact ⟨v, z, rfl, h1, h3⟩
/-- one argument -/
def b1 (op : W → Store → Rs W) : FB
  | [w], S => op w S
  | _, _ => none
theorem b1_ok {op : W → Store → Rs W} {r : List V → Hp → VK → Prop} (h : ∀ (σ : L2.St) (ρ : Ad) (S : Store) (H : Hp) (w : W) (v : V) (Q : VK), Ok K ρ S H → RelW K ρ H w v → Go K Wx σ ρ H (RelW K) (op w S) Q → r [v] H Q) : CalF K Wx r (b1 op) := by
  intro σ ρ S H ws vs Q ok rw' q
  match ws, rw', q with
  | [], _, q => exact go_none q
  | [w], rw', q =>
    obtain ⟨v, rfl, r1⟩ := relWs1 rw'
    exact h σ ρ S H w v Q ok r1 q
  | _ :: _ :: _, _, q => exact go_none q
def oAbs : W → Store → Rs W
  | .d (.int i), S => some (.ok (.d (.int (if i < 0 then -i else i))), S)
  | _, _ => none
theorem oAbs_ok : CalF K Wx (fun xs H Q => ∃ i, xs = [.int i] ∧ Q (.int (if i < 0 then -i else i)) H) (b1 oAbs) := b1_ok fun σ ρ S H w v Q ok r q => by
  cases w with
  | loc n => exact go_none q
  | d x => cases x with
    | int i =>
      obtain rfl : v = .int i := by simpa [RelW, RelD] using r
      exact ⟨i, rfl, go_val ok q (by simp [RelW, RelD])⟩
    | _ => exact go_none q
def oInt : W → Store → Rs W
  | .d (.int i), S => some (.ok (.d (.int i)), S)
  | .d (.bl k), S => some (.ok (.d (.int (if k then 1 else 0))), S)
  | _, _ => none
theorem oInt_ok : CalF K Wx (fun xs H Q => (∃ i, xs = [.int i] ∧ Q (.int i) H) ∨ ∃ k, xs = [.bl k] ∧ Q (.int (if k then 1 else 0)) H) (b1 oInt) := b1_ok fun σ ρ S H w v Q ok r q => by
  cases w with
  | loc n => exact go_none q
  | d x => cases x with
    | int i =>
      obtain rfl : v = .int i := by simpa [RelW, RelD] using r
      exact .inl ⟨i, rfl, go_val ok q (by simp [RelW, RelD])⟩
    | bl i =>
      obtain rfl : v = .bl i := by simpa [RelW, RelD] using r
      exact .inr ⟨i, rfl, go_val ok q (by simp [RelW, RelD])⟩
    | _ => exact go_none q
/-- len of a sequence -/
def oLen (x : W) (S : Store) : Rs W := match seqW S x with
  | some (_, ws) => some (.ok (.d (.int (ws.length : Int))), S)
  | none => none
theorem oLen_ok : CalF K Wx (fun xs H Q => ∃ p ys, xs = [.ref p] ∧ (SqL K H p ys ∨ SqT K H p ys) ∧ Q (.int ys.length) H) (b1 oLen) := b1_ok fun σ ρ S H w v Q ok r q => by
  unfold oLen at q
  split at q
  · rename_i t ws e
    obtain ⟨a, vs, rfl, h1, h2⟩ := seqW_ok ok r e
    exact ⟨a, vs, rfl, h1.or, by rw [← h2.length]; exact go_val ok q (by simp [RelW, RelD])⟩
  · exact go_none q
/-- tuple(x) -/
def oTuple (x : W) (S : Store) : Rs W := match seqW S x with
  | some (true, _) => some (.ok x, S)
  | some (false, ws) => (match pure? ws with
    | some ds => some (.ok (.d (.tup ds)), S)
    | none => none)
  | none => none
theorem oTuple_ok : CalF K Wx (fun xs H Q => ∃ p ys, xs = [.ref p] ∧ ((SqL K H p ys ∧ ∀ l, H l = none → Q (.ref l) (upd H l (.tup ys))) ∨ (SqT K H p ys ∧ Q (.ref p) H))) (b1 oTuple) := b1_ok fun σ ρ S H w v Q ok r q => by
  unfold oTuple at q
  split at q
  · rename_i ws e
    obtain ⟨a, vs, rfl, h1, h2⟩ := seqW_ok ok r e
    exact ⟨a, vs, rfl, .inr ⟨h1, go_val ok q r⟩⟩
  · rename_i ws e
    obtain ⟨a, vs, rfl, h1, h2⟩ := seqW_ok ok r e
    refine ⟨a, vs, rfl, .inl ⟨h1, fun l hl => ?_⟩⟩
    split at q
    · rename_i ds ed
      have st := step_new ok (.tup vs) hl
      exact go_at q (ok_new ok _ hl) st (show RelD K ρ (upd H l (.tup vs)) (.tup ds) (.ref l) by rw [RelD]; exact ⟨l, vs, rfl, tupF_new ok hl, RelDs.mono st ds vs (pure?_rel ed h2)⟩)
    · exact go_none q
  · exact go_none q
/-- list(x): read-only from here on; at a new place -/
def oList (x : W) (S : Store) : Rs W := match seqW S x with
  | some (_, ws) => (match pure? ws with
    | some ds => some (.ok (.d (.lst ds)), S)
    | none => none)
  | none => none
def oListL (x : W) (S : Store) : Rs W := match seqW S x with
  | some (_, ws) => some (.ok (.loc S.length), S ++ [.lst ws])
  | none => none
abbrev rListOf (K : PySem.W.Frag) : List V → Hp → VK → Prop := fun xs H Q => ∃ p ys, xs = [.ref p] ∧ (SqL K H p ys ∨ SqT K H p ys) ∧ ∀ l, H l = none → Q (.ref l) (upd H l (.lst ys))
theorem oList_ok : CalF K Wx (rListOf K) (b1 oList) := b1_ok fun σ ρ S H w v Q ok r q => by
  unfold oList at q
  split at q
  · rename_i t ws e
    obtain ⟨a, vs, rfl, h1, h2⟩ := seqW_ok ok r e
    refine ⟨a, vs, rfl, h1.or, fun l hl => ?_⟩
    split at q
    · rename_i ds ed
      have st := step_new ok (.lst vs) hl
      exact go_at q (ok_new ok _ hl) st (show RelD K ρ (upd H l (.lst vs)) (.lst ds) (.ref l) by rw [RelD]; exact ⟨l, vs, rfl, lstF_new ok hl, RelDs.mono st ds vs (pure?_rel ed h2)⟩)
    · exact go_none q
  · exact go_none q
theorem oListL_ok : CalF K Wx (rListOf K) (b1 oListL) := b1_ok fun σ ρ S H w v Q ok r q => by
  unfold oListL at q
  split at q
  · rename_i t ws e
    obtain ⟨a, vs, rfl, h1, h2⟩ := seqW_ok ok r e
    refine ⟨a, vs, rfl, h1.or, fun p hp => ?_⟩
    obtain ⟨ok', st⟩ := ok_alloc ok (m := .lst ws) (o := .lst vs) hp fun ρ' H' st e => ⟨vs, e, h2.mono st⟩
    exact go_at q ok' st (show RelW K (ρ.add p) (upd H p (.lst vs)) (.loc S.length) (.ref p) from ⟨by simp [Ad.add, ok.len], fun a e => by rw [← ok.len] at e; simp [Ad.add] at e; rw [e]⟩)
  · exact go_none q
/-- all, any of a list of truth values -/
def bools? : List W → Option (List Bool)
  | [] => some []
  | .d (.bl b) :: ws => (bools? ws).map (b :: ·)
  | _ :: _ => none
theorem bools?_ok : ∀ {ws : List W} {bs : List Bool} {vs : List V}, bools? ws = some bs → RelWs K ρ H ws vs → vs = bs.map V.bl
  | [], bs, vs, e, r => by cases (show some [] = some bs from e); exact r
  | .d (.bl b) :: ws, bs, vs, e, r => by
    obtain ⟨cs, e1, rfl⟩ := Option.map_eq_some_iff.mp (show (bools? ws).map (b :: ·) = some bs from e)
    obtain ⟨v, vr, rfl, h1, h2⟩ := r
    obtain rfl : v = .bl b := by simpa [RelW, RelD] using h1
    rw [bools?_ok e1 h2]
    rfl
  | .loc _ :: _, bs, vs, e, r => by cases (show (none : Option (List Bool)) = some bs from e)
  | .d .non :: _, bs, vs, e, r => by cases (show (none : Option (List Bool)) = some bs from e)
  | .d (.int _) :: _, bs, vs, e, r => by cases (show (none : Option (List Bool)) = some bs from e)
  | .d (.str _) :: _, bs, vs, e, r => by cases (show (none : Option (List Bool)) = some bs from e)
  | .d (.tup _) :: _, bs, vs, e, r => by cases (show (none : Option (List Bool)) = some bs from e)
  | .d (.lst _) :: _, bs, vs, e, r => by cases (show (none : Option (List Bool)) = some bs from e)
  | .d (.ins _ _ _) :: _, bs, vs, e, r => by cases (show (none : Option (List Bool)) = some bs from e)
  | .d (.dct _ _) :: _, bs, vs, e, r => by cases (show (none : Option (List Bool)) = some bs from e)
  | .d (.ref _) :: _, bs, vs, e, r => by cases (show (none : Option (List Bool)) = some bs from e)
  | .d (.ty _) :: _, bs, vs, e, r => by cases (show (none : Option (List Bool)) = some bs from e)
def oAll (x : W) (S : Store) : Rs W := match seqW S x with
  | some (false, ws) => (match bools? ws with
    | some bs => some (.ok (.d (.bl (bs.all id))), S)
    | none => none)
  | _ => none
def oAny (x : W) (S : Store) : Rs W := match seqW S x with
  | some (false, ws) => (match bools? ws with
    | some bs => some (.ok (.d (.bl (bs.any id))), S)
    | none => none)
  | _ => none
theorem oAll_ok : CalF K Wx (rAll K) (b1 oAll) := b1_ok fun σ ρ S H w v Q ok r q => by
  unfold oAll at q
  split at q
  · rename_i ws e
    obtain ⟨a, vs, rfl, h1, h2⟩ := seqW_ok ok r e
    split at q
    · rename_i bs eb
      have ev := bools?_ok eb h2
      subst ev
      exact ⟨a, bs, rfl, h1, go_val ok q (by simp [RelW, RelD])⟩
    · exact go_none q
  · exact go_none q
theorem oAny_ok : CalF K Wx (rAny K) (b1 oAny) := b1_ok fun σ ρ S H w v Q ok r q => by
  unfold oAny at q
  split at q
  · rename_i ws e
    obtain ⟨a, vs, rfl, h1, h2⟩ := seqW_ok ok r e
    split at q
    · rename_i bs eb
      have ev := bools?_ok eb h2
      subst ev
      exact ⟨a, bs, rfl, h1, go_val ok q (by simp [RelW, RelD])⟩
    · exact go_none q
  · exact go_none q
/-- a value's built-in type -/
def tyN (S : Store) : W → Option String
  | .d .non => some "NoneType"
  | .d (.bl _) => some "bool"
  | .d (.int _) => some "int"
  | .d (.str _) => some "str"
  | .d (.tup _) => some "tuple"
  | .d (.lst _) => some "list"
  | .d (.dct _ _) => some "dict"
  | .loc n => match S[n]? with
    | some (.lst _) => some "list"
    | _ => none
  | _ => none
theorem lst_ty {a : Addr} {vs : List V} (h : LstF K ρ H a vs) : TyX K H (.ref a) (.type "list") := by
  rcases h with ⟨h | ⟨o, h⟩, _⟩ | ⟨o, its, n, e, c, _⟩
  · exact .base (.lst h)
  · exact .base (.frz h)
  · exact .kList e c
theorem tup_ty {a : Addr} {vs : List V} (h : TupF K ρ H a vs) : TyX K H (.ref a) (.type "tuple") := by
  rcases h with ⟨h | ⟨o, h⟩, _⟩ | ⟨o, its, n, e, c, _⟩
  · exact .base (.tup h)
  · exact .fTuple h
  · exact .kTuple e c
theorem tyN_ok {S : Store} {x : W} {v : V} {t : String} (ok : Ok K ρ S H) (r : RelW K ρ H x v) (e : tyN S x = some t) : TyX K H v (.type t) := by
  cases x with
  | loc n =>
    cases e0 : S[n]? with
    | none => simp [tyN, e0] at e
    | some m =>
      simp only [tyN, e0] at e
      cases m with
      | lst ws =>
        cases e
        obtain ⟨a, ha⟩ := ok.live n _ e0 (by simp)
        obtain ⟨m', e1, o⟩ := ok.obj n a ha
        rw [e0] at e1
        cases e1
        obtain ⟨vs, h1, h2⟩ := o
        rw [r.2 a ha]
        exact .base (.lst h1)
      | _ => cases e
  | d x => cases x with
    | non => cases e; obtain rfl : v = .non := by simpa [RelW, RelD] using r
             exact .base .non
    | bl b => cases e; obtain rfl : v = .bl b := by simpa [RelW, RelD] using r
              exact .base (.bl b)
    | int b => cases e; obtain rfl : v = .int b := by simpa [RelW, RelD] using r
               exact .base (.int b)
    | str b => cases e; obtain rfl : v = .str b := by simpa [RelW, RelD] using r
               exact .base (.str b)
    | tup ds =>
      cases e
      obtain ⟨a, vs, rfl, h1, h2⟩ : ∃ a vs, v = .ref a ∧ TupF K ρ H a vs ∧ RelDs K ρ H ds vs := by simpa [RelW, RelD] using r
      exact tup_ty h1
    | lst ds =>
      cases e
      obtain ⟨a, vs, rfl, h1, h2⟩ : ∃ a vs, v = .ref a ∧ LstF K ρ H a vs ∧ RelDs K ρ H ds vs := by simpa [RelW, RelD] using r
      exact lst_ty h1
    | dct ks ds =>
      cases e
      obtain ⟨a, vs, rfl, h1, _⟩ : ∃ a vs, v = .ref a ∧ H a = some (.dK (ks.zip vs)) ∧ Off ρ a ∧ RelDs K ρ H ds vs ∧ ks.length = ds.length := by simpa [RelW, RelD] using r
      exact .base (.dK h1)
    | _ => cases e
/-- is a thing of type t one of type c -/
def isiB (t c : String) : Option Bool :=
  if t ∈ ["NoneType", "bool", "int", "str", "tuple", "list", "dict"] ∧ c ∈ ["bool", "int", "str", "tuple", "list", "dict"] then some (t == c || (t == "bool" && c == "int")) else none
theorem isiB_ok {t c : String} {b : Bool} (h : isiB t c = some b) : kitB t c = some b := by
  unfold isiB at h
  split at h
  · rename_i hm
    obtain ⟨h1, h2⟩ := hm
    simp only [List.mem_cons, List.not_mem_nil, or_false] at h1 h2
    cases h
    rcases h1 with rfl | rfl | rfl | rfl | rfl | rfl | rfl <;> rcases h2 with rfl | rfl | rfl | rfl | rfl | rfl <;> decide +kernel
  · cases h
def oIsi : FB
  | [x, .d (.ty c)], S => (match tyN S x with
    | some t => (match isiB t c with
      | some b => some (.ok (.d (.bl b)), S)
      | none => none)
    | none => none)
  | _, _ => none
theorem oIsi_ok : CalF K Wx (rIsi K) oIsi := by
  intro σ ρ S H ws vs Q ok rw' q
  unfold oIsi at q
  split at q
  · rename_i x c
    obtain ⟨v, z, rfl, r1, r2⟩ := relWs2 rw'
    obtain rfl : z = .ty c := by simpa [RelW, RelD] using r2
    split at q
    · rename_i t et
      split at q
      · rename_i b eb
        exact ⟨v, .ty c, .type t, .type c, b, rfl, .ty c, tyN_ok ok r1 et, kit_ty (isiB_ok eb), go_val ok q (by simp [RelW, RelD])⟩
      · exact go_none q
    · exact go_none q
  · exact go_none q
end
/-! ### lists at places -/
section
variable {X : Cx} {Wx : WX} {e o i : Expr} {es : List Expr} {f fo fi : FE} {fa : FA} {pos cpos apos : Pos}
theorem loc_at {K : PySem.W.Frag} {ρ : Ad} {S : Store} {H : Hp} {n : Nat} {ws : List W} {v : V} (ok : Ok K ρ S H) (r : RelW K ρ H (.loc n) v) (e : S[n]? = some (.lst ws)) : ∃ a vs, v = .ref a ∧ ρ.pl[n]? = some (some a) ∧ H a = some (.lst vs) ∧ RelWs K ρ H ws vs := by
  obtain ⟨a, ha⟩ := ok.live n _ e (by simp)
  obtain ⟨m', e1, ob⟩ := ok.obj n a ha
  rw [e] at e1
  cases e1
  obtain ⟨vs, h1, h2⟩ := ob
  exact ⟨a, vs, r.2 a ha, ha, h1, h2⟩
def isLst (S : Store) (n : Nat) : Bool := match S[n]? with
  | some (.lst _) => true
  | _ => false
theorem isLst_at {S : Store} {n : Nat} (h : isLst S n = true) : ∃ ws, S[n]? = some (.lst ws) := by
  unfold isLst at h
  split at h
  · rename_i ws e
    exact ⟨ws, e⟩
  · cases h
/-- xs.append(e) -/
def appAt (n : Nat) (w : W) (S2 : Store) : Rs W := match S2[n]? with
    | some (.lst ws) => if ws.length < sizeLine then some (.ok (.d .non), S2.set n (.lst (ws ++ [w]))) else none
    | _ => none
def dApp (fo fe : FE) : FE := fun δ S => (fo δ S).bind fun x S1 => match x with
  | .loc n => if isLst S1 n = true then (fe δ S1).bind (appAt n) else none
  | _ => none
theorem de_app (ho : PE X o (tE X.K Wx fo)) (he : PE X e (tE X.K Wx f)) (hbase : attributeBase o "append" X.env (eval o X.env) = eval o X.env := by rfl)
    (hfew : ((backTo cpos (starEach [e] X.env)).all (fun x => !x.1) && (backToKw cpos (keywordEach [] X.env)).all (fun x => x.1.isSome)
      && decide ([e].length + ([] : List Keyword).length + (if ([] : List Keyword).isEmpty then 0 else 1) < 30)) = true := by rfl)
    (hline : (apos.endLine == cpos.line) = true := by rfl) (hs : starEach [e] X.env = (false, eval e X.env) :: starEach [] X.env := by rfl) (hplain : (backTo cpos (starEach [] X.env)).any (·.1) = false := by rfl) :
    PE X (.Call (.Attribute o "append" apos) [e] [] cpos) (tE X.K Wx (dApp fo f)) :=
  (pe_bm PySem.F.plainAttrs_list PySem.F.slot_list_append PySem.F.type_list_append mt_append ho (pa_cons he pa_nil hs) hbase hfew hline hs hplain).imp fun σ H Q q => by
    obtain ⟨δ, S, ρ, ok, en, q⟩ := q
    refine ⟨δ, S, ρ, ok, en, (go_bind q).mono fun v H1 ⟨x, S1, ρ1, ok1, st1, r1, q1⟩ => ?_⟩
    cases x with
    | d x => exact go_none q1
    | loc n =>
      by_cases hi : isLst S1 n = true
      · simp only [if_pos hi] at q1
        obtain ⟨ws, ew⟩ := isLst_at hi
        obtain ⟨a, vs, rfl, ha, h1, h2⟩ := loc_at ok1 r1 ew
        refine ⟨.inl ⟨rfl, vs, SqL.of h1⟩, ?_⟩
        refine ⟨δ, S1, ρ1, ok1, en.mono st1, (go_bind q1).mono fun u H2 ⟨w, S2, ρ2, ok2, st2, r2, q2⟩ => ?_⟩
        unfold appAt at q2
        split at q2
        · rename_i ws2 e2
          obtain ⟨a2, vs2, e3, ha2, h3, h4⟩ := loc_at ok2 (r1.mono st2) e2
          cases e3
          by_cases hz : ws2.length < sizeLine
          · rw [if_pos hz] at q2
            refine ⟨a, vs2, u, rfl, rfl, h3, by rw [← h4.length]; exact hz, ?_⟩
            obtain ⟨ok3, st3⟩ := ok_write ok2 (m := .lst (ws2 ++ [w])) (o := .lst (vs2 ++ [u])) ha2 fun H' st e => ⟨_, e, (h4.mono st).app ⟨u, [], rfl, r2.mono st, rfl⟩⟩
            exact go_at q2 ok3 st3 (by simp [RelW, RelD])
          · rw [if_neg hz] at q2
            exact go_none q2
        · exact go_none q2
      · simp only [if_neg hi] at q1
        exact go_none q1
end
end DL
set_option Elab.async false
set_option linter.all false
set_option maxRecDepth 100000
set_option maxHeartbeats 1000000
/-! DL5: statements, targets, loops, comprehensions. -/
namespace DL
open PySem PySem.Spec PyProof.Rows L2

inductive Fl where
  | nx (δ : DEnv)
  | rt (w : W)
  | bk (δ : DEnv)
  | ct (δ : DEnv)
abbrev Ss := Option (Except (Ex × DEnv) Fl × Store)
abbrev FS := DEnv → Store → Ss
section
variable (K : PySem.W.Frag) (Wx : WX)
def GoS (ρ : Ad) (H : Hp) (m : Ss) (D : Ends) : Prop := ∃ r S', m = some (r, S') ∧ ∀ ρ' H', Ok K ρ' S' H' → Step ρ H ρ' H' → match r with
  | .ok (.nx δ) => ∀ σ', EnvR K ρ' H' δ σ' → D.nx σ' H'
  | .ok (.rt w) => ∀ v, RelW K ρ' H' w v → D.rt v H'
  | .ok (.bk δ) => ∀ σ', EnvR K ρ' H' δ σ' → D.bk σ' H'
  | .ok (.ct δ) => ∀ σ', EnvR K ρ' H' δ σ' → D.ct σ' H'
  | .error (x, δ) => ∀ d σ', EnvR K ρ' H' δ σ' → ExR K ρ' H' x d → Wx (x.cl K) d σ' H'
def tS (f : FS) : TS := fun D σ H => ∃ δ S ρ, Ok K ρ S H ∧ EnvR K ρ H δ σ ∧ GoS K Wx ρ H (f δ S) D
end
def sE {α : Type} (m : Rs α) (δ : DEnv) (k : α → Store → Ss) : Ss := match m with
  | none => none
  | some (.error x, S) => some (.error (x, δ), S)
  | some (.ok a, S) => k a S
section
variable {K : PySem.W.Frag} {Wx : WX} {σ : L2.St} {ρ ρ1 ρ' : Ad} {H H1 H' : Hp} {S S1 : Store} {α β : Type} {rel : Ad → Hp → α → β → Prop} {D D' : Ends}
theorem GoS.step {m : Ss} (h : GoS K Wx ρ H m D) (st : Step ρ H ρ' H') : GoS K Wx ρ' H' m D := by
  obtain ⟨r, S', e, c⟩ := h
  exact ⟨r, S', e, fun ρ2 H2 ok st2 => c ρ2 H2 ok (st.trans st2)⟩
theorem gos_none {P : Prop} (h : GoS K Wx ρ H none D) : P := by
  obtain ⟨_, _, e, _⟩ := h
  exact nomatch e
theorem gos_bind {m : Rs α} {δ : DEnv} {k : α → Store → Ss} (en : EnvR K ρ H δ σ) (h : GoS K Wx ρ H (sE m δ k) D) :
    Go K Wx σ ρ H rel m (fun b H1 => ∃ a S1 ρ1, Ok K ρ1 S1 H1 ∧ Step ρ H ρ1 H1 ∧ rel ρ1 H1 a b ∧ GoS K Wx ρ1 H1 (k a S1) D) := by
  obtain ⟨r, S', e, c⟩ := h
  cases m with
  | none => exact nomatch (show (none : Ss) = some (r, S') from e)
  | some p =>
    obtain ⟨z, S1⟩ := p
    cases z with
    | error x =>
      cases e
      exact ⟨.error x, _, rfl, fun ρ' H' ok st d hd => c ρ' H' ok st d σ (en.mono st) hd⟩
    | ok a => exact ⟨.ok a, S1, rfl, fun ρ1 H1 ok st b hb => ⟨a, S1, ρ1, ok, st, hb, r, S', e, fun ρ' H' ok' st' => c ρ' H' ok' (st.trans st')⟩⟩
theorem gos_nx {δ : DEnv} (ok : Ok K ρ S H) (h : GoS K Wx ρ H (some (.ok (.nx δ), S)) D) (en : EnvR K ρ H δ σ) : D.nx σ H := by
  obtain ⟨r', S', e, c⟩ := h
  cases e
  exact c ρ H ok (Step.refl ρ H) σ en
theorem gos_bk {δ : DEnv} (ok : Ok K ρ S H) (h : GoS K Wx ρ H (some (.ok (.bk δ), S)) D) (en : EnvR K ρ H δ σ) : D.bk σ H := by
  obtain ⟨r', S', e, c⟩ := h
  cases e
  exact c ρ H ok (Step.refl ρ H) σ en
theorem gos_ct {δ : DEnv} (ok : Ok K ρ S H) (h : GoS K Wx ρ H (some (.ok (.ct δ), S)) D) (en : EnvR K ρ H δ σ) : D.ct σ H := by
  obtain ⟨r', S', e, c⟩ := h
  cases e
  exact c ρ H ok (Step.refl ρ H) σ en
theorem gos_rt {w : W} {v : V} (ok : Ok K ρ S H) (h : GoS K Wx ρ H (some (.ok (.rt w), S)) D) (en : RelW K ρ H w v) : D.rt v H := by
  obtain ⟨r', S', e, c⟩ := h
  cases e
  exact c ρ H ok (Step.refl ρ H) v en
end
theorem _root_.L2.PS.imp {X : Cx} {e : Stmt} {t t' : TS} (h : PS X e t) (i : ∀ D σ H, t' D σ H → t D σ H) : PS X e t' := ⟨fun pins s σ H D I q => h.run pins s σ H D I (i D σ H q)⟩
theorem _root_.L2.PSs.imp {X : Cx} {e : List Stmt} {t t' : TS} (h : PSs X e t) (i : ∀ D σ H, t' D σ H → t D σ H) : PSs X e t' := ⟨fun pins s σ H D I q => h.run pins s σ H D I (i D σ H q)⟩
theorem _root_.L2.PG.imp {X : Cx} {e : Expr} {t t' : TG} (h : PG X e t) (i : ∀ v σ H Q, t' v σ H Q → t v σ H Q) : PG X e t' := ⟨fun pins s σ H v u Q I r q => h.run pins s σ H v u Q I r (i v σ H Q q)⟩
theorem _root_.L2.PGs.imp {X : Cx} {e : List Expr} {t t' : TGs} (h : PGs X e t) (i : ∀ v σ H Q, t' v σ H Q → t v σ H Q) : PGs X e t' := ⟨fun pins s σ H v u Q I r q => h.run pins s σ H v u Q I r (i v σ H Q q)⟩
theorem _root_.L2.PI.imp {X : Cx} {a e : Expr} {t t' : TI} (h : PI X a e t) (i : ∀ σ H R, t' σ H R → t σ H R) : PI X a e t' := ⟨fun pins s σ H R I q => h.run pins s σ H R I (i σ H R q)⟩
theorem _root_.L2.PI.or {X : Cx} {a e : Expr} {t t' : TI} (h : PI X a e t) (h' : PI X a e t') : PI X a e (fun σ H R => t σ H R ∨ t' σ H R) := ⟨fun pins s σ H R I q => q.elim (h.run pins s σ H R I) (h'.run pins s σ H R I)⟩

/-! ### small statements -/
def sSeq (f g : FS) : FS := fun δ S => match f δ S with
  | some (.ok (.nx δ1), S1) => g δ1 S1
  | o => o
def sNx : FS := fun δ S => some (.ok (.nx δ), S)
def sBk : FS := fun δ S => some (.ok (.bk δ), S)
def sCt : FS := fun δ S => some (.ok (.ct δ), S)
def sRet (f : FE) : FS := fun δ S => sE (f δ S) δ fun w S1 => some (.ok (.rt w), S1)
def sRetN : FS := fun δ S => some (.ok (.rt (.d .non)), S)
def sDrop (f : FE) : FS := fun δ S => sE (f δ S) δ fun _ S1 => some (.ok (.nx δ), S1)
def sSet (i : Nat) (f : FE) : FS := fun δ S => sE (f δ S) δ fun w S1 => some (.ok (.nx (δ.set i (some w))), S1)
def sIf (t : FT) (f g : FS) : FS := fun δ S => sE (t δ S) δ fun c S1 => if c = true then f δ S1 else g δ S1
def sNever : FS := fun _ _ => none
section
variable {X : Cx} {Wx : WX} {st : Stmt} {rest body orelse : List Stmt} {e c o : Expr} {es : List Expr} {f g : FE} {ft : FT} {fa : FA} {fs gs : FS} {pos : Pos}
theorem dss_nil : PSs X [] (tS X.K Wx sNx) := pss_nil.imp fun D σ H q => by
  obtain ⟨δ, S, ρ, ok, en, q⟩ := q
  exact gos_nx ok q en
theorem impSeq {K : PySem.W.Frag} (D : Ends) (σ : L2.St) (H : Hp) (q : tS K Wx (sSeq fs gs) D σ H) : tSeq (tS K Wx fs) (tS K Wx gs) D σ H := by
  obtain ⟨δ, S, ρ, ok, en, r, S', e, c⟩ := q
  refine ⟨δ, S, ρ, ok, en, ?_⟩
  unfold sSeq at e
  cases q : fs δ S with
  | none => rw [q] at e; cases e
  | some p =>
    obtain ⟨z, S1⟩ := p
    rw [q] at e
    cases z with
    | error x => cases e; exact ⟨_, _, rfl, c⟩
    | ok fl => cases fl with
      | nx δ1 => exact ⟨_, _, rfl, fun ρ1 H1 ok1 st1 σ1 en1 => ⟨δ1, S1, ρ1, ok1, en1, r, S', e, fun ρ2 H2 ok2 st2 => c ρ2 H2 ok2 (st1.trans st2)⟩⟩
      | rt w => cases e; exact ⟨_, _, rfl, c⟩
      | bk w => cases e; exact ⟨_, _, rfl, c⟩
      | ct w => cases e; exact ⟨_, _, rfl, c⟩
theorem dss_cons (h1 : PS X st (tS X.K Wx fs)) (h2 : PSs X rest (tS X.K Wx gs)) : PSs X (st :: rest) (tS X.K Wx (sSeq fs gs)) := (pss_cons h1 h2).imp impSeq
theorem dss_one (h1 : PS X st (tS X.K Wx fs)) : PSs X [st] (tS X.K Wx fs) := pss_one h1
theorem ds_pass : PS X (.Pass pos) (tS X.K Wx sNx) := ps_pass.imp fun D σ H q => by
  obtain ⟨δ, S, ρ, ok, en, q⟩ := q
  exact gos_nx ok q en
theorem ds_break : PS X (.Break pos) (tS X.K Wx sBk) := ps_break.imp fun D σ H q => by
  obtain ⟨δ, S, ρ, ok, en, q⟩ := q
  exact gos_bk ok q en
theorem ds_cont : PS X (.Continue pos) (tS X.K Wx sCt) := ps_continue.imp fun D σ H q => by
  obtain ⟨δ, S, ρ, ok, en, q⟩ := q
  exact gos_ct ok q en
theorem ds_doc {x j pos'} : PS X (.Expr (.Constant (.str x) j pos) pos') (tS X.K Wx sNx) := ps_doc.imp fun D σ H q => by
  obtain ⟨δ, S, ρ, ok, en, q⟩ := q
  exact gos_nx ok q en
theorem ds_never : PS X st (tS X.K Wx sNever) := ps_never.imp fun D σ H q => by
  obtain ⟨δ, S, ρ, ok, en, q⟩ := q
  exact gos_none q
theorem dss_never : PSs X rest (tS X.K Wx sNever) := pss_never.imp fun D σ H q => by
  obtain ⟨δ, S, ρ, ok, en, q⟩ := q
  exact gos_none q
theorem ds_ret (he : PE X e (tE X.K Wx f)) : PS X (.Return (some e) pos) (tS X.K Wx (sRet f)) := (ps_ret he).imp fun D σ H q => by
  obtain ⟨δ, S, ρ, ok, en, q⟩ := q
  exact ⟨δ, S, ρ, ok, en, (gos_bind en q).mono fun v H1 ⟨x, S1, ρ1, ok1, st1, r1, q1⟩ => gos_rt ok1 q1 r1⟩
theorem ds_retN : PS X (.Return none pos) (tS X.K Wx sRetN) := ps_retN.imp fun D σ H q => by
  obtain ⟨δ, S, ρ, ok, en, q⟩ := q
  exact gos_rt ok q (show RelW X.K ρ H (.d .non) .non by simp [RelW, RelD])
theorem ds_drop (he : PE X e (tE X.K Wx f)) (hs : swapsWith e none pos.line X.env = pure false := by rfl) : PS X (.Expr e pos) (tS X.K Wx (sDrop f)) := (ps_expr he hs).imp fun D σ H q => by
  obtain ⟨δ, S, ρ, ok, en, q⟩ := q
  exact ⟨δ, S, ρ, ok, en, (gos_bind en q).mono fun v H1 ⟨x, S1, ρ1, ok1, st1, r1, q1⟩ => gos_nx ok1 q1 (en.mono st1)⟩
theorem impSet {K : PySem.W.Frag} (i : Nat) (D : Ends) (σ : L2.St) (H : Hp) (q : tS K Wx (sSet i f) D σ H) : tAsg (tE K Wx f) (gName i) D σ H := by
  obtain ⟨δ, S, ρ, ok, en, q⟩ := q
  exact ⟨δ, S, ρ, ok, en, (gos_bind en q).mono fun v H1 ⟨x, S1, ρ1, ok1, st1, r1, q1⟩ => gos_nx ok1 q1 ((en.mono st1).set i r1)⟩
theorem ds_set (i : Nat) {x : Str} {pos' : Pos} (hN : X.N.Nodup) (he : PE X e (tE X.K Wx f)) (hi : X.N[i]? = some x := by rfl) (hx : Loc X.env.scope x := by first | exact Or.inl rfl | exact Or.inr rfl) (hs : swapsWith e (some (.Name x pos')) pos.line X.env = pure false := by rfl)
    (hf : X.fn x = true ∨ X.env.scope.names.lookup x = some .local := by first | exact .inl rfl | exact .inr rfl | assumption) : PS X (.Assign [.Name x pos'] e pos) (tS X.K Wx (sSet i f)) := (ps_set hN hi hx he hs hf).imp (impSet i)
theorem ds_if (hc : PT X c (tT X.K Wx ft)) (ha : PSs X body (tS X.K Wx fs)) (hb : PSs X orelse (tS X.K Wx gs)) : PS X (.If c body orelse pos) (tS X.K Wx (sIf ft fs gs)) := (ps_if hc ha hb).imp fun D σ H q => by
  obtain ⟨δ, S, ρ, ok, en, q⟩ := q
  refine ⟨δ, S, ρ, ok, en, (gos_bind en q).mono fun v H1 ⟨x, S1, ρ1, ok1, st1, r1, q1⟩ => ?_⟩
  obtain rfl : x = v := r1
  cases x with
  | true =>
    rw [if_pos rfl] at q1
    exact iteT ⟨δ, S1, ρ1, ok1, en.mono st1, q1⟩
  | false =>
    rw [if_neg Bool.false_ne_true] at q1
    exact iteF ⟨δ, S1, ρ1, ok1, en.mono st1, q1⟩
/-- a, b = x, y -/
def sPar (i j : Nat) (f g : FE) : FS := fun δ S => sE ((f δ S).bind fun x S1 => (g δ S1).bind fun y S2 => some (.ok (x, y), S2)) δ fun p S2 => some (.ok (.nx ((δ.set i (some p.1)).set j (some p.2))), S2)
theorem ds_par (i j : Nat) {x y : Str} {a b : Expr} {px py pt : Pos} {kt k2 pt2} (hc : X.calm = true) (hN : X.N.Nodup) (ha : PE X a (tE X.K Wx f)) (hb : PE X b (tE X.K Wx g)) (hi : X.N[i]? = some x := by rfl) (hj : X.N[j]? = some y := by rfl) (hij : i ≠ j := by decide)
    (hx : X.env.scope.names.lookup x = some .local := by rfl) (hy : X.env.scope.names.lookup y = some .local := by rfl)
    (hw : swappedStores [.Tuple [.Name x px, .Name y py] kt pt] (.Tuple [a, b] k2 pt2) X.env = pure (some [x, y]) := by rfl)
    (hs : swapsWithSole [.Tuple [.Name x px, .Name y py] kt pt] (.Tuple [a, b] k2 pt2) pos.line X.env = pure false := by rfl)
    (h1 : starEach [a, b] X.env = (false, eval a X.env) :: starEach [b] X.env := by rfl) (h2 : starEach [b] X.env = (false, eval b X.env) :: starEach [] X.env := by rfl) :
    PS X (.Assign [.Tuple [.Name x px, .Name y py] kt pt] (.Tuple [a, b] k2 pt2) pos) (tS X.K Wx (sPar i j f g)) :=
  (ps_par hc hN hi hj hij hx hy (pa_cons ha (pa_cons hb pa_nil h2) h1) hw hs).imp fun D σ H q => by
    obtain ⟨δ, S, ρ, ok, en, q⟩ := q
    have q0 := gos_bind (rel := fun ρ H (p : W × W) (b : V × V) => RelW X.K ρ H p.1 b.1 ∧ RelW X.K ρ H p.2 b.2) en q
    refine ⟨δ, S, ρ, ok, en, (go_bind q0).mono fun v H1 ⟨x1, S1, ρ1, ok1, st1, r1, q1⟩ => ?_⟩
    refine ⟨δ, S1, ρ1, ok1, en.mono st1, (go_bind q1).mono fun u H2 ⟨x2, S2, ρ2, ok2, st2, r2, q2⟩ => ?_⟩
    obtain ⟨a3, S3, ρ3, ok3, st3, r3, q3⟩ := go_val (b := (v, u)) ok2 q2 ⟨r1.mono st2, r2⟩
    obtain ⟨r, S', e, c⟩ := q3
    cases e
    refine ⟨v, u, rfl, ?_⟩
    exact c ρ3 H2 ok3 (Step.refl _ _) _ ((en.mono st3).set i r3.1 |>.set j r3.2)
end

/-! ### targets -/
abbrev Tg := W → DEnv → Store → Option (DEnv × Store)
abbrev Tgs := List W → DEnv → Store → Option (DEnv × Store)
/-- vs: the slots that are written -/
def tG (K : PySem.W.Frag) (vs : List Nat) (tf : Tg) : TG := fun v σ H Q => ∃ w δ S ρ δ' S', Ok K ρ S H ∧ EnvR K ρ H δ σ ∧ RelW K ρ H w v ∧ tf w δ S = some (δ', S') ∧
  ∀ ρ' H' σ', Ok K ρ' S' H' → Step ρ H ρ' H' → EnvR K ρ' H' δ' σ' → wipe σ' vs = wipe σ vs → Q σ' H'
def tGs (K : PySem.W.Frag) (vs : List Nat) (tf : Tgs) : TGs := fun us σ H Q => ∃ ws δ S ρ δ' S', Ok K ρ S H ∧ EnvR K ρ H δ σ ∧ RelWs K ρ H ws us ∧ tf ws δ S = some (δ', S') ∧
  ∀ ρ' H' σ', Ok K ρ' S' H' → Step ρ H ρ' H' → EnvR K ρ' H' δ' σ' → wipe σ' vs = wipe σ vs → Q σ' H'
def tgN (i : Nat) : Tg := fun w δ S => some (δ.set i (some w), S)
def tgNil : Tgs := fun ws δ S => match ws with
  | [] => some (δ, S)
  | _ => none
def tgCons (t : Tg) (u : Tgs) : Tgs := fun ws δ S => match ws with
  | [] => none
  | w :: ws => (t w δ S).bind fun p => u ws p.1 p.2
def tgT (n : Nat) (u : Tgs) : Tg := fun w δ S => match w with
  | .d (.tup ds) => if ds.length = n then u (ds.map W.d) δ S else none
  | _ => none
theorem wipe_set {σ : L2.St} {i : Nat} {x : Option V} : ∀ {vs : List Nat}, i ∈ vs → wipe (σ.set i x) vs = wipe σ vs
  | [], h => by simp at h
  | v :: vs, h => by
    unfold wipe
    by_cases hi : i ∈ vs
    · rw [wipe_set hi]
    · have e : v = i := by
        rcases List.mem_cons.mp h with h | h
        · exact h.symm
        · exact absurd h hi
      subst e
      have key : ∀ us : List Nat, wipe (σ.set v x) us = (wipe σ us).set v (if v ∈ us then none else x) := by
        intro us
        induction us with
        | nil => simp [wipe]
        | cons u us ih =>
          unfold wipe
          rw [ih]
          by_cases huv : u = v
          · subst huv; simp
          · rw [List.set_comm _ _ (Ne.symm huv)]
            simp [Ne.symm huv]
      rw [key]
      simp
section
variable {X : Cx} {Wx : WX} {e : Expr} {es : List Expr} {tf : Tg} {tfs : Tgs} {pos : Pos} {vs : List Nat}
theorem dg_name (i : Nat) {x : Str} (hN : X.N.Nodup) (hv : i ∈ vs := by decide) (hi : X.N[i]? = some x := by rfl) (hx : Loc X.env.scope x := by first | exact Or.inl rfl | exact Or.inr rfl) (hf : X.fn x = true ∨ X.env.scope.names.lookup x = some .local := by first | exact .inl rfl | exact .inr rfl | assumption) :
    PG X (.Name x pos) (tG X.K vs (tgN i)) := (pg_name hN hi hx hf).imp fun v σ H Q q => by
  obtain ⟨w, δ, S, ρ, δ', S', ok, en, r, e, c⟩ := q
  cases e
  exact c ρ H _ ok (Step.refl ρ H) (en.set i r) (wipe_set hv)
theorem dgs_nil : PGs X [] (tGs X.K vs tgNil) := pgs_nil.imp fun v σ H Q q => by
  obtain ⟨ws, δ, S, ρ, δ', S', ok, en, r, e, c⟩ := q
  cases ws with
  | nil =>
    cases e
    exact ⟨r, c ρ H _ ok (Step.refl ρ H) en rfl⟩
  | cons w ws => cases e
theorem dgs_cons (h1 : PG X e (tG X.K vs tf)) (h2 : PGs X es (tGs X.K vs tfs)) (hs : (assignEach (e :: es) X.env).map (·.2) = assign e X.env :: (assignEach es X.env).map (·.2) := by rfl) : PGs X (e :: es) (tGs X.K vs (tgCons tf tfs)) :=
  (pgs_cons h1 h2 hs).imp fun v σ H Q q => by
    obtain ⟨ws, δ, S, ρ, δ', S', ok, en, r, e, c⟩ := q
    cases ws with
    | nil => cases e
    | cons w ws =>
      obtain ⟨v0, vr, rfl, r0, rr⟩ := r
      cases e1 : tf w δ S with
      | none => simp [tgCons, e1] at e
      | some p =>
        obtain ⟨δ1, S1⟩ := p
        simp only [tgCons, e1, Option.bind_some] at e
        refine ⟨v0, vr, rfl, w, δ, S, ρ, δ1, S1, ok, en, r0, e1, fun ρ1 H1 σ1 ok1 st1 en1 w1 => ?_⟩
        exact ⟨ws, δ1, S1, ρ1, δ', S', ok1, en1, rr.mono st1, e, fun ρ2 H2 σ2 ok2 st2 en2 w2 => c ρ2 H2 σ2 ok2 (st1.trans st2) en2 (w2.trans w1)⟩
theorem dg_tup {k : Nat} {n : Nat} (hc : X.calm = true) (h : PGs X es (tGs X.K vs tfs)) (hn : (assignEach es X.env).length = n := by rfl) (hst : (assignEach es X.env).findIdx? (·.1) = none := by rfl) : PG X (.Tuple es k pos) (tG X.K vs (tgT n tfs)) :=
  (pg_tup hc h hn hst).imp fun v σ H Q q => by
    obtain ⟨w, δ, S, ρ, δ', S', ok, en, r, e, c⟩ := q
    cases w with
    | loc n => cases e
    | d x => cases x with
      | tup ds =>
        obtain ⟨a, us, rfl, h1, h2⟩ : ∃ a vs, v = .ref a ∧ TupF X.K ρ H a vs ∧ RelDs X.K ρ H ds vs := by simpa [RelW, RelD] using r
        by_cases hl : ds.length = n
        · simp only [tgT, if_pos hl] at e
          exact ⟨a, us, rfl, h1.sq, by rw [← h2.length]; exact hl, ds.map W.d, δ, S, ρ, δ', S', ok, en, relWs_map h2, e, c⟩
        · simp [tgT, if_neg hl] at e
      | _ => cases e
/-- o[i] = .. -/
def setAt (x y w : W) (S : Store) : Option Store := match x, y with
  | .loc n, .d (.int k) => (match S[n]? with
    | some (.lst ws) => (ixN ws.length k).map fun j => S.set n (.lst (ws.set j w))
    | _ => none)
  | _, _ => none
def tgIx (fo fi : FE) : Tg := fun w δ S => match fo δ S with
  | some (.ok x, S1) => (match fi δ S1 with
    | some (.ok y, S2) => (setAt x y w S2).map fun S3 => (δ, S3)
    | _ => none)
  | _ => none
theorem dg_ix {o i : Expr} {fo fi : FE} (ho : PE X o (tE X.K Wx fo)) (hi : PE X i (tE X.K Wx fi)) (ha : ∀ v, assign (.Subscript o i pos) X.env v = (do
      let ov ← holding [v] (eval o X.env)
      let iv ← holding [v, ov] (eval i X.env)
      standAt pos
      holding [v, ov, iv] (setItem ov iv v)
      release [v, ov, iv] []) := by intro _; rfl) : PG X (.Subscript o i pos) (tG X.K vs (tgIx fo fi)) := (pg_sub ho hi set_list ha).imp fun v σ H Q q => by
  obtain ⟨w, δ, S, ρ, δ', S', ok, en, r, e, c⟩ := q
  unfold tgIx at e
  split at e
  · rename_i x S1 e1
    split at e
    · rename_i y S2 e2
      obtain ⟨S3, e3, e4⟩ := Option.map_eq_some_iff.mp e
      cases e4
      refine ⟨δ, S, ρ, ok, en, _, _, e1, fun ρ1 H1 ok1 st1 xv rx => ?_⟩
      refine ⟨δ, S1, ρ1, ok1, en.mono st1, _, _, e2, fun ρ2 H2 ok2 st2 yv ry => ?_⟩
      unfold setAt at e3
      split at e3
      · rename_i n k
        split at e3
        · rename_i ws ew
          obtain ⟨j, ej, rfl⟩ := Option.map_eq_some_iff.mp e3
          obtain ⟨a, us, rfl, ha, h1, h2⟩ := loc_at ok2 (rx.mono st2) ew
          have r2 := (r.mono st1).mono st2
          obtain ⟨ok3, st3⟩ := ok_write ok2 (m := .lst (ws.set j w)) (o := .lst (us.set j v)) ha fun H' st e => ⟨_, e, (h2.mono st).set j (r2.mono st)⟩
          refine ⟨a, us, k, j, rfl, by simpa [RelW, RelD] using ry, h1, by rw [← h2.length]; exact ej, ?_⟩
          exact c ρ2 _ σ ok3 ((st1.trans st2).trans st3) (((en.mono st1).mono st2).mono st3) rfl
        · cases e3
      · cases e3
    · cases e
  · cases e
/-- target = value -/
def sAsg (f : FE) (tf : Tg) : FS := fun δ S => sE (f δ S) δ fun w S1 => match tf w δ S1 with
  | some (δ', S2) => some (.ok (.nx δ'), S2)
  | none => none
theorem ds_asg {tg e : Expr} {f : FE} (he : PE X e (tE X.K Wx f)) (hg : PG X tg (tG X.K vs tf)) (hs : swapsWithSole [tg] e pos.line X.env = pure false := by rfl) (hw : swappedStores [tg] e X.env = pure none := by rfl)
    (h1 : (assignEach [tg] X.env).map (·.2) = [assign tg X.env] := by rfl) : PS X (.Assign [tg] e pos) (tS X.K Wx (sAsg f tf)) := (ps_asg he hg hs hw h1).imp fun D σ H q => by
  obtain ⟨δ, S, ρ, ok, en, q⟩ := q
  refine ⟨δ, S, ρ, ok, en, (gos_bind en q).mono fun v H1 ⟨w, S1, ρ1, ok1, st1, r1, q1⟩ => ?_⟩
  cases e1 : tf w δ S1 with
  | none => simp only [e1] at q1; exact gos_none q1
  | some p =>
    obtain ⟨δ', S2⟩ := p
    simp only [e1] at q1
    obtain ⟨r, S', e2, c⟩ := q1
    cases e2
    exact ⟨w, δ, S1, ρ1, δ', S2, ok1, en.mono st1, r1, e1, fun ρ2 H2 σ2 ok2 st2 en2 _ => c ρ2 H2 ok2 st2 σ2 en2⟩
end

/-! ### what is walked -/
abbrev Grd := Option (Nat × M)
/-- the list that is walked stands as it stood -/
def okG (g : Grd) (S : Store) : Prop := ∀ p, g = some p → S[p.1]? = some p.2
theorem okG_none {S : Store} : okG none S ↔ True := ⟨fun _ => trivial, fun _ _ e => nomatch e⟩
theorem okG_some {n : Nat} {m : M} {S : Store} : okG (some (n, m)) S ↔ S[n]? = some m := ⟨fun h => h _ rfl, fun h p e => by cases e; exact h⟩
def ItR (K : PySem.W.Frag) (ρ : Ad) (H : Hp) (p : List W × Grd) (J : It) : Prop := ∀ ρ' S' H', Ok K ρ' S' H' → Stw ρ H ρ' H' → okG p.2 S' → ∀ i, (∀ w, p.1[i]? = some w → J.go i H' ∧ ∀ x H'', J.yld i H' x H'' → (∀ a o, H' a = some o → H'' a = some o) ∧ RelW K ρ' H'' w x) ∧ (p.1.length ≤ i → J.stop i H')
abbrev FI := DEnv → Store → Rs (List W × Grd)
def tI (K : PySem.W.Frag) (Wx : WX) (f : FI) : TI := fun σ H R => ∃ δ S ρ, Ok K ρ S H ∧ EnvR K ρ H δ σ ∧ Go K Wx σ ρ H (ItR K) (f δ S) R
/-- the items of a sequence -/
def itW (S : Store) : W → Option (Bool × List W × Grd)
  | .d (.tup ds) => some (true, ds.map W.d, none)
  | .d (.lst ds) => some (false, ds.map W.d, none)
  | .loc n => match S[n]? with
    | some (.lst ws) => some (false, ws, some (n, .lst ws))
    | _ => none
  | _ => none
def dSeq (f : FE) : FI := fun δ S => (f δ S).bind fun x S1 => match itW S1 x with
  | some (_, ws, g) => some (.ok (ws, g), S1)
  | none => none
/-- what is known of a sequence while it is walked -/
theorem itW_ok {K : PySem.W.Frag} {ρ : Ad} {H : Hp} {S : Store} {x : W} {v : V} {t : Bool} {ws : List W} {g : Grd} (ok : Ok K ρ S H) (r : RelW K ρ H x v) (e : itW S x = some (t, ws, g)) :
    ∃ a vs, v = .ref a ∧ SqW K H t a vs ∧ ws.length = vs.length ∧ ∀ ρ' S' H', Ok K ρ' S' H' → Stw ρ H ρ' H' → okG g S' → ∃ vs', SqW K H' t a vs' ∧ RelWs K ρ' H' ws vs' := by
  cases x with
  | loc n =>
    cases e0 : S[n]? with
    | none => simp [itW, e0] at e
    | some m =>
      simp only [itW, e0] at e
      cases m with
      | lst us =>
        cases e
        obtain ⟨a, vs, rfl, ha, h1, h2⟩ := loc_at ok r e0
        refine ⟨a, vs, rfl, SqL.of h1, h2.length, fun ρ' S' H' ok' st hg => ?_⟩
        have hg' := okG_some.mp hg
        obtain ⟨a', vs', e1, ha', h3, h4⟩ := loc_at ok' (r.monoW st) hg'
        cases e1
        exact ⟨vs', SqL.of h3, h4⟩
      | _ => cases e
  | d x => cases x with
    | tup ds =>
      obtain ⟨a, vs, rfl, h1, h2⟩ : ∃ a vs, v = .ref a ∧ TupF K ρ H a vs ∧ RelDs K ρ H ds vs := by simpa [RelW, RelD] using r
      cases e
      exact ⟨a, vs, rfl, h1.sq, (relWs_map h2).length, fun ρ' S' H' ok' st _ => ⟨vs, (h1.monoW st).sq, (relWs_map h2).monoW st⟩⟩
    | lst ds =>
      obtain ⟨a, vs, rfl, h1, h2⟩ : ∃ a vs, v = .ref a ∧ LstF K ρ H a vs ∧ RelDs K ρ H ds vs := by simpa [RelW, RelD] using r
      cases e
      exact ⟨a, vs, rfl, h1.sq, (relWs_map h2).length, fun ρ' S' H' ok' st _ => ⟨vs, (h1.monoW st).sq, (relWs_map h2).monoW st⟩⟩
    | _ => cases e
section
variable {X : Cx} {Wx : WX} {e e2 tg : Expr} {es : List Expr} {f : FE} {fa : FA} {p pos tpos : Pos}
theorem di_seq (he : PE X e (tE X.K Wx f)) : PI X tg e (tI X.K Wx (dSeq f)) := ((pi_list he).or (pi_tup he)).imp fun σ H R q => by
  obtain ⟨δ, S, ρ, ok, en, q⟩ := q
  -- which of the two it is, is told by the function
  have q1 := go_bind (rel := RelW X.K) q
  obtain ⟨r, S1, e1, c⟩ := q1
  cases r with
  | error x => exact .inl ⟨δ, S, ρ, ok, en, .error x, S1, e1, fun ρ' H' ok' st' => c ρ' H' ok' st'⟩
  | ok x =>
    have e2 : f δ S = some (.ok x, S1) := e1
    cases ei : itW S1 x with
    | none =>
      simp only [dSeq, e2, Rs.bind, ei] at q
      exact go_none q
    | some z =>
      obtain ⟨t, ws, g⟩ := z
      have fin : ∀ ρ1 H1, Ok X.K ρ1 S1 H1 → Step ρ H ρ1 H1 → ∀ v, RelW X.K ρ1 H1 x v → ∃ a vs, v = .ref a ∧ SqW X.K H1 t a vs ∧ R (if t = true then Itt X.K a else Itl X.K a) H1 := fun ρ1 H1 ok1 st1 v rv => by
        obtain ⟨a, vs, rfl, h1, hl, h2⟩ := itW_ok ok1 rv ei
        obtain ⟨y, S2, ρ2, ok2, st2, r2, q2⟩ := c ρ1 H1 ok1 st1 (V.ref a) rv
        refine ⟨a, vs, rfl, h1, ?_⟩
        simp only [dSeq, e2, Rs.bind, ei] at q
        refine go_at q ok1 st1 ?_
        intro ρ' S' H' ok' st' hg i
        obtain ⟨vs', h3, h4⟩ := h2 ρ' S' H' ok' st' hg
        cases t with
        | true =>
          refine ⟨fun w hw => ?_, fun hi => ⟨vs', h3, by rw [← h4.length]; exact hi⟩⟩
          obtain ⟨u, hu, ru⟩ := h4.get hw
          refine ⟨⟨vs', u, h3, hu⟩, fun z H'' y => ?_⟩
          obtain ⟨rfl, y⟩ := y
          have := y vs' h3
          rw [hu] at this
          cases this
          exact ⟨fun _ _ z => z, ru⟩
        | false =>
          refine ⟨fun w hw => ?_, fun hi => ⟨vs', h3, by rw [← h4.length]; exact hi⟩⟩
          obtain ⟨u, hu, ru⟩ := h4.get hw
          refine ⟨⟨vs', u, h3, hu⟩, fun z H'' y => ?_⟩
          obtain ⟨rfl, y⟩ := y
          have := y vs' h3
          rw [hu] at this
          cases this
          exact ⟨fun _ _ z => z, ru⟩
      cases t with
      | true =>
        refine .inr ⟨δ, S, ρ, ok, en, .ok x, S1, e2, fun ρ1 H1 ok1 st1 v rv => ?_⟩
        obtain ⟨a, vs, rfl, h1, h2⟩ := fin ρ1 H1 ok1 st1 v rv
        exact ⟨a, rfl, ⟨vs, h1⟩, h2⟩
      | false =>
        refine .inl ⟨δ, S, ρ, ok, en, .ok x, S1, e2, fun ρ1 H1 ok1 st1 v rv => ?_⟩
        obtain ⟨a, vs, rfl, h1, h2⟩ := fin ρ1 H1 ok1 st1 v rv
        exact ⟨a, rfl, ⟨vs, h1⟩, h2⟩
end
end DL
set_option Elab.async false
set_option linter.all false
set_option maxRecDepth 100000
set_option maxHeartbeats 1000000
/-! DL6: range, zip, enumerate; for, while; comprehensions. -/
namespace DL
open PySem PySem.Spec PyProof.Rows L2 RZ

/-! ### range, zip -/
def rngW (lo : Int) (n : Nat) : List W := (List.range n).map fun (i : Nat) => W.d (.int (lo + (i : Int)))
theorem rngW_get {lo : Int} {n i : Nat} {w : W} (h : (rngW lo n)[i]? = some w) : i < n ∧ w = .d (.int (lo + (i : Int))) := by
  unfold rngW at h
  rw [List.getElem?_map] at h
  by_cases hi : i < n
  · rw [List.getElem?_range hi] at h
    simp at h
    exact ⟨hi, h.symm⟩
  · rw [List.getElem?_eq_none (by simpa using hi)] at h
    simp at h
theorem rngW_len {lo : Int} {n : Nat} : (rngW lo n).length = n := by simp [rngW]
def oRng1 : List W → Store → Rs (List W × Grd)
  | [.d (.int j)], S => if -(2 ^ 62) ≤ j ∧ j < 2 ^ 62 then some (.ok (rngW 0 j.toNat, none), S) else none
  | _, _ => none
def oRng2 : List W → Store → Rs (List W × Grd)
  | [.d (.int i), .d (.int j)], S => if -(2 ^ 62) ≤ i ∧ i < 2 ^ 62 ∧ -(2 ^ 62) ≤ j ∧ j < 2 ^ 62 then some (.ok (rngW i (j - i).toNat, none), S) else none
  | _, _ => none
def dIt (op : List W → Store → Rs (List W × Grd)) (fa : FA) : FI := fun δ S => (fa δ S).bind op
theorem itR_range {K : PySem.W.Frag} {ρ : Ad} {H : Hp} {lo : Int} {n : Nat} : ItR K ρ H (rngW lo n, none) (Itr lo n) := by
  intro ρ' S' H' ok st _ i
  refine ⟨fun w hw => ?_, fun hi => by rw [rngW_len] at hi; exact hi⟩
  obtain ⟨hi, rfl⟩ := rngW_get hw
  exact ⟨hi, fun x H'' ⟨e1, e2⟩ => by subst e1 e2; exact ⟨fun _ _ z => z, by simp [RelW, RelD]⟩⟩
/-- pairs of two sequences of one kind -/
def zipD (xs ys : List D) : List W := (xs.zip ys).map fun p => W.d (.tup [p.1, p.2])
def oZip : List W → Store → Rs (List W × Grd)
  | [.d (.tup xs), .d (.tup ys)], S => some (.ok (zipD xs ys, none), S)
  | [.d (.lst xs), .d (.lst ys)], S => some (.ok (zipD xs ys, none), S)
  | _, _ => none
theorem zipD_get {xs ys : List D} {i : Nat} {w : W} (h : (zipD xs ys)[i]? = some w) : ∃ x y, xs[i]? = some x ∧ ys[i]? = some y ∧ w = .d (.tup [x, y]) := by
  unfold zipD at h
  rw [List.getElem?_map] at h
  cases e : (xs.zip ys)[i]? with
  | none => rw [e] at h; simp at h
  | some p =>
    rw [e] at h
    simp at h
    obtain ⟨h1, h2⟩ := List.getElem?_zip_eq_some.mp e
    exact ⟨p.1, p.2, h1, h2, h.symm⟩
theorem zipD_len {xs ys : List D} : (zipD xs ys).length = min xs.length ys.length := by simp [zipD]
theorem tup2_new {K : PySem.W.Frag} {ρ : Ad} {S : Store} {H : Hp} {T : Addr} {x y : D} {u v : V} (ok : Ok K ρ S H) (hT : H T = none) (rx : RelD K ρ H x u) (ry : RelD K ρ H y v) : RelW K ρ (upd H T (.tup [u, v])) (.d (.tup [x, y])) (.ref T) := by
  have st := step_new ok (.tup [u, v]) hT
  show RelD _ _ _ _ _
  rw [RelD]
  refine ⟨T, [u, v], rfl, tupF_new ok hT, ?_⟩
  rw [RelDs]
  refine ⟨u, [v], rfl, RelD.mono st x u rx, ?_⟩
  rw [RelDs]
  exact ⟨v, [], rfl, RelD.mono st y v ry, by rw [RelDs]⟩
theorem itR_zipT {K : PySem.W.Frag} {ρ : Ad} {H : Hp} {xs ys : List D} {a b : Addr} {us vs : List V} (h1 : TupF K ρ H a us) (r1 : RelDs K ρ H xs us) (h2 : TupF K ρ H b vs) (r2 : RelDs K ρ H ys vs) : ItR K ρ H (zipD xs ys, none) (ItzT K a b) := by
  intro ρ' S' H' ok st _ i
  have g1 := (h1.monoW st).sq
  have g2 := (h2.monoW st).sq
  have q1 := RelDs.monoW st xs us r1
  have q2 := RelDs.monoW st ys vs r2
  refine ⟨fun w hw => ?_, fun hi => ⟨us, vs, g1, g2, ?_⟩⟩
  · obtain ⟨x, y, ex, ey, rfl⟩ := zipD_get hw
    obtain ⟨u, hu, ru⟩ := q1.get ex
    obtain ⟨v, hv, rv⟩ := q2.get ey
    refine ⟨⟨us, vs, u, v, g1, g2, hu, hv⟩, fun z H'' ⟨T, u', v', e1, hT, e2, k1, k2⟩ => ?_⟩
    have e3 := k1 us g1
    have e4 := k2 vs g2
    rw [hu] at e3
    rw [hv] at e4
    cases e3
    cases e4
    subst e1 e2
    exact ⟨fun c o hc => by rw [upd_ne (ne_of_none hc hT)]; exact hc, tup2_new ok hT ru rv⟩
  · rw [zipD_len, q1.length, q2.length] at hi
    omega
theorem itR_zipL {K : PySem.W.Frag} {ρ : Ad} {H : Hp} {xs ys : List D} {a b : Addr} {us vs : List V} (h1 : LstF K ρ H a us) (r1 : RelDs K ρ H xs us) (h2 : LstF K ρ H b vs) (r2 : RelDs K ρ H ys vs) : ItR K ρ H (zipD xs ys, none) (Itz K a b) := by
  intro ρ' S' H' ok st _ i
  have g1 := (h1.monoW st).sq
  have g2 := (h2.monoW st).sq
  have q1 := RelDs.monoW st xs us r1
  have q2 := RelDs.monoW st ys vs r2
  refine ⟨fun w hw => ?_, fun hi => ⟨us, vs, g1, g2, ?_⟩⟩
  · obtain ⟨x, y, ex, ey, rfl⟩ := zipD_get hw
    obtain ⟨u, hu, ru⟩ := q1.get ex
    obtain ⟨v, hv, rv⟩ := q2.get ey
    refine ⟨⟨us, vs, u, v, g1, g2, hu, hv⟩, fun z H'' ⟨T, u', v', e1, hT, e2, k1, k2⟩ => ?_⟩
    have e3 := k1 us g1
    have e4 := k2 vs g2
    rw [hu] at e3
    rw [hv] at e4
    cases e3
    cases e4
    subst e1 e2
    exact ⟨fun c o hc => by rw [upd_ne (ne_of_none hc hT)]; exact hc, tup2_new ok hT ru rv⟩
  · rw [zipD_len, q1.length, q2.length] at hi
    omega
section
variable {X : Cx} {Wx : WX} {a b c e e2 tg iter : Expr} {body : List Stmt} {f : FE} {fa : FA} {fi : FI} {ft : FT} {fb : FS} {tf : Tg} {vs : List Nat} {p pos tpos : Pos}
theorem di_rng1 (hm : X.mg "range" = none) (ha : PA X [a] (tA X.K Wx fa)) (hg : Gl X "range" := by rfl) (hs : starEach [a] X.env = [(false, eval a X.env)] := by rfl) : PI X tg (.Call (.Name "range" p) [a] [] pos) (tI X.K Wx (dIt oRng1 fa)) :=
  (pi_range1 hg hm ha hs).imp fun σ H R q => by
    obtain ⟨δ, S, ρ, ok, en, q⟩ := q
    refine ⟨δ, S, ρ, ok, en, (go_bind q).mono fun vs H1 ⟨ws, S1, ρ1, ok1, st1, r1, q1⟩ => ?_⟩
    unfold oRng1 at q1
    split at q1
    · rename_i j
      obtain ⟨v, rfl, rv⟩ := relWs1 r1
      split at q1
      · rename_i hb
        exact ⟨j, by rw [show v = V.int j by simpa [RelW, RelD] using rv], hb.1, hb.2, go_val ok1 q1 itR_range⟩
      · exact go_none q1
    · exact go_none q1
theorem di_rng2 (hm : X.mg "range" = none) (ha : PA X [a, b] (tA X.K Wx fa)) (hg : Gl X "range" := by rfl) (hs : starEach [a, b] X.env = [(false, eval a X.env), (false, eval b X.env)] := by rfl) (hs2 : starEach [b] X.env = [(false, eval b X.env)] := by rfl) :
    PI X tg (.Call (.Name "range" p) [a, b] [] pos) (tI X.K Wx (dIt oRng2 fa)) :=
  (pi_range2 hg hm ha hs hs2).imp fun σ H R q => by
    obtain ⟨δ, S, ρ, ok, en, q⟩ := q
    refine ⟨δ, S, ρ, ok, en, (go_bind q).mono fun vs H1 ⟨ws, S1, ρ1, ok1, st1, r1, q1⟩ => ?_⟩
    unfold oRng2 at q1
    split at q1
    · rename_i i j
      obtain ⟨v, u, rfl, rv, ru⟩ := relWs2 r1
      split at q1
      · rename_i hb
        exact ⟨i, j, by rw [show v = V.int i by simpa [RelW, RelD] using rv, show u = V.int j by simpa [RelW, RelD] using ru], hb, go_val ok1 q1 itR_range⟩
      · exact go_none q1
    · exact go_none q1
theorem di_zip {elts : List Expr} {kk : Nat} (hm : X.mg "zip" = none) (ha : PA X [e, e2] (tA X.K Wx fa)) (hg : Gl X "zip" := by rfl) (hs : starEach [e, e2] X.env = (false, eval e X.env) :: starEach [e2] X.env := by rfl) (hpl : (backTo pos (starEach [e2] X.env)).any (·.1) = false := by rfl) :
    PI X (.Tuple elts kk tpos) (.Call (.Name "zip" p) [e, e2] [] pos) (tI X.K Wx (dIt oZip fa)) :=
  (pi_zipA hg hm ha hs hpl).imp fun σ H R q => by
    obtain ⟨δ, S, ρ, ok, en, q⟩ := q
    refine ⟨δ, S, ρ, ok, en, (go_bind q).mono fun vs H1 ⟨ws, S1, ρ1, ok1, st1, r1, q1⟩ => ?_⟩
    unfold oZip at q1
    split at q1
    · rename_i xs ys
      obtain ⟨v, u, rfl, rv, ru⟩ := relWs2 r1
      obtain ⟨a, us, rfl, h1, h2⟩ : ∃ a vs, v = .ref a ∧ TupF X.K ρ1 H1 a vs ∧ RelDs X.K ρ1 H1 xs vs := by simpa [RelW, RelD] using rv
      obtain ⟨b, zs, rfl, h3, h4⟩ : ∃ a vs, u = .ref a ∧ TupF X.K ρ1 H1 a vs ∧ RelDs X.K ρ1 H1 ys vs := by simpa [RelW, RelD] using ru
      exact ⟨a, b, us, zs, rfl, .inr ⟨h1.sq, h3.sq, go_val ok1 q1 (itR_zipT h1 h2 h3 h4)⟩⟩
    · rename_i xs ys
      obtain ⟨v, u, rfl, rv, ru⟩ := relWs2 r1
      obtain ⟨a, us, rfl, h1, h2⟩ : ∃ a vs, v = .ref a ∧ LstF X.K ρ1 H1 a vs ∧ RelDs X.K ρ1 H1 xs vs := by simpa [RelW, RelD] using rv
      obtain ⟨b, zs, rfl, h3, h4⟩ : ∃ a vs, u = .ref a ∧ LstF X.K ρ1 H1 a vs ∧ RelDs X.K ρ1 H1 ys vs := by simpa [RelW, RelD] using ru
      exact ⟨a, b, us, zs, rfl, .inl ⟨h1.sq, h3.sq, go_val ok1 q1 (itR_zipL h1 h2 h3 h4)⟩⟩
    · exact go_none q1

/-! ### for -/
open Classical in
noncomputable def forL (tf : Tg) (fb : FS) (g : Grd) : List W → DEnv → Store → Ss
  | [], δ, S => if okG g S then some (.ok (.nx δ), S) else none
  | w :: ws, δ, S => if okG g S then (match tf w δ S with
    | none => none
    | some (δ1, S1) => (match fb δ1 S1 with
      | some (.ok (.nx δ2), S2) => forL tf fb g ws δ2 S2
      | some (.ok (.ct δ2), S2) => forL tf fb g ws δ2 S2
      | some (.ok (.bk δ2), S2) => some (.ok (.nx δ2), S2)
      | o => o)) else none
noncomputable def dFor (fi : FI) (tf : Tg) (fb : FS) : FS := fun δ S => sE (fi δ S) δ fun p S1 => forL tf fb p.2 p.1 δ S1
theorem ds_for (hp : PassesOwn (model X.prog X.w) X.A X.env X.xe) (hc : X.calm = true) (hi : PI X tg iter (tI X.K Wx fi)) (hg : PG X tg (tG X.K vs tf)) (hb : PSs X body (tS X.K Wx fb))
    (hs : ∀ x, foldedSetIterable iter X.env x = pure x := by intro _; rfl) : PS X (.For tg iter body [] pos) (tS X.K Wx (dFor fi tf fb)) := (ps_for hp hc hi hg hb hs).imp fun D σ H q => by
  obtain ⟨δ, S, ρ, ok, en, q⟩ := q
  refine ⟨δ, S, ρ, ok, en, (gos_bind (rel := ItR X.K) en q).mono fun J H1 ⟨p, S1, ρ1, ok1, st1, it, q1⟩ => ?_⟩
  refine ⟨fun i m σ' H' => m = p.1.length - i ∧ i ≤ p.1.length ∧ ∃ δ' S' ρ', Ok X.K ρ' S' H' ∧ Step ρ1 H1 ρ' H' ∧ EnvR X.K ρ' H' δ' σ' ∧ GoS X.K Wx ρ' H' (forL tf fb p.2 (p.1.drop i) δ' S') D,
    ⟨p.1.length, rfl, Nat.zero_le _, δ, S1, ρ1, ok1, Step.refl _ _, en.mono st1, q1⟩, ?_⟩
  rintro i m σ' H' ⟨rfl, hi, δ', S', ρ', ok', st', en', q'⟩
  by_cases hgd : okG p.2 S'
  · obtain ⟨it1, it2⟩ := it ρ' S' H' ok' st'.toStw hgd i
    by_cases hlt : i < p.1.length
    · refine .inr ?_
      have hdrop : p.1.drop i = p.1[i] :: p.1.drop (i + 1) := List.drop_eq_getElem_cons hlt
      rw [hdrop] at q'
      obtain ⟨hgo, hyl⟩ := it1 p.1[i] (List.getElem?_eq_getElem hlt)
      unfold forL at q'
      rw [if_pos hgd] at q'
      refine ⟨hgo, _, fun σ2 H2 n2 => ⟨p.1.length - (i + 1), by omega, n2⟩, fun x H'' y => ?_⟩
      obtain ⟨kp, rx⟩ := hyl x H'' y
      obtain ⟨ok2, st2⟩ := ok_grow ok' kp
      cases e1 : tf p.1[i] δ' S' with
      | none => simp only [e1] at q'; exact gos_none q'
      | some z =>
        obtain ⟨δ1, S2⟩ := z
        simp only [e1] at q'
        refine ⟨p.1[i], δ', S', ρ', δ1, S2, ok2, en'.mono st2, rx, e1, fun ρ3 H3 σ3 ok3 st3 en3 _ => ?_⟩
        refine ⟨δ1, S2, ρ3, ok3, en3, ?_⟩
        have q3 := (q'.step st2).step st3
        have st13 := (st'.trans st2).trans st3
        cases e2 : fb δ1 S2 with
        | none => simp only [e2] at q3; exact gos_none q3
        | some z =>
          obtain ⟨r, S3⟩ := z
          cases r with
          | error x => simp only [e2] at q3; obtain ⟨r', S4, e4, c4⟩ := q3; cases e4; exact ⟨_, _, rfl, c4⟩
          | ok fl => cases fl with
            | nx δ2 => simp only [e2] at q3; exact ⟨_, _, rfl, fun ρ4 H4 ok4 st4 σ4 en4 => ⟨rfl, hlt, δ2, S3, ρ4, ok4, st13.trans st4, en4, q3.step st4⟩⟩
            | ct δ2 => simp only [e2] at q3; exact ⟨_, _, rfl, fun ρ4 H4 ok4 st4 σ4 en4 => ⟨rfl, hlt, δ2, S3, ρ4, ok4, st13.trans st4, en4, q3.step st4⟩⟩
            | bk δ2 => simp only [e2] at q3; obtain ⟨r', S4, e4, c4⟩ := q3; cases e4; exact ⟨_, _, rfl, c4⟩
            | rt w => simp only [e2] at q3; obtain ⟨r', S4, e4, c4⟩ := q3; cases e4; exact ⟨_, _, rfl, c4⟩
    · have e : i = p.1.length := by omega
      subst e
      rw [List.drop_length] at q'
      unfold forL at q'
      rw [if_pos hgd] at q'
      exact .inl ⟨it2 (Nat.le_refl _), gos_nx ok' q' en'⟩
  · cases hd : p.1.drop i with
    | nil => rw [hd] at q'; unfold forL at q'; rw [if_neg hgd] at q'; exact gos_none q'
    | cons w ws => rw [hd] at q'; unfold forL at q'; rw [if_neg hgd] at q'; exact gos_none q'

/-! ### while -/
def whileN (ft : FT) (fb : FS) : Nat → FS
  | 0, _, _ => none
  | n + 1, δ, S => sE (ft δ S) δ fun c S1 => if c = true then (match fb δ S1 with
    | some (.ok (.nx δ2), S2) => whileN ft fb n δ2 S2
    | some (.ok (.ct δ2), S2) => whileN ft fb n δ2 S2
    | some (.ok (.bk δ2), S2) => some (.ok (.nx δ2), S2)
    | o => o) else some (.ok (.nx δ), S1)
open Classical in
noncomputable def dWhile (ft : FT) (fb : FS) : FS := fun δ S => if h : ∃ p : Nat × (Except (Ex × DEnv) Fl × Store), whileN ft fb p.1 δ S = some p.2 then some (Classical.choose h).2 else none
theorem whileN_succ {ft : FT} {fb : FS} : ∀ {n : Nat} {δ : DEnv} {S : Store} {r : Except (Ex × DEnv) Fl × Store}, whileN ft fb n δ S = some r → whileN ft fb (n + 1) δ S = some r
  | 0, _, _, _, h => by cases h
  | n + 1, δ, S, r, h => by
    rw [whileN] at h ⊢
    cases e : ft δ S with
    | none => rw [e] at h; cases h
    | some z =>
      obtain ⟨z, S1⟩ := z
      cases z with
      | error x => rw [e] at h; exact h
      | ok c =>
        rw [e] at h
        simp only [sE] at h ⊢
        cases c with
        | false => exact h
        | true =>
          simp only [if_true] at h ⊢
          cases e2 : fb δ S1 with
          | none => simp only [e2] at h; cases h
          | some z =>
            obtain ⟨z, S2⟩ := z
            cases z with
            | error x => simp only [e2] at h ⊢; exact h
            | ok fl => cases fl with
              | nx δ2 => simp only [e2] at h ⊢; exact whileN_succ h
              | ct δ2 => simp only [e2] at h ⊢; exact whileN_succ h
              | bk δ2 => simp only [e2] at h ⊢; exact h
              | rt w => simp only [e2] at h ⊢; exact h
theorem whileN_le {ft : FT} {fb : FS} {n m : Nat} {δ : DEnv} {S : Store} {r : Except (Ex × DEnv) Fl × Store} (hl : n ≤ m) (h : whileN ft fb n δ S = some r) : whileN ft fb m δ S = some r := by
  induction hl with
  | refl => exact h
  | step _ ih => exact whileN_succ ih
theorem dWhile_of {ft : FT} {fb : FS} {n : Nat} {δ : DEnv} {S : Store} {r : Except (Ex × DEnv) Fl × Store} (h : whileN ft fb n δ S = some r) : dWhile ft fb δ S = some r := by
  have ex : ∃ p : Nat × (Except (Ex × DEnv) Fl × Store), whileN ft fb p.1 δ S = some p.2 := ⟨(n, r), h⟩
  unfold dWhile
  rw [dif_pos ex]
  have h2 := Classical.choose_spec ex
  have h3 := whileN_le (Nat.le_max_left n (Classical.choose ex).1) h
  have h4 := whileN_le (Nat.le_max_right n (Classical.choose ex).1) h2
  rw [h3] at h4
  exact h4.symm
theorem dWhile_some {ft : FT} {fb : FS} {δ : DEnv} {S : Store} {r : Except (Ex × DEnv) Fl × Store} (h : dWhile ft fb δ S = some r) : ∃ n, whileN ft fb n δ S = some r := by
  unfold dWhile at h
  split at h
  · rename_i ex
    cases h
    exact ⟨_, Classical.choose_spec ex⟩
  · cases h
theorem ds_while (hp : PassesOwn (model X.prog X.w) X.A X.env X.xe) (hc : PT X c (tT X.K Wx ft)) (hb : PSs X body (tS X.K Wx fb)) : PS X (.While c body [] pos) (tS X.K Wx (dWhile ft fb)) := (ps_while hp hc hb).imp fun D σ H q => by
  obtain ⟨δ, S, ρ, ok, en, r, S', e, c⟩ := q
  obtain ⟨n, hn⟩ := dWhile_some e
  refine ⟨fun m σ' H' => ∃ δ' S' ρ', Ok X.K ρ' S' H' ∧ EnvR X.K ρ' H' δ' σ' ∧ GoS X.K Wx ρ' H' (whileN ft fb m δ' S') D, ⟨n, δ, S, ρ, ok, en, r, S', hn, c⟩, ?_⟩
  rintro m σ1 H1 ⟨δ1, S1, ρ1, ok1, en1, q1⟩
  cases m with
  | zero => exact gos_none q1
  | succ m =>
    rw [whileN] at q1
    refine ⟨δ1, S1, ρ1, ok1, en1, (gos_bind en1 q1).mono fun b H2 ⟨k, S2, ρ2, ok2, st2, r2, q2⟩ => ?_⟩
    obtain rfl : k = b := r2
    cases k with
    | false =>
      rw [if_neg Bool.false_ne_true] at q2
      exact iteF (gos_nx ok2 q2 (en1.mono st2))
    | true =>
      rw [if_pos rfl] at q2
      refine iteT ⟨fun σ3 H3 => ∃ δ' S' ρ', Ok X.K ρ' S' H3 ∧ EnvR X.K ρ' H3 δ' σ3 ∧ GoS X.K Wx ρ' H3 (whileN ft fb m δ' S') D, fun σ3 H3 z => ⟨m, Nat.lt_succ_self m, z⟩, δ1, S2, ρ2, ok2, en1.mono st2, ?_⟩
      cases e2 : fb δ1 S2 with
      | none => simp only [e2] at q2; exact gos_none q2
      | some z =>
        obtain ⟨r, S3⟩ := z
        cases r with
        | error x => simp only [e2] at q2; obtain ⟨r', S4, e4, c4⟩ := q2; cases e4; exact ⟨_, _, rfl, c4⟩
        | ok fl => cases fl with
          | nx δ2 => simp only [e2] at q2; exact ⟨_, _, rfl, fun ρ4 H4 ok4 st4 σ4 en4 => ⟨δ2, S3, ρ4, ok4, en4, q2.step st4⟩⟩
          | ct δ2 => simp only [e2] at q2; exact ⟨_, _, rfl, fun ρ4 H4 ok4 st4 σ4 en4 => ⟨δ2, S3, ρ4, ok4, en4, q2.step st4⟩⟩
          | bk δ2 => simp only [e2] at q2; obtain ⟨r', S4, e4, c4⟩ := q2; cases e4; exact ⟨_, _, rfl, c4⟩
          | rt w => simp only [e2] at q2; obtain ⟨r', S4, e4, c4⟩ := q2; cases e4; exact ⟨_, _, rfl, c4⟩
end

/-! ### comprehensions -/
def wipeE (δ : DEnv) : List Nat → DEnv
  | [] => δ
  | v :: vs => (wipeE δ vs).set v none
theorem EnvR.wipe {K : PySem.W.Frag} {ρ : Ad} {H : Hp} {δ : DEnv} {σ : L2.St} (e : EnvR K ρ H δ σ) : ∀ vs, EnvR K ρ H (wipeE δ vs) (L2.wipe σ vs)
  | [] => e
  | v :: vs => by
    have ih := EnvR.wipe e vs
    refine ⟨by simp [wipeE, L2.wipe, ih.len], fun i w h => ?_⟩
    unfold wipeE at h
    unfold L2.wipe
    by_cases hi : v = i
    · subst hi
      by_cases hl : v < (wipeE δ vs).length
      · rw [List.getElem?_set_self hl] at h; cases h
      · rw [List.getElem?_eq_none (by simpa using hl)] at h; cases h
    · rw [List.getElem?_set_ne hi] at h ⊢
      exact ih.rel i w h
theorem wipe_get (σ : L2.St) : ∀ (vs : List Nat) (i : Nat), (L2.wipe σ vs)[i]? = if i ∈ vs then σ[i]?.map (fun _ => none) else σ[i]?
  | [], i => by simp [L2.wipe]
  | v :: vs, i => by
    unfold L2.wipe
    have ih := wipe_get σ vs i
    by_cases hv : v = i
    · subst hv
      simp only [List.mem_cons, true_or, if_true]
      by_cases hl : v < (L2.wipe σ vs).length
      · rw [List.getElem?_set_self hl]
        rw [wipe_length] at hl
        rw [List.getElem?_eq_getElem hl]
        rfl
      · rw [List.getElem?_eq_none (by simpa using hl)]
        rw [wipe_length] at hl
        rw [List.getElem?_eq_none (by omega)]
        rfl
    · rw [List.getElem?_set_ne hv, ih]
      simp [Ne.symm hv]
theorem wipe_idem (σ : L2.St) (vs : List Nat) : L2.wipe (L2.wipe σ vs) vs = L2.wipe σ vs := by
  refine List.ext_getElem? fun i => ?_
  rw [wipe_get, wipe_get]
  split
  · cases σ[i]? <;> rfl
  · rfl
def ftYes : FT := fun _ S => some (.ok true, S)
open Classical in
noncomputable def lcL (tf : Tg) (ft : FT) (fe : FE) (g : Grd) (δ : DEnv) : List W → Store → List W → Rs (List W)
  | [], S, acc => if okG g S then some (.ok acc, S) else none
  | w :: ws, S, acc => if okG g S then (match tf w δ S with
    | none => none
    | some (δ1, S1) => (match ft δ1 S1 with
      | some (.ok true, S2) => (match fe δ1 S2 with
        | some (.ok u, S3) => lcL tf ft fe g δ ws S3 (acc ++ [u])
        | _ => none)
      | some (.ok false, S2) => lcL tf ft fe g δ ws S2 acc
      | _ => none)) else none
/-- the new list: read-only from here on, or at a place -/
def lcF (acc : List W) (S : Store) : Rs W := match pure? acc with
  | some ds => some (.ok (.d (.lst ds)), S)
  | none => none
def lcM (acc : List W) (S : Store) : Rs W := some (.ok (.loc S.length), S ++ [.lst acc])
noncomputable def dLc (fin : List W → Store → Rs W) (fi : FI) (tf : Tg) (ft : FT) (fe : FE) (vs : List Nat) : FE := fun δ S => (fi δ S).bind fun p S1 => if p.1.length ≤ sizeLine then (lcL tf ft fe p.2 (wipeE δ vs) p.1 S1 []).bind fin else none
/-- what the list's end asks: D, the list, is kept till here -/
def FinOk (K : PySem.W.Frag) (fin : List W → Store → Rs W) : Prop := ∀ (Wx : WX) (σ : L2.St) (ρ0 ρ : Ad) (H0 H : Hp) (S : Store) (acc : List W) (vacc : List V) (D : Addr) (Q : VK), Ok K ρ S H → Stw ρ0 H0 ρ H → ρ.rs = D :: ρ0.rs → D ∉ ρ0.rs →
  (∀ a o, a ∈ ρ0.rs → H0 a = some o → H a = some o) → H D = some (.lst vacc) → RelWs K ρ H acc vacc → Go K Wx σ ρ0 H0 (RelW K) (fin acc S) Q → Q (.ref D) H
theorem lcF_ok {K : PySem.W.Frag} : FinOk K lcF := by
  intro Wx σ ρ0 ρ H0 H S acc vacc D Q ok st hrs hd kr he r q
  have st2 : Stw ρ H ρ.let H := ⟨fun _ _ e _ => e, fun a o e z => ⟨z.1, fun m => z.2 (by rw [hrs]; rw [Ad.let, hrs] at m; exact List.mem_cons_of_mem _ m)⟩, Nat.le_refl _, fun _ _ _ z => z⟩
  have hmem : D ∈ ρ.rs := by rw [hrs]; exact List.mem_cons_self
  have ok2 : Ok K ρ.let S H := ⟨ok.len, ok.inj, fun n a e => by
    obtain ⟨m, e1, o⟩ := ok.obj n a e
    exact ⟨m, e1, o.monoW st2 fun _ z => z⟩, ok.live, fun a m => ok.res a (List.mem_of_mem_tail m), fun a m => ok.dis a (List.mem_of_mem_tail m)⟩
  have st3 : Step ρ0 H0 ρ.let H := ⟨st.trans st2, by simp [Ad.let, hrs], kr⟩
  unfold lcF at q
  split at q
  · rename_i ds e
    refine go_at q ok2 st3 (show RelD K ρ.let H (.lst ds) (.ref D) from ?_)
    rw [RelD]
    exact ⟨D, vacc, rfl, .inl ⟨.inl he, ok.dis D hmem, by simpa [Ad.let, hrs] using hd⟩, RelDs.monoW st2 ds vacc (pure?_rel e r)⟩
  · exact go_none q
theorem lcM_ok {K : PySem.W.Frag} : FinOk K lcM := by
  intro Wx σ ρ0 ρ H0 H S acc vacc D Q ok st hrs hd kr he r q
  have hmem : D ∈ ρ.rs := by rw [hrs]; exact List.mem_cons_self
  have nmem : some D ∉ ρ.pl := ok.dis D hmem
  have st2 : Stw ρ H (ρ.let.add D) H := ⟨fun _ _ e _ => e, fun a o e z => ⟨fun m => by
    rcases List.mem_append.mp (show some a ∈ ρ.pl ++ [some D] from m) with m | m
    · exact z.1 m
    · have q : a = D := by simpa using m
      subst q; exact z.2 hmem, fun m => z.2 (by rw [hrs]; have m' : a ∈ ρ.rs.tail := m; rw [hrs] at m'; exact List.mem_cons_of_mem _ m')⟩, by simp [Ad.add, Ad.let], fun n a hn e => by
    unfold Ad.add at e
    simpa only [Ad.let, List.getElem?_append_left hn] using e⟩
  have key : ∀ {i : Nat} {a : Addr}, (ρ.let.add D).pl[i]? = some (some a) → (ρ.pl[i]? = some (some a) ∧ i < ρ.pl.length) ∨ (i = ρ.pl.length ∧ a = D) := fun e => add_key (ρ := ρ.let) e
  have ok2 : Ok K (ρ.let.add D) (S ++ [.lst acc]) H := by
    refine ⟨by simp [Ad.add, Ad.let, ok.len], fun i j a h1 h2 => ?_, fun n a e => ?_, fun n m' e hm => ?_, fun a m => ok.res a (List.mem_of_mem_tail m), fun a ha => ?_⟩
    · rcases key h1 with ⟨a1, _⟩ | ⟨a1, a2⟩ <;> rcases key h2 with ⟨b1, _⟩ | ⟨b1, b2⟩
      · exact ok.inj i j a a1 b1
      · subst b2; exact absurd (List.mem_of_getElem? a1) nmem
      · subst a2; exact absurd (List.mem_of_getElem? b1) nmem
      · omega
    · rcases key e with ⟨a1, hl⟩ | ⟨a1, a2⟩
      · obtain ⟨m', e1, r'⟩ := ok.obj n a a1
        exact ⟨m', by rw [List.getElem?_append_left (by rw [← ok.len]; exact hl)]; exact e1, r'.monoW st2 fun u z => z⟩
      · subst a1 a2
        exact ⟨.lst acc, by rw [ok.len]; simp, vacc, he, r.monoW st2⟩
    · by_cases hn : n < S.length
      · rw [List.getElem?_append_left hn] at e
        obtain ⟨a, e1⟩ := ok.live n m' e hm
        exact ⟨a, by unfold Ad.add; show (ρ.pl ++ [some D])[n]? = _; rw [List.getElem?_append_left (by rw [ok.len]; exact hn)]; exact e1⟩
      · by_cases hi2 : n = S.length
        · subst hi2
          exact ⟨D, by rw [← ok.len]; simp [Ad.add, Ad.let]⟩
        · have : (S ++ [M.lst acc])[n]? = none := List.getElem?_eq_none (by simp; omega)
          rw [this] at e; cases e
    · intro z
      have ha' : a ∈ ρ.rs := List.mem_of_mem_tail ha
      rcases List.mem_append.mp (show some a ∈ ρ.pl ++ [some D] from z) with z | z
      · exact ok.dis a ha' z
      · have e : a = D := by simpa using z
        subst e
        have m' : a ∈ ρ.rs.tail := ha
        rw [hrs] at m'
        exact hd m'
  have st3 : Step ρ0 H0 (ρ.let.add D) H := ⟨st.trans st2, by simp [Ad.let, Ad.add, hrs], kr⟩
  exact go_at q ok2 st3 (show RelW K (ρ.let.add D) H (.loc S.length) (.ref D) from ⟨by simp [Ad.add, Ad.let, ok.len], fun a e => by rw [← ok.len] at e; simp [Ad.add, Ad.let] at e; rw [e]⟩)
section
variable {X : Cx} {Wx : WX} {elt tg iter c : Expr} {ifs : List Expr} {fi : FI} {ft : FT} {fe : FE} {tf : Tg} {pos : Pos}
theorem impLc {K : PySem.W.Frag} {fin : List W → Store → Rs W} (hf : FinOk K fin) (vs : List Nat) (σ : L2.St) (H : Hp) (Q : VK) (q : tE K Wx (dLc fin fi tf ft fe vs) σ H Q) : tLc (tI K Wx fi) (tG K vs tf) (tT K WF ft) (tE K WF fe) vs σ H Q := by
  obtain ⟨δ, S, ρ, ok, en, q⟩ := q
  refine ⟨δ, S, ρ, ok, en, (go_bind q).mono fun J H1 ⟨p, S1, ρ1, ok1, st1, it, q1⟩ => ?_⟩
  intro D hD
  by_cases hz : p.1.length ≤ sizeLine
  · rw [if_pos hz] at q1
    obtain ⟨okD, stD⟩ := ok_keep ok1 (o := .lst []) hD
    have hdn : D ∉ ρ1.rs := (ok1.off hD).2
    have en1 := (en.mono st1).wipe vs
    refine ⟨fun i m H' => m = p.1.length - i ∧ i ≤ p.1.length ∧ ∃ S' ρ' acc vacc, Ok K ρ' S' H' ∧ Stw ρ1 H1 ρ' H' ∧ ρ'.rs = D :: ρ1.rs ∧ (∀ a o, a ∈ ρ1.rs → H1 a = some o → H' a = some o) ∧ H' D = some (.lst vacc) ∧ RelWs K ρ' H' acc vacc ∧ vacc.length ≤ i ∧ Go K Wx σ ρ1 H1 (RelW K) ((lcL tf ft fe p.2 (wipeE δ vs) (p.1.drop i) S' acc).bind fin) Q,
      ⟨p.1.length, rfl, Nat.zero_le _, S1, ρ1.keep D, [], [], okD, stD, rfl, fun a o ha e => by rw [upd_ne (ne_of_none e hD)]; exact e, upd_same, rfl, Nat.le_refl _, q1⟩, ?_⟩
    rintro i m H' ⟨rfl, hi, S', ρ', acc, vacc, ok', st', hrs, kr, he, ra, hl, q'⟩
    have hmem : D ∈ ρ'.rs := by rw [hrs]; exact List.mem_cons_self
    by_cases hgd : okG p.2 S'
    · obtain ⟨it1, it2⟩ := it ρ' S' H' ok' st' hgd i
      by_cases hlt : i < p.1.length
      · refine .inr ?_
        have hdrop : p.1.drop i = p.1[i] :: p.1.drop (i + 1) := List.drop_eq_getElem_cons hlt
        rw [hdrop] at q'
        obtain ⟨hgo, hyl⟩ := it1 p.1[i] (List.getElem?_eq_getElem hlt)
        unfold lcL at q'
        rw [if_pos hgd] at q'
        refine ⟨hgo, _, fun H2 n2 => ⟨p.1.length - (i + 1), by omega, n2⟩, fun x H'' y => ?_⟩
        obtain ⟨kp, rx⟩ := hyl x H'' y
        obtain ⟨ok2, st2⟩ := ok_grow ok' kp
        cases e1 : tf p.1[i] (wipeE δ vs) S' with
        | none => simp only [e1] at q'; exact go_none q'
        | some z =>
          obtain ⟨δ1, S2⟩ := z
          simp only [e1] at q'
          refine ⟨p.1[i], wipeE δ vs, S', ρ', δ1, S2, ok2, (en1.monoW st').mono st2, rx, e1, fun ρ3 H3 σ3 ok3 st3 en3 w3 => ⟨w3.trans (wipe_idem σ vs), ?_⟩⟩
          have st13 := st2.trans st3
          cases e2 : ft δ1 S2 with
          | none => simp only [e2] at q'; exact go_none q'
          | some z =>
            obtain ⟨b, S3⟩ := z
            cases b with
            | error x => simp only [e2] at q'; exact go_none q'
            | ok b =>
              refine ⟨δ1, S2, ρ3, ok3, en3, _, _, e2, fun ρ4 H4 ok4 st4 b' hb' => ?_⟩
              obtain rfl : b = b' := hb'
              have st14 := st13.trans st4
              cases b with
              | false =>
                simp only [e2] at q'
                exact iteF ⟨rfl, hlt, S3, ρ4, acc, vacc, ok4, st'.trans st14.toStw, st14.rs.trans hrs, fun a o ha e => st14.kr a o (by rw [hrs]; exact List.mem_cons_of_mem _ ha) (kr a o ha e), st14.kr D _ hmem he, ra.mono st14, by omega, q'⟩
              | true =>
                simp only [e2] at q'
                cases e5 : fe δ1 S3 with
                | none => simp only [e5] at q'; exact go_none q'
                | some z =>
                  obtain ⟨u, S5⟩ := z
                  cases u with
                  | error x => simp only [e5] at q'; exact go_none q'
                  | ok u =>
                    simp only [e5] at q'
                    refine iteT ⟨δ1, S3, ρ4, ok4, en3.mono st4, _, _, e5, fun ρ5 H5 ok5 st5 v rv => ?_⟩
                    have st15 := st14.trans st5
                    have hrs5 := st15.rs.trans hrs
                    have hmem5 : D ∈ ρ5.rs := by rw [hrs5]; exact List.mem_cons_self
                    have he5 := st15.kr D _ hmem he
                    have sw := stw_res (H := H5) (o := .lst (vacc ++ [v])) hmem5
                    refine ⟨vacc, he5, by omega, rfl, hlt, S5, ρ5, acc ++ [u], vacc ++ [v], ok_res ok5 hmem5, (st'.trans st15.toStw).trans sw, hrs5, fun a o ha e => ?_, upd_same, ((ra.mono st15).monoW sw).app ⟨v, [], rfl, rv.monoW sw, rfl⟩, by simp; omega, q'⟩
                    rw [upd_ne (fun z => by subst z; exact hdn ha)]
                    exact st15.kr a o (by rw [hrs]; exact List.mem_cons_of_mem _ ha) (kr a o ha e)
      · have e : i = p.1.length := by omega
        subst e
        rw [List.drop_length] at q'
        unfold lcL at q'
        rw [if_pos hgd] at q'
        exact .inl ⟨it2 (Nat.le_refl _), hf Wx σ ρ1 ρ' H1 H' S' acc vacc D Q ok' st' hrs hdn kr he ra q'⟩
    · cases hd : p.1.drop i with
      | nil => rw [hd] at q'; unfold lcL at q'; rw [if_neg hgd] at q'; exact go_none q'
      | cons w ws => rw [hd] at q'; unfold lcL at q'; rw [if_neg hgd] at q'; exact go_none q'
  · rw [if_neg hz] at q1
    exact go_none q1
theorem dts_yes : PTs X [] (tT X.K Wx ftYes) := ⟨fun pins s σ H Q I q => by
  obtain ⟨δ, S, ρ, ok, en, q⟩ := q
  exact pts_nil.run pins s σ H Q I (go_val ok q rfl)⟩
theorem dts_one (h : PT X c (tT X.K Wx ft)) : PTs X [c] (tT X.K Wx ft) := pts_one h
/-- [elt for target in iter if ..] -/
theorem de_lc {fin : List W → Store → Rs W} (hf : FinOk X.K fin) {scope : Scope} {own : List (Str × Nat)} (hc : X.calm = true) (hN : X.N.Nodup) (ok : BlkOk X.N X.env.scope scope own) (hi : PI X tg iter (tI X.K Wx fi))
    (hg : ∀ (s : Shared) (H : Hp) (C : Addr) (cl : List (Str × Addr)) (fp : List Addr), PG (X.blk s H scope (compEnvC scope cl C X.env) fp) tg (tG X.K (own.map (·.2)) tf)) (ht : ∀ (s : Shared) (H : Hp) (C : Addr) (cl : List (Str × Addr)) (fp : List Addr), PTs (X.blk s H scope (compEnvC scope cl C X.env) fp) ifs (tT X.K WF ft))
    (he : ∀ (s : Shared) (H : Hp) (C : Addr) (cl : List (Str × Addr)) (fp : List Addr), PE (X.blk s H scope (compEnvC scope cl C X.env) fp) elt (tE X.K WF fe)) (hs : ∀ x, foldedSetIterable iter X.env x = pure x := by intro _; rfl) :
    PE X (.ListComp elt [⟨tg, iter, ifs, 0⟩] scope pos) (tE X.K Wx (dLc fin fi tf ft fe (own.map (·.2)))) := (pe_lc hc hN hi ok hg ht he hs).imp fun σ H Q q => impLc hf (own.map (·.2)) σ H Q q
theorem ds_setLc (i : Nat) {y : Str} {py spos : Pos} {fin : List W → Store → Rs W} (hf : FinOk X.K fin) {scope : Scope} {own : List (Str × Nat)} (hc : X.calm = true) (hN : X.N.Nodup) (ok : BlkOk X.N X.env.scope scope own) (hi : PI X tg iter (tI X.K Wx fi))
    (hg : ∀ (s : Shared) (H : Hp) (C : Addr) (cl : List (Str × Addr)) (fp : List Addr), PG (X.blk s H scope (compEnvC scope cl C X.env) fp) tg (tG X.K (own.map (·.2)) tf)) (ht : ∀ (s : Shared) (H : Hp) (C : Addr) (cl : List (Str × Addr)) (fp : List Addr), PTs (X.blk s H scope (compEnvC scope cl C X.env) fp) ifs (tT X.K WF ft))
    (he : ∀ (s : Shared) (H : Hp) (C : Addr) (cl : List (Str × Addr)) (fp : List Addr), PE (X.blk s H scope (compEnvC scope cl C X.env) fp) elt (tE X.K WF fe)) (hsw : swapsWith (.ListComp elt [⟨tg, iter, ifs, 0⟩] scope pos) (some (.Name y py)) spos.line X.env = pure true) (hy : X.N[i]? = some y := by rfl) (hyl : X.env.scope.names.lookup y = some .local := by rfl) (hs : ∀ x, foldedSetIterable iter X.env x = pure x := by intro _; rfl) :
    PS X (.Assign [.Name y py] (.ListComp elt [⟨tg, iter, ifs, 0⟩] scope pos) spos) (tS X.K Wx (sSet i (dLc fin fi tf ft fe (own.map (·.2))))) := (ps_setLc hc hN hy hyl hsw hi ok hg ht he hs).imp fun D σ H q => by
  obtain ⟨δ, S, ρ, ok, en, q⟩ := q
  refine impLc (Wx := Wx) hf (own.map (·.2)) σ H _ ⟨δ, S, ρ, ok, en, (gos_bind en q).mono fun v H1 ⟨x, S1, ρ1, ok1, st1, r1, q1⟩ => gos_nx ok1 q1 ((en.mono st1).set i r1)⟩
end
end DL
set_option Elab.async false
set_option linter.all false
set_option maxRecDepth 100000
set_option maxHeartbeats 1000000
/-! DL7: defs by their bodies; a law's end. -/
namespace DL
open PySem PySem.Spec PyProof.Rows L2

mutual
theorem RelD.sub {K : PySem.W.Frag} {ρ ρ' : Ad} {H : Hp} (h : ∀ a, Off ρ a → Off ρ' a) : ∀ (d : D) (v : V), RelD K ρ H d v → RelD K ρ' H d v
  | .non, v, q => by simpa [RelD] using q
  | .bl b, v, q => by simpa [RelD] using q
  | .int i, v, q => by simpa [RelD] using q
  | .str x, v, q => by simpa [RelD] using q
  | .ref x, v, q => by simpa [RelD] using q
  | .ty x, v, q => by simpa [RelD] using q
  | .tup ds, v, q => by
    rw [RelD] at q ⊢
    obtain ⟨a, vs, e, h1, h2⟩ := q
    exact ⟨a, vs, e, h1.elim (fun z => .inl ⟨z.1, h a z.2⟩) .inr, RelDs.sub h ds vs h2⟩
  | .lst ds, v, q => by
    rw [RelD] at q ⊢
    obtain ⟨a, vs, e, h1, h2⟩ := q
    exact ⟨a, vs, e, h1.elim (fun z => .inl ⟨z.1, h a z.2⟩) .inr, RelDs.sub h ds vs h2⟩
  | .ins C ns ds, v, q => by
    rw [RelD] at q ⊢
    obtain ⟨a, dx, vs, e, h1, hn, h2, h3⟩ := q
    exact ⟨a, dx, vs, e, h1, h a hn, RelDs.sub h ds vs h2, h3⟩
  | .dct ks ds, v, q => by
    rw [RelD] at q ⊢
    obtain ⟨a, vs, e, h1, hn, h2, h3⟩ := q
    exact ⟨a, vs, e, h1, h a hn, RelDs.sub h ds vs h2, h3⟩
theorem RelDs.sub {K : PySem.W.Frag} {ρ ρ' : Ad} {H : Hp} (h : ∀ a, Off ρ a → Off ρ' a) : ∀ (ds : List D) (vs : List V), RelDs K ρ H ds vs → RelDs K ρ' H ds vs
  | [], vs, q => by simpa [RelDs] using q
  | d :: ds, vs, q => by
    rw [RelDs] at q ⊢
    obtain ⟨v, vr, e, h1, h2⟩ := q
    exact ⟨v, vr, e, RelD.sub h d v h1, RelDs.sub h ds vr h2⟩
end
/-! ### the places of a def's own go -/
def wBelow (n : Nat) : W → Prop
  | .d _ => True
  | .loc k => k < n
def mBelow (n : Nat) : M → Prop
  | .lst ws => ∀ w ∈ ws, wBelow n w
  | .ins _ _ ws => ∀ w ∈ ws, wBelow n w
  | .dead => True
def keepOk (S S1 : Store) : Prop := S.length ≤ S1.length ∧ ∀ (i : Nat) m, i < S.length → S1[i]? = some m → S[i]? = some m ∨ mBelow S.length m
def Ad.cut (ρ : Ad) (n : Nat) : Ad := ⟨ρ.pl.take n, ρ.rs⟩
section
variable {K : PySem.W.Frag} {ρ ρ1 : Ad} {H H1 : Hp} {S S1 : Store}
theorem cut_off {n : Nat} {a : Addr} (h : Off ρ1 a) : Off (ρ1.cut n) a := ⟨fun m => h.1 (List.mem_of_mem_take m), h.2⟩
theorem relWs_below (n : Nat) (hn : ρ.pl.length = n) : ∀ {ws : List W} {vs : List V}, RelWs K ρ H ws vs → ∀ w ∈ ws, wBelow n w
  | [], _, _, w, hw => by simp at hw
  | u :: us, vs, r, w, hw => by
    obtain ⟨v, vr, rfl, h1, h2⟩ := r
    rcases List.mem_cons.mp hw with e | hw
    · subst e
      cases w with
      | d x => trivial
      | loc k => exact hn ▸ h1.1
    · exact relWs_below n hn h2 w hw
theorem Ok.below (ok : Ok K ρ S H) {i : Nat} {m : M} (e : S[i]? = some m) : mBelow S.length m := by
  by_cases hm : m = .dead
  · subst hm; trivial
  · obtain ⟨a, ha⟩ := ok.live i m e hm
    obtain ⟨m', e1, o⟩ := ok.obj i a ha
    rw [e] at e1
    cases e1
    cases m with
    | dead => exact absurd rfl hm
    | lst ws => obtain ⟨vs, _, r⟩ := o; exact relWs_below _ ok.len r
    | ins C ns ws => obtain ⟨dx, vs, _, r, _⟩ := o; exact relWs_below _ ok.len r
theorem cut_relW {n : Nat} (hn : n ≤ ρ1.pl.length) {w : W} {v : V} (b : wBelow n w) (r : RelW K ρ1 H1 w v) : RelW K (ρ1.cut n) H1 w v := by
  cases w with
  | d x => exact RelD.sub (fun a z => cut_off z) x v r
  | loc k =>
    have hk : k < n := b
    refine ⟨by simp [Ad.cut]; omega, fun a e => r.2 a ?_⟩
    simpa [Ad.cut, List.getElem?_take, hk] using e
theorem cut_relWs {n : Nat} (hn : n ≤ ρ1.pl.length) : ∀ {ws : List W} {vs : List V}, (∀ w ∈ ws, wBelow n w) → RelWs K ρ1 H1 ws vs → RelWs K (ρ1.cut n) H1 ws vs
  | [], vs, _, r => r
  | u :: us, vs, b, r => by
    obtain ⟨v, vr, rfl, h1, h2⟩ := r
    exact ⟨v, vr, rfl, cut_relW hn (b u List.mem_cons_self) h1, cut_relWs hn (fun w hw => b w (List.mem_cons_of_mem _ hw)) h2⟩
/-- the caller's places, as they stand behind the body -/
theorem ok_cut (ok : Ok K ρ S H) (ok1 : Ok K ρ1 S1 H1) (st : Step ρ H ρ1 H1) (kp : keepOk S S1) : Ok K (ρ1.cut S.length) (S1.take S.length) H1 ∧ Step ρ H (ρ1.cut S.length) H1 := by
  have hl : S.length ≤ ρ1.pl.length := by rw [ok1.len]; exact kp.1
  have key : ∀ {i : Nat} {a : Addr}, (ρ1.cut S.length).pl[i]? = some (some a) → ρ1.pl[i]? = some (some a) ∧ i < S.length := fun {i a} e => by
    by_cases hi : i < S.length
    · exact ⟨by simpa [Ad.cut, List.getElem?_take, hi] using e, hi⟩
    · simp [Ad.cut, List.getElem?_take, hi] at e
  refine ⟨⟨by simp [Ad.cut, ok1.len], fun i j a h1 h2 => ok1.inj i j a (key h1).1 (key h2).1, fun n a e => ?_, fun n m e hm => ?_, ok1.res, fun a ha z => ok1.dis a ha (List.mem_of_mem_take z)⟩, ⟨⟨st.keep, fun a o e z => cut_off (st.off a o e z), ?_, fun n a hn e => st.same n a hn (key e).1⟩, st.rs, st.kr⟩⟩
  · obtain ⟨e1, hn⟩ := key e
    obtain ⟨m, e2, o⟩ := ok1.obj n a e1
    have b : mBelow S.length m := by
      rcases kp.2 n m hn e2 with q | q
      · exact ok.below q
      · exact q
    refine ⟨m, by simpa [List.getElem?_take, hn] using e2, ?_⟩
    cases m with
    | lst ws => obtain ⟨vs, h1, h2⟩ := o; exact ⟨vs, h1, cut_relWs hl b h2⟩
    | ins C ns ws => obtain ⟨dx, vs, h1, h2, h3⟩ := o; exact ⟨dx, vs, h1, cut_relWs hl b h2, h3⟩
    | dead => exact o.elim
  · by_cases hn : n < S.length
    · have e2 : S1[n]? = some m := by simpa [List.getElem?_take, hn] using e
      obtain ⟨a, e3⟩ := ok1.live n m e2 hm
      exact ⟨a, by simpa [Ad.cut, List.getElem?_take, hn] using e3⟩
    · simp [List.getElem?_take, hn] at e
  · have hk := kp.1
    simp [Ad.cut, ok.len, ok1.len]; omega
/-- what a def hands back: a list of its own is read-only from here on -/
def giveW (n : Nat) (S1 : Store) : W → Option W
  | .d x => some (.d x)
  | .loc k => if k < n then some (.loc k) else (match S1[k]? with
    | some (.lst ws) => (frz2 S1 ws).map fun ds => .d (.lst ds)
    | _ => none)
where
  /-- items: data, or lists of data -/
  frz2 (S1 : Store) : List W → Option (List D)
    | [] => some []
    | .d x :: ws => (frz2 S1 ws).map (x :: ·)
    | .loc k :: ws => if n ≤ k then (match S1[k]? with
      | some (.lst us) => (match pure? us with
        | some ds => (frz2 S1 ws).map (.lst ds :: ·)
        | none => none)
      | _ => none) else none
theorem own_off (ok1 : Ok K ρ1 S1 H1) {n k : Nat} {a : Addr} (hk : n ≤ k) (e : ρ1.pl[k]? = some (some a)) : Off (ρ1.cut n) a := by
  refine ⟨fun m => ?_, fun m => ok1.dis a m (List.mem_of_getElem? e)⟩
  obtain ⟨i, hi⟩ := List.getElem?_of_mem m
  by_cases hin : i < n
  · have e2 : ρ1.pl[i]? = some (some a) := by simpa [Ad.cut, List.getElem?_take, hin] using hi
    have := ok1.inj i k a e2 e
    omega
  · simp [Ad.cut, List.getElem?_take, hin] at hi
theorem frz2_ok (ok1 : Ok K ρ1 S1 H1) {n : Nat} : ∀ {ws : List W} {ds : List D} {vs : List V}, giveW.frz2 n S1 ws = some ds → RelWs K ρ1 H1 ws vs → RelDs K (ρ1.cut n) H1 ds vs
  | [], ds, vs, e, r => by
    cases (show some [] = some ds from e)
    rw [RelDs]; exact r
  | .d x :: ws, ds, vs, e, r => by
    obtain ⟨es, e1, rfl⟩ := Option.map_eq_some_iff.mp (show (giveW.frz2 n S1 ws).map (x :: ·) = some ds from e)
    obtain ⟨v, vr, rfl, h1, h2⟩ := r
    rw [RelDs]
    exact ⟨v, vr, rfl, RelD.sub (fun a z => cut_off z) x v h1, frz2_ok ok1 e1 h2⟩
  | .loc k :: ws, ds, vs, e, r => by
    obtain ⟨v, vr, rfl, h1, h2⟩ := r
    rw [giveW.frz2] at e
    split at e
    · rename_i hk
      split at e
      · rename_i us eu
        split at e
        · rename_i zs ez
          obtain ⟨es, e1, rfl⟩ := Option.map_eq_some_iff.mp e
          obtain ⟨a, ws', rfl, ha, h3, h4⟩ := loc_at ok1 h1 eu
          rw [RelDs]
          refine ⟨_, vr, rfl, ?_, frz2_ok ok1 e1 h2⟩
          rw [RelD]
          exact ⟨a, ws', rfl, .inl ⟨.inl h3, own_off ok1 hk ha⟩, RelDs.sub (fun a z => cut_off z) _ _ (pure?_rel ez h4)⟩
        · cases e
      · cases e
    · cases e
theorem giveW_ok (ok1 : Ok K ρ1 S1 H1) {n : Nat} (hn : n ≤ ρ1.pl.length) {w u : W} {v : V} (e : giveW n S1 w = some u) (r : RelW K ρ1 H1 w v) : RelW K (ρ1.cut n) H1 u v := by
  cases w with
  | d x =>
    cases (show some (W.d x) = some u from e)
    exact cut_relW hn trivial r
  | loc k =>
    rw [giveW] at e
    split at e
    · rename_i hk
      cases e
      exact cut_relW hn hk r
    · rename_i hk
      split at e
      · rename_i ws ew
        obtain ⟨ds, e1, rfl⟩ := Option.map_eq_some_iff.mp e
        obtain ⟨a, ws', rfl, ha, h3, h4⟩ := loc_at ok1 r ew
        show RelD K (ρ1.cut n) H1 (.lst ds) (.ref a)
        rw [RelD]
        exact ⟨a, ws', rfl, .inl ⟨.inl h3, own_off ok1 (by omega) ha⟩, frz2_ok ok1 e1 h4⟩
      · cases e
end
/-! ### a def by its body -/
abbrev Gv := Store → W → Store → Rs W
open Classical in
/-- what is handed back is read-only from here on -/
noncomputable def giveS : Gv := fun S w S1 => if keepOk S S1 then (match giveW S.length S1 w with
  | some u => some (.ok u, S1.take S.length)
  | none => none) else none
open Classical in
/-- a list of the def's own goes on as the caller's -/
noncomputable def giveM : Gv := fun S w S1 => if keepOk S S1 then (match w with
  | .d x => some (.ok (.d x), S1.take S.length)
  | .loc k => if k < S.length then none else (match S1[k]? with
    | some (.lst ws) => if ∀ w ∈ ws, wBelow S.length w then some (.ok (.loc S.length), S1.take S.length ++ [.lst ws]) else none
    | _ => none)) else none
def GiveOk (K : PySem.W.Frag) (gv : Gv) : Prop := ∀ (ρ : Ad) (H : Hp) (S : Store) (ρ1 : Ad) (H1 : Hp) (S1 : Store) (w : W) (r : Except Ex W) (S' : Store) (v : V), Ok K ρ S H → Ok K ρ1 S1 H1 → Step ρ H ρ1 H1 → gv S w S1 = some (r, S') → RelW K ρ1 H1 w v →
  ∃ u ρ', r = .ok u ∧ Ok K ρ' S' H1 ∧ Step ρ H ρ' H1 ∧ RelW K ρ' H1 u v
theorem giveS_ok {K : PySem.W.Frag} : GiveOk K giveS := by
  intro ρ H S ρ1 H1 S1 w r S' v ok ok1 st1 e rv
  unfold giveS at e
  split at e
  · rename_i kp
    split at e
    · rename_i u' eu
      cases e
      obtain ⟨ok2, st2⟩ := ok_cut ok ok1 st1 kp
      exact ⟨u', _, rfl, ok2, st2, giveW_ok ok1 (by rw [ok1.len]; exact kp.1) eu rv⟩
    · cases e
  · cases e
theorem sub_relW {K : PySem.W.Frag} {ρ1 ρ' : Ad} {H1 : Hp} {n : Nat} (hoff : ∀ a, Off ρ1 a → Off ρ' a) (hn : n ≤ ρ'.pl.length) (hpl : ∀ (k : Nat) (a : Addr), k < n → ρ'.pl[k]? = some (some a) → ρ1.pl[k]? = some (some a)) {w : W} {v : V} (b : wBelow n w) (r : RelW K ρ1 H1 w v) : RelW K ρ' H1 w v := by
  cases w with
  | d x => exact RelD.sub hoff x v r
  | loc k =>
    have hk : k < n := b
    exact ⟨by omega, fun a e => r.2 a (hpl k a hk e)⟩
theorem sub_relWs {K : PySem.W.Frag} {ρ1 ρ' : Ad} {H1 : Hp} {n : Nat} (hoff : ∀ a, Off ρ1 a → Off ρ' a) (hn : n ≤ ρ'.pl.length) (hpl : ∀ (k : Nat) (a : Addr), k < n → ρ'.pl[k]? = some (some a) → ρ1.pl[k]? = some (some a)) : ∀ {ws : List W} {vs : List V}, (∀ w ∈ ws, wBelow n w) → RelWs K ρ1 H1 ws vs → RelWs K ρ' H1 ws vs
  | [], vs, _, r => r
  | u :: us, vs, b, r => by
    obtain ⟨v, vr, rfl, h1, h2⟩ := r
    exact ⟨v, vr, rfl, sub_relW hoff hn hpl (b u List.mem_cons_self) h1, sub_relWs hoff hn hpl (fun w hw => b w (List.mem_cons_of_mem _ hw)) h2⟩
theorem giveM_ok {K : PySem.W.Frag} : GiveOk K giveM := by
  intro ρ H S ρ1 H1 S1 w r S' v ok ok1 st1 e rv
  unfold giveM at e
  split at e
  · rename_i kp
    obtain ⟨ok2, st2⟩ := ok_cut ok ok1 st1 kp
    have hl : S.length ≤ ρ1.pl.length := by rw [ok1.len]; exact kp.1
    cases w with
    | d x =>
      cases e
      exact ⟨_, _, rfl, ok2, st2, cut_relW hl trivial rv⟩
    | loc k =>
      by_cases hk : k < S.length
      · simp only [if_pos hk] at e; cases e
      · simp only [if_neg hk] at e
        split at e
        · rename_i ws ew
          split at e
          · rename_i hb
            cases e
            obtain ⟨a, vs, rfl, ha, h3, h4⟩ := loc_at ok1 rv ew
            have hmem : some a ∈ ρ1.pl := List.mem_of_getElem? ha
            have hlen : (ρ1.cut S.length).pl.length = S.length := by have hk1 := kp.1; rw [ok2.len]; simp; omega
            have hoff : ∀ b, Off ρ1 b → Off ((ρ1.cut S.length).add a) b := fun b z => ⟨fun m => by
              rcases List.mem_append.mp (show some b ∈ (ρ1.cut S.length).pl ++ [some a] from m) with m | m
              · exact z.1 (List.mem_of_mem_take m)
              · have q : b = a := by simpa using m
                subst q; exact z.1 hmem, z.2⟩
            have key : ∀ {i : Nat} {b : Addr}, ((ρ1.cut S.length).add a).pl[i]? = some (some b) → (ρ1.pl[i]? = some (some b) ∧ i < S.length) ∨ (i = S.length ∧ b = a) := fun {i b} e => by
              rcases add_key e with ⟨z1, z2⟩ | ⟨z1, z2⟩
              · rw [hlen] at z2
                exact .inl ⟨by simpa [Ad.cut, List.getElem?_take, z2] using z1, z2⟩
              · exact .inr ⟨by rw [← hlen]; exact z1, z2⟩
            have hn' : S.length ≤ ((ρ1.cut S.length).add a).pl.length := by simp [Ad.add, hlen]
            have hpl : ∀ (j : Nat) (b : Addr), j < S.length → ((ρ1.cut S.length).add a).pl[j]? = some (some b) → ρ1.pl[j]? = some (some b) := fun j b hj e => by
              rcases key e with z | z
              · exact z.1
              · omega
            have offa := own_off ok1 (n := S.length) (by omega) ha
            have tl : (S1.take S.length).length = S.length := by have hk1 := kp.1; simp; omega
            refine ⟨_, (ρ1.cut S.length).add a, rfl, ⟨by simp [Ad.add, hlen, tl], fun i j b h1 h2 => ?_, fun i b e => ?_, fun i m e hm => ?_, ok1.res, fun b hb' z => ?_⟩, ⟨⟨st1.keep, fun b o e z => hoff b (st1.off b o e z), by rw [ok.len]; exact hn', fun i b hi e => ?_⟩, st1.rs, st1.kr⟩, ?_⟩
            · rcases key h1 with ⟨a1, b1⟩ | ⟨a1, b1⟩ <;> rcases key h2 with ⟨a2, b2⟩ | ⟨a2, b2⟩
              · exact ok1.inj i j b a1 a2
              · subst b2; have := ok1.inj i k _ a1 ha; omega
              · subst b1; have := ok1.inj j k _ a2 ha; omega
              · omega
            · rcases key e with ⟨a1, b1⟩ | ⟨a1, b1⟩
              · obtain ⟨m, e2, o⟩ := ok1.obj i b a1
                have bl : mBelow S.length m := by
                  rcases kp.2 i m b1 e2 with q | q
                  · exact ok.below q
                  · exact q
                refine ⟨m, by rw [List.getElem?_append_left (by omega)]; simpa [List.getElem?_take, b1] using e2, ?_⟩
                cases m with
                | lst us => obtain ⟨xs, g1, g2⟩ := o; exact ⟨xs, g1, sub_relWs hoff hn' hpl bl g2⟩
                | ins C ns us => obtain ⟨dx, xs, g1, g2, g3⟩ := o; exact ⟨dx, xs, g1, sub_relWs hoff hn' hpl bl g2, g3⟩
                | dead => exact o.elim
              · subst a1 b1
                exact ⟨.lst ws, by rw [List.getElem?_append_right (by omega)]; simp [tl], vs, h3, sub_relWs hoff hn' hpl hb h4⟩
            · by_cases hi : i < S.length
              · rw [List.getElem?_append_left (by omega)] at e
                obtain ⟨b, e3⟩ := ok2.live i m e hm
                refine ⟨b, ?_⟩
                unfold Ad.add
                rw [List.getElem?_append_left (by omega)]
                exact e3
              · by_cases hi2 : i = S.length
                · subst hi2
                  refine ⟨a, ?_⟩
                  unfold Ad.add
                  rw [List.getElem?_append_right (by omega)]
                  simp [hlen]
                · rw [List.getElem?_eq_none (by simp; omega)] at e; cases e
            · rcases List.mem_append.mp (show some b ∈ (ρ1.cut S.length).pl ++ [some a] from z) with z | z
              · exact ok1.dis b hb' (List.mem_of_mem_take z)
              · have q : b = a := by simpa using z
                subst q; exact ok1.dis b hb' hmem
            · exact st1.same i b hi (hpl i b (by rw [← ok.len]; exact hi) e)
            · refine ⟨by simp [Ad.add, hlen], fun b e => ?_⟩
              rcases key e with z | z
              · omega
              · rw [z.2]
          · cases e
        · cases e
  · cases e
open Classical in
noncomputable def dDef (gv : Gv) (n N : Nat) (fb : FS) : Fn := fun ws S => if ws.length = n then (match fb (ws.map some ++ List.replicate (N - n) none) S with
  | some (.ok (.rt w), S1) => gv S w S1
  | some (.ok (.nx _), S1) => gv S (.d .non) S1
  | some (.error (x, _), S1) => if keepOk S S1 then some (.error x, S1.take S.length) else none
  | _ => none) else none
section
variable {P : Program} {w : World} {K : PySem.W.Frag} {mg : Str → Option Value} {base : Heap}
theorem env_start {ρ : Ad} {H : Hp} {N : List Str} : ∀ {ws : List W} {vs : List V}, RelWs K ρ H ws vs → EnvR K ρ H (ws.map some ++ List.replicate (N.length - ws.length) none) (L2.start N vs) := by
  intro ws vs r
  refine ⟨by simp [L2.start, r.length], fun i u h => ?_⟩
  by_cases hi : i < ws.length
  · rw [List.getElem?_append_left (by simpa using hi), List.getElem?_map] at h
    cases e : ws[i]? with
    | none => rw [e] at h; cases h
    | some x =>
      rw [e] at h
      cases h
      obtain ⟨v, e2, rv⟩ := r.get e
      refine ⟨v, ?_, rv⟩
      unfold L2.start
      rw [List.getElem?_append_left (by simpa [r.length] using (r.length ▸ hi)), List.getElem?_map, e2]
      rfl
  · rw [List.getElem?_append_right (by simpa using hi)] at h
    have := List.mem_of_getElem? h
    rw [List.mem_replicate] at this
    cases this.2
/-- what a context gives -/
structure Cf (X : Cx) (Wx : WX) (k : Nat) : Prop where
  calm : X.calm = true
  tk : Takes X Wx
  po : PassesOwn (model X.prog X.w) X.A X.env X.xe
  nd : X.N.Nodup
  room : Room k X.A
theorem cf_of {N : List Str} {qual : Str} {scope : Scope} {f : Addr} {cdv : Value} {A : Around} {outer : List Env} {s : Shared} {H : Hp} {E : XK} {k : Nat} (hr : Room k (A.deeper (envOfC qual scope s.heap.objs.size f cdv))) (nd : N.Nodup) :
    Cf (cxOf (L2.CX P w) P w K mg base N qual scope f cdv A outer s H E) (fun cls d _ H => E cls d H) k :=
  ⟨rfl, takes_of rfl rfl rfl rfl, passes_of rfl, nd, hr⟩
theorem fn_mk {x qual : Str} {params : Arguments} {body : List Stmt} {scope : Scope} {f : Addr} {fd : FuncData} {N ps : List Str} {k n : Nat} {fb : FS} {gv : Gv} (hgv : GiveOk K gv) (F : FunD K x qual params body scope [] [] f fd) (Sc : FnScope N ps scope) (hn : ps.length = n)
    (hbody : ∀ (cdv : Value) (A : Around) (outer : List Env) (s : Shared) (H : Hp) (E : XK), Cf (cxOf (L2.CX P w) P w K mg base N qual scope f cdv A outer s H E) (fun cls d _ H => E cls d H) k →
      PSs (cxOf (L2.CX P w) P w K mg base N qual scope f cdv A outer s H E) body (tS K (fun cls d _ H => E cls d H) fb)) :
    FnOk P w K mg base (L2.CX P w) (k + 1) f fd ps (spD K n (dDef gv n N.length fb)) := by
  refine F.ok Sc (fun vs H Q E h => h.1.trans hn.symm) (fun cdv A outer s H vs Q E hr h => ⟨_, hbody cdv A outer s H E (cf_of hr Sc.nd), ?_⟩)
  obtain ⟨hl, ws, S, ρ, r, S', rw', ok, e, c⟩ := h
  have hwn : ws.length = n := rw'.length.trans hl
  refine ⟨_, S, ρ, ok, env_start (N := N) rw', ?_⟩
  rw [hwn]
  unfold dDef at e
  rw [if_pos hwn] at e
  have give : ∀ {u : W} {S1 : Store}, gv S u S1 = some (r, S') → ∀ ρ1 H1, Ok K ρ1 S1 H1 → Step ρ H ρ1 H1 → ∀ v, RelW K ρ1 H1 u v → Q v H1 := by
    intro u S1 e ρ1 H1 ok1 st1 v rv
    obtain ⟨u', ρ', rfl, ok2, st2, rv2⟩ := hgv ρ H S ρ1 H1 S1 u r S' v ok ok1 st1 e rv
    exact c _ _ ok2 st2 v rv2
  split at e
  · rename_i u S1 e1
    exact ⟨_, _, e1, fun ρ1 H1 ok1 st1 v rv => give e ρ1 H1 ok1 st1 v rv⟩
  · rename_i δ S1 e1
    exact ⟨_, _, e1, fun ρ1 H1 ok1 st1 σ' en => give e ρ1 H1 ok1 st1 .non (by simp [RelW, RelD])⟩
  · rename_i x δ S1 e1
    split at e
    · rename_i kp
      cases e
      refine ⟨_, _, e1, fun ρ1 H1 ok1 st1 d σ' en hx => ?_⟩
      obtain ⟨ok2, st2⟩ := ok_cut ok ok1 st1 kp
      refine c _ _ ok2 st2 d ?_
      unfold ExR at hx ⊢
      cases d with
      | none => exact hx
      | some a =>
        obtain ⟨vs, h1, h2, h3, h4⟩ := hx
        exact ⟨vs, h1, cut_off h2, RelDs.sub (fun a z => cut_off z) _ _ h3, h4⟩
    · cases e
  · cases e
theorem fnD_mk {x qual : Str} {params : Arguments} {body : List Stmt} {scope : Scope} {f : Addr} {fd : FuncData} {N ps : List Str} {k n : Nat} {fb : FS} {gv : Gv} (hgv : GiveOk K gv) (F : FunD K x qual params body scope [] [] f fd) (hm : mg x = some (.ref f)) (Sc : FnScope N ps scope) (hn : ps.length = n)
    (hb : ∀ (kV doc pm : Value) (an : Option Addr) (cdv ct : Value) (us : List Value), us.length = ps.length → bindArgs (PySem.W.fnOf x qual params body scope .none kV doc pm an cdv ct) ⟨us, []⟩ = pure (ps.zip us))
    (hbody : ∀ (cdv : Value) (A : Around) (outer : List Env) (s : Shared) (H : Hp) (E : XK), Cf (cxOf (L2.CX P w) P w K mg base N qual scope f cdv A outer s H E) (fun cls d _ H => E cls d H) k →
      PSs (cxOf (L2.CX P w) P w K mg base N qual scope f cdv A outer s H E) body (tS K (fun cls d _ H => E cls d H) fb)) :
    FnD P w K mg base (k + 1) x n (dDef gv n N.length fb) := ⟨f, fd, ps, fn_mk hgv F Sc hn hbody, hm, F.kp, F.bindsN hb⟩
theorem FnD.as {k n : Nat} {x : Str} {g g' : Fn} (F : FnD P w K mg base k x n g) (e : g = g') : FnD P w K mg base k x n g' := e ▸ F
theorem FnD.up {k j n : Nat} {x : Str} {g : Fn} (F : FnD P w K mg base k x n g) (e : k ≤ j := by decide) : FnD P w K mg base j x n g := by
  obtain ⟨f, fd, ps, F, h⟩ := F.ex
  exact ⟨f, fd, ps, F.mono e, h⟩
/-- no exception leaves -/
theorem fn_noex {f : Addr} {fd : FuncData} {ps : List Str} {k : Nat} {sp : Sp} (F : FnOk P w K mg base (L2.CX P w) k f fd ps sp) : FnOk P w K mg base CX0 k f fd ps (fun vs H Q _ => sp vs H Q fun _ _ _ => False) :=
  ⟨fun vs H Q E h => F.len vs H Q _ h, fun A outer s H args us vs Q E hr he hb hv hs => codeAny_mono (F.run A outer s H args us vs Q _ hr he hb hv hs) fun r s' h => by
    cases r with
    | ok fl => cases fl <;> exact h
    | error e =>
      obtain ⟨_, _, _, _, _, _, _, _, _, _, _, _, z⟩ := (show L2.CX P w outer H s (fun _ _ _ => False) e s' from h)
      exact z.elim⟩
/-- the law's promise holds of every script -/
theorem law_sp {g : Fn} {a : Addr} {H : Hp} {ns : List Int} {S' : Store} (hO : SqL K H a (ns.map V.int)) (e : g [.d (.lst (ns.map D.int))] [] = some (.ok (.d (.bl true)), S')) :
    spD K 1 g [.ref a] H (fun v _ => v = .bl true) fun _ _ _ => False := by
  have rel : ∀ ns : List Int, RelDs K ⟨[], []⟩ H (ns.map D.int) (ns.map V.int) := by
    intro ns
    induction ns with
    | nil => show RelDs K _ H [] []; rw [RelDs]
    | cons n ns ih =>
      show RelDs K _ H (D.int n :: ns.map D.int) (V.int n :: ns.map V.int)
      rw [RelDs]
      exact ⟨_, _, rfl, by rw [RelD], ih⟩
  refine ⟨rfl, [.d (.lst (ns.map D.int))], [], ⟨[], []⟩, _, _, ⟨.ref a, [], rfl, ?_, rfl⟩, ⟨rfl, fun i j a e => by simp at e, fun n a e => by simp at e, fun n m e => by simp at e, fun a m => by simp at m, fun a m => by simp at m⟩, e, fun ρ' H' _ _ v r => by simpa [RelW, RelD] using r⟩
  show RelD K ⟨[], []⟩ H (.lst (ns.map D.int)) (.ref a)
  rw [RelD]
  refine ⟨a, ns.map V.int, rfl, ?_, rel ns⟩
  rcases hO with h | h
  · exact .inl ⟨h, by simp [Off]⟩
  · exact .inr h
end
end DL
set_option Elab.async false
set_option linter.all false
set_option maxRecDepth 100000
set_option maxHeartbeats 1000000
/-! DL8: is of truth values. -/
namespace DL
open PySem PySem.Spec PyProof.Rows L2
section
variable {X : Cx} {K : PySem.W.Frag} {Wx : WX}
/-- x is True, x is not True: both truth values -/
def oIsB : F2
  | .d (.bl a), .d (.bl b), S => some (.ok (.d (.bl (decide (a = b)))), S)
  | _, _, _ => none
def oNotB : F2
  | .d (.bl a), .d (.bl b), S => some (.ok (.d (.bl (!decide (a = b)))), S)
  | _, _, _ => none
theorem bl2_inv {P : Prop} (x y : W) (h : ∀ i j, x = .d (.bl i) → y = .d (.bl j) → P) (h' : (∀ i j, x = .d (.bl i) → y ≠ .d (.bl j)) → P) : P := by
  by_cases e : ∃ i j, x = .d (.bl i) ∧ y = .d (.bl j)
  · obtain ⟨i, j, e1, e2⟩ := e
    exact h i j e1 e2
  · exact h' fun i j e1 e2 => e ⟨i, j, e1, e2⟩
theorem oIsB_ok : OpF K Wx rIsB oIsB := by
  intro σ ρ S H x y a b Q ok rx ry q
  refine bl2_inv x y (fun i j e1 e2 => ?_) (fun hn => ?_)
  · subst e1 e2
    exact ⟨i, j, by simpa [RelW, RelD] using rx, by simpa [RelW, RelD] using ry, go_val ok q (by simp [RelW, RelD])⟩
  · have e : oIsB x y S = none := by
      unfold oIsB
      split
      · exact absurd rfl (hn _ _ rfl)
      · rfl
    rw [e] at q
    exact go_none q
theorem oNotB_ok : OpF K Wx rNotB oNotB := by
  intro σ ρ S H x y a b Q ok rx ry q
  refine bl2_inv x y (fun i j e1 e2 => ?_) (fun hn => ?_)
  · subst e1 e2
    exact ⟨i, j, by simpa [RelW, RelD] using rx, by simpa [RelW, RelD] using ry, go_val ok q (by simp [RelW, RelD])⟩
  · have e : oNotB x y S = none := by
      unfold oNotB
      split
      · exact absurd rfl (hn _ _ rfl)
      · rfl
    rw [e] at q
    exact go_none q
end
/-! what the built-in names stand for -/
theorem bt_int : bootBuiltins "int" = some (.type "int") := by decide +kernel
theorem bt_str : bootBuiltins "str" = some (.type "str") := by decide +kernel
theorem bt_bool : bootBuiltins "bool" = some (.type "bool") := by decide +kernel
theorem bt_list : bootBuiltins "list" = some (.type "list") := by decide +kernel
theorem bt_tuple : bootBuiltins "tuple" = some (.type "tuple") := by decide +kernel
theorem bt_dict : bootBuiltins "dict" = some (.type "dict") := by decide +kernel
theorem bt_isinstance : bootBuiltins "isinstance" = some (.builtin "isinstance") := by decide +kernel
theorem bt_abs : bootBuiltins "abs" = some (.builtin "abs") := by decide +kernel
theorem bt_len : bootBuiltins "len" = some (.builtin "len") := by decide +kernel
theorem bt_all : bootBuiltins "all" = some (.builtin "all") := by decide +kernel
theorem bt_any : bootBuiltins "any" = some (.builtin "any") := by decide +kernel
theorem bt_sum : bootBuiltins "sum" = some (.builtin "sum") := by decide +kernel
theorem bt_min : bootBuiltins "min" = some (.builtin "min") := by decide +kernel
theorem bt_max : bootBuiltins "max" = some (.builtin "max") := by decide +kernel
theorem bt_sorted : bootBuiltins "sorted" = some (.builtin "sorted") := by decide +kernel
theorem bt_repr : bootBuiltins "repr" = some (.builtin "repr") := by decide +kernel
theorem bt_ord : bootBuiltins "ord" = some (.builtin "ord") := by decide +kernel
end DL
set_option Elab.async false
set_option linter.all false
set_option maxRecDepth 100000
set_option maxHeartbeats 1000000
/-! DL9: how the functions are reckoned out. -/
namespace DL
open PySem L2
section
variable {α β : Type} {a : α} {S S1 : Store} {x : Ex} {δ δ1 : DEnv} {k : α → Store → Rs β} {ks : α → Store → Ss}
theorem bind_ok : Rs.bind (some (.ok a, S)) k = k a S := rfl
theorem bind_err : Rs.bind (some (.error x, S)) k = some (.error x, S) := rfl
theorem bind_congr {m m' : Rs α} (h : m = m') : Rs.bind m k = Rs.bind m' k := by rw [h]
theorem sE_ok : sE (some (.ok a, S)) δ ks = ks a S := rfl
theorem sE_err : sE (some (.error x, S)) δ ks = some (.error (x, δ), S) := rfl
theorem sE_congr {m m' : Rs α} (h : m = m') : sE m δ ks = sE m' δ ks := by rw [h]
def bnd (m : Ss) (g : FS) : Ss := match m with
  | some (.ok (.nx δ1), S1) => g δ1 S1
  | o => o
theorem bnd_nx {g : FS} : bnd (some (.ok (.nx δ), S)) g = g δ S := rfl
theorem bnd_rt {g : FS} {w : W} : bnd (some (.ok (.rt w), S)) g = some (.ok (.rt w), S) := rfl
theorem bnd_bk {g : FS} : bnd (some (.ok (.bk δ), S)) g = some (.ok (.bk δ), S) := rfl
theorem bnd_ct {g : FS} : bnd (some (.ok (.ct δ), S)) g = some (.ok (.ct δ), S) := rfl
theorem bnd_err {g : FS} {e : Ex × DEnv} : bnd (some (.error e, S)) g = some (.error e, S) := rfl
theorem bnd_congr {m m' : Ss} {g : FS} (h : m = m') : bnd m g = bnd m' g := by rw [h]
theorem sSeq_eq {f g : FS} : sSeq f g δ S = bnd (f δ S) g := rfl
open Classical in
noncomputable def dEnd (gv : Gv) (S : Store) (m : Ss) : Rs W := match m with
  | some (.ok (.rt w), S1) => gv S w S1
  | some (.ok (.nx _), S1) => gv S (.d .non) S1
  | some (.error (x, _), S1) => if keepOk S S1 then some (.error x, S1.take S.length) else none
  | _ => none
theorem dDef_eq {gv : Gv} {n N : Nat} {fb : FS} {ws : List W} (h : ws.length = n) : dDef gv n N fb ws S = dEnd gv S (fb (ws.map some ++ List.replicate (N - n) none) S) := by
  unfold dDef dEnd
  rw [if_pos h] <;> rfl
theorem dEnd_rt {gv : Gv} {w : W} : dEnd gv S (some (.ok (.rt w), S1)) = gv S w S1 := rfl
theorem dEnd_nx {gv : Gv} : dEnd gv S (some (.ok (.nx δ), S1)) = gv S (.d .non) S1 := rfl
theorem keepOk_app {T : Store} : keepOk S (S ++ T) := ⟨by simp, fun i m hi e => .inl (by rwa [List.getElem?_append_left hi] at e)⟩
theorem keepOk_same : keepOk S S := ⟨Nat.le_refl _, fun i m hi e => .inl e⟩
theorem dEnd_err {gv : Gv} : dEnd gv S (some (.error (x, δ), S)) = some (.error x, S) := by
  unfold dEnd
  dsimp only
  rw [if_pos keepOk_same, List.take_length]
theorem dEnd_errA {gv : Gv} {T : Store} : dEnd gv S (some (.error (x, δ), S ++ T)) = some (.error x, S) := by
  unfold dEnd
  dsimp only
  rw [if_pos keepOk_app, List.take_left]
theorem giveS_d {x : D} : giveS S (.d x) S = some (.ok (.d x), S) := by
  unfold giveS
  rw [if_pos keepOk_same, List.take_length]
  rfl
theorem giveS_dA {x : D} {T : Store} : giveS S (.d x) (S ++ T) = some (.ok (.d x), S) := by
  unfold giveS
  rw [if_pos keepOk_app, List.take_left]
  rfl
/-- the first place alone has changed, what stands there is data -/
theorem keepOk_hd {m m' : M} {T U : Store} (h : mBelow (m :: T).length m') : keepOk (m :: T) (m' :: (T ++ U)) := ⟨by simp, fun i q hi e => by
  cases i with
  | zero => simp at e; subst e; exact .inr h
  | succ i => exact .inl (by simp at hi; simpa [List.getElem?_append_left hi] using e)⟩
theorem giveS_hd {x : D} {m m' : M} {T U : Store} (h : mBelow (m :: T).length m') : giveS (m :: T) (.d x) (m' :: (T ++ U)) = some (.ok (.d x), m' :: T) := by
  unfold giveS
  rw [if_pos (keepOk_hd h)]
  simp [giveW, List.take_left]
theorem giveS_hd0 {x : D} {m m' : M} {T : Store} (h : mBelow (m :: T).length m') : giveS (m :: T) (.d x) (m' :: T) = some (.ok (.d x), m' :: T) := by
  have e := giveS_hd (x := x) (U := []) h
  rwa [List.append_nil] at e
theorem giveM_new {ws : List W} (h : ∀ w ∈ ws, wBelow S.length w) : giveM S (.loc S.length) (S ++ [.lst ws]) = some (.ok (.loc S.length), S ++ [.lst ws]) := by
  unfold giveM
  rw [if_pos keepOk_app]
  have e : (S ++ [M.lst ws])[S.length]? = some (.lst ws) := by simp
  simp only [if_neg (Nat.lt_irrefl _), e, if_pos h, List.take_left]
end
section
variable {δ : DEnv} {S : Store} {w : W}
theorem dVar_eq {i : Nat} (h : δ[i]? = some (some w)) : dVar i δ S = some (.ok w, S) := by unfold dVar; rw [h]
theorem truth_bl {b : Bool} : truth (.d (.bl b)) S = some (.ok b, S) := rfl
theorem asB_bl {b : Bool} : asB (.d (.bl b)) S = some (.ok b, S) := rfl
theorem oI0_eq {g : Int → Int → D} {i j : Int} : oI0 g (.d (.int i)) (.d (.int j)) S = some (.ok (.d (g i j)), S) := rfl
theorem oII_eq {C : Int → Int → Prop} [∀ i j, Decidable (C i j)] {g : Int → Int → D} {i j : Int} (h : C i j) : oII C g (.d (.int i)) (.d (.int j)) S = some (.ok (.d (g i j)), S) := by
  show (if C i j then _ else _) = _
  rw [if_pos h]
theorem isi_ii : isiB "int" "int" = some true := by decide
theorem isi_ib : isiB "int" "bool" = some false := by decide
theorem isi_it : isiB "int" "tuple" = some false := by decide
theorem isi_tt : isiB "tuple" "tuple" = some true := by decide
theorem isi_ti : isiB "tuple" "int" = some false := by decide
theorem isi_tb : isiB "tuple" "bool" = some false := by decide
end
end DL
set_option Elab.async false
set_option linter.all false
set_option maxRecDepth 100000
set_option maxHeartbeats 1000000
/-! DL10: plain facts: equality of data, comprehensions, fractions in lowest terms. -/
namespace DL
open PySem L2
/-! ### equality -/
/-- ints in tuples and lists, at most so deep -/
def intD : Nat → D → Bool
  | _, .int _ => true
  | n + 1, .tup ds => ds.attach.all fun d => intD n d.1
  | n + 1, .lst ds => ds.attach.all fun d => intD n d.1
  | _, _ => false
theorem depthAll_le {n : Nat} : ∀ {ps : List PyData}, (∀ p ∈ ps, p.depth ≤ n) → PyData.depthAll ps ≤ n
  | [], _ => by simp [PyData.depthAll]
  | p :: ps, h => by
    have h1 := h p List.mem_cons_self
    have h2 := depthAll_le fun q hq => h q (List.mem_cons_of_mem _ hq)
    simp [PyData.depthAll]
    omega
theorem toPs_of : ∀ {ds : List D} {f : D → PyData}, (∀ d ∈ ds, toP d = some (f d)) → toPs ds = some (ds.map f)
  | [], _, _ => rfl
  | d :: ds, f, h => by
    rw [toPs, h d List.mem_cons_self, toPs_of fun e he => h e (List.mem_cons_of_mem _ he)]
    rfl
theorem canAll_of : ∀ {ps : List PyData}, (∀ p ∈ ps, p.canLay0 = true) → PyData.canLayAll0 ps = true
  | [], _ => rfl
  | p :: ps, h => by
    rw [PyData.canLayAll0, h p List.mem_cons_self, canAll_of fun q hq => h q (List.mem_cons_of_mem _ hq)]
    rfl
theorem eqvAll_refl : ∀ {ps : List PyData}, (∀ p ∈ ps, PyData.eqv p p = true) → PyData.eqvAll ps ps = true
  | [], _ => by simp [PyData.eqvAll]
  | p :: ps, h => by
    rw [PyData.eqvAll, h p List.mem_cons_self, eqvAll_refl fun q hq => h q (List.mem_cons_of_mem _ hq)]
    rfl
/-- what is to be known of data that is compared with itself -/
def Pl (n : Nat) (d : D) : Prop := ∃ p, toP d = some p ∧ p.canLay0 = true ∧ p.depth ≤ n ∧ PyData.eqv p p = true
theorem pl_int (i : Int) : Pl 0 (.int i) := ⟨.int i, by rw [toP], rfl, by simp [PyData.depth], by simp [PyData.eqv]⟩
theorem pl_bl (i : Bool) : Pl 0 (.bl i) := ⟨.bool i, by rw [toP], rfl, by simp [PyData.depth], by simp [PyData.eqv]⟩
theorem pl_non : Pl 0 .non := ⟨.none, by rw [toP], rfl, by simp [PyData.depth], by simp [PyData.eqv]⟩
theorem Pl.up {n m : Nat} {d : D} (h : Pl n d) (hm : n ≤ m) : Pl m d := by
  obtain ⟨p, h1, h2, h3, h4⟩ := h
  exact ⟨p, h1, h2, by omega, h4⟩
theorem pls_of {n : Nat} {ds : List D} (h : ∀ d ∈ ds, Pl n d) : ∃ ps, toPs ds = some ps ∧ PyData.canLayAll0 ps = true ∧ PyData.depthAll ps ≤ n ∧ PyData.eqvAll ps ps = true := by
  induction ds with
  | nil => exact ⟨[], by rw [toPs], rfl, by simp [PyData.depthAll], by simp [PyData.eqvAll]⟩
  | cons d ds ih =>
    obtain ⟨p, h1, h2, h3, h4⟩ := h d List.mem_cons_self
    obtain ⟨ps, g1, g2, g3, g4⟩ := ih fun e he => h e (List.mem_cons_of_mem _ he)
    refine ⟨p :: ps, by simp [toPs, h1, g1], by rw [PyData.canLayAll0, h2, g2]; rfl, ?_, by rw [PyData.eqvAll, h4, g4]; rfl⟩
    simp [PyData.depthAll]
    omega
theorem pl_tup {n : Nat} {ds : List D} (h : ∀ d ∈ ds, Pl n d) : Pl (n + 1) (.tup ds) := by
  obtain ⟨ps, g1, g2, g3, g4⟩ := pls_of h
  exact ⟨.tuple ps, by rw [toP, g1]; rfl, by simpa [PyData.canLay0] using g2, by simp [PyData.depth]; omega, by simpa [PyData.eqv] using g4⟩
theorem pl_lst {n : Nat} {ds : List D} (h : ∀ d ∈ ds, Pl n d) : Pl (n + 1) (.lst ds) := by
  obtain ⟨ps, g1, g2, g3, g4⟩ := pls_of h
  exact ⟨.list ps, by rw [toP, g1]; rfl, by simpa [PyData.canLay0] using g2, by simp [PyData.depth]; omega, by simpa [PyData.eqv] using g4⟩
theorem eqW_refl {n : Nat} {d : D} (h : Pl n d) (hn : n ≤ 64) : eqW (.d d) (.d d) = some true := by
  obtain ⟨p, h1, h2, h3, h4⟩ := h
  have s : SeqAt.shaped p = true := by simp [SeqAt.shaped, h2]; omega
  simp [eqW, h1, s, h4]
theorem eqW_int (i j : Int) : eqW (.d (.int i)) (.d (.int j)) = some (i == j) := by
  have s : ∀ i, SeqAt.shaped (.int i) = true := fun i => by simp [SeqAt.shaped, PyData.canLay0, PyData.depth]
  simp [eqW, toP, s, PyData.eqv]
theorem oEq_int {S : Store} (i j : Int) : oEq (.d (.int i)) (.d (.int j)) S = some (.ok (.d (.bl (i == j))), S) := by simp [oEq, eqW_int]
theorem oNe_int {S : Store} (i j : Int) : oNe (.d (.int i)) (.d (.int j)) S = some (.ok (.d (.bl (!(i == j)))), S) := by simp [oNe, eqW_int]
theorem oEq_refl {S : Store} {n : Nat} {d : D} (h : Pl n d) (hn : n ≤ 64) : oEq (.d d) (.d d) S = some (.ok (.d (.bl true)), S) := by simp [oEq, eqW_refl h hn]
theorem oNe_refl {S : Store} {n : Nat} {d : D} (h : Pl n d) (hn : n ≤ 64) : oNe (.d d) (.d d) S = some (.ok (.d (.bl false)), S) := by simp [oNe, eqW_refl h hn]

/-! ### comprehensions -/
theorem okG_no {S : Store} : okG none S := fun _ e => nomatch e
/-- no element is left out, nothing is changed -/
theorem lcL_map {tf : Tg} {fe : FE} {δ : DEnv} {S : Store} {f : W → W} : ∀ {ws acc : List W}, (∀ w ∈ ws, ∃ δ1, tf w δ S = some (δ1, S) ∧ fe δ1 S = some (.ok (f w), S)) →
    lcL tf ftYes fe none δ ws S acc = some (.ok (acc ++ ws.map f), S)
  | [], acc, _ => by unfold lcL; rw [if_pos okG_no]; simp
  | w :: ws, acc, h => by
    obtain ⟨δ1, h1, h2⟩ := h w List.mem_cons_self
    unfold lcL
    rw [if_pos okG_no]
    simp only [h1, ftYes, h2]
    rw [lcL_map fun u hu => h u (List.mem_cons_of_mem _ hu)]
    simp
/-- each element changes the first place -/
theorem lcL_thread {tf : Tg} {fe : FE} {δ : DEnv} {T : Store} {Pm : M → Prop} {Pd : D → Prop} : ∀ {ws acc : List W} {m : M}, Pm m → (∀ w ∈ ws, ∀ m, Pm m → ∃ δ1 d m', tf w δ (m :: T) = some (δ1, m :: T) ∧ fe δ1 (m :: T) = some (.ok (.d d), m' :: T) ∧ Pm m' ∧ Pd d) →
    ∃ (ds : List D) (m' : M), lcL tf ftYes fe none δ ws (m :: T) acc = some (.ok (acc ++ ds.map W.d), m' :: T) ∧ Pm m' ∧ ds.length = ws.length ∧ ∀ d ∈ ds, Pd d
  | [], acc, m, hm, _ => ⟨[], m, by unfold lcL; rw [if_pos okG_no]; simp, hm, rfl, by simp⟩
  | w :: ws, acc, m, hm, h => by
    obtain ⟨δ1, d, m', h1, h2, h3, h4⟩ := h w List.mem_cons_self m hm
    obtain ⟨ds, m2, e, g1, g2, g3⟩ := lcL_thread (acc := acc ++ [.d d]) h3 fun u hu => h u (List.mem_cons_of_mem _ hu)
    refine ⟨d :: ds, m2, ?_, g1, by simp [g2], fun x hx => ?_⟩
    · unfold lcL
      rw [if_pos okG_no]
      simp only [h1, ftYes, h2]
      rw [e]
      simp
    · rcases List.mem_cons.mp hx with hx | hx
      · rw [hx]; exact h4
      · exact g3 x hx
theorem pureMap {α : Type} (f : α → D) (xs : List α) : pure? (xs.map fun x => W.d (f x)) = some (xs.map f) := by
  have e : (xs.map fun x => W.d (f x)) = (xs.map f).map W.d := by simp
  rw [e, pure?_map]
theorem boolsMap {α : Type} (f : α → Bool) (xs : List α) : bools? (xs.map fun x => W.d (.bl (f x))) = some (xs.map f) := by
  induction xs with
  | nil => rfl
  | cons x xs ih =>
    show (bools? (xs.map fun x => W.d (.bl (f x)))).map _ = _
    rw [ih]; rfl

theorem dLc_map {α : Type} {fi : FI} {tf : Tg} {fe : FE} {vs : List Nat} {δ : DEnv} {S : Store} {xs : List α} {wf : α → W} {f : α → D} (hi : fi δ S = some (.ok (xs.map wf, none), S)) (hl : xs.length ≤ 1000)
    (h : ∀ x ∈ xs, ∃ δ1, tf (wf x) (wipeE δ vs) S = some (δ1, S) ∧ fe δ1 S = some (.ok (.d (f x)), S)) : dLc lcF fi tf ftYes fe vs δ S = some (.ok (.d (.lst (xs.map f))), S) := by
  have hz : (xs.map wf).length ≤ sizeLine := by simp; exact Nat.le_trans hl (by decide)
  have e : ∀ (ys : List α) (acc : List W), (∀ x ∈ ys, x ∈ xs) → lcL tf ftYes fe none (wipeE δ vs) (ys.map wf) S acc = some (.ok (acc ++ ys.map fun x => W.d (f x)), S) := by
    intro ys
    induction ys with
    | nil => intro acc _; show lcL tf ftYes fe none (wipeE δ vs) [] S acc = _; unfold lcL; rw [if_pos okG_no]; simp
    | cons y ys ih =>
      intro acc hm
      obtain ⟨δ1, h1, h2⟩ := h y (hm y List.mem_cons_self)
      show lcL tf ftYes fe none (wipeE δ vs) (wf y :: ys.map wf) S acc = _
      unfold lcL
      rw [if_pos okG_no]
      simp only [h1, ftYes, h2]
      rw [ih _ fun x hx => hm x (List.mem_cons_of_mem _ hx)]
      simp
  unfold dLc
  rw [hi, bind_ok]
  dsimp only
  rw [if_pos hz, e xs [] fun _ h => h, bind_ok, List.nil_append]
  unfold lcF
  rw [pureMap]
/-! ### fractions in lowest terms -/
/-- of so many bits -/
def Bd (n : Nat) (i : Int) : Prop := i.natAbs < 2 ^ n
instance (n : Nat) (i : Int) : Decidable (Bd n i) := by unfold Bd; infer_instance
theorem Bd.up {n m : Nat} {i : Int} (h : Bd n i) (hm : n ≤ m) : Bd m i := Nat.lt_of_lt_of_le h (Nat.pow_le_pow_right (by decide) hm)
theorem Bd.mul {n m : Nat} {i j : Int} (h : Bd n i) (h2 : Bd m j) : Bd (n + m) (i * j) := wide_lt h h2
theorem Bd.add {n : Nat} {i j : Int} (h : Bd n i) (h2 : Bd n j) : Bd (n + 1) (i + j) := by
  have h1 := Int.natAbs_add_le i j
  unfold Bd at *
  rw [Nat.pow_succ]
  omega
theorem Bd.neg {n : Nat} {i : Int} (h : Bd n i) : Bd n (-i) := by unfold Bd at *; rw [Int.natAbs_neg]; exact h
theorem Bd.sub {n : Nat} {i j : Int} (h : Bd n i) (h2 : Bd n j) : Bd (n + 1) (i - j) := by rw [Int.sub_eq_add_neg]; exact h.add h2.neg
theorem Bd.le {n : Nat} {i j : Int} (h : Bd n j) (h1 : i.natAbs ≤ j.natAbs) : Bd n i := Nat.lt_of_le_of_lt h1 h
theorem Bd.mulOk {n m : Nat} {i j : Int} (h : Bd n i) (h2 : Bd m j) (h0 : 0 < n := by decide) (h1 : 0 < m := by decide) (h3 : n + m ≤ 1000000 := by decide) : CMulW i j := wide_mul h h2 h0 h1 h3
def gcd (a b : Int) : Int := (Int.gcd a b : Int)
def low (t b : Int) : Int × Int := (t / gcd t b, b / gcd t b)
def Fr (p : Int × Int) : Prop := 0 < p.2 ∧ Int.gcd p.1 p.2 = 1
def encF (p : Int × Int) : D := .tup [.int p.1, .int p.2]
theorem gcd_pos {t b : Int} (h : 0 < b) : 0 < gcd t b := by
  have : 0 < Int.gcd t b := Int.gcd_pos_of_ne_zero_right t (by omega)
  unfold gcd; omega
theorem gcd_le {t b : Int} (h : 0 < b) : gcd t b ≤ b := Int.le_of_dvd h (Int.gcd_dvd_right t b)
theorem low_pos {t b : Int} (h : 0 < b) : 0 < (low t b).2 := by
  have h1 : (low t b).2 * gcd t b = b := Int.ediv_mul_cancel (Int.gcd_dvd_right t b)
  have h2 := gcd_pos (t := t) h
  rcases Int.lt_trichotomy (low t b).2 0 with h3 | h3 | h3
  · have := Int.mul_neg_of_neg_of_pos h3 h2; omega
  · rw [h3] at h1; omega
  · exact h3
theorem low_fr {t b : Int} (h : 0 < b) : Fr (low t b) := ⟨low_pos h, Int.gcd_ediv_gcd_ediv_gcd (Int.gcd_pos_of_ne_zero_right t (by omega))⟩
theorem low_mul {t b : Int} : (low t b).1 * b = t * (low t b).2 := by
  have h1 : (low t b).2 * gcd t b = b := Int.ediv_mul_cancel (Int.gcd_dvd_right t b)
  have h2 : (low t b).1 * gcd t b = t := Int.ediv_mul_cancel (Int.gcd_dvd_left t b)
  calc (low t b).1 * b = (low t b).1 * ((low t b).2 * gcd t b) := by rw [h1]
    _ = ((low t b).1 * gcd t b) * (low t b).2 := by grind
    _ = t * (low t b).2 := by rw [h2]
theorem fr_uniq {p q : Int × Int} (hp : Fr p) (hq : Fr q) (e : p.1 * q.2 = q.1 * p.2) : p = q := by
  have cop : ∀ {a b c : Int}, Int.gcd a b = 1 → b ∣ a * c → b ∣ c := fun {a b c} h hd => by
    have h1 : b.natAbs ∣ a.natAbs * c.natAbs := by rw [← Int.natAbs_mul]; exact Int.natAbs_dvd_natAbs.mpr hd
    have h2 : Nat.Coprime b.natAbs a.natAbs := by
      have : Nat.gcd a.natAbs b.natAbs = 1 := h
      rw [Nat.Coprime, Nat.gcd_comm]; exact this
    exact Int.natAbs_dvd_natAbs.mp (Nat.Coprime.dvd_of_dvd_mul_left h2 h1)
  have d1 : p.2 ∣ q.2 := cop hp.2 ⟨q.1, by rw [e]; exact Int.mul_comm _ _⟩
  have d2 : q.2 ∣ p.2 := cop hq.2 ⟨p.1, by rw [← e]; exact Int.mul_comm _ _⟩
  have e2 : p.2 = q.2 := Int.dvd_antisymm (by have := hp.1; omega) (by have := hq.1; omega) d1 d2
  have e1 : p.1 = q.1 := by
    rw [e2] at e
    exact Int.eq_of_mul_eq_mul_right (by have := hq.1; omega) e
  exact Prod.ext e1 e2
theorem low_id {p : Int × Int} (h : Fr p) : low p.1 p.2 = p := fr_uniq (low_fr h.1) h low_mul
theorem low_eq {t b t' b' : Int} (h : 0 < b) (h' : 0 < b') (e : t * b' = t' * b) : low t b = low t' b' := by
  refine fr_uniq (low_fr h) (low_fr h') ?_
  have e1 : (low t b).1 * b = t * (low t b).2 := low_mul
  have e2 : (low t' b').1 * b' = t' * (low t' b').2 := low_mul
  have e3 : ((low t b).1 * (low t' b').2) * (b * b') = ((low t' b').1 * (low t b).2) * (b * b') := by
    calc ((low t b).1 * (low t' b').2) * (b * b') = ((low t b).1 * b) * ((low t' b').2 * b') := by grind
      _ = (t * b') * ((low t b).2 * (low t' b').2) := by rw [e1]; grind
      _ = (t' * b) * ((low t b).2 * (low t' b').2) := by rw [e]
      _ = (t' * (low t' b').2) * ((low t b).2 * b) := by grind
      _ = ((low t' b').1 * b') * ((low t b).2 * b) := by rw [e2]
      _ = ((low t' b').1 * (low t b).2) * (b * b') := by grind
  exact Int.eq_of_mul_eq_mul_right (by have := Int.mul_pos h h'; omega) e3
theorem low_bd {t b : Int} {n m : Nat} (h1 : Bd n t) (h2 : Bd m b) : Bd n (low t b).1 ∧ Bd m (low t b).2 := ⟨h1.le (Int.natAbs_ediv_le_natAbs _ _), h2.le (Int.natAbs_ediv_le_natAbs _ _)⟩
theorem gcd_div {t b : Int} {n : Nat} (h : 0 < b) (hb : Bd n b) (h0 : 0 < n := by decide) (h9 : n ≤ 9000 := by decide) (i : Int) : CDivW i (gcd t b) := by
  refine wide_div (gcd_pos h) ?_ h0 h9
  have h1 := gcd_pos (t := t) h
  have h2 := gcd_le (t := t) h
  exact hb.le (by omega)
/-! ### the loop of remainders -/
def gcdT (i j : Nat) : FT := dB (d2 oGt (dVar j) (dC (.int 0)))
theorem gcd_loop {S : Store} : ∀ (n : Nat) (a b : Nat), b ≤ n → whileN (dB (d2 oGt (dVar 1) (dC (.int 0)))) (sPar 0 1 (dVar 1) (d2 oMod (dVar 0) (dVar 1))) (n + 1) [some (.d (.int a)), some (.d (.int b))] S = some (.ok (.nx [some (.d (.int (Nat.gcd a b : Nat))), some (.d (.int 0))]), S)
  | n, a, 0, _ => by simp [whileN, sE, dB, d2, dVar, dC, Rs.bind, oI0, asB]
  | 0, a, b + 1, h => by omega
  | n + 1, a, b + 1, h => by
    have hlt : a % (b + 1) < b + 1 := Nat.mod_lt a (by omega)
    have ih := gcd_loop (S := S) n (b + 1) (a % (b + 1)) (by omega)
    have hpos : (0 : Int) < ((b + 1 : Nat) : Int) := by omega
    rw [whileN]
    have e1 : (dB (d2 oGt (dVar 1) (dC (.int 0)))) [some (.d (.int (a : Int))), some (.d (.int ((b + 1 : Nat) : Int)))] S = some (.ok true, S) := by
      simp only [dB, d2, dVar, dC, Rs.bind, oI0, asB, List.getElem?_cons_succ, List.getElem?_cons_zero, decide_eq_true hpos]
    rw [e1]
    have e2 : sPar 0 1 (dVar 1) (d2 oMod (dVar 0) (dVar 1)) [some (.d (.int (a : Int))), some (.d (.int ((b + 1 : Nat) : Int)))] S = some (.ok (.nx [some (.d (.int ((b + 1 : Nat) : Int))), some (.d (.int ((a % (b + 1) : Nat) : Int)))]), S) := by
      simp only [sPar, sE, d2, dVar, Rs.bind, List.getElem?_cons_succ, List.getElem?_cons_zero, oII_eq (C := fun _ j => 0 < j) hpos, List.set_cons_zero, List.set_cons_succ]
      rfl
    simp only [sE, if_true, e2]
    rw [ih]
    have e3 : Nat.gcd (b + 1) (a % (b + 1)) = Nat.gcd a (b + 1) := by rw [Nat.gcd_comm, ← Nat.gcd_rec, Nat.gcd_comm]
    rw [e3]
theorem gcd_while {S : Store} (a b : Nat) : dWhile (dB (d2 oGt (dVar 1) (dC (.int 0)))) (sPar 0 1 (dVar 1) (d2 oMod (dVar 0) (dVar 1))) [some (.d (.int a)), some (.d (.int b))] S = some (.ok (.nx [some (.d (.int (Nat.gcd a b : Nat))), some (.d (.int 0))]), S) :=
  dWhile_of (gcd_loop b a b (Nat.le_refl b))
theorem abs_nat (i : Int) : (if i < 0 then -i else i) = (i.natAbs : Int) := by split <;> omega
end DL
set_option Elab.async false
set_option linter.all false
set_option maxRecDepth 100000
set_option maxHeartbeats 1000000
/-! DL11: small reckonings: written tuples and lists, items, lengths, the law's state. -/
namespace DL
open PySem L2
section
variable {S : Store} {a b c d e : D}
theorem mkTup1 : mkTup [.d a] S = some (.ok (.d (.tup [a])), S) := rfl
theorem mkTup2 : mkTup [.d a, .d b] S = some (.ok (.d (.tup [a, b])), S) := rfl
theorem mkTup3 : mkTup [.d a, .d b, .d c] S = some (.ok (.d (.tup [a, b, c])), S) := rfl
theorem mkTup4 : mkTup [.d a, .d b, .d c, .d d] S = some (.ok (.d (.tup [a, b, c, d])), S) := rfl
theorem mkLst2 : mkLst [.d a, .d b] S = some (.ok (.d (.lst [a, b])), S) := rfl
theorem mkLst3 : mkLst [.d a, .d b, .d c] S = some (.ok (.d (.lst [a, b, c])), S) := rfl
theorem mkLst4 : mkLst [.d a, .d b, .d c, .d d] S = some (.ok (.d (.lst [a, b, c, d])), S) := rfl
theorem mkLst5 : mkLst [.d a, .d b, .d c, .d d, .d e] S = some (.ok (.d (.lst [a, b, c, d, e])), S) := rfl
theorem ix20 : oIx (.d (.tup [a, b])) (.d (.int 0)) S = some (.ok (.d a), S) := rfl
theorem ix21 : oIx (.d (.tup [a, b])) (.d (.int 1)) S = some (.ok (.d b), S) := rfl
theorem ixF0 {p : Int × Int} : oIx (.d (encF p)) (.d (.int 0)) S = some (.ok (.d (.int p.1)), S) := rfl
theorem ixF1 {p : Int × Int} : oIx (.d (encF p)) (.d (.int 1)) S = some (.ok (.d (.int p.2)), S) := rfl
theorem len_tup {ds : List D} : oLen (.d (.tup ds)) S = some (.ok (.d (.int (ds.length : Int))), S) := by simp [oLen, seqW]
theorem len_lst {ds : List D} : oLen (.d (.lst ds)) S = some (.ok (.d (.int (ds.length : Int))), S) := by simp [oLen, seqW]
theorem ty_int {i : Int} : tyN S (.d (.int i)) = some "int" := rfl
theorem ty_bl {i : Bool} : tyN S (.d (.bl i)) = some "bool" := rfl
theorem ty_str {i : Str} : tyN S (.d (.str i)) = some "str" := rfl
theorem ty_non : tyN S (.d .non) = some "NoneType" := rfl
theorem ty_tup {i : List D} : tyN S (.d (.tup i)) = some "tuple" := rfl
theorem ty_lst {i : List D} : tyN S (.d (.lst i)) = some "list" := rfl
theorem lenF {p : Int × Int} : oLen (.d (encF p)) S = some (.ok (.d (.int 2)), S) := rfl
theorem tyF {p : Int × Int} : tyN S (.d (encF p)) = some "tuple" := rfl
theorem dSeq_tup {f : FE} {δ : DEnv} {S1 : Store} {ds : List D} (h : f δ S = some (.ok (.d (.tup ds)), S1)) : dSeq f δ S = some (.ok (ds.map W.d, none), S1) := by
  unfold dSeq; rw [h]; rfl
theorem dSeq_lst {f : FE} {δ : DEnv} {S1 : Store} {ds : List D} (h : f δ S = some (.ok (.d (.lst ds)), S1)) : dSeq f δ S = some (.ok (ds.map W.d, none), S1) := by
  unfold dSeq; rw [h]; rfl
theorem tuple_lst {ds : List D} : oTuple (.d (.lst ds)) S = some (.ok (.d (.tup ds)), S) := by simp [oTuple, seqW, pure?_map]
theorem list_lst {ds : List D} : oList (.d (.lst ds)) S = some (.ok (.d (.lst ds)), S) := by simp [oList, seqW, pure?_map]
theorem all_lst {α : Type} (f : α → Bool) (xs : List α) : oAll (.d (.lst (xs.map fun x => D.bl (f x)))) S = some (.ok (.d (.bl (xs.all f))), S) := by
  have e : List.map W.d (xs.map fun x => D.bl (f x)) = xs.map fun x => W.d (.bl (f x)) := by simp
  simp only [oAll, seqW, e, boolsMap]
  congr 4
  simp [List.all_map, Function.comp_def]
end
theorem oMul_eq {S : Store} {i j : Int} (h : CMulW i j) : oMul (.d (.int i)) (.d (.int j)) S = some (.ok (.d (.int (i * j))), S) := oII_eq h
theorem oDiv_eq {S : Store} {i j : Int} (h : CDivW i j) : oDiv (.d (.int i)) (.d (.int j)) S = some (.ok (.d (.int (i / j))), S) := oII_eq h
theorem oMod_eq {S : Store} {i j : Int} (h : 0 < j) : oMod (.d (.int i)) (.d (.int j)) S = some (.ok (.d (.int (i % j))), S) := oII_eq (C := fun _ j => 0 < j) h
theorem oPow_eq {S : Store} {i j : Int} (h : CPow i j) : oPow (.d (.int i)) (.d (.int j)) S = some (.ok (.d (.int (i ^ j.toNat))), S) := oII_eq h
theorem bd_nn {n : Nat} {i : Int} (h : 0 ≤ i) (h2 : i < 2 ^ n) : Bd n i := by
  have e : ((2 ^ n : Nat) : Int) = 2 ^ n := by simp
  unfold Bd
  omega
theorem pl_encF (p : Int × Int) : Pl 1 (encF p) := pl_tup fun d hd => by
  simp at hd
  rcases hd with rfl | rfl
  · exact pl_int _
  · exact pl_int _
theorem oEqF {S : Store} {p : Int × Int} : oEq (.d (encF p)) (.d (encF p)) S = some (.ok (.d (.bl true)), S) := oEq_refl (pl_encF p) (by decide)
/-- a unit -/
def encU (us : List (Int × Int)) : D := .tup (us.map encF)
theorem pl_encU (us : List (Int × Int)) : Pl 2 (encU us) := pl_tup fun d hd => by
  obtain ⟨p, _, rfl⟩ := List.mem_map.mp hd
  exact pl_encF p
theorem oEqU {S : Store} {us : List (Int × Int)} : oEq (.d (encU us)) (.d (encU us)) S = some (.ok (.d (.bl true)), S) := oEq_refl (pl_encU us) (by decide)
theorem oNeU {S : Store} {us : List (Int × Int)} : oNe (.d (encU us)) (.d (encU us)) S = some (.ok (.d (.bl false)), S) := oNe_refl (pl_encU us) (by decide)
theorem lenU {S : Store} {us : List (Int × Int)} : oLen (.d (encU us)) S = some (.ok (.d (.int (us.length : Int))), S) := by unfold encU; rw [len_tup]; simp
theorem tyU {S : Store} {us : List (Int × Int)} : tyN S (.d (encU us)) = some "tuple" := rfl
theorem seqU {f : FE} {δ : DEnv} {S S1 : Store} {us : List (Int × Int)} (h : f δ S = some (.ok (.d (encU us)), S1)) : dSeq f δ S = some (.ok (us.map fun p => W.d (encF p), none), S1) := by
  rw [dSeq_tup (ds := us.map encF) h]; simp
theorem zipU {S : Store} {us vs : List (Int × Int)} : oZip [.d (encU us), .d (encU vs)] S = some (.ok ((us.zip vs).map fun p => W.d (.tup [encF p.1, encF p.2]), none), S) := by
  show some (Except.ok (zipD (us.map encF) (vs.map encF), none), S) = _
  simp [zipD, List.zip_map]
/-- a fraction of so many bits -/
structure FrB (n : Nat) (p : Int × Int) : Prop where
  fr : Fr p
  b1 : Bd n p.1
  b2 : Bd n p.2
theorem FrB.up {n m : Nat} {p : Int × Int} (h : FrB n p) (hm : n ≤ m) : FrB m p := ⟨h.fr, h.b1.up hm, h.b2.up hm⟩
def fplus (x y : Int × Int) : Int × Int := low (x.1 * y.2 + y.1 * x.2) (x.2 * y.2)
def fminus (x y : Int × Int) : Int × Int := low (x.1 * y.2 - y.1 * x.2) (x.2 * y.2)
def ftimes (x y : Int × Int) : Int × Int := low (x.1 * y.1) (x.2 * y.2)
theorem pos2 {x y : Int × Int} (hx : Fr x) (hy : Fr y) : 0 < x.2 * y.2 := Int.mul_pos hx.1 hy.1
theorem fplus_ok {n m : Nat} {x y : Int × Int} (hx : FrB n x) (hy : FrB m y) : FrB (n + m + 1) (fplus x y) := by
  have h := low_bd (t := x.1 * y.2 + y.1 * x.2) (b := x.2 * y.2) ((hx.b1.mul hy.b2).add (by have := hy.b1.mul hx.b2; rwa [Nat.add_comm] at this)) ((hx.b2.mul hy.b2).up (Nat.le_succ _))
  exact ⟨low_fr (pos2 hx.fr hy.fr), h.1, h.2⟩
theorem fminus_ok {n m : Nat} {x y : Int × Int} (hx : FrB n x) (hy : FrB m y) : FrB (n + m + 1) (fminus x y) := by
  have h := low_bd (t := x.1 * y.2 - y.1 * x.2) (b := x.2 * y.2) ((hx.b1.mul hy.b2).sub (by have := hy.b1.mul hx.b2; rwa [Nat.add_comm] at this)) ((hx.b2.mul hy.b2).up (Nat.le_succ _))
  exact ⟨low_fr (pos2 hx.fr hy.fr), h.1, h.2⟩
theorem ftimes_ok {n m : Nat} {x y : Int × Int} (hx : FrB n x) (hy : FrB m y) : FrB (n + m) (ftimes x y) := by
  have h := low_bd (t := x.1 * y.1) (b := x.2 * y.2) (hx.b1.mul hy.b1) (hx.b2.mul hy.b2)
  exact ⟨low_fr (pos2 hx.fr hy.fr), h.1, h.2⟩
def fneg (x : Int × Int) : Int × Int := (-x.1, x.2)
theorem fneg_ok {n : Nat} {x : Int × Int} (h : FrB n x) : FrB n (fneg x) := ⟨⟨h.fr.1, by rw [← h.fr.2]; exact Int.neg_gcd⟩, h.b1.neg, h.b2⟩
theorem fplus_fneg (x y : Int × Int) : fplus x (fneg y) = fminus x y := by
  unfold fplus fminus fneg
  have e : x.1 * y.2 + -y.1 * x.2 = x.1 * y.2 - y.1 * x.2 := by grind
  rw [e]
theorem fminus_fplus {x y : Int × Int} (hx : Fr x) (hy : Fr y) : fminus (fplus x y) y = x := by
  have h1 : (fplus x y).1 * (x.2 * y.2) = (x.1 * y.2 + y.1 * x.2) * (fplus x y).2 := low_mul
  have hp : 0 < (fplus x y).2 := low_pos (pos2 hx hy)
  have e : fminus (fplus x y) y = low x.1 x.2 := by
    unfold fminus
    refine low_eq (Int.mul_pos hp hy.1) hx.1 ?_
    generalize fplus x y = p at *
    have h2 := pos2 hx hy
    have hy0 : y.2 ≠ 0 := by have := hy.1; omega
    refine Int.eq_of_mul_eq_mul_right hy0 ?_
    grind
  exact e.trans (low_id hx)
theorem fplus_comm (x y : Int × Int) : fplus x y = fplus y x := by
  unfold fplus
  rw [Int.add_comm, Int.mul_comm x.2]
theorem fminus_fplus' {x y : Int × Int} (hx : Fr x) (hy : Fr y) : fminus (fplus x y) x = y := by rw [fplus_comm]; exact fminus_fplus hy hx
theorem ftimes_two {x : Int × Int} (hx : Fr x) : ftimes x (2, 1) = fplus x x := by
  unfold ftimes fplus
  refine low_eq (by have := hx.1; simpa using this) (pos2 hx hx) ?_
  grind
theorem ftimes_three {x : Int × Int} (hx : Fr x) : ftimes x (3, 1) = fplus (fplus x x) x := by
  have h1 : (fplus x x).1 * (x.2 * x.2) = (x.1 * x.2 + x.1 * x.2) * (fplus x x).2 := low_mul
  have hp : 0 < (fplus x x).2 := low_pos (pos2 hx hx)
  show low (x.1 * 3) (x.2 * 1) = low ((fplus x x).1 * x.2 + x.1 * (fplus x x).2) ((fplus x x).2 * x.2)
  refine low_eq (by have := hx.1; simpa using this) (Int.mul_pos hp hx.1) ?_
  generalize fplus x x = p at *
  grind
theorem ftimes_neg {x : Int × Int} (hx : Fr x) : ftimes x (-1, 1) = fminus (fminus x x) x := by
  have h1 : (fminus x x).1 * (x.2 * x.2) = (x.1 * x.2 - x.1 * x.2) * (fminus x x).2 := low_mul
  have hp : 0 < (fminus x x).2 := low_pos (pos2 hx hx)
  have h0 : (fminus x x).1 = 0 := by
    rw [Int.sub_self, Int.zero_mul] at h1
    have h2 := pos2 hx hx
    rcases Int.mul_eq_zero.mp h1 with z | z
    · exact z
    · omega
  show low (x.1 * -1) (x.2 * 1) = low ((fminus x x).1 * x.2 - x.1 * (fminus x x).2) ((fminus x x).2 * x.2)
  refine low_eq (by have := hx.1; simpa using this) (Int.mul_pos hp hx.1) ?_
  rw [h0]
  generalize fminus x x = p at *
  grind
/-! units -/
def uplus (us vs : List (Int × Int)) : List (Int × Int) := (us.zip vs).map fun p => fplus p.1 p.2
def uminus (us vs : List (Int × Int)) : List (Int × Int) := (us.zip vs).map fun p => fminus p.1 p.2
def utimes (us : List (Int × Int)) (q : Int × Int) : List (Int × Int) := us.map fun p => ftimes p q
/-- one to three exponents of so many bits -/
structure UnB (n : Nat) (us : List (Int × Int)) : Prop where
  fr : ∀ p ∈ us, FrB n p
  l1 : 1 ≤ us.length
  l3 : us.length ≤ 3
theorem UnB.frs {n : Nat} {us : List (Int × Int)} (h : UnB n us) : ∀ p ∈ us, Fr p := fun p hp => (h.fr p hp).fr
theorem zip_mem {n m : Nat} {us vs : List (Int × Int)} (h : UnB n us) (g : UnB m vs) {p : (Int × Int) × (Int × Int)} (hp : p ∈ us.zip vs) : FrB n p.1 ∧ FrB m p.2 := by
  obtain ⟨a, b⟩ := p
  have := List.of_mem_zip hp
  exact ⟨h.fr a this.1, g.fr b this.2⟩
theorem uplus_len {us vs : List (Int × Int)} (hl : us.length = vs.length) : (uplus us vs).length = us.length := by simp [uplus, hl]
theorem uminus_len {us vs : List (Int × Int)} (hl : us.length = vs.length) : (uminus us vs).length = us.length := by simp [uminus, hl]
theorem uplus_ok {n m : Nat} {us vs : List (Int × Int)} (h : UnB n us) (g : UnB m vs) (hl : us.length = vs.length) : UnB (n + m + 1) (uplus us vs) :=
  ⟨fun p hp => by obtain ⟨q, hq, rfl⟩ := List.mem_map.mp hp; have := zip_mem h g hq; exact fplus_ok this.1 this.2, by rw [uplus_len hl]; exact h.l1, by rw [uplus_len hl]; exact h.l3⟩
theorem uminus_ok {n m : Nat} {us vs : List (Int × Int)} (h : UnB n us) (g : UnB m vs) (hl : us.length = vs.length) : UnB (n + m + 1) (uminus us vs) :=
  ⟨fun p hp => by obtain ⟨q, hq, rfl⟩ := List.mem_map.mp hp; have := zip_mem h g hq; exact fminus_ok this.1 this.2, by rw [uminus_len hl]; exact h.l1, by rw [uminus_len hl]; exact h.l3⟩
theorem utimes_ok {n m : Nat} {us : List (Int × Int)} {q : Int × Int} (h : UnB n us) (g : FrB m q) : UnB (n + m) (utimes us q) :=
  ⟨fun p hp => by obtain ⟨r, hr, rfl⟩ := List.mem_map.mp hp; exact ftimes_ok (h.fr r hr) g, by simpa [utimes] using h.l1, by simpa [utimes] using h.l3⟩
theorem uneg_ok {n : Nat} {us : List (Int × Int)} (h : UnB n us) : UnB n (us.map fneg) :=
  ⟨fun p hp => by obtain ⟨r, hr, rfl⟩ := List.mem_map.mp hp; exact fneg_ok (h.fr r hr), by simpa using h.l1, by simpa using h.l3⟩
theorem uminus_uplus {us vs : List (Int × Int)} (hu : ∀ p ∈ us, Fr p) (hv : ∀ p ∈ vs, Fr p) (hl : us.length = vs.length) : uminus (uplus us vs) vs = us ∧ uminus (uplus us vs) us = vs := by
  induction us generalizing vs with
  | nil => cases vs with
    | nil => exact ⟨rfl, rfl⟩
    | cons v vs => simp at hl
  | cons u us ih => cases vs with
    | nil => simp at hl
    | cons v vs =>
      obtain ⟨h1, h2⟩ := ih (fun p hp => hu p (List.mem_cons_of_mem _ hp)) (fun p hp => hv p (List.mem_cons_of_mem _ hp)) (by simpa using hl)
      have a := hu u List.mem_cons_self
      have b := hv v List.mem_cons_self
      exact ⟨by show fminus (fplus u v) v :: uminus (uplus us vs) vs = _; rw [h1, fminus_fplus a b], by show fminus (fplus u v) u :: uminus (uplus us vs) us = _; rw [h2, fminus_fplus' a b]⟩
theorem uplus_uneg (us vs : List (Int × Int)) : uplus us (vs.map fneg) = uminus us vs := by
  unfold uplus uminus
  rw [List.zip_map_right, List.map_map]
  refine List.map_congr_left fun p _ => ?_
  exact fplus_fneg p.1 p.2
theorem self_zip {α β : Type} (f : α × α → β) (us : List α) : (us.zip us).map f = us.map fun u => f (u, u) := by
  induction us with
  | nil => rfl
  | cons u us ih => simp [ih]
theorem utimes_two {us : List (Int × Int)} (h : ∀ p ∈ us, Fr p) : utimes us (2, 1) = uplus us us := by
  unfold utimes uplus
  rw [self_zip]
  exact List.map_congr_left fun p hp => ftimes_two (h p hp)
theorem map_self_zip {α β γ : Type} (f : β × α → γ) (g : α → β) (us : List α) : ((us.map g).zip us).map f = us.map fun u => f (g u, u) := by
  induction us with
  | nil => rfl
  | cons u us ih => simp [ih]
theorem utimes_three {us : List (Int × Int)} (h : ∀ p ∈ us, Fr p) : utimes us (3, 1) = uplus (uplus us us) us := by
  have e : uplus us us = us.map fun u => fplus u u := by unfold uplus; rw [self_zip]
  rw [e]
  unfold utimes uplus
  rw [map_self_zip]
  exact List.map_congr_left fun p hp => ftimes_three (h p hp)
theorem utimes_neg {us : List (Int × Int)} (h : ∀ p ∈ us, Fr p) : utimes us (-1, 1) = uminus (uminus us us) us := by
  have e : uminus us us = us.map fun u => fminus u u := by unfold uminus; rw [self_zip]
  rw [e]
  unfold utimes uminus
  rw [map_self_zip]
  exact List.map_congr_left fun p hp => ftimes_neg (h p hp)
theorem ixU {S : Store} {us : List (Int × Int)} {k : Nat} (h : k < us.length) : oIx (.d (encU us)) (.d (.int (k : Int))) S = some (.ok (.d (encF us[k])), S) := by
  have e : atI (List.map W.d (us.map encF)) (k : Int) = some (W.d (encF us[k])) := atI_nat (by simp [h])
  simp only [oIx, encU, seqW, e]
theorem map_range_zip {β : Type} (f : Int × Int → Int × Int → β) (us vs : List (Int × Int)) (hl : us.length = vs.length) (z : Int × Int) : ((List.range us.length).map fun k => f (us.getD k z) (vs.getD k z)) = (us.zip vs).map fun p => f p.1 p.2 := by
  refine List.ext_getElem (by simp [hl]) fun i h1 h2 => ?_
  simp at h1
  simp [List.getD, h1, show i < vs.length by omega]
/-- the law's state: the script, how far it is, what a great number leaves, the mixed number -/
def encSt (ns : List Int) (pos big num : Int) : M := .lst [.d (.lst (ns.map D.int)), .d (.int pos), .d (.int big), .d (.int num)]
/-- a state of the law's -/
def DrSt (m : M) : Prop := ∃ (ns : List Int) (pos : Nat) (big num : Int), m = encSt ns pos big num ∧ pos ≤ ns.length ∧ 0 ≤ big ∧ 0 ≤ num ∧ num < 2 ^ 32 ∧ ns.length ≤ 63
theorem st_below {n : Nat} {ns : List Int} {pos big num : Int} : mBelow n (encSt ns pos big num) := by
  intro w hw
  simp at hw
  rcases hw with rfl | rfl | rfl | rfl <;> trivial
theorem DrSt.below {n : Nat} {m : M} (h : DrSt m) : mBelow n m := by
  obtain ⟨ns, pos, big, num, rfl, _⟩ := h
  exact st_below
section
variable {T : Store} {ns : List Int} {pos big num : Int}
theorem giveS_st {ns' : List Int} {x : D} {p b n : Int} : giveS (encSt ns pos big num :: T) (.d x) (encSt ns' p b n :: T) = some (.ok (.d x), encSt ns' p b n :: T) := giveS_hd0 st_below
theorem st0 : oIx (.loc 0) (.d (.int 0)) (encSt ns pos big num :: T) = some (.ok (.d (.lst (ns.map D.int))), encSt ns pos big num :: T) := rfl
theorem st1 : oIx (.loc 0) (.d (.int 1)) (encSt ns pos big num :: T) = some (.ok (.d (.int pos)), encSt ns pos big num :: T) := rfl
theorem st2 : oIx (.loc 0) (.d (.int 2)) (encSt ns pos big num :: T) = some (.ok (.d (.int big)), encSt ns pos big num :: T) := rfl
theorem st3 : oIx (.loc 0) (.d (.int 3)) (encSt ns pos big num :: T) = some (.ok (.d (.int num)), encSt ns pos big num :: T) := rfl
theorem se1 {i : Int} : setAt (.loc 0) (.d (.int 1)) (.d (.int i)) (encSt ns pos big num :: T) = some (encSt ns i big num :: T) := rfl
theorem se2 {i : Int} : setAt (.loc 0) (.d (.int 2)) (.d (.int i)) (encSt ns pos big num :: T) = some (encSt ns pos i num :: T) := rfl
theorem se3 {i : Int} : setAt (.loc 0) (.d (.int 3)) (.d (.int i)) (encSt ns pos big num :: T) = some (encSt ns pos big i :: T) := rfl
end
theorem ix_ints {S : Store} {ns : List Int} {p : Nat} (h : p < ns.length) : oIx (.d (.lst (ns.map D.int))) (.d (.int (p : Int))) S = some (.ok (.d (.int (ns[p]))), S) := by
  have e : atI (List.map W.d (ns.map D.int)) (p : Int) = some (W.d (.int ns[p])) := atI_nat (by simp [h])
  simp only [oIx, seqW, e]
theorem oRng1_eq {S : Store} {j : Int} (h : 0 ≤ j) (h2 : j ≤ 1000000) : oRng1 [.d (.int j)] S = some (.ok (rngW 0 j.toNat, none), S) := by
  have c : -(2 ^ 62) ≤ j ∧ j < 2 ^ 62 := by omega
  show (if -(2 ^ 62) ≤ j ∧ j < 2 ^ 62 then _ else _) = _
  rw [if_pos c]
theorem oRng1_nat {S : Store} {n : Nat} (h2 : n ≤ 1000000) : oRng1 [.d (.int (n : Int))] S = some (.ok ((List.range n).map fun (k : Nat) => W.d (.int (k : Int)), none), S) := by
  rw [oRng1_eq (by omega) (by omega)]
  have e : rngW 0 n = (List.range n).map fun (k : Nat) => W.d (.int (k : Int)) := by
    unfold rngW
    refine List.map_congr_left fun k _ => ?_
    rw [Int.zero_add]
  rw [Int.toNat_natCast, e]
end DL
set_option Elab.async false
set_option linter.all false
set_option maxRecDepth 100000
set_option maxHeartbeats 1000000
/-! DL12: loops over what is told, powers of positive fractions. -/
namespace DL
open PySem L2
/-- a loop that changes names alone: what holds after i rounds -/
theorem forL_inv {α : Type} {tf : Tg} {fb : FS} {S : Store} {wf : α → W} {P : Nat → DEnv → Prop} {xs : List α}
    (h : ∀ (i : Nat) (hi : i < xs.length) (δ : DEnv), P i δ → ∃ δ1 δ2, tf (wf xs[i]) δ S = some (δ1, S) ∧ fb δ1 S = some (.ok (.nx δ2), S) ∧ P (i + 1) δ2) :
    ∀ (k i : Nat) (δ : DEnv), i + k = xs.length → P i δ → ∃ δ', forL tf fb none ((xs.drop i).map wf) δ S = some (.ok (.nx δ'), S) ∧ P xs.length δ' := by
  intro k
  induction k with
  | zero =>
    intro i δ hi hp
    have e : xs.drop i = [] := List.drop_eq_nil_of_le (by omega)
    refine ⟨δ, ?_, by have : i = xs.length := by omega
                      rwa [this] at hp⟩
    rw [e]
    show forL tf fb none [] δ S = _
    unfold forL
    rw [if_pos okG_no]
  | succ k ih =>
    intro i δ hi hp
    have hlt : i < xs.length := by omega
    obtain ⟨δ1, δ2, h1, h2, h3⟩ := h i hlt δ hp
    obtain ⟨δ', e, hf⟩ := ih (i + 1) δ2 (by omega) h3
    refine ⟨δ', ?_, hf⟩
    rw [List.drop_eq_getElem_cons hlt]
    show forL tf fb none (wf xs[i] :: (xs.drop (i + 1)).map wf) δ S = _
    unfold forL
    rw [if_pos okG_no]
    simp only [h1, h2]
    exact e
theorem dFor_inv {α : Type} {fi : FI} {tf : Tg} {fb : FS} {S : Store} {wf : α → W} {P : Nat → DEnv → Prop} {xs : List α} {δ : DEnv} (hi : fi δ S = some (.ok (xs.map wf, none), S))
    (h : ∀ (i : Nat) (hi : i < xs.length) (δ : DEnv), P i δ → ∃ δ1 δ2, tf (wf xs[i]) δ S = some (δ1, S) ∧ fb δ1 S = some (.ok (.nx δ2), S) ∧ P (i + 1) δ2) (h0 : P 0 δ) :
    ∃ δ', dFor fi tf fb δ S = some (.ok (.nx δ'), S) ∧ P xs.length δ' := by
  obtain ⟨δ', e, hp⟩ := forL_inv (tf := tf) (fb := fb) (wf := wf) h xs.length 0 δ (by omega) h0
  refine ⟨δ', ?_, hp⟩
  unfold dFor
  rw [hi, sE_ok]
  exact e
/-! ### powers -/
theorem Bd.pow {n : Nat} {i : Int} (h : Bd n i) (m : Nat) : Bd (n * m + 1) (i ^ m) := by
  unfold Bd at *
  rw [Int.natAbs_pow]
  have h1 : i.natAbs ^ m ≤ (2 ^ n) ^ m := Nat.pow_le_pow_left (by omega) m
  rw [← Nat.pow_mul] at h1
  exact Nat.lt_of_le_of_lt h1 (Nat.pow_lt_pow_right (by decide) (by omega))
def fmul (p q : Int × Int) : Int × Int := (p.1 * q.1, p.2 * q.2)
def lo (p : Int × Int) : Int × Int := low p.1 p.2
def Pos (p : Int × Int) : Prop := 0 < p.1 ∧ 0 < p.2
def Eqv (p q : Int × Int) : Prop := p.1 * q.2 = q.1 * p.2
theorem ftimes_lo (p q : Int × Int) : ftimes p q = lo (fmul p q) := rfl
theorem Pos.mul {p q : Int × Int} (h : Pos p) (g : Pos q) : Pos (fmul p q) := ⟨Int.mul_pos h.1 g.1, Int.mul_pos h.2 g.2⟩
theorem pos_one : Pos (1, 1) := ⟨by decide, by decide⟩
theorem lo_eqv {p q : Int × Int} (h : Pos p) (g : Pos q) (e : Eqv p q) : lo p = lo q := low_eq h.2 g.2 e
theorem eqv_lo (p : Int × Int) : Eqv (lo p) p := low_mul
theorem lo_pos {p : Int × Int} (h : Pos p) : Pos (lo p) := by
  have e : (lo p).1 * p.2 = p.1 * (lo p).2 := low_mul
  have h2 : 0 < (lo p).2 := low_pos h.2
  refine ⟨?_, h2⟩
  have h3 : 0 < (lo p).1 * p.2 := by rw [e]; exact Int.mul_pos h.1 h2
  rcases Int.lt_trichotomy (lo p).1 0 with z | z | z
  · have := Int.mul_neg_of_neg_of_pos z h.2; omega
  · rw [z] at h3; omega
  · exact z
theorem Eqv.refl (p : Int × Int) : Eqv p p := rfl
theorem Eqv.symm {p q : Int × Int} (h : Eqv p q) : Eqv q p := Eq.symm h
theorem Eqv.trans {p q r : Int × Int} (hq : Pos q) (h : Eqv p q) (g : Eqv q r) : Eqv p r := by
  unfold Eqv at *
  have : (p.1 * r.2) * q.2 = (r.1 * p.2) * q.2 := by
    calc (p.1 * r.2) * q.2 = (p.1 * q.2) * r.2 := by grind
      _ = (q.1 * p.2) * r.2 := by rw [h]
      _ = (q.1 * r.2) * p.2 := by grind
      _ = (r.1 * q.2) * p.2 := by rw [g]
      _ = (r.1 * p.2) * q.2 := by grind
  exact Int.eq_of_mul_eq_mul_right (by have := hq.2; omega) this
theorem Eqv.mul {p q r s : Int × Int} (h : Eqv p q) (g : Eqv r s) : Eqv (fmul p r) (fmul q s) := by
  unfold Eqv fmul at *
  dsimp only
  calc p.1 * r.1 * (q.2 * s.2) = (p.1 * q.2) * (r.1 * s.2) := by grind
    _ = (q.1 * p.2) * (s.1 * r.2) := by rw [h, g]
    _ = q.1 * s.1 * (p.2 * r.2) := by grind
def pw (p : Int × Int) (n : Nat) : Int × Int := (p.1 ^ n, p.2 ^ n)
def sw (p : Int × Int) (k : Int) : Int × Int := if k < 0 then (p.2, p.1) else p
/-- a fraction to a power -/
def rz (p : Int × Int) (k : Int) : Int × Int := pw (sw p k) k.natAbs
theorem Pos.pow {p : Int × Int} (h : Pos p) (n : Nat) : Pos (pw p n) := ⟨Int.pow_pos h.1, Int.pow_pos h.2⟩
theorem Pos.sw {p : Int × Int} (h : Pos p) (k : Int) : Pos (sw p k) := by
  unfold DL.sw
  split
  · exact ⟨h.2, h.1⟩
  · exact h
theorem Pos.rz {p : Int × Int} (h : Pos p) (k : Int) : Pos (rz p k) := (h.sw k).pow _
theorem Eqv.pow {p q : Int × Int} (h : Eqv p q) (n : Nat) : Eqv (pw p n) (pw q n) := by
  unfold Eqv pw at *
  dsimp only
  rw [← Int.mul_pow, ← Int.mul_pow, h]
theorem Eqv.sw {p q : Int × Int} (h : Eqv p q) (k : Int) : Eqv (sw p k) (sw q k) := by
  unfold DL.sw
  split
  · unfold Eqv at *
    dsimp only
    rw [Int.mul_comm, ← h, Int.mul_comm]
  · exact h
theorem Eqv.rz {p q : Int × Int} (h : Eqv p q) (k : Int) : Eqv (rz p k) (rz q k) := (h.sw k).pow _
theorem rz_mul (p q : Int × Int) (k : Int) : rz (fmul p q) k = fmul (rz p k) (rz q k) := by
  unfold rz sw pw fmul
  split <;> simp [Int.mul_pow]
theorem rz_sub {p : Int × Int} {k : Int} {u v : Nat} (e : k = (u : Int) - (v : Int)) : Eqv (rz p k) (p.1 ^ u * p.2 ^ v, p.2 ^ u * p.1 ^ v) := by
  unfold Eqv rz sw pw
  split
  · obtain rfl : v = k.natAbs + u := by omega
    dsimp only
    rw [Int.pow_add, Int.pow_add]
    grind
  · obtain rfl : u = k.natAbs + v := by omega
    dsimp only
    rw [Int.pow_add, Int.pow_add]
    grind
theorem rz_add {p : Int × Int} (h : Pos p) (a b : Int) : Eqv (rz p (a + b)) (fmul (rz p a) (rz p b)) := by
  have key : ∀ a : Int, ∃ u v : Nat, a = (u : Int) - (v : Int) := fun a => ⟨a.toNat, (-a).toNat, by omega⟩
  obtain ⟨u, v, ha⟩ := key a
  obtain ⟨x, y, hb⟩ := key b
  have e1 := rz_sub (p := p) (k := a + b) (u := u + x) (v := v + y) (by omega)
  have e2 := Eqv.mul (rz_sub (p := p) ha) (rz_sub (p := p) hb)
  have pu : ∀ n, 0 < p.1 ^ n := fun n => Int.pow_pos h.1
  have pv : ∀ n, 0 < p.2 ^ n := fun n => Int.pow_pos h.2
  refine e1.trans ⟨Int.mul_pos (pu _) (pv _), Int.mul_pos (pv _) (pu _)⟩ ?_
  have e3 : ((p.1 ^ (u + x) * p.2 ^ (v + y), p.2 ^ (u + x) * p.1 ^ (v + y)) : Int × Int) = fmul (p.1 ^ u * p.2 ^ v, p.2 ^ u * p.1 ^ v) (p.1 ^ x * p.2 ^ y, p.2 ^ x * p.1 ^ y) := by
    unfold fmul
    dsimp only
    rw [Int.pow_add, Int.pow_add, Int.pow_add, Int.pow_add]
    refine Prod.ext ?_ ?_ <;> dsimp only <;> grind
  rw [e3]
  exact e2.symm
theorem rz_mulN (p : Int × Int) (k : Int) {m : Nat} (h : 0 < m) : rz p (k * (m : Int)) = pw (rz p k) m := by
  have hs : sw p (k * (m : Int)) = sw p k := by
    unfold sw
    have hm : (0 : Int) < (m : Int) := by omega
    by_cases hk : k < 0
    · rw [if_pos hk, if_pos (Int.mul_neg_of_neg_of_pos hk hm)]
    · have := Int.mul_nonneg (show 0 ≤ k by omega) (show (0 : Int) ≤ m by omega)
      rw [if_neg hk, if_neg (by omega)]
  unfold rz
  rw [hs, Int.natAbs_mul]
  unfold pw
  dsimp only
  rw [Int.natAbs_natCast, Int.pow_mul, Int.pow_mul]
theorem fr_pow {p : Int × Int} (h : Fr p) (n : Nat) : Fr (pw p n) := ⟨Int.pow_pos h.1, by
  have h2 : Nat.Coprime p.1.natAbs p.2.natAbs := h.2
  have := Nat.Coprime.pow n n h2
  show Nat.gcd (p.1 ^ n).natAbs (p.2 ^ n).natAbs = 1
  rw [Int.natAbs_pow, Int.natAbs_pow]
  exact this⟩
theorem fr_sw {p : Int × Int} (h : Fr p) (h1 : 0 < p.1) (k : Int) : Fr (sw p k) := by
  unfold sw
  split
  · exact ⟨h1, by have := h.2; rw [Int.gcd_comm]; exact this⟩
  · exact h
theorem fr_rz {p : Int × Int} (h : Fr p) (h1 : 0 < p.1) (k : Int) : Fr (rz p k) := fr_pow (fr_sw h h1 k) _
theorem bd_sw {n : Nat} {p : Int × Int} (a : Bd n p.1) (b : Bd n p.2) (k : Int) : Bd n (sw p k).1 ∧ Bd n (sw p k).2 := by
  unfold sw
  split
  · exact ⟨b, a⟩
  · exact ⟨a, b⟩
theorem frb_rz {n : Nat} {p : Int × Int} (h : FrB n p) (h1 : 0 < p.1) (k : Int) : FrB (n * k.natAbs + 1) (rz p k) := ⟨fr_rz h.fr h1 k, (bd_sw h.b1 h.b2 k).1.pow _, (bd_sw h.b1 h.b2 k).2.pow _⟩
theorem lo_pow {p : Int × Int} (h : Pos p) (n : Nat) : lo (pw p n) = pw (lo p) n := by
  have h1 := lo_pos h
  rw [lo_eqv (h.pow n) (h1.pow n) ((eqv_lo p).symm.pow n)]
  exact low_id (fr_pow (low_fr h.2) n)
/-! ### products -/
def prodR {α : Type} (f : α → Int × Int) : List α → Int × Int
  | [] => (1, 1)
  | x :: xs => fmul (f x) (prodR f xs)
theorem prodR_pos {α : Type} {f : α → Int × Int} : ∀ {xs : List α}, (∀ x ∈ xs, Pos (f x)) → Pos (prodR f xs)
  | [], _ => pos_one
  | x :: xs, h => (h x List.mem_cons_self).mul (prodR_pos fun y hy => h y (List.mem_cons_of_mem _ hy))
theorem prodR_eqv {α : Type} {f g : α → Int × Int} : ∀ {xs : List α}, (∀ x ∈ xs, Eqv (f x) (g x)) → Eqv (prodR f xs) (prodR g xs)
  | [], _ => rfl
  | x :: xs, h => (h x List.mem_cons_self).mul (prodR_eqv fun y hy => h y (List.mem_cons_of_mem _ hy))
theorem prodR_congr {α : Type} {f g : α → Int × Int} : ∀ {xs : List α}, (∀ x ∈ xs, f x = g x) → prodR f xs = prodR g xs
  | [], _ => rfl
  | x :: xs, h => by rw [prodR, prodR, h x List.mem_cons_self, prodR_congr fun y hy => h y (List.mem_cons_of_mem _ hy)]
theorem prodR_mul {α : Type} {f g : α → Int × Int} : ∀ {xs : List α}, prodR (fun x => fmul (f x) (g x)) xs = fmul (prodR f xs) (prodR g xs)
  | [] => rfl
  | x :: xs => by
    rw [prodR, prodR, prodR, prodR_mul]
    unfold fmul
    refine Prod.ext ?_ ?_ <;> dsimp only <;> grind
theorem prodR_pow {α : Type} {f : α → Int × Int} {n : Nat} : ∀ {xs : List α}, prodR (fun x => pw (f x) n) xs = pw (prodR f xs) n
  | [] => by simp [prodR, pw, Int.one_pow]
  | x :: xs => by
    rw [prodR, prodR, prodR_pow]
    unfold fmul pw
    dsimp only
    rw [Int.mul_pow, Int.mul_pow]
theorem prodR_map {α β : Type} {f : β → Int × Int} {g : α → β} : ∀ {xs : List α}, prodR f (xs.map g) = prodR (fun x => f (g x)) xs
  | [] => rfl
  | x :: xs => by rw [List.map_cons, prodR, prodR, prodR_map]
/-- the product as it is reckoned: in lowest terms after each factor -/
def fac {α : Type} (f : α → Int × Int) (xs : List α) : Int × Int := xs.foldl (fun a x => ftimes a (f x)) (1, 1)
theorem fmul_assoc (p q r : Int × Int) : fmul (fmul p q) r = fmul p (fmul q r) := by
  unfold fmul
  dsimp only
  rw [Int.mul_assoc, Int.mul_assoc]
theorem fac_go {α : Type} {f : α → Int × Int} : ∀ {xs : List α} {a : Int × Int}, Pos a → (∀ x ∈ xs, Pos (f x)) → xs.foldl (fun a x => ftimes a (f x)) (lo a) = lo (fmul a (prodR f xs))
  | [], a, ha, _ => by
    have : fmul a (1, 1) = a := by simp [fmul]
    show lo a = lo (fmul a (1, 1))
    rw [this]
  | x :: xs, a, ha, h => by
    have hx := h x List.mem_cons_self
    have e : ftimes (lo a) (f x) = lo (fmul a (f x)) := by
      rw [ftimes_lo]
      exact lo_eqv ((lo_pos ha).mul hx) (ha.mul hx) ((eqv_lo a).mul (Eqv.refl _))
    show xs.foldl (fun a x => ftimes a (f x)) (ftimes (lo a) (f x)) = _
    rw [e, fac_go (ha.mul hx) fun y hy => h y (List.mem_cons_of_mem _ hy), fmul_assoc]
    rfl
theorem fac_eq {α : Type} {f : α → Int × Int} {xs : List α} (h : ∀ x ∈ xs, Pos (f x)) : fac f xs = lo (prodR f xs) := by
  have e : lo (1, 1) = (1, 1) := low_id ⟨by decide, by decide⟩
  have e2 := fac_go (xs := xs) pos_one h
  rw [e] at e2
  have e3 : fmul (1, 1) (prodR f xs) = prodR f xs := by simp [fmul]
  rw [e3] at e2
  exact e2
/-- so many bits, after so many factors -/
theorem fac_bd {α : Type} {f : α → Int × Int} {n : Nat} : ∀ {xs : List α} {a : Int × Int} {m : Nat}, FrB m a → (∀ x ∈ xs, FrB n (f x)) → FrB (m + xs.length * n) (xs.foldl (fun a x => ftimes a (f x)) a)
  | [], a, m, ha, _ => by simpa using ha
  | x :: xs, a, m, ha, h => by
    have := fac_bd (xs := xs) (ftimes_ok ha (h x List.mem_cons_self)) fun y hy => h y (List.mem_cons_of_mem _ hy)
    refine this.up ?_
    simp [Nat.add_mul]
    omega
/-! ### exponents -/
def ex (s : Int) (e : Int × Int) : Int := e.1 * s / e.2
theorem ex_of {s : Int} {e : Int × Int} (h : 0 < e.2) {a : Int} (hk : e.1 * s = a * e.2) : ex s e = a := by
  unfold ex
  rw [hk, Int.mul_ediv_cancel _ (by omega)]
theorem ex_mul {s : Int} {e : Int × Int} (h : 0 < e.2) (hd : s % e.2 = 0) : e.1 * s = ex s e * e.2 := by
  unfold ex
  have : e.2 ∣ e.1 * s := Int.dvd_trans (Int.dvd_of_emod_eq_zero hd) (Int.dvd_mul_left _ _)
  exact (Int.ediv_mul_cancel this).symm
theorem ex_plus {s : Int} {e d : Int × Int} (he : Fr e) (hd : Fr d) (h1 : s % e.2 = 0) (h2 : s % d.2 = 0) : s % (fplus e d).2 = 0 ∧ ex s (fplus e d) = ex s e + ex s d := by
  have m1 := ex_mul he.1 h1
  have m2 := ex_mul hd.1 h2
  have hp : 0 < (fplus e d).2 := low_pos (pos2 he hd)
  have hf : Fr (fplus e d) := low_fr (pos2 he hd)
  have hl : (fplus e d).1 * (e.2 * d.2) = (e.1 * d.2 + d.1 * e.2) * (fplus e d).2 := low_mul
  generalize fplus e d = p at *
  generalize ex s e = a at *
  generalize ex s d = b at *
  have key : p.1 * s = (a + b) * p.2 := by
    have hq := pos2 he hd
    refine Int.eq_of_mul_eq_mul_right (show e.2 * d.2 ≠ 0 by omega) ?_
    calc p.1 * s * (e.2 * d.2) = (p.1 * (e.2 * d.2)) * s := by grind
      _ = ((e.1 * d.2 + d.1 * e.2) * p.2) * s := by rw [hl]
      _ = ((e.1 * s) * d.2 + (d.1 * s) * e.2) * p.2 := by grind
      _ = ((a * e.2) * d.2 + (b * d.2) * e.2) * p.2 := by rw [m1, m2]
      _ = (a + b) * p.2 * (e.2 * d.2) := by grind
  refine ⟨?_, ex_of hp key⟩
  have hdv : p.2 ∣ p.1 * s := ⟨a + b, by rw [key]; exact Int.mul_comm _ _⟩
  have h3 : p.2.natAbs ∣ p.1.natAbs * s.natAbs := by rw [← Int.natAbs_mul]; exact Int.natAbs_dvd_natAbs.mpr hdv
  have h4 : Nat.Coprime p.2.natAbs p.1.natAbs := by
    have : Nat.gcd p.1.natAbs p.2.natAbs = 1 := hf.2
    rw [Nat.Coprime, Nat.gcd_comm]; exact this
  exact Int.emod_eq_zero_of_dvd (Int.natAbs_dvd_natAbs.mp (Nat.Coprime.dvd_of_dvd_mul_left h4 h3))
theorem fminus_self {e : Int × Int} (h : Fr e) : fminus e e = (0, 1) := by
  have e1 : fminus e e = low 0 1 := by
    unfold fminus
    refine low_eq (pos2 h h) (by decide) ?_
    rw [Int.sub_self, Int.zero_mul, Int.zero_mul]
  rw [e1]
  exact low_id (p := (0, 1)) ⟨by decide, by decide⟩
theorem ex_scale {s : Int} {e : Int × Int} {m : Int} (h : 0 < e.2) (hd : s % e.2 = 0) : ex (s * m) e = ex s e * m := by
  have := ex_mul h hd
  refine ex_of h ?_
  calc e.1 * (s * m) = (e.1 * s) * m := by grind
    _ = (ex s e * e.2) * m := by rw [this]
    _ = ex s e * m * e.2 := by grind
/-! ### what is drawn -/
theorem all_encQ {ds : List D} {Q : Int × Int → Prop} (h : ∀ d ∈ ds, ∃ p, d = encF p ∧ Q p) : ∃ us : List (Int × Int), ds = us.map encF ∧ ∀ p ∈ us, Q p := by
  induction ds with
  | nil => exact ⟨[], rfl, by simp⟩
  | cons d ds ih =>
    obtain ⟨p, rfl, hp⟩ := h d List.mem_cons_self
    obtain ⟨us, rfl, hu⟩ := ih fun e he => h e (List.mem_cons_of_mem _ he)
    refine ⟨p :: us, rfl, fun q hq => ?_⟩
    rcases List.mem_cons.mp hq with rfl | hq
    · exact hp
    · exact hu q hq
theorem dLc_drawn {fi : FI} {tf : Tg} {fe : FE} {vs : List Nat} {δ : DEnv} {T : Store} {m : M} {b : Int} {Q : Int × Int → Prop} (b0 : 0 ≤ b) (b1 : b ≤ 1000) (hm : DrSt m)
    (hi : fi δ (m :: T) = some (.ok (rngW 0 b.toNat, none), m :: T)) (h : ∀ w m, DrSt m → ∃ δ1 p m', tf w (wipeE δ vs) (m :: T) = some (δ1, m :: T) ∧ fe δ1 (m :: T) = some (.ok (.d (encF p)), m' :: T) ∧ DrSt m' ∧ Q p) :
    ∃ (us : List (Int × Int)) (m' : M), dLc lcF fi tf ftYes fe vs δ (m :: T) = some (.ok (.d (.lst (us.map encF))), m' :: T) ∧ (us.length : Int) = b ∧ (∀ p ∈ us, Q p) ∧ DrSt m' := by
  have hl : (rngW 0 b.toNat).length = b.toNat := rngW_len
  obtain ⟨ds, m', e, hm', hds, hd⟩ := lcL_thread (tf := tf) (fe := fe) (δ := wipeE δ vs) (T := T) (Pm := DrSt) (Pd := fun d => ∃ p, d = encF p ∧ Q p) (ws := rngW 0 b.toNat) (acc := []) hm (by
    intro w _ m hm
    obtain ⟨δ1, p, m', e1, e2, e3, e4⟩ := h w m hm
    exact ⟨δ1, _, m', e1, e2, e3, p, rfl, e4⟩)
  obtain ⟨us, rfl, hu⟩ := all_encQ hd
  have hul : us.length = b.toNat := by rw [← hl, ← hds]; simp
  refine ⟨us, m', ?_, by omega, hu, hm'⟩
  have hz : (rngW 0 b.toNat).length ≤ sizeLine := Nat.le_trans (by rw [hl]; omega : _ ≤ 1000) (by decide)
  unfold dLc
  rw [hi, bind_ok]
  dsimp only
  rw [if_pos hz, e, bind_ok, List.nil_append]
  unfold lcF
  rw [pure?_map]
/-! ### products of products -/
theorem fac_map {α β : Type} (f : β → Int × Int) (g : α → β) (xs : List α) : fac f (xs.map g) = fac (fun x => f (g x)) xs := by
  unfold fac
  rw [List.foldl_map]
theorem fac_mul {α : Type} {a b c : α → Int × Int} {xs : List α} (ha : ∀ x ∈ xs, Pos (a x)) (hb : ∀ x ∈ xs, Pos (b x)) (hc : ∀ x ∈ xs, Pos (c x)) (h : ∀ x ∈ xs, Eqv (c x) (fmul (a x) (b x))) : fac c xs = ftimes (fac a xs) (fac b xs) := by
  have pa := prodR_pos ha
  have pb := prodR_pos hb
  rw [fac_eq ha, fac_eq hb, fac_eq hc, ftimes_lo]
  have e1 : Eqv (prodR c xs) (fmul (prodR a xs) (prodR b xs)) := by rw [← prodR_mul]; exact prodR_eqv h
  refine lo_eqv (prodR_pos hc) ((lo_pos pa).mul (lo_pos pb)) (e1.trans (pa.mul pb) ?_)
  exact ((eqv_lo _).mul (eqv_lo _)).symm
theorem fac_one {α : Type} {f : α → Int × Int} {xs : List α} (h : ∀ x ∈ xs, f x = (1, 1)) : fac f xs = (1, 1) := by
  rw [fac_eq fun x hx => by rw [h x hx]; exact pos_one, prodR_congr h]
  have e : prodR (fun _ : α => ((1, 1) : Int × Int)) xs = (1, 1) := by
    clear h
    induction xs with
    | nil => rfl
    | cons x xs ih => rw [prodR, ih]; rfl
  rw [e]
  exact low_id (p := (1, 1)) ⟨by decide, by decide⟩
theorem fac_pow {α : Type} {f g : α → Int × Int} {m : Nat} {xs : List α} (hf : ∀ x ∈ xs, Pos (f x)) (h : ∀ x ∈ xs, g x = pw (f x) m) : fac g xs = pw (fac f xs) m := by
  have hp := prodR_pos hf
  rw [fac_eq hf, fac_eq fun x hx => by rw [h x hx]; exact (hf x hx).pow m, prodR_congr h, prodR_pow, lo_pow hp]
theorem ftimes_pos {p q : Int × Int} (h : Pos p) (g : Pos q) : Pos (ftimes p q) := lo_pos (h.mul g)
theorem fac_pos {α : Type} {f : α → Int × Int} {xs : List α} (h : ∀ x ∈ xs, Pos (f x)) : Pos (fac f xs) := by rw [fac_eq h]; exact lo_pos (prodR_pos h)
end DL
set_option Elab.async false
set_option linter.all false
set_option maxRecDepth 100000
set_option maxHeartbeats 1000000
/-! DL13: slices, tuple + tuple, tuple * int. -/
namespace DL
open PySem PySem.Spec PyProof.Rows L2
section
variable {K : PySem.W.Frag} {Wx : WX} {X : Cx} {f : FE} {pos p2 : PySem.Pos} {e : Expr}
theorem RelDs.drop {ρ : Ad} {H : Hp} : ∀ {ds : List D} {vs : List V} (n : Nat), RelDs K ρ H ds vs → RelDs K ρ H (ds.drop n) (vs.drop n)
  | _, _, 0, h => h
  | [], [], n + 1, h => by simpa using h
  | [], v :: vs, n + 1, h => by have := h.length; simp at this
  | d :: ds, [], n + 1, h => by have := h.length; simp at this
  | d :: ds, v :: vs, n + 1, h => by
    rw [RelDs] at h
    obtain ⟨v', vs', e, h1, h2⟩ := h
    cases e
    exact RelDs.drop n h2
theorem RelDs.take {ρ : Ad} {H : Hp} : ∀ {ds : List D} {vs : List V} (n : Nat), RelDs K ρ H ds vs → RelDs K ρ H (ds.take n) (vs.take n)
  | _, _, 0, h => by simp [RelDs]
  | [], [], n + 1, h => by simpa using h
  | [], v :: vs, n + 1, h => by have := h.length; simp at this
  | d :: ds, [], n + 1, h => by have := h.length; simp at this
  | d :: ds, v :: vs, n + 1, h => by
    rw [RelDs] at h
    obtain ⟨v', vs', e, h1, h2⟩ := h
    cases e
    rw [List.take_succ_cons, List.take_succ_cons, RelDs]
    exact ⟨v, vs.take n, rfl, h1, RelDs.take n h2⟩
/-! ### slices -/
abbrev FP := DEnv → Store → Rs (Option Int)
abbrev relO : Ad → Hp → Option Int → Option Int → Prop := fun _ _ a b => a = b
def tO (K : PySem.W.Frag) (Wx : WX) (f : FP) : TO := fun σ H Q => ∃ δ S ρ, Ok K ρ S H ∧ EnvR K ρ H δ σ ∧ Go K Wx σ ρ H relO (f δ S) Q
def asPt : W → Store → Rs (Option Int)
  | .d (.int i), S => some (.ok (some i), S)
  | _, _ => none
def dPt (f : FE) : FP := fun δ S => (f δ S).bind asPt
def dNoPt : FP := fun _ S => some (.ok none, S)
theorem _root_.L2.PO.imp {X : Cx} {e : Option Expr} {t t' : TO} (h : PO X e t) (i : ∀ σ H Q, t' σ H Q → t σ H Q) : PO X e t' := ⟨fun pins s σ H Q I q => h.run pins s σ H Q I (i σ H Q q)⟩
theorem do_some (he : PE X e (tE X.K Wx f)) : PO X (some e) (tO X.K Wx (dPt f)) := (po_some he).imp fun σ H Q ⟨δ, S, ρ, ok, en, q⟩ => by
  refine ⟨δ, S, ρ, ok, en, (go_bind q).mono fun v H1 ⟨x, S1, ρ1, ok1, st1, r1, q1⟩ => ?_⟩
  cases x with
  | loc n => exact go_none q1
  | d x => cases x with
    | int i => exact ⟨i, by simpa [RelW, RelD] using r1, go_val ok1 q1 rfl⟩
    | _ => exact go_none q1
theorem do_none : PO X none (tO X.K Wx dNoPt) := po_none.imp fun σ H Q ⟨δ, S, ρ, ok, en, q⟩ => go_val ok q rfl
def cutD (ds : List D) (lo hi : Option Int) : List D := (ds.drop (HT.sIx ds.length 0 lo)).take (HT.sIx ds.length ds.length hi - HT.sIx ds.length 0 lo)
abbrev F3 := W → Option Int → Option Int → Store → Rs W
def oSlT : F3
  | .d (.tup ds), lo, hi, S => some (.ok (.d (.tup (cutD ds lo hi))), S)
  | _, _, _, _ => none
def oSlL : F3
  | .d (.lst ds), lo, hi, S => some (.ok (.d (.lst (cutD ds lo hi))), S)
  | _, _, _, _ => none
def SlF (K : PySem.W.Frag) (Wx : WX) (r : V → Option Int → Option Int → Hp → VK → Prop) (op : F3) : Prop := ∀ (σ : L2.St) (ρ : Ad) (S : Store) (H : Hp) (x : W) (a : V) (lo hi : Option Int) (Q : VK), Ok K ρ S H → RelW K ρ H x a → Go K Wx σ ρ H (RelW K) (op x lo hi S) Q → r a lo hi H Q
def dSl (op : F3) (f : FE) (l h : FP) : FE := fun δ S => (f δ S).bind fun x S1 => (l δ S1).bind fun lo S2 => (h δ S2).bind fun hi S3 => op x lo hi S3
theorem de_sl {r : V → Option Int → Option Int → Hp → VK → Prop} {op : F3} {lo hi : Option Expr} {l h : FP} (hr : SlR X r) (o : SlF X.K Wx r op) (he : PE X e (tE X.K Wx f)) (hl : PO X lo (tO X.K Wx l)) (hh : PO X hi (tO X.K Wx h)) : PE X (.Subscript e (.Slice lo hi none p2) pos) (tE X.K Wx (dSl op f l h)) :=
  (pe_slice hr he hl hh).imp fun σ H Q ⟨δ, S, ρ, ok, en, q⟩ => by
    refine ⟨δ, S, ρ, ok, en, (go_bind q).mono fun v H1 ⟨x, S1, ρ1, ok1, st1, r1, q1⟩ => ?_⟩
    refine ⟨δ, S1, ρ1, ok1, en.mono st1, (go_bind q1).mono fun lo H2 ⟨lo', S2, ρ2, ok2, st2, e2, q2⟩ => ?_⟩
    cases e2
    refine ⟨δ, S2, ρ2, ok2, (en.mono st1).mono st2, (go_bind q2).mono fun hi H3 ⟨hi', S3, ρ3, ok3, st3, e3, q3⟩ => ?_⟩
    cases e3
    exact o σ ρ3 S3 H3 x v lo hi Q ok3 ((r1.mono st2).mono st3) q3
theorem cut_rel {ρ : Ad} {H : Hp} {ds : List D} {vs : List V} {lo hi : Option Int} (h : RelDs K ρ H ds vs) : RelDs K ρ H (cutD ds lo hi) (cutV vs lo hi) := by
  unfold cutD cutV
  rw [h.length]
  exact (h.drop _).take _
theorem cut_all {ds : List D} {lo hi : Option Int} (h : HT.sIx ds.length 0 lo = 0 ∧ HT.sIx ds.length ds.length hi = ds.length) : cutD ds lo hi = ds := by
  unfold cutD
  rw [h.1, h.2]
  simp
theorem oSlT_ok : SlF K Wx (rSlA K) oSlT := by
  intro σ ρ S H x a lo hi Q ok rx q
  cases x with
  | loc n => exact go_none q
  | d x => cases x with
    | tup ds =>
      have rx' : RelD K ρ H (.tup ds) a := rx
      rw [RelD] at rx'
      obtain ⟨p, vs, rfl, ht, hv⟩ := rx'
      refine ⟨p, vs, rfl, ht.sq, fun hall => ?_, fun hn l hl => ?_⟩
      · rw [← hv.length] at hall
        have q' : Go K Wx σ ρ H (RelW K) (some (.ok (.d (.tup (cutD ds lo hi))), S)) Q := q
        rw [cut_all hall] at q'
        exact go_val ok q' rx
      · have st := step_new ok (.tup (cutV vs lo hi)) hl
        exact go_at q (ok_new ok _ hl) st (show RelD K ρ (upd H l (.tup (cutV vs lo hi))) (.tup (cutD ds lo hi)) (.ref l) by rw [RelD]; exact ⟨l, _, rfl, tupF_new ok hl, RelDs.mono st _ _ (cut_rel hv)⟩)
    | _ => exact go_none q
theorem oSlL_ok : SlF K Wx (rSlL K) oSlL := by
  intro σ ρ S H x a lo hi Q ok rx q
  cases x with
  | loc n => exact go_none q
  | d x => cases x with
    | lst ds =>
      have rx' : RelD K ρ H (.lst ds) a := rx
      rw [RelD] at rx'
      obtain ⟨p, vs, rfl, ht, hv⟩ := rx'
      refine ⟨p, vs, rfl, ht.sq, fun l hl => ?_⟩
      have st := step_new ok (.lst (cutV vs lo hi)) hl
      exact go_at q (ok_new ok _ hl) st (show RelD K ρ (upd H l (.lst (cutV vs lo hi))) (.lst (cutD ds lo hi)) (.ref l) by rw [RelD]; exact ⟨l, _, rfl, lstF_new ok hl, RelDs.mono st _ _ (cut_rel hv)⟩)
    | _ => exact go_none q
/-! ### tuple + tuple -/
def oCat : F2
  | .d (.tup a), .d (.tup b), S => if a.length + b.length ≤ sizeLine then some (.ok (.d (.tup (a ++ b))), S) else none
  | _, _, _ => none
theorem oCat_ok : OpF K Wx (rCatA K) oCat := by
  intro σ ρ S H x y u v Q ok rx ry q
  cases x with
  | loc n => exact go_none q
  | d x => cases x with
    | tup a => cases y with
      | loc n => exact go_none q
      | d y => cases y with
        | tup b =>
          have rx' : RelD K ρ H (.tup a) u := rx
          have ry' : RelD K ρ H (.tup b) v := ry
          rw [RelD] at rx' ry'
          obtain ⟨p, vs, rfl, ht, hv⟩ := rx'
          obtain ⟨p', vs', rfl, ht', hv'⟩ := ry'
          have q' : Go K Wx σ ρ H (RelW K) (if a.length + b.length ≤ sizeLine then some (.ok (.d (.tup (a ++ b))), S) else none) Q := q
          by_cases hs : a.length + b.length ≤ sizeLine
          · rw [if_pos hs] at q'
            refine ⟨p, p', vs, vs', rfl, rfl, ht.sq, ht'.sq, by rw [← hv.length, ← hv'.length]; exact hs, fun e => ?_, fun _ e => ?_, fun _ _ l hl => ?_⟩
            · have ea : a = [] := List.length_eq_zero_iff.mp (by rw [hv.length, e]; rfl)
              rw [ea, List.nil_append] at q'
              exact go_val ok q' ry
            · have eb : b = [] := List.length_eq_zero_iff.mp (by rw [hv'.length, e]; rfl)
              rw [eb, List.append_nil] at q'
              exact go_val ok q' rx
            · have st := step_new ok (.tup (vs ++ vs')) hl
              exact go_at q' (ok_new ok _ hl) st (show RelD K ρ (upd H l (.tup (vs ++ vs'))) (.tup (a ++ b)) (.ref l) by rw [RelD]; exact ⟨l, _, rfl, tupF_new ok hl, RelDs.mono st _ _ (hv.app hv')⟩)
          · rw [if_neg hs] at q'
            exact go_none q'
        | _ => exact go_none q
    | _ => exact go_none q
/-! ### tuple * int -/
def oRepT : F2
  | .d (.tup a), .d (.int k), S => if a ≠ [] ∧ 2 ≤ k ∧ k ≤ 1000 ∧ a.length ≤ 1000 then some (.ok (.d (.tup (List.replicate k.toNat a).flatten)), S) else none
  | _, _, _ => none
theorem rel_rep {ρ : Ad} {H : Hp} {ds : List D} {vs : List V} (h : RelDs K ρ H ds vs) : ∀ n : Nat, RelDs K ρ H (List.replicate n ds).flatten (List.replicate n vs).flatten
  | 0 => by simp [RelDs]
  | n + 1 => by
    rw [List.replicate_succ, List.replicate_succ, List.flatten_cons, List.flatten_cons]
    exact h.app (rel_rep h n)
open Classical in
theorem oRepT_ok : OpF K Wx (rRepT K) oRepT := by
  intro σ ρ S H x y u v Q ok rx ry q
  cases x with
  | loc n => exact go_none q
  | d x => cases x with
    | tup a => cases y with
      | loc n => exact go_none q
      | d y => cases y with
        | int k =>
          have rx' : RelD K ρ H (.tup a) u := rx
          have ey : v = .int k := by simpa [RelW, RelD] using ry
          rw [RelD] at rx'
          obtain ⟨p, vs, rfl, ht, hv⟩ := rx'
          subst ey
          unfold oRepT at q
          dsimp only at q
          split at q
          · rename_i hs
            refine ⟨p, k, vs, rfl, rfl, ht.sq, fun e => hs.1 (List.length_eq_zero_iff.mp (by rw [hv.length, e]; rfl)), hs.2.1, hs.2.2.1, by rw [← hv.length]; exact hs.2.2.2, fun l hl => ?_⟩
            have st := step_new ok (.tup (List.replicate k.toNat vs).flatten) hl
            exact go_at q (ok_new ok _ hl) st (show RelD K ρ (upd H l (.tup (List.replicate k.toNat vs).flatten)) (.tup (List.replicate k.toNat a).flatten) (.ref l) by rw [RelD]; exact ⟨l, _, rfl, tupF_new ok hl, RelDs.mono st _ _ (rel_rep hv _)⟩)
          · exact go_none q
        | _ => exact go_none q
    | _ => exact go_none q
end
end DL
set_option Elab.async false
set_option linter.all false
set_option maxRecDepth 100000
set_option maxHeartbeats 1000000
/-! DL14: instances: made by a def's body (read-only from there on), fields read and written. -/
namespace DL
open PySem PySem.Spec PyProof.Rows L2
section
variable {K : PySem.W.Frag} {Wx : WX} {X : Cx} {f g fo fv : FE} {fa : FA} {pos p p2 : PySem.Pos} {e o value : Expr} {es : List Expr}
theorem lookD {ρ : Ad} {H : Hp} {n : Str} {d : D} : ∀ {ns : List Str} {ds : List D} {vs : List V}, RelDs K ρ H ds vs → (ns.zip ds).lookup n = some d → ∃ v, (ns.zip vs).lookup n = some v ∧ RelD K ρ H d v
  | [], _, _, _, h => by simp at h
  | _ :: _, [], _, _, h => by simp at h
  | m :: ns, d0 :: ds, vs, r, h => by
    rw [RelDs] at r
    obtain ⟨v, vr, rfl, h1, h2⟩ := r
    simp only [List.zip_cons_cons, List.lookup_cons] at h ⊢
    cases hb : (n == m) with
    | true =>
      rw [hb] at h
      cases h
      exact ⟨v, rfl, h1⟩
    | false =>
      rw [hb] at h
      exact lookD h2 h
theorem lookW {ρ : Ad} {H : Hp} {n : Str} {d : W} : ∀ {ns : List Str} {ds : List W} {vs : List V}, RelWs K ρ H ds vs → (ns.zip ds).lookup n = some d → ∃ v, (ns.zip vs).lookup n = some v ∧ RelW K ρ H d v
  | [], _, _, _, h => by simp at h
  | _ :: _, [], _, _, h => by simp at h
  | m :: ns, d0 :: ds, vs, r, h => by
    obtain ⟨v, vr, rfl, h1, h2⟩ := r
    simp only [List.zip_cons_cons, List.lookup_cons] at h ⊢
    cases hb : (n == m) with
    | true =>
      rw [hb] at h
      cases h
      exact ⟨v, rfl, h1⟩
    | false =>
      rw [hb] at h
      exact lookW h2 h
/-- an instance at a place -/
theorem loc_ins {ρ : Ad} {S : Store} {H : Hp} {n : Nat} {v : V} {C : Addr} {ns : List Str} {ws : List W} (ok : Ok K ρ S H) (r : RelW K ρ H (.loc n) v) (e : S[n]? = some (.ins C ns ws)) :
    ∃ a dx us, v = .ref a ∧ ρ.pl[n]? = some (some a) ∧ H a = some (.ins C dx (ns.zip us)) ∧ RelWs K ρ H ws us ∧ ns.length = ws.length := by
  obtain ⟨a, ha⟩ := ok.live n _ e (by simp)
  obtain ⟨m', e1, q⟩ := ok.obj n a ha
  rw [e] at e1
  cases e1
  obtain ⟨dx, us, h1, h2, h3⟩ := q
  exact ⟨a, dx, us, r.2 a ha, ha, h1, h2, h3⟩
/-! ### a field read -/
def oFld (C0 : Addr) (n : Str) (x : W) (S : Store) : Rs W := match x with
  | .d (.ins C ns ds) => if C = C0 then (match (ns.zip ds).lookup n with
    | some d => some (.ok (.d d), S)
    | none => none) else none
  | .loc k => (match S[k]? with
    | some (.ins C ns ws) => if C = C0 then (match (ns.zip ws).lookup n with
      | some w => some (.ok w, S)
      | none => none) else none
    | _ => none)
  | _ => none
def dFld (C0 : Addr) (n : Str) (f : FE) : FE := fun δ S => (f δ S).bind (oFld C0 n)
theorem de_fld {C0 : Addr} {n : Str} (cl : Cls X.K C0) (na : NoAttr X.K C0 n) (he : PE X e (tE X.K Wx f)) (hb : attributeBase e n X.env (eval e X.env) = eval e X.env := by rfl) : PE X (.Attribute e n pos) (tE X.K Wx (dFld C0 n f)) :=
  (pe_fld he hb).imp fun σ H Q ⟨δ, S, ρ, ok, en, q⟩ => by
    refine ⟨δ, S, ρ, ok, en, (go_bind q).mono fun v H1 ⟨x, S1, ρ1, ok1, st1, r1, q1⟩ => ?_⟩
    unfold oFld at q1
    split at q1
    · rename_i C ns ds
      split at q1
      · rename_i hC
        subst hC
        split at q1
        · rename_i d hd
          have r1' : RelD X.K ρ1 H1 (.ins C ns ds) v := r1
          rw [RelD] at r1'
          obtain ⟨a, dx, vs, rfl, h1, _, h2, _⟩ := r1'
          obtain ⟨u, hu, ru⟩ := lookD h2 hd
          exact ⟨a, C, dx, _, u, rfl, h1, cl, na, hu, go_val ok1 q1 (show RelW X.K ρ1 H1 (.d d) u from ru)⟩
        · exact go_none q1
      · exact go_none q1
    · rename_i k
      split at q1
      · rename_i C ns ws ew
        split at q1
        · rename_i hC
          subst hC
          split at q1
          · rename_i w hw
            obtain ⟨a, dx, us, rfl, _, h1, h2, _⟩ := loc_ins ok1 r1 ew
            obtain ⟨u, hu, ru⟩ := lookW h2 hw
            exact ⟨a, C, dx, _, u, rfl, h1, cl, na, hu, go_val ok1 q1 ru⟩
          · exact go_none q1
        · exact go_none q1
      · exact go_none q1
    · exact go_none q1
/-! ### a new field written -/
def putM (C0 : Addr) (n : Str) (x w : W) (S : Store) : Option Store := match x with
  | .loc k => (match S[k]? with
    | some (.ins C ns ws) => if C = C0 ∧ n ∉ ns ∧ ns.length < 1000 then some (S.set k (.ins C (ns ++ [n]) (ws ++ [w]))) else none
    | _ => none)
  | _ => none
def sFldPut (C0 : Addr) (n : Str) (fv fo : FE) : FS := fun δ S => sE (fv δ S) δ fun w S1 => sE (fo δ S1) δ fun x S2 => match putM C0 n x w S2 with
  | some S3 => some (.ok (.nx δ), S3)
  | none => none
theorem putF_new {n : Str} {v : V} : ∀ {fs : List (Str × V)}, (∀ q ∈ fs, q.1 ≠ n) → putF n v fs = fs ++ [(n, v)]
  | [], _ => rfl
  | (m, u) :: fs, h => by
    have h1 : m ≠ n := h (m, u) List.mem_cons_self
    have h2 := putF_new (v := v) (fs := fs) fun q hq => h q (List.mem_cons_of_mem _ hq)
    unfold putF
    split
    · rename_i hb
      exact absurd (by simpa using hb) h1
    · rw [h2]
      rfl
theorem zip_app1 {n : Str} {v : V} : ∀ {ns : List Str} {vs : List V}, ns.length = vs.length → (ns ++ [n]).zip (vs ++ [v]) = ns.zip vs ++ [(n, v)]
  | [], [], _ => rfl
  | m :: ns, u :: vs, h => congrArg ((m, u) :: ·) (zip_app1 (by simpa using h))
  | [], _ :: _, h => by simp at h
  | _ :: _, [], h => by simp at h
theorem ds_fld {C0 : Addr} {n : Str} (cl : Cls X.K C0) (na : NoAttr X.K C0 n) (ho : PE X o (tE X.K Wx fo)) (hv : PE X value (tE X.K Wx fv)) (hs : swapsWith value (some (.Attribute o n p2)) pos.line X.env = pure false := by rfl) : PS X (.Assign [.Attribute o n p2] value pos) (tS X.K Wx (sFldPut C0 n fv fo)) :=
  (ps_fld ho hv hs).imp fun D σ H q => by
    obtain ⟨δ, S, ρ, ok, en, q⟩ := q
    refine ⟨δ, S, ρ, ok, en, (gos_bind en q).mono fun y H1 ⟨w, S1, ρ1, ok1, st1, r1, q1⟩ => ?_⟩
    refine ⟨δ, S1, ρ1, ok1, en.mono st1, (gos_bind (en.mono st1) q1).mono fun v H2 ⟨x, S2, ρ2, ok2, st2, r2, q2⟩ => ?_⟩
    cases ep : putM C0 n x w S2 with
    | none => rw [ep] at q2; exact gos_none q2
    | some S3 =>
      rw [ep] at q2
      dsimp only at q2
      unfold putM at ep
      split at ep
      · rename_i k
        split at ep
        · rename_i C ns ws ew
          split at ep
          · rename_i hc
            obtain ⟨rfl, hn, hl⟩ := hc
            cases ep
            obtain ⟨a, dx, us, rfl, ha, h1, h2, h3⟩ := loc_ins ok2 r2 ew
            have hlen : ns.length = us.length := by rw [h3, h2.length]
            have hput : putF n y (ns.zip us) = ns.zip us ++ [(n, y)] := putF_new fun q hq e => by
              obtain ⟨q1', q2'⟩ := q
              exact hn (e ▸ (List.of_mem_zip hq).1)
            have hz := zip_app1 (n := n) (v := y) hlen
            have rw' := r1.mono st2
            obtain ⟨ok3, st3⟩ := ok_write ok2 (m := .ins C (ns ++ [n]) (ws ++ [w])) (o := .ins C dx (putF n y (ns.zip us))) ha fun H' st e' => by
              refine ⟨dx, us ++ [y], ?_, RelWs.app (h2.mono st) ⟨y, [], rfl, rw'.mono st, rfl⟩, by simp [h3]⟩
              rw [hz, ← hput]
              exact e'
            refine ⟨a, C, dx, _, rfl, h1, cl, na, by rw [List.length_zip, ← hlen, Nat.min_self]; exact hl, ?_⟩
            exact gos_nx ok3 (q2.step st3) (((en.mono st1).mono st2).mono st3)
          · cases ep
        · cases ep
      · cases ep
/-! ### an instance made -/
open Classical in
/-- what the body left at the new place, read-only from here on -/
noncomputable def mkIns (C0 : Addr) (S1 : Store) (m : Rs W) : Rs W := match m with
  | some (.ok (.d .non), S2) => if keepOk S1 S2 then (match S2[S1.length]? with
    | some (.ins C ns us) => if C = C0 then (match pure? us with
      | some ds => some (.ok (.d (.ins C0 ns ds)), S2.take S1.length)
      | none => none) else none
    | _ => none) else none
  | _ => none
noncomputable def dMake (C0 : Addr) (n : Nat) (g : Fn) (fa : FA) : FE := fun δ S => (fa δ S).bind fun ws S1 => if ws.length + 1 = n then mkIns C0 S1 (g (.loc S1.length :: ws) (S1 ++ [.ins C0 [] []])) else none
theorem de_make {C0 f0 : Addr} {fd : FuncData} {ps : List Str} {k n : Nat} {g : Fn} {x : Str} (M : Mk X.K C0 f0) (F : FnOk X.prog X.w X.K X.mg X.base (L2.CX X.prog X.w) k f0 fd ps (spD X.K n g)) (hb : Binds X.K fd ps []) (hr : Room (k + 1) X.A) (hm : X.mg x = some (.ref C0)) (ha : PA X (e :: es) (tA X.K Wx fa))
    (hg : Gl X x := by rfl) (hdb : (x == ("__debug__" : Str)) = false := by decide) (he : starEach (e :: es) X.env = (false, eval e X.env) :: starEach es X.env := by rfl) (hpl : (backTo pos (starEach es X.env)).any (·.1) = false := by rfl) :
    PE X (.Call (.Name x p) (e :: es) [] pos) (tE X.K Wx (dMake C0 n g fa)) :=
  (pe_make (E := E0) M (fn_noex F) hr hg hm hb .nil pass0 ha hdb he hpl).imp fun σ H Q q => by
    obtain ⟨δ, S, ρ, ok, en, q⟩ := q
    refine ⟨δ, S, ρ, ok, en, (go_bind q).mono fun vs H1 ⟨ws, S1, ρ1, ok1, st1, r1, q1⟩ => fun y dx hy hdx hne => ?_⟩
    split at q1
    · rename_i hn
      have hy' : upd H1 dx (.own y) y = none := by rw [upd_ne (Ne.symm hne)]; exact hy
      have okd := ok_new ok1 (.own y) hdx
      have std := step_new ok1 (.own y) hdx
      obtain ⟨okx, stx⟩ := ok_alloc okd (m := .ins C0 [] []) (o := .ins C0 dx []) hy' fun ρ' H' _ e' => ⟨dx, [], e', rfl, rfl⟩
      have st12 := std.trans stx
      obtain ⟨r, S', e1, c⟩ := q1
      unfold mkIns at e1
      split at e1
      · rename_i S2 eg
        split at e1
        · rename_i kp
          split at e1
          · rename_i C ns us eu
            split at e1
            · rename_i hC
              subst hC
              split at e1
              · rename_i ds ed
                cases e1
                refine ⟨by rw [List.append_nil, List.length_cons, ← r1.length]; exact hn, .loc S1.length :: ws, S1 ++ [.ins C [] []], ρ1.add y, .ok (.d .non), S2, ?_, okx, eg, fun ρ' H' ok' st' v rv => ⟨by simpa [RelW, RelD] using rv, ?_⟩⟩
                · refine ⟨.ref y, vs, by rw [List.append_nil], ⟨by simp [Ad.add, ok1.len], fun a ea => ?_⟩, r1.mono st12⟩
                  rcases add_key ea with ⟨a1, hl⟩ | ⟨_, a2⟩
                  · rw [ok1.len] at hl; omega
                  · rw [a2]
                · obtain ⟨ok2, st2⟩ := ok_cut ok1 ok' (st12.trans st') kp
                  obtain ⟨a, hpa⟩ := ok'.live _ _ eu (by simp)
                  obtain ⟨m', e2, ob⟩ := ok'.obj _ a hpa
                  rw [eu] at e2
                  cases e2
                  have hpa2 := st'.same S1.length a (by simp [Ad.add, ok1.len]) hpa
                  have hay : a = y := by
                    rcases add_key hpa2 with ⟨_, hl⟩ | ⟨_, a2⟩
                    · rw [ok1.len] at hl; omega
                    · exact a2
                  subst hay
                  obtain ⟨dx', us', h1, h2, h3⟩ := ob
                  have hd := pure?_rel ed h2
                  refine c _ _ ok2 st2 _ (show RelD X.K (ρ'.cut S1.length) H' (.ins C ns ds) (.ref a) from ?_)
                  rw [RelD]
                  exact ⟨a, dx', us', rfl, h1, own_off ok' (Nat.le_refl _) hpa, RelDs.sub (fun a z => cut_off z) _ _ hd, by rw [h3, h2.length, hd.length]⟩
              · cases e1
            · cases e1
          · cases e1
        · cases e1
      · cases e1
    · exact go_none q1
end
end DL
set_option Elab.async false
set_option linter.all false
set_option maxRecDepth 100000
set_option maxHeartbeats 1000000
/-! DL15: enumerate over a tuple. -/
namespace DL
open PySem PySem.Spec PyProof.Rows L2
abbrev enumObj (n : Addr) : Obj := { cls := .type "enumerate", data := .fields #[.none, .bool false, .ref n, rawInt 0, .none, .none] }
theorem enum1_meets {z : Value} {ob : Obj} {G : Heap → Prop} (B : Begins z ob G) :
    Meets (Builtin.«enumerate.__new__» ⟨[.type "enumerate", z], []⟩) fun _ R s => G s.heap ∧ R (.ok (.ret (.ref (s.heap.push ob).objs.size))) { s with heap := (s.heap.push ob).push (enumObj s.heap.objs.size) } :=
  .of_wp fun prog w A R s hh => by
    obtain ⟨hp, gn, dr, tk, os⟩ := s
    obtain ⟨hg, hr⟩ := hh
    have sub := sub_enumerate
    have it1 : ∀ {A2 : Around} {E : Value → Shared → Prop} {Q : Value → Shared → Prop}, Q (.ref hp.objs.size) ⟨hp.push ob, gn, dr, tk, os⟩ → wpAny (model prog w) A2 (pyIter z) Q E ⟨hp, gn, dr, tk, os⟩ := fun q => B.iter prog w _ _ ⟨hp, gn, dr, tk, os⟩ _ hg q
    wp_walk using it1
    refine wpAny_stack_any fun st => wpAny_pure ?_
    split
    · rename_i c _ _ _ _ _
      cases (c == Value.type "enumerate") <;> (wp_walk using it1; exact ⟨_, rfl, hr⟩)
    · wp_walk using it1
      exact ⟨_, rfl, hr⟩
section
variable {prog : Program} {w : World} {A : Around} {E : Value → Shared → Prop} {s : Shared}
theorem enum1_call {z : Value} {ob : Obj} {G : Heap → Prop} {Q : Value → Shared → Prop} (B : Begins z ob G) (hg : G s.heap)
    (hq : ∀ h1, IsEnum h1 (s.heap.objs.size + 1) s.heap.objs.size 0 .none → h1.get? s.heap.objs.size = some ob → (∀ b o, s.heap.get? b = some o → h1.get? b = some o) → Q (.ref (s.heap.objs.size + 1)) { s with heap := h1 }) :
    wpAny (model prog w) A (call (.type "enumerate") [z]) Q E s := by
  refine callType_new F.called_enumerate (by decide) (F.typeCall_enumerate_1 _) (F.newCall_enumerate_1 _) (fun x => F.args_object_init_2 x _) F.entry_enumerate_new (enum1_meets B) ⟨hg, ?_⟩
  have sz : (s.heap.push ob).objs.size = s.heap.objs.size + 1 := Heap.size_push ..
  have en : IsEnum ((s.heap.push ob).push (enumObj s.heap.objs.size)) (s.heap.objs.size + 1) s.heap.objs.size 0 .none := by
    have z := Heap.get?_push_size (s.heap.push ob) (o := enumObj s.heap.objs.size) rfl
    rw [sz] at z
    exact z
  show _ ∧ _
  rw [sz]
  exact ⟨⟨_, en, rfl⟩, hq _ en (Heap.get?_push_of_some _ (Heap.get?_push_size _ B.free)) fun b o x => Heap.get?_push_of_some _ (Heap.get?_push_of_some _ x)⟩
theorem enumT_end {e it t : Addr} {i : Nat} {j : Int} {items : Array Value} {old : Value} {Q : Option Value → Shared → Prop} (hh : A.in1.handled = none)
    (en : IsEnum s.heap e it j old) (ti : s.heap.IsTupleIter it t i) (tp : s.heap.IsTuple t items) (none' : items[i]? = none) (hq : ∀ h1, Heap.ExtBut it s.heap h1 → Q none { s with heap := h1 }) : wpAny (model prog w) A (pyNext (.ref e)) Q E s := by
  have ty : s.TypeIs (.ref e) "enumerate" := ⟨_, en, rfl⟩
  unfold pyNext
  refine wpAny_bind (wpAny_attempt (wpAny_callSpecial?_slot (name := Str.ofString "__next__") ty F.slot_enumerate_next (wpAny_call_entry F.slot_enumerate_next ty F.entry_enumerate_next ?_ (F.args_enumerate_next_1 _))))
  show wpAny _ _ (field (Value.ref e) 2 >>= _) _ _ _
  refine wpAny_bind (wpAny_field en rfl (x := Value.ref it) rfl (wpAny_bind (wpAny_nextOf_tuple_end hh ti tp none' fun h1 x b1 ⟨o, ho, hc⟩ => ?_)))
  exact wpAny_bind (wpAny_isInstance (T := "StopIteration") (b := true) ⟨o, ho, hc⟩ isSubtype_stop (wpAny_pure (hq _ b1)))
end
/-- the tuple at a, each item with its number in a new pair -/
def IteT (K : PySem.W.Frag) (a : Addr) : It :=
  ⟨fun i H => ∃ (xs : List V) (x : V), SqT K H a xs ∧ xs[i]? = some x, fun i H v H1 => ∃ T x, v = .ref T ∧ H T = none ∧ H1 = upd H T (.tup [.int (i : Nat), x]) ∧ ∀ xs, SqT K H a xs → xs[i]? = some x, fun i H => ∃ xs : List V, SqT K H a xs ∧ xs.length ≤ i⟩
theorem turn_enumT {P : Program} {w : World} {K : PySem.W.Frag} {elts : List Expr} {kk : Nat} {tpos : PySem.Pos} (a e it : Addr) (h1 : e ≠ it) (h2 : a ≠ it) (h3 : e ≠ a) :
    Turn P w K (.Tuple elts kk tpos) (IteT K a) [e, it] e (fun i h => (∃ old, IsEnum h e it ((i : Nat) : Int) old) ∧ h.IsTupleIter it a i) where
  mem := by simp
  obj := fun i h st b hb => by
    obtain ⟨⟨old, he⟩, o, ho, hc, hd⟩ := st
    have q : b = e ∨ b = it := by simpa using hb
    rcases q with q | q
    · subst q
      exact ⟨_, he, fun v q => nomatch q⟩
    · subst q
      exact ⟨o, ho, fun v q => by rw [hd] at q; cases q⟩
  keep := fun i h h' st k => let ⟨⟨old, he⟩, hi⟩ := st; ⟨⟨old, k e (by simp) _ he⟩, hi.at fun o q => k it (by simp) o q⟩
  item := by
    intro X hP hw hK hc i pins s σ H E I hf st hg
    subst hP hw hK
    obtain ⟨⟨old, he⟩, hit⟩ := st
    obtain ⟨xs, x, hq, hx⟩ := hg
    obtain ⟨its, rv, p, hz⟩ := I.tuple hq
    obtain ⟨u, hu, ru⟩ := rv.get hx
    have hel := Heap.lt_size he
    have hil : it < s.heap.objs.size := by obtain ⟨_, q, _⟩ := hit; exact Heap.lt_size q
    have hlt : i < its.toArray.size := by
      have := (List.getElem?_eq_some_iff.mp hu).1
      simpa using this
    have hh : X.A.in1.handled = none := I.ok.hd hc
    refine wpAny_pyNext_enum_itemD (Draws.tuple hh it a h2 its.toArray) he ⟨hit, p⟩ hlt h1 (by simp; exact ⟨h1, h3⟩) fun y h' tk hy ho hst hT hsz hk => ?_
    have hyu : y = u := by
      have e1 : its[i]? = some y := by simpa using hy
      rw [hu] at e1
      exact (Option.some.inj e1).symm
    subst hyu
    refine ⟨_, rfl, wpAny_letOwnedTupleGo_enum (s := { s with heap := h', toks := tk + 1 }) ho fun h'' he' sb => ?_⟩
    have hT2 := (sb.2 _ (Nat.ne_of_gt hel)).trans hT
    have new : ObjOk X.prog X.w (upd H s.heap.objs.size (.tup [.int (i : Nat), x])) h'' s.heap.objs.size (.tup [.int (i : Nat), x]) :=
      ⟨by show 2 ≤ sizeLine; decide, [.int i tk, y], .cons ⟨_, rfl⟩ (.cons ru .nil), ⟨_, hT2, rfl, _, rfl⟩⟩
    have I1 : Inv X pins σ (upd H s.heap.objs.size (.tup [.int (i : Nat), x])) { s with heap := h'', toks := tk + 1 } :=
      I.turnedNew (ch := [e, it]) (fun b ob hb q => by
        have n1 : b ≠ e := fun z => hb (by simp [z])
        have n2 : b ≠ it := fun z => hb (by simp [z])
        exact (sb.2 b n1).trans (hk b ob n1 n2 q)) hf (Nat.le_refl _) new
    refine ⟨.ref s.heap.objs.size, _, I1, rfl, ⟨_, x, rfl, I.hok.fresh (Nat.le_refl _), rfl, fun ys hy => ?_⟩, ⟨⟨y, ?_⟩, hst.1.at fun o q => (sb.2 it (Ne.symm h1)).trans q⟩, fun b hb => ?_⟩
    · rw [I.tuple_inj hy hq]
      exact hx
    · have e1 : ((i + 1 : Nat) : Int) = (i : Int) + 1 := by omega
      rw [e1]
      exact he'
    · have hb' : b < s.heap.objs.size := by
        have q : b = e ∨ b = it := by simpa using hb
        rcases q with q | q
        · rw [q]; exact hel
        · rw [q]; exact hil
      rw [upd_ne (Nat.ne_of_lt hb')]
      exact (hf b hb).1
  done := by
    intro X hP hw hK hc i pins s σ H E I hf st hg
    subst hP hw hK
    obtain ⟨⟨old, he⟩, hit⟩ := st
    obtain ⟨xs, hq, hx⟩ := hg
    obtain ⟨its, rv, p, hz⟩ := I.tuple hq
    obtain ⟨f0, f1, f2, f3, f4, f5⟩ := hf it (by simp)
    have hl := rv.length
    exact enumT_end (I.ok.hd hc) he hit p (by simp; omega) fun h1 eb => ⟨rfl, I.turned (t' := s.toks) (fun b o hb q => eb b o hb q) f0 f1 f3 f4 f5⟩
  self := fun A i s Q E st h => let ⟨⟨_, he⟩, _⟩ := st; wpAny_pyIter_enum he h
def iEnumA (K : PySem.W.Frag) (ta : TA) : TI := fun σ H R => ta σ H fun vs H1 => ∃ a xs, vs = [.ref a] ∧ ((SqT K H1 a xs ∧ R (IteT K a) H1) ∨ (SqL K H1 a xs ∧ R (Ite K a) H1))
theorem pi_enumA {X : Cx} {e : Expr} {ta : TA} {p pos tpos : PySem.Pos} {elts : List Expr} {kk : Nat} (hg : Gl X "enumerate") (hm : X.mg "enumerate" = none) (ha : PA X [e] ta) (hs : starEach [e] X.env = [(false, eval e X.env)] := by rfl) :
    PI X (.Tuple elts kk tpos) (.Call (.Name "enumerate" p) [e] [] pos) (iEnumA X.K ta) := by
  refine ⟨fun pins s σ H R I h => Call_ (ld_blt I hg hm boot_enumerate (PyProof.Rows.callWith_type1 (thn (ha.run pos pins s σ H _ I h) fun us s1 ⟨vs, H1, I1, r1, a, xs, ex, q1⟩ => ?_) hs rfl))⟩
  subst ex
  cases r1 with
  | cons r rr =>
    cases rr
    cases r
    have far : ∀ b, b ∈ [s1.heap.objs.size + 1, s1.heap.objs.size] → FpOk X pins H1 b := fun b hb => by
      have hle : s1.heap.objs.size ≤ b := by
        have q : b = s1.heap.objs.size + 1 ∨ b = s1.heap.objs.size := by simpa using hb
        rcases q with q | q
        · rw [q]; exact Nat.le_succ _
        · rw [q]; exact Nat.le_refl _
      exact I1.fpOk hle (I1.hok.fresh hle)
    rcases q1 with ⟨hq, q⟩ | ⟨hq, q⟩
    · obtain ⟨its, rv, p1, hz⟩ := I1.tuple hq
      have hlt : a < s1.heap.objs.size := by obtain ⟨o, ho, _⟩ := id p1; exact Heap.lt_size ho
      refine enum1_call (begins_tuple a its.toArray) (show s1.heap.IsTuple a its.toArray from p1) fun h1 he hit hk => wpAny_pyIter_enum he ?_
      have I2 : Inv X pins σ H1 { s1 with heap := h1 } := I1.kept (t' := s1.toks) hk
      exact ⟨s1.heap.objs.size + 1, [s1.heap.objs.size + 1, s1.heap.objs.size], _, _, H1, rfl, I2, turn_enumT a (s1.heap.objs.size + 1) s1.heap.objs.size (Nat.succ_ne_self _) (Nat.ne_of_lt hlt) (Ne.symm (Nat.ne_of_lt (Nat.lt_succ_of_lt hlt))), ⟨⟨.none, he⟩, ⟨_, hit, rfl, rfl⟩⟩, far, q⟩
    · obtain ⟨its, rv, p1, hz⟩ := I1.list hq
      refine enum1_call (begins_list a its.toArray) (show s1.heap.IsList a its.toArray from p1.isList) fun h1 he hit hk => wpAny_pyIter_enum he ?_
      have I2 : Inv X pins σ H1 { s1 with heap := h1 } := I1.kept (t' := s1.toks) hk
      exact ⟨s1.heap.objs.size + 1, [s1.heap.objs.size + 1, s1.heap.objs.size], _, _, H1, rfl, I2, turn_enum a (s1.heap.objs.size + 1) s1.heap.objs.size, ⟨⟨.none, he⟩, ⟨_, hit, rfl, rfl⟩, Nat.succ_ne_self _⟩, far, q⟩
/-! ### as functions -/
def enumD (xs : List D) : List W := (List.range xs.length).zipWith (fun (i : Nat) x => W.d (.tup [.int (i : Int), x])) xs
def oEnum : List W → Store → Rs (List W × Grd)
  | [.d (.tup xs)], S => some (.ok (enumD xs, none), S)
  | [.d (.lst xs)], S => some (.ok (enumD xs, none), S)
  | _, _ => none
theorem enumD_get {xs : List D} {i : Nat} {w : W} (h : (enumD xs)[i]? = some w) : ∃ x, xs[i]? = some x ∧ w = .d (.tup [.int (i : Int), x]) := by
  unfold enumD at h
  rw [List.getElem?_zipWith] at h
  by_cases hi : i < xs.length
  · rw [List.getElem?_range hi, List.getElem?_eq_getElem hi] at h
    cases h
    exact ⟨xs[i], List.getElem?_eq_getElem hi, rfl⟩
  · rw [List.getElem?_eq_none (by simpa using hi)] at h
    cases h
theorem enumD_len {xs : List D} : (enumD xs).length = xs.length := by simp [enumD]
section
variable {K : PySem.W.Frag} {ρ : Ad} {H : Hp} {xs : List D} {a : Addr} {us : List V}
theorem int_rel (i : Int) : RelD K ρ H (.int i) (.int i) := by rw [RelD]
theorem itR_enumT (h1 : TupF K ρ H a us) (r1 : RelDs K ρ H xs us) : ItR K ρ H (enumD xs, none) (IteT K a) := by
  intro ρ' S' H' ok st _ i
  have g1 := (h1.monoW st).sq
  have q1 := RelDs.monoW st xs us r1
  refine ⟨fun w hw => ?_, fun hi => ⟨us, g1, by rw [enumD_len, q1.length] at hi; exact hi⟩⟩
  obtain ⟨x, ex, rfl⟩ := enumD_get hw
  obtain ⟨u, hu, ru⟩ := q1.get ex
  refine ⟨⟨us, u, g1, hu⟩, fun z H'' ⟨T, u', e1, hT, e2, k1⟩ => ?_⟩
  have e3 := k1 us g1
  rw [hu] at e3
  cases e3
  subst e1 e2
  exact ⟨fun c o hc => by rw [upd_ne (ne_of_none hc hT)]; exact hc, tup2_new ok hT (int_rel _) ru⟩
theorem itR_enumL (h1 : LstF K ρ H a us) (r1 : RelDs K ρ H xs us) : ItR K ρ H (enumD xs, none) (Ite K a) := by
  intro ρ' S' H' ok st _ i
  have g1 := (h1.monoW st).sq
  have q1 := RelDs.monoW st xs us r1
  refine ⟨fun w hw => ?_, fun hi => ⟨us, g1, by rw [enumD_len, q1.length] at hi; exact hi⟩⟩
  obtain ⟨x, ex, rfl⟩ := enumD_get hw
  obtain ⟨u, hu, ru⟩ := q1.get ex
  refine ⟨⟨us, u, g1, hu⟩, fun z H'' ⟨T, u', e1, hT, e2, k1⟩ => ?_⟩
  have e3 := k1 us g1
  rw [hu] at e3
  cases e3
  subst e1 e2
  exact ⟨fun c o hc => by rw [upd_ne (ne_of_none hc hT)]; exact hc, tup2_new ok hT (int_rel _) ru⟩
end
theorem di_enum {X : Cx} {Wx : WX} {e : Expr} {fa : FA} {p pos tpos : PySem.Pos} {elts : List Expr} {kk : Nat} (hm : X.mg "enumerate" = none) (ha : PA X [e] (tA X.K Wx fa)) (hg : Gl X "enumerate" := by rfl) (hs : starEach [e] X.env = [(false, eval e X.env)] := by rfl) :
    PI X (.Tuple elts kk tpos) (.Call (.Name "enumerate" p) [e] [] pos) (tI X.K Wx (dIt oEnum fa)) :=
  (pi_enumA hg hm ha hs).imp fun σ H R q => by
    obtain ⟨δ, S, ρ, ok, en, q⟩ := q
    refine ⟨δ, S, ρ, ok, en, (go_bind q).mono fun vs H1 ⟨ws, S1, ρ1, ok1, st1, r1, q1⟩ => ?_⟩
    unfold oEnum at q1
    split at q1
    · rename_i xs
      obtain ⟨v, rfl, rv⟩ := relWs1 r1
      obtain ⟨a, us, rfl, h1, h2⟩ : ∃ a vs, v = .ref a ∧ TupF X.K ρ1 H1 a vs ∧ RelDs X.K ρ1 H1 xs vs := by simpa [RelW, RelD] using rv
      exact ⟨a, us, rfl, .inl ⟨h1.sq, go_val ok1 q1 (itR_enumT h1 h2)⟩⟩
    · rename_i xs
      obtain ⟨v, rfl, rv⟩ := relWs1 r1
      obtain ⟨a, us, rfl, h1, h2⟩ : ∃ a vs, v = .ref a ∧ LstF X.K ρ1 H1 a vs ∧ RelDs X.K ρ1 H1 xs vs := by simpa [RelW, RelD] using rv
      exact ⟨a, us, rfl, .inr ⟨h1.sq, go_val ok1 q1 (itR_enumL h1 h2)⟩⟩
    · exact go_none q1
end DL
set_option Elab.async false
set_option linter.all false
set_option maxRecDepth 100000
set_option maxHeartbeats 1000000
/-! DL16: operators that go by what the left side is; list.extend. -/
namespace DL
open PySem PySem.Spec PyProof.Rows L2
theorem opr_or {X : Cx} {f : Value → Value → Sem Value} {r r' : R2} (h : OpR X f r) (h' : OpR X f r') : OpR X f fun x y H Q => r x y H Q ∨ r' x y H Q :=
  fun pins s σ H x y v u Q I rx ry q => q.elim (h pins s σ H x y v u Q I rx ry) (h' pins s σ H x y v u Q I rx ry)
theorem slr_or {X : Cx} {r r' : V → Option Int → Option Int → Hp → VK → Prop} (h : SlR X r) (h' : SlR X r') : SlR X fun x lo hi H Q => r x lo hi H Q ∨ r' x lo hi H Q :=
  fun pins s σ H x v vl vu lo hi sl Q I rx hs hl hu q => q.elim (h pins s σ H x v vl vu lo hi sl Q I rx hs hl hu) (h' pins s σ H x v vl vu lo hi sl Q I rx hs hl hu)
/-- a tuple -/
def isT : W → Bool
  | .d (.tup _) => true
  | _ => false
def oEi (p q : F2) : F2 := fun x y S => if isT x = true then p x y S else q x y S
theorem oEi_ok {K : PySem.W.Frag} {Wx : WX} {r r' : R2} {p q : F2} (h : OpF K Wx r p) (h' : OpF K Wx r' q) : OpF K Wx (fun x y H Q => r x y H Q ∨ r' x y H Q) (oEi p q) := by
  intro σ ρ S H x y a b Q ok rx ry g
  unfold oEi at g
  split at g
  · exact .inl (h σ ρ S H x y a b Q ok rx ry g)
  · exact .inr (h' σ ρ S H x y a b Q ok rx ry g)
def oSlE (p q : F3) : F3 := fun x lo hi S => if isT x = true then p x lo hi S else q x lo hi S
theorem oSlE_ok {K : PySem.W.Frag} {Wx : WX} {r r' : V → Option Int → Option Int → Hp → VK → Prop} {p q : F3} (h : SlF K Wx r p) (h' : SlF K Wx r' q) : SlF K Wx (fun x lo hi H Q => r x lo hi H Q ∨ r' x lo hi H Q) (oSlE p q) := by
  intro σ ρ S H x a lo hi Q ok rx g
  unfold oSlE at g
  split at g
  · exact .inl (h σ ρ S H x a lo hi Q ok rx g)
  · exact .inr (h' σ ρ S H x a lo hi Q ok rx g)
/-- a[lo:hi] of tuples and of lists that are only read -/
def oSlA : F3 := oSlE oSlT oSlL
theorem sl_A {X : Cx} : SlR X fun x lo hi H Q => rSlA X.K x lo hi H Q ∨ rSlL X.K x lo hi H Q := slr_or sl_tupA sl_list
theorem oSlA_ok {K : PySem.W.Frag} {Wx : WX} : SlF K Wx (fun x lo hi H Q => rSlA K x lo hi H Q ∨ rSlL K x lo hi H Q) oSlA := oSlE_ok oSlT_ok oSlL_ok
/-- C(args), by what is known of its __init__ -/
theorem de_makeE {X : Cx} {Wx : WX} {C0 f0 : Addr} {k n : Nat} {g : Fn} {x : Str} {e : Expr} {es : List Expr} {fa : FA} {p pos : PySem.Pos} (M : Mk X.K C0 f0) (F : ∃ fd ps, FnOk X.prog X.w X.K X.mg X.base (L2.CX X.prog X.w) k f0 fd ps (spD X.K n g) ∧ Binds X.K fd ps []) (hm : X.mg x = some (.ref C0)) (hr : Room (k + 1) X.A) (ha : PA X (e :: es) (tA X.K Wx fa))
    (hg : Gl X x := by rfl) (hdb : (x == ("__debug__" : Str)) = false := by decide) (he : starEach (e :: es) X.env = (false, eval e X.env) :: starEach es X.env := by rfl) (hpl : (backTo pos (starEach es X.env)).any (·.1) = false := by rfl) :
    PE X (.Call (.Name x p) (e :: es) [] pos) (tE X.K Wx (dMake C0 n g fa)) := by
  obtain ⟨fd, ps, F, hb⟩ := F
  exact de_make M F hb hr hm ha hg hdb he hpl
/-- xs.extend(ys): both at places -/
def extAt (n : Nat) (w : W) (S : Store) : Rs W := match w with
  | .loc m => (match S[n]? with
    | some (.lst ws) => (match S[m]? with
      | some (.lst us) => if ws.length + us.length ≤ sizeLine then some (.ok (.d .non), S.set n (.lst (ws ++ us))) else none
      | _ => none)
    | _ => none)
  | _ => none
def dExt (fo fe : FE) : FE := fun δ S => (fo δ S).bind fun x S1 => match x with
  | .loc n => if isLst S1 n = true then (fe δ S1).bind (extAt n) else none
  | _ => none
theorem de_ext {X : Cx} {Wx : WX} {o e : Expr} {fo f : FE} {cpos apos : PySem.Pos} (ho : PE X o (tE X.K Wx fo)) (he : PE X e (tE X.K Wx f)) (hbase : attributeBase o "extend" X.env (eval o X.env) = eval o X.env := by rfl)
    (hfew : ((backTo cpos (starEach [e] X.env)).all (fun x => !x.1) && (backToKw cpos (keywordEach [] X.env)).all (fun x => x.1.isSome)
      && decide ([e].length + ([] : List Keyword).length + (if ([] : List Keyword).isEmpty then 0 else 1) < 30)) = true := by rfl)
    (hline : (apos.endLine == cpos.line) = true := by rfl) (hs : starEach [e] X.env = (false, eval e X.env) :: starEach [] X.env := by rfl) (hplain : (backTo cpos (starEach [] X.env)).any (·.1) = false := by rfl) :
    PE X (.Call (.Attribute o "extend" apos) [e] [] cpos) (tE X.K Wx (dExt fo f)) :=
  (pe_bm PySem.F.plainAttrs_list PySem.F.slot_list_extend PySem.F.type_list_extend mt_extend ho (pa_cons he pa_nil hs) hbase hfew hline hs hplain).imp fun σ H Q q => by
    obtain ⟨δ, S, ρ, ok, en, q⟩ := q
    refine ⟨δ, S, ρ, ok, en, (go_bind q).mono fun v H1 ⟨x, S1, ρ1, ok1, st1, r1, q1⟩ => ?_⟩
    cases x with
    | d x => exact go_none q1
    | loc n =>
      by_cases hi : isLst S1 n = true
      · simp only [if_pos hi] at q1
        obtain ⟨ws, ew⟩ := isLst_at hi
        obtain ⟨a, vs, rfl, ha, h1, h2⟩ := loc_at ok1 r1 ew
        refine ⟨.inl ⟨rfl, vs, SqL.of h1⟩, ?_⟩
        refine ⟨δ, S1, ρ1, ok1, en.mono st1, (go_bind q1).mono fun u H2 ⟨w, S2, ρ2, ok2, st2, r2, q2⟩ => ?_⟩
        cases w with
        | d y => exact go_none q2
        | loc m =>
          unfold extAt at q2
          dsimp only at q2
          split at q2
          · rename_i ws2 e2
            split at q2
            · rename_i us2 e4
              obtain ⟨a2, vs2, e3, ha2, h3, h4⟩ := loc_at ok2 (r1.mono st2) e2
              cases e3
              obtain ⟨b, zs, rfl, hb, h5, h6⟩ := loc_at ok2 r2 e4
              by_cases hz : ws2.length + us2.length ≤ sizeLine
              · rw [if_pos hz] at q2
                refine ⟨a, b, vs2, zs, rfl, rfl, h3, h5, by rw [← h4.length, ← h6.length]; exact hz, ?_⟩
                obtain ⟨ok3, st3⟩ := ok_write ok2 (m := .lst (ws2 ++ us2)) (o := .lst (vs2 ++ zs)) ha2 fun H' st e => ⟨_, e, (h4.mono st).app (h6.mono st)⟩
                exact go_at q2 ok3 st3 (by simp [RelW, RelD])
              · rw [if_neg hz] at q2
                exact go_none q2
            · exact go_none q2
          · exact go_none q2
      · simp only [if_neg hi] at q1
        exact go_none q1
end DL
set_option Elab.async false
set_option linter.all false
set_option maxRecDepth 100000
set_option maxHeartbeats 2000000
/-! DL17: tuple * 1; isinstance and == of own classes. -/
namespace DL
open PySem PySem.Spec PyProof.Rows L2 PySem.SeqAt
open AutoSeq1 (wpAny_loadPart')
theorem tuple_mul1 (l : Addr) (items : Array Value) (n : Nat) (dd : Option Addr) (sl : Array (Option Value)) (u : Tok) :
    Meets (Builtin.«tuple.__mul__» ⟨[.ref l, .int 1 u], []⟩) (fun _ R s => s.heap.get? l = some { cls := .type "tuple", dict := dd, data := .seq items n, slots := sl } ∧ R (.ok (.ret (.ref l))) s) :=
  .of_wp fun prog w A R s h => by
    obtain ⟨hp, g, d, tk, os⟩ := s
    obtain ⟨hl, h⟩ := h
    have f1 := AutoSeq1.idx_int
    have c1 : (items.isEmpty || (1 : Int) == 1) = true := by simp
    wp_walk using wpAny_loadPart' hl
    exact ⟨_, rfl, h⟩
def rRepT1 (K : PySem.W.Frag) : R2 := fun x y H Q => ∃ l xs, x = .ref l ∧ y = .int 1 ∧ SqT K H l xs ∧ Q (.ref l) H
theorem op_repT1 {X : Cx} : OpR X (binaryOp .Mult) (rRepT1 X.K) := by
  intro pins s σ H x y v u Q I rx ry h
  obtain ⟨l, xs, rfl, rfl, hT, q⟩ := h
  cases rx
  obtain ⟨t, rfl⟩ := ry
  obtain ⟨its, r, ⟨⟨cls, dd, data, sl⟩, ho, hc, n, hd⟩, hs⟩ := I.tuple hT
  dsimp only at hc hd
  subst hc hd
  have last : wpAny (model X.prog X.w) X.A (call (.builtin "tuple.__mul__") [.ref l, .int 1 t]) (EP X pins σ Q) X.xe s :=
    call_meets F.slot_tuple_mul ⟨_, ho, rfl⟩ F.entry_tuple_mul (F.args_tuple_mul_2 _ _) (tuple_mul1 l its.toArray n dd sl t) ⟨ho, ⟨.ref l, H, I, rfl, q⟩⟩
  exact wpAny_binaryOp_repeat_ref (T := "tuple") (U := "int") (by decide) ⟨_, ho, rfl⟩ (fun s' => typeIs_int s' 1 t) noFill_tuple_mul F.fills_int_mul F.slot_int_rmul repeat_tuple F.slot_int_index.lookup
    (call_meets F.slot_int_rmul (typeIs_int s 1 t) F.entry_int_rmul (F.args_int_rmul_2 _ _) (int_rmul_tuple 1 t l its.toArray n dd sl) ⟨ho, rfl, ⟨_, ho, rfl⟩, last⟩)
/-- tuple * int, 1 too -/
def oRepA : F2
  | .d (.tup a), .d (.int k), S => if k = 1 then some (.ok (.d (.tup a)), S) else oRepT (.d (.tup a)) (.d (.int k)) S
  | _, _, _ => none
theorem oRepA_ok {K : PySem.W.Frag} {Wx : WX} : OpF K Wx (fun x y H Q => rRepT K x y H Q ∨ rRepT1 K x y H Q) oRepA := by
  intro σ ρ S H x y u v Q ok rx ry q
  unfold oRepA at q
  split at q
  · rename_i a k
    split at q
    · rename_i hk
      subst hk
      have rx' : RelD K ρ H (.tup a) u := rx
      rw [RelD] at rx'
      obtain ⟨p, vs, rfl, ht, hv⟩ := rx'
      exact .inr ⟨p, vs, rfl, by simpa [RelW, RelD] using ry, ht.sq, go_val ok q rx⟩
    · exact .inl (oRepT_ok σ ρ S H _ _ u v Q ok rx ry q)
  · exact go_none q
/-! ### an own == -/
section
variable {prog : Program} {w : World} {A : Around} {E : Value → Shared → Prop} {s : Shared} {K : PySem.W.Frag} {x C f : Addr} {ox : Obj} {od : Option Obj}
/-- a built-in value against an instance: its own == declines, then the text's -/
theorem refl_K {v : Value} {T id : String} {Q : Value → Shared → Prop} (hu : A.units < cLine) (X : K.In s.heap) (I : PySem.W.InstAt s.heap x ox C od) (hv : s.TypeIs v T) (ho : oneThing? .Eq v (.ref x) = none)
    (hup : PySem.W.subIn K (.ref C) (.type T) = some false) (h1 : Slot T "__eq__" id) (hc : ∀ Q' : Value → Shared → Prop, Q' .notImplemented s → wpAny (model prog w) A (call (.builtin id) [v, .ref x]) Q' E s)
    (hs : PySem.W.findIn K (.ref C) "__eq__" = some (some (.ref f))) (hf : PySem.W.isFn K (.ref f) = true)
    (h : wpAny (model prog w) A (call (.ref f) [.ref x, v]) (PySem.W.CmpBack Q) E s) : wpAny (model prog w) A (richCompare .Eq v (.ref x)) Q E s := by
  have back : wpAny (model prog w) A (tryCompare (.ref x) "__eq__" v) (fun r s' => ∃ v, r = some v ∧ Q v s') E s := by
    unfold tryCompare
    refine wpAny_bind (PySem.W.ifBound_K X I hs hf (wpAny_mono h (fun v s' hv => ?_) fun _ _ e => e))
    cases v <;> first | exact hv.elim | exact wpAny_pure ⟨_, rfl, hv⟩
  unfold richCompare
  rw [ho]
  dsimp only
  refine wpAny_holding (wpAny_bind (wpAny_cRoomFor hu (wpAny_bind (wpAny_typeOf hv (wpAny_bind (I.type.here ?_))))))
  have hne : (Value.type T != Value.ref C) = true := rfl
  rw [if_pos hne]
  refine wpAny_bind ((PySem.W.looks_subIn X hup).here ?_)
  rw [if_neg Bool.false_ne_true]
  refine wpAny_bind (m := tryCompare v _ (.ref x)) (wpAny_tryCompare_declines hv h1 (hc _ ⟨rfl, ?_⟩))
  have hnot : (!false) = true := rfl
  dsimp only
  rw [if_pos hnot]
  refine wpAny_bind (m := tryCompare (.ref x) _ v) (wpAny_mono back (fun r s' z => ?_) fun _ _ e => e)
  obtain ⟨v, rfl, hq⟩ := z
  exact wpAny_pure hq
theorem none_no (x : Addr) : Gives (Builtin.«NoneType.__eq__» ⟨[.none, .ref x], []⟩) (.val (Value.notImplemented)) :=
  .of_wp fun M A E s Q h => by
    obtain ⟨hp, g, d, tk, os⟩ := s
    wp_walk
    exact ⟨_, rfl, h⟩
theorem str_no (a : Str) (t : Tok) (x C dx : Addr) : Meets (Builtin.«str.__eq__» ⟨[.str a t, .ref x], []⟩) (fun _ R s => s.heap.get? x = some (PySem.W.instObj C dx) ∧ R (.ok (.ret .notImplemented)) s) :=
  .of_wp fun prog w A R s h => by
    obtain ⟨hp, g, d, tk, os⟩ := s
    obtain ⟨hl, h⟩ := h
    unfold PySem.W.instObj at hl
    wp_walk using wpAny_loadPart' hl
    exact ⟨_, rfl, h⟩
theorem tup_no (l : Addr) (items : Array Value) (n : Nat) (dd : Option Addr) (sl : Array (Option Value)) (x C dx : Addr) (hs : PySem.W.subIn K (.ref C) (.type "tuple") = some false) :
   Meets (Builtin.«tuple.__eq__» ⟨[.ref l, .ref x], []⟩) (fun _ R s => K.In s.heap ∧ s.heap.get? l = some { cls := .type "tuple", dict := dd, data := .seq items n, slots := sl } ∧ s.heap.get? x = some (PySem.W.instObj C dx) ∧ R (.ok (.ret .notImplemented)) s) :=
  .of_wp fun prog w A R s h => by
    obtain ⟨hp, g, d, tk, os⟩ := s
    obtain ⟨X, hl, hx, h⟩ := h
    have sub : ∀ {A : Around} {E : Value → Shared → Prop} {Q : Bool → Shared → Prop}, Q false ⟨hp, g, d, tk, os⟩ → wpAny (model prog w) A (isSubtype (.ref C) (.type "tuple")) Q E ⟨hp, g, d, tk, os⟩ := fun q => (PySem.W.looks_subIn X hs).here q
    unfold PySem.W.instObj at hx
    wp_walk using wpAny_loadPart' hl, wpAny_loadPart' hx, sub
    exact ⟨_, rfl, h⟩
end
/-! ### own classes -/
def tyNs : List String := ["NoneType", "bool", "int", "str", "tuple", "list", "dict"]
def tyCs : List String := ["bool", "int", "str", "tuple", "list", "dict"]
/-- what isinstance and == ask of an own class -/
structure KOwn (K : PySem.W.Frag) (C : Addr) : Prop where
  cl : Cls K C
  ca : PySem.W.findIn K (.ref C) "__class__" = some (some (.builtin "object.__class__"))
  cn : PySem.W.specialIn K (.builtin "object.__class__") "__get__" = some (some (.builtin "getset_descriptor.__get__"))
  ct : PySem.W.takesIn K (.builtin "object.__class__") = some true
  cm : PySem.W.mroIn K C (.type "object") = some true
  no : ∀ t ∈ tyNs, PySem.W.kitOne K (.type t) (.ref C) = some false
  un : ∀ t ∈ tyCs, PySem.W.kitOne K (.ref C) (.type t) = some false
  up : ∀ t ∈ tyNs, PySem.W.subIn K (.ref C) (.type t) = some false
  dn : ∀ t ∈ tyNs, PySem.W.subIn K (.type t) (.ref C) = some false
def ownB (K : PySem.W.Frag) (C : Addr) : Bool :=
  decide (PySem.W.findIn K (.ref C) "__class__" = some (some (.builtin "object.__class__"))) && (decide (PySem.W.specialIn K (.builtin "object.__class__") "__get__" = some (some (.builtin "getset_descriptor.__get__"))) &&
  (decide (PySem.W.takesIn K (.builtin "object.__class__") = some true) && (decide (PySem.W.mroIn K C (.type "object") = some true) &&
  ((tyNs.all fun t => decide (PySem.W.kitOne K (.type t) (.ref C) = some false)) && ((tyCs.all fun t => decide (PySem.W.kitOne K (.ref C) (.type t) = some false)) &&
  ((tyNs.all fun t => decide (PySem.W.subIn K (.ref C) (.type t) = some false)) && (tyNs.all fun t => decide (PySem.W.subIn K (.type t) (.ref C) = some false))))))))
theorem own_ok {K : PySem.W.Frag} {C : Addr} (cl : Cls K C) (h : ownB K C = true) : KOwn K C := by
  unfold ownB at h
  simp only [Bool.and_eq_true, decide_eq_true_eq, List.all_eq_true] at h
  obtain ⟨h1, h2, h3, h4, h5, h6, h7, h8⟩ := h
  exact ⟨cl, h1, h2, h3, h4, h5, h6, h7, h8⟩
theorem tyN_mem {S : Store} {x : W} {t : String} (e : tyN S x = some t) : t ∈ tyNs := by
  unfold tyN at e
  split at e <;> first
    | (cases e; decide)
    | (split at e <;> first | (cases e; decide) | cases e)
    | cases e
section
variable {K : PySem.W.Frag} {Wx : WX}
theorem ins_ty {ρ : Ad} {H : Hp} {C : Addr} {ns : List Str} {ds : List D} {v : V} (k : KOwn K C) (r : RelW K ρ H (.d (.ins C ns ds)) v) : ∃ a dx fs, v = .ref a ∧ H a = some (.ins C dx fs) ∧ TyX K H v (.ref C) := by
  have r' : RelD K ρ H (.ins C ns ds) v := r
  rw [RelD] at r'
  obtain ⟨a, dx, vs, rfl, h1, _⟩ := r'
  exact ⟨a, dx, _, rfl, h1, .base (.ins h1 k.cl k.ca k.cn k.ct k.cm)⟩
/-- isinstance, own classes too -/
def oIsiI (cs : List Addr) : FB := fun ws S => match ws with
  | [.d (.ins C _ _), .d (.ref E)] => if C = E ∧ C ∈ cs then some (.ok (.d (.bl true)), S) else none
  | [.d (.ins C _ _), .d (.ty t)] => if C ∈ cs ∧ t ∈ tyCs then some (.ok (.d (.bl false)), S) else none
  | [x, .d (.ref E)] => if E ∈ cs then (match tyN S x with
    | some _ => some (.ok (.d (.bl false)), S)
    | none => none) else none
  | us => oIsi us S
theorem oIsiI_ok {cs : List Addr} (k : ∀ C ∈ cs, KOwn K C) : CalF K Wx (rIsi K) (oIsiI cs) := by
  intro σ ρ S H ws vs Q ok rw' q
  unfold oIsiI at q
  split at q
  · rename_i C ns ds E
    split at q
    · rename_i hc
      obtain ⟨rfl, hm⟩ := hc
      obtain ⟨v, z, rfl, r1, r2⟩ := relWs2 rw'
      obtain rfl : z = .ref C := by simpa [RelW, RelD] using r2
      obtain ⟨a, dx, fs, _, _, ty⟩ := ins_ty (k C hm) r1
      exact ⟨v, .ref C, .ref C, .ref C, true, rfl, .own C, ty, by unfold PySem.W.kitOne; rw [if_pos (by simp)], go_val ok q (by simp [RelW, RelD])⟩
    · exact go_none q
  · rename_i C ns ds t
    split at q
    · rename_i hc
      obtain ⟨hm, ht⟩ := hc
      obtain ⟨v, z, rfl, r1, r2⟩ := relWs2 rw'
      obtain rfl : z = .ty t := by simpa [RelW, RelD] using r2
      obtain ⟨a, dx, fs, _, _, ty⟩ := ins_ty (k C hm) r1
      exact ⟨v, .ty t, .ref C, .type t, false, rfl, .ty t, ty, (k C hm).un t ht, go_val ok q (by simp [RelW, RelD])⟩
    · exact go_none q
  · rename_i x E hx
    split at q
    · rename_i hm
      split at q
      · rename_i t et
        obtain ⟨v, z, rfl, r1, r2⟩ := relWs2 rw'
        obtain rfl : z = .ref E := by simpa [RelW, RelD] using r2
        exact ⟨v, .ref E, .type t, .ref E, false, rfl, .own E, tyN_ok ok r1 et, (k E hm).no t (tyN_mem et), go_val ok q (by simp [RelW, RelD])⟩
      · exact go_none q
    · exact go_none q
  · exact oIsi_ok σ ρ S H ws vs Q ok rw' q
/-- x == y by the own == of the class at C0 -/
def rOwnE (K : PySem.W.Frag) (C0 : Addr) (sp : Sp) : R2 := fun x y H Q =>
  (∃ a dx fs tb, x = .ref a ∧ H a = some (.ins C0 dx fs) ∧ TyX K H y tb ∧ PySem.W.notFirst K C0 tb = true ∧ sp [x, y] H Q E0) ∨
  (∃ a dx fs, y = .ref a ∧ H a = some (.ins C0 dx fs) ∧ (x = .non ∨ (∃ z, x = .str z) ∨ ∃ p us, x = .ref p ∧ SqT K H p us) ∧ sp [y, x] H Q E0)
theorem op_ownE {X : Cx} {n : Nat} {C f : Addr} {fd : FuncData} {ps : List Str} {sp : Sp} (F : FnOk X.prog X.w X.K X.mg X.base CX0 n f fd ps sp) (hb : Binds X.K fd ps []) (m : Meth X.K C "__eq__" f) (k : KOwn X.K C) (hr : Room n X.A) : OpR X (compareOp .Eq) (rOwnE X.K C sp) := by
  intro pins s σ H x y v u Q I rx ry h
  have run : ∀ (vs : List V) (us : List Value), Vals vs us → sp vs H Q E0 → wpAny (model X.prog X.w) X.A (call (.ref f) us) (PySem.W.CmpBack (EP X pins σ Q)) X.xe s := fun vs us r hsp => by
    have hl := F.len _ _ _ _ hsp
    refine wpAny_call (codeAny_mono (F.run X.A X.stack s H ⟨us, []⟩ us vs Q E0 hr I.env0 (by
      have z := hb s us I.kIn (by rw [List.append_nil, ← r.length]; exact hl)
      simpa using z) r hsp) fun r s' hq => ?_)
    cases r with
    | error e => exact (pass0 (X := X) pins σ H s e s' I hq)
    | ok fl =>
      cases fl with
      | ret w =>
        obtain ⟨z, H', I', rz, qz⟩ := I.after hq
        exact SlX.cmpback rz ⟨z, H', I', rz, qz⟩
      | next => exact False.elim hq
      | brk => exact False.elim hq
      | cont => exact False.elim hq
  show wpAny (model X.prog X.w) X.A (richCompare .Eq v u) (EP X pins σ Q) X.xe s
  rcases h with ⟨a, dx, fs, tb, rfl, ha, ty, hn, hsp⟩ | ⟨a, dx, fs, rfl, ha, hx, hsp⟩
  · cases rx
    obtain ⟨mA, O, _⟩ := ins_get I.hok ha
    obtain ⟨od, J, _⟩ := O.look
    obtain ⟨P, Z, p, _⟩ := kit_of I ry ty
    obtain ⟨m', hF⟩ := I.fr
    exact PySem.W.cmp_K (op := .Eq) (tb := tb) hr.units0 hF I.ok.mod.kin J (Z.ty (model X.prog X.w) s.heap I.kIn p) hn m.at_ m.fn (run [.ref a, y] [.ref a, u] (.cons rfl (.cons ry .nil)) hsp)
  · cases ry
    obtain ⟨mA, O, _⟩ := ins_get I.hok ha
    obtain ⟨od, J, _⟩ := O.look
    have go := run [.ref a, x] [.ref a, v] (.cons rfl (.cons rx .nil)) hsp
    rcases hx with rfl | ⟨z, rfl⟩ | ⟨p, us, rfl, ht⟩
    · cases (show v = Value.none from rx)
      exact refl_K hr.units0 I.kIn J (T := "NoneType") rfl rfl (k.up _ (by decide)) PySem.F.slot_NoneType_eq (fun Q' q' => call_gives PySem.F.slot_NoneType_eq rfl PySem.F.entry_NoneType_eq (PySem.F.args_NoneType_eq_2 _ _) (none_no a) q') m.at_ m.fn go
    · obtain ⟨t, rfl⟩ : ∃ t, v = Value.str z t := rx
      exact refl_K hr.units0 I.kIn J (T := "str") (typeIs_str s z t) rfl (k.up _ (by decide)) PySem.F.slot_str_eq (fun Q' q' => call_meets PySem.F.slot_str_eq (typeIs_str s z t) PySem.F.entry_str_eq (PySem.F.args_str_eq_2 _ _) (str_no z t a C dx) ⟨O.obj, q'⟩) m.at_ m.fn go
    · cases (show v = Value.ref p from rx)
      obtain ⟨its, r, ⟨⟨cls, dd, data, sl⟩, ho, hc, n', hd⟩, hs⟩ := I.tuple ht
      dsimp only at hc hd
      subst hc hd
      exact refl_K hr.units0 I.kIn J (T := "tuple") ⟨_, ho, rfl⟩ rfl (k.up _ (by decide)) PySem.F.slot_tuple_eq (fun Q' q' => call_meets PySem.F.slot_tuple_eq ⟨_, ho, rfl⟩ PySem.F.entry_tuple_eq (PySem.F.args_tuple_eq_2 _ _) (tup_no (K := X.K) p its.toArray n' dd sl a C dx (k.up _ (by decide))) ⟨I.kIn, ho, O.obj, q'⟩) m.at_ m.fn go
/-- a value alone, no exception -/
def okV : Rs W → Rs W
  | some (.ok w, S) => some (.ok w, S)
  | _ => none
/-- what may stand beside an instance -/
def okRight (C0 : Addr) (S : Store) : W → Bool
  | .d (.ins C _ _) => decide (C = C0)
  | y => (tyN S y).isSome
def okLeft : W → Bool
  | .d .non => true
  | .d (.str _) => true
  | .d (.tup _) => true
  | _ => false
def oEqI (C0 : Addr) (g : Fn) (op : F2) : F2 := fun x y S => match x with
  | .d (.ins C ns ds) => if C = C0 ∧ okRight C0 S y = true then okV (g [.d (.ins C ns ds), y] S) else none
  | x => (match y with
    | .d (.ins C ns ds) => if C = C0 ∧ okLeft x = true then okV (g [.d (.ins C ns ds), x] S) else none
    | y => op x y S)
theorem okV_go {ρ : Ad} {S : Store} {H : Hp} {σ : L2.St} {m : Rs W} {Q : VK} (q : Go K Wx σ ρ H (RelW K) (okV m) Q) : ∃ w S', m = some (.ok w, S') ∧ ∀ ρ' H', Ok K ρ' S' H' → Step ρ H ρ' H' → ∀ v, RelW K ρ' H' w v → Q v H' := by
  obtain ⟨r, S', e, c⟩ := q
  unfold okV at e
  split at e
  · rename_i w S1
    cases e
    exact ⟨w, S', rfl, c⟩
  · cases e
/-- the def's promise without exceptions -/
abbrev spN (K : PySem.W.Frag) (n : Nat) (g : Fn) : Sp := fun vs H Q _ => spD K n g vs H Q fun _ _ _ => False
theorem oEqI_ok {C0 : Addr} {g : Fn} {op : F2} {r : R2} (k : KOwn K C0) (o : OpF K Wx r op) : OpF K Wx (fun x y H Q => rOwnE K C0 (spN K 2 g) x y H Q ∨ r x y H Q) (oEqI C0 g op) := by
  intro σ ρ S H x y a b Q ok rx ry q
  unfold oEqI at q
  split at q
  · rename_i C ns ds
    split at q
    · rename_i hc
      obtain ⟨rfl, hy⟩ := hc
      obtain ⟨p, dx, fs, rfl, hp, _⟩ := ins_ty k rx
      obtain ⟨w, S', e, c⟩ := okV_go (S := S) q
      have sp : spN K 2 g [.ref p, b] H Q E0 := ⟨rfl, [.d (.ins C ns ds), y], S, ρ, .ok w, S', ⟨_, _, rfl, rx, _, _, rfl, ry, rfl⟩, ok, e, c⟩
      refine .inl (.inl ?_)
      unfold okRight at hy
      split at hy
      · rename_i C' ns' ds'
        obtain rfl : C' = C := by simpa using hy
        obtain ⟨_, _, _, _, _, ty⟩ := ins_ty k ry
        exact ⟨p, dx, fs, .ref C', rfl, hp, ty, by simp [PySem.W.notFirst], sp⟩
      · obtain ⟨t, et⟩ := Option.isSome_iff_exists.mp hy
        exact ⟨p, dx, fs, .type t, rfl, hp, tyN_ok ok ry et, by simp [PySem.W.notFirst, k.dn t (tyN_mem et)], sp⟩
    · exact go_none q
  · split at q
    · rename_i C ns ds
      split at q
      · rename_i hc
        obtain ⟨rfl, hx⟩ := hc
        obtain ⟨p, dx, fs, rfl, hp, _⟩ := ins_ty k ry
        obtain ⟨w, S', e, c⟩ := okV_go (S := S) q
        have sp : spN K 2 g [.ref p, a] H Q E0 := ⟨rfl, [.d (.ins C ns ds), x], S, ρ, .ok w, S', ⟨_, _, rfl, ry, _, _, rfl, rx, rfl⟩, ok, e, c⟩
        refine .inl (.inr ⟨p, dx, fs, rfl, hp, ?_, sp⟩)
        unfold okLeft at hx
        split at hx
        · exact .inl (by simpa [RelW, RelD] using rx)
        · rename_i z _
          exact .inr (.inl ⟨z, by simpa [RelW, RelD] using rx⟩)
        · rename_i us _
          have rx' : RelD K ρ H (.tup us) a := rx
          rw [RelD] at rx'
          obtain ⟨p', vs, rfl, ht, hv⟩ := rx'
          exact .inr (.inr ⟨p', vs, rfl, ht.sq⟩)
        · cases hx
      · exact go_none q
    · exact .inr (o σ ρ S H x y a b Q ok rx ry q)
end
/-! ### the head, with one more Bool -/
abbrev AlM : Type := He.AlD × Bool
def obsMG (n : Nat) (fa : List He.Fa) (fn : List He.DefD) (ex : PySem.W.Frag → Bool) (g : Addr → Option Obj) : AlM := (He.obsDG n fa fn g, ex (He.frG g (He.asD g n)))
def hookM (n : Nat) (fa : List He.Fa) (fn : List He.DefD) (ex : PySem.W.Frag → Bool) : PySem.W.Hook where
  α := AlM
  obs := fun s => obsMG n fa fn ex s.heap.get?
  val := fun _ => (He.valD fn, true)
  says := fun _ h => ∃ K : PySem.W.Frag, K.In h ∧ He.SaysD fa fn K ∧ ex K = true
  of := fun _ _ e => ⟨_, He.frG_in, congrArg Prod.fst e, congrArg Prod.snd e⟩
  keeps := fun _ _ _ ⟨K, hK, c⟩ k => ⟨K, PySem.W.Frag.In.keeps hK k, c⟩
theorem obsMG_eq {n : Nat} {fa : List He.Fa} {fn : List He.DefD} {ex : PySem.W.Frag → Bool} {g : Addr → Option Obj} {s : Shared} (h : ∀ a, g a = s.heap.get? a) : obsMG n fa fn ex g = (hookM n fa fn ex).obs s := by
  obtain rfl : g = s.heap.get? := funext h
  rfl
end DL
namespace DL
open PySem PySem.Spec PyProof.Rows L2
theorem own1 {K : PySem.W.Frag} {C0 : Addr} (k : KOwn K C0) : ∀ C ∈ [C0], KOwn K C := by
  intro C h
  simp at h
  subst h
  exact k
theorem op_ownEx {X : Cx} {n : Nat} {C f : Addr} {g : Fn} (h : ∃ fd ps, FnOk X.prog X.w X.K X.mg X.base (L2.CX X.prog X.w) n f fd ps (spD X.K 2 g) ∧ Binds X.K fd ps []) (m : Meth X.K C "__eq__" f) (k : KOwn X.K C) (hr : Room n X.A) : OpR X (compareOp .Eq) (rOwnE X.K C (spN X.K 2 g)) := by
  obtain ⟨fd, ps, F, hb⟩ := h
  exact op_ownE (fn_noex F) hb m k hr
end DL
set_option Elab.async false
set_option linter.all false
set_option maxRecDepth 100000
set_option maxHeartbeats 1000000
/-! DL18: plain facts: equality by encodings, loops that change the store, slices, grids. -/
namespace DL
open PySem L2
/-! ### equality by encodings -/
/-- == of what e tells is equality -/
structure EqP {α : Type} (f : α → PyData) (n : Nat) : Prop where
  can : ∀ a, (f a).canLay0 = true
  dep : ∀ a, (f a).depth ≤ n
  eqv : ∀ a b, PyData.eqv (f a) (f b) = true ↔ a = b
def EqE {α : Type} (e : α → D) (n : Nat) : Prop := ∃ f : α → PyData, (∀ a, toP (e a) = some (f a)) ∧ EqP f n
theorem EqE.up {α : Type} {e : α → D} {n m : Nat} (h : EqE e n) (hm : n ≤ m) : EqE e m := by
  obtain ⟨f, h1, h2⟩ := h
  exact ⟨f, h1, h2.can, fun a => Nat.le_trans (h2.dep a) hm, h2.eqv⟩
theorem eqE_int : EqE D.int 0 := ⟨PyData.int, fun a => by rw [toP], fun _ => rfl, fun _ => by simp [PyData.depth], fun a b => by simp [PyData.eqv]⟩
theorem eqE_bl : EqE D.bl 0 := ⟨PyData.bool, fun a => by rw [toP], fun _ => rfl, fun _ => by simp [PyData.depth], fun a b => by simp [PyData.eqv]⟩
theorem eqvAll_iff {α : Type} {f : α → PyData} (h : ∀ a b, PyData.eqv (f a) (f b) = true ↔ a = b) : ∀ xs ys : List α, PyData.eqvAll (xs.map f) (ys.map f) = true ↔ xs = ys
  | [], [] => by simp [PyData.eqvAll]
  | [], y :: ys => by simp [PyData.eqvAll]
  | x :: xs, [] => by simp [PyData.eqvAll]
  | x :: xs, y :: ys => by
    have ih := eqvAll_iff h xs ys
    simp [PyData.eqvAll, h x y, ih]
theorem EqE.list {α : Type} {e : α → D} {n : Nat} (h : EqE e n) : EqE (fun xs : List α => D.tup (xs.map e)) (n + 1) := by
  obtain ⟨f, h1, h2, h3, h4⟩ := h
  refine ⟨fun xs => .tuple (xs.map f), fun xs => ?_, fun xs => ?_, fun xs => ?_, fun xs ys => ?_⟩
  · rw [toP]
    have e2 : toPs (xs.map e) = some (xs.map f) := by
      induction xs with
      | nil => rfl
      | cons x xs ih => rw [List.map_cons, toPs, h1 x, ih]; rfl
    rw [e2]; rfl
  · show PyData.canLayAll0 _ = true
    exact canAll_of fun p hp => by obtain ⟨a, _, rfl⟩ := List.mem_map.mp hp; exact h2 a
  · have := depthAll_le (n := n) (ps := xs.map f) fun p hp => by obtain ⟨a, _, rfl⟩ := List.mem_map.mp hp; exact h3 a
    simp [PyData.depth]; omega
  · show PyData.eqvAll _ _ = true ↔ _
    exact eqvAll_iff h4 xs ys
theorem EqE.pair {α β : Type} {e : α → D} {g : β → D} {n m : Nat} (h : EqE e n) (k : EqE g m) : EqE (fun p : α × β => D.tup [e p.1, g p.2]) (max n m + 1) := by
  obtain ⟨f, h1, h2, h3, h4⟩ := h
  obtain ⟨f', k1, k2, k3, k4⟩ := k
  refine ⟨fun p => .tuple [f p.1, f' p.2], fun p => ?_, fun p => ?_, fun p => ?_, fun p q => ?_⟩
  · rw [toP, toPs, h1, toPs, k1, toPs]; rfl
  · show PyData.canLayAll0 _ = true
    exact canAll_of fun z hz => by
      simp at hz
      rcases hz with rfl | rfl
      · exact h2 _
      · exact k2 _
  · have a := h3 p.1
    have b := k3 p.2
    simp [PyData.depth, PyData.depthAll]; omega
  · show PyData.eqvAll _ _ = true ↔ _
    simp [PyData.eqvAll, h4, k4]
    constructor
    · intro z; exact Prod.ext z.1 z.2
    · intro z; rw [z]; exact ⟨rfl, rfl⟩
/-- nothing, or a tuple -/
def encO {α : Type} (e : α → D) : Option α → D
  | none => .non
  | some a => e a
theorem EqE.opt {α : Type} {e : α → List D} {n : Nat} (h : EqE (fun a => D.tup (e a)) n) : EqE (encO fun a => D.tup (e a)) n := by
  obtain ⟨f, h1, h2, h3, h4⟩ := h
  have ft : ∀ a, ∃ ps, f a = .tuple ps := fun a => by
    have z := h1 a
    rw [toP] at z
    obtain ⟨ps, _, q⟩ := Option.map_eq_some_iff.mp z
    exact ⟨ps, q.symm⟩
  refine ⟨fun o => match o with | none => .none | some a => f a, fun o => ?_, fun o => ?_, fun o => ?_, fun o p => ?_⟩
  · cases o with
    | none => show toP .non = _; rw [toP]
    | some a => exact h1 a
  · cases o with
    | none => rfl
    | some a => exact h2 a
  · cases o with
    | none => simp [PyData.depth]
    | some a => exact h3 a
  · cases o with
    | none => cases p with
      | none => exact ⟨fun _ => rfl, fun _ => by show PyData.eqv .none .none = true; rw [PyData.eqv]⟩
      | some b =>
        obtain ⟨ps, e⟩ := ft b
        refine ⟨fun z => ?_, fun z => nomatch z⟩
        have z' : PyData.eqv .none (f b) = true := z
        rw [e, PyData.eqv] at z'
        cases z'
    | some a => cases p with
      | none =>
        obtain ⟨ps, e⟩ := ft a
        refine ⟨fun z => ?_, fun z => nomatch z⟩
        have z' : PyData.eqv (f a) .none = true := z
        rw [e, PyData.eqv] at z'
        cases z'
      | some b => exact ⟨fun z => congrArg some ((h4 a b).mp z), fun z => (h4 a b).mpr (Option.some.inj z)⟩
theorem EqE.eqW {α : Type} {e : α → D} {n : Nat} (h : EqE e n) (hn : n ≤ 64) (a b : α) : ∃ k : Bool, eqW (.d (e a)) (.d (e b)) = some k ∧ (k = true ↔ a = b) := by
  obtain ⟨f, h1, h2, h3, h4⟩ := h
  have s : ∀ a, SeqAt.shaped (f a) = true := fun a => by
    have := h3 a
    simp [SeqAt.shaped, h2 a]; omega
  exact ⟨_, by simp [DL.eqW, h1, s], h4 a b⟩
theorem EqE.oEq {α : Type} {e : α → D} {n : Nat} (h : EqE e n) (hn : n ≤ 64) (a b : α) [Decidable (a = b)] {S : Store} : oEq (.d (e a)) (.d (e b)) S = some (.ok (.d (.bl (decide (a = b)))), S) := by
  obtain ⟨k, h1, h2⟩ := h.eqW hn a b
  have e : k = decide (a = b) := by
    cases k with
    | true => exact (decide_eq_true (h2.mp rfl)).symm
    | false => exact (decide_eq_false fun z => Bool.noConfusion (h2.mpr z)).symm
  simp [DL.oEq, h1, e]
theorem EqE.oNe {α : Type} {e : α → D} {n : Nat} (h : EqE e n) (hn : n ≤ 64) (a b : α) [Decidable (a = b)] {S : Store} : oNe (.d (e a)) (.d (e b)) S = some (.ok (.d (.bl (!decide (a = b)))), S) := by
  obtain ⟨k, h1, h2⟩ := h.eqW hn a b
  have e : k = decide (a = b) := by
    cases k with
    | true => exact (decide_eq_true (h2.mp rfl)).symm
    | false => exact (decide_eq_false fun z => Bool.noConfusion (h2.mpr z)).symm
  simp [DL.oNe, h1, e]
theorem eqE_F : EqE encF 1 := (eqE_int.pair eqE_int : EqE (fun p : Int × Int => D.tup [.int p.1, .int p.2]) 1)
theorem eqE_U : EqE encU 2 := eqE_F.list
abbrev Unit' := List (Int × Int)
/-- a cell, a row, rows -/
def encC : Option Unit' → D := encO encU
def encRow (r : List (Option Unit')) : D := .tup (r.map encC)
def encR (rs : List (List (Option Unit'))) : D := .tup (rs.map encRow)
theorem eqE_C : EqE encC 2 := EqE.opt (e := fun us : Unit' => us.map encF) eqE_U
theorem eqE_Row : EqE encRow 3 := eqE_C.list
theorem eqE_R : EqE encR 4 := eqE_Row.list
/-! ### loops that change the store -/
theorem forL_invS {α : Type} {tf : Tg} {fb : FS} {wf : α → W} {P : Nat → DEnv → Store → Prop} {xs : List α}
    (h : ∀ (i : Nat) (hi : i < xs.length) (δ : DEnv) (S : Store), P i δ S → ∃ δ1 S1 δ2 S2, tf (wf xs[i]) δ S = some (δ1, S1) ∧ fb δ1 S1 = some (.ok (.nx δ2), S2) ∧ P (i + 1) δ2 S2) :
    ∀ (k i : Nat) (δ : DEnv) (S : Store), i + k = xs.length → P i δ S → ∃ δ' S', forL tf fb none ((xs.drop i).map wf) δ S = some (.ok (.nx δ'), S') ∧ P xs.length δ' S' := by
  intro k
  induction k with
  | zero =>
    intro i δ S hi hp
    have e : xs.drop i = [] := List.drop_eq_nil_of_le (by omega)
    refine ⟨δ, S, ?_, by have : i = xs.length := by omega
                         rwa [this] at hp⟩
    rw [e]
    show forL tf fb none [] δ S = _
    unfold forL
    rw [if_pos okG_no]
  | succ k ih =>
    intro i δ S hi hp
    have hlt : i < xs.length := by omega
    obtain ⟨δ1, S1, δ2, S2, h1, h2, h3⟩ := h i hlt δ S hp
    obtain ⟨δ', S', e, hf⟩ := ih (i + 1) δ2 S2 (by omega) h3
    refine ⟨δ', S', ?_, hf⟩
    rw [List.drop_eq_getElem_cons hlt]
    show forL tf fb none (wf xs[i] :: (xs.drop (i + 1)).map wf) δ S = _
    unfold forL
    rw [if_pos okG_no]
    simp only [h1, h2]
    exact e
theorem dFor_invS {α : Type} {fi : FI} {tf : Tg} {fb : FS} {wf : α → W} {P : Nat → DEnv → Store → Prop} {xs : List α} {δ : DEnv} {S S0 : Store} (hi : fi δ S = some (.ok (xs.map wf, none), S0))
    (h : ∀ (i : Nat) (hi : i < xs.length) (δ : DEnv) (S : Store), P i δ S → ∃ δ1 S1 δ2 S2, tf (wf xs[i]) δ S = some (δ1, S1) ∧ fb δ1 S1 = some (.ok (.nx δ2), S2) ∧ P (i + 1) δ2 S2) (h0 : P 0 δ S0) :
    ∃ δ' S', dFor fi tf fb δ S = some (.ok (.nx δ'), S') ∧ P xs.length δ' S' := by
  obtain ⟨δ', S', e, hp⟩ := forL_invS (tf := tf) (fb := fb) (wf := wf) h xs.length 0 δ S0 (by omega) h0
  refine ⟨δ', S', ?_, hp⟩
  unfold dFor
  rw [hi, sE_ok]
  exact e
/-! ### items -/
theorem oIx_tupN {S : Store} {ds : List D} {i : Nat} (h : i < ds.length) : oIx (.d (.tup ds)) (.d (.int (i : Int))) S = some (.ok (.d ds[i]), S) := by
  have e : atI (ds.map W.d) (i : Int) = some (W.d ds[i]) := atI_nat (by simp [h])
  simp only [oIx, seqW, e]
theorem oIx_tup {S : Store} {ds : List D} {i : Int} (h0 : 0 ≤ i) (h : i < (ds.length : Int)) : ∃ d, oIx (.d (.tup ds)) (.d (.int i)) S = some (.ok (.d d), S) ∧ ds[i.toNat]? = some d := by
  have hi : i.toNat < ds.length := by omega
  have e : (i.toNat : Int) = i := by omega
  have q := oIx_tupN (S := S) hi
  rw [e] at q
  exact ⟨_, q, List.getElem?_eq_getElem hi⟩
theorem oIx_enc {α : Type} {S : Store} (e : α → D) {xs : List α} {i : Nat} (h : i < xs.length) : oIx (.d (.tup (xs.map e))) (.d (.int (i : Int))) S = some (.ok (.d (e xs[i])), S) := by
  rw [oIx_tupN (by simpa using h)]
  simp
theorem len_enc {α : Type} {S : Store} (e : α → D) (xs : List α) : oLen (.d (.tup (xs.map e))) S = some (.ok (.d (.int (xs.length : Int))), S) := by rw [len_tup]; simp
theorem cut_hi {ds : List D} {i : Nat} (h : i ≤ ds.length) : cutD ds none (some (i : Int)) = ds.take i := by
  have e1 : HT.sIx ds.length 0 none = 0 := rfl
  have e2 : HT.sIx ds.length ds.length (some (i : Int)) = i := by unfold HT.sIx; simp [show ¬ ((i : Int) < 0) by omega]; omega
  unfold cutD
  rw [e1, e2]
  simp
theorem cut_lo {ds : List D} {i : Nat} (h : i ≤ ds.length) : cutD ds (some (i : Int)) none = ds.drop i := by
  have e1 : HT.sIx ds.length 0 (some (i : Int)) = i := by unfold HT.sIx; simp [show ¬ ((i : Int) < 0) by omega]; omega
  have e2 : HT.sIx ds.length ds.length none = ds.length := rfl
  unfold cutD
  rw [e1, e2]
  rw [List.take_of_length_le (by simp)]
theorem slA_hi {S : Store} {α : Type} (e : α → D) {xs : List α} {i : Nat} (h : i ≤ xs.length) : oSlA (.d (.tup (xs.map e))) none (some (i : Int)) S = some (.ok (.d (.tup ((xs.take i).map e))), S) := by
  show some (Except.ok (W.d (.tup (cutD (xs.map e) none (some (i : Int))))), S) = _
  rw [cut_hi (by simpa using h), List.map_take]
theorem slA_lo {S : Store} {α : Type} (e : α → D) {xs : List α} {i : Nat} (h : i ≤ xs.length) : oSlA (.d (.tup (xs.map e))) (some (i : Int)) none S = some (.ok (.d (.tup ((xs.drop i).map e))), S) := by
  show some (Except.ok (W.d (.tup (cutD (xs.map e) (some (i : Int)) none))), S) = _
  rw [cut_lo (by simpa using h), List.map_drop]
theorem cat_enc {S : Store} {α : Type} (e : α → D) {xs ys : List α} (h : xs.length + ys.length ≤ 1000) : oCat (.d (.tup (xs.map e))) (.d (.tup (ys.map e))) S = some (.ok (.d (.tup ((xs ++ ys).map e))), S) := by
  have hz : (xs.map e).length + (ys.map e).length ≤ sizeLine := by simp; exact Nat.le_trans h (by decide)
  show (if (xs.map e).length + (ys.map e).length ≤ sizeLine then some (Except.ok (W.d (.tup (xs.map e ++ ys.map e))), S) else none) = _
  rw [if_pos hz, List.map_append]
theorem cat_one {S : Store} {α : Type} (e : α → D) {xs : List α} {y : D} {z : α} (hy : y = e z) (h : xs.length ≤ 999) : oCat (.d (.tup (xs.map e))) (.d (.tup [y])) S = some (.ok (.d (.tup ((xs ++ [z]).map e))), S) := by
  have := cat_enc (S := S) e (xs := xs) (ys := [z]) (by simp; omega)
  rw [hy]
  exact this
theorem set_split {α : Type} {xs : List α} {i : Nat} {z : α} (h : i < xs.length) : (xs.take i ++ [z]) ++ xs.drop (i + 1) = xs.set i z := by
  rw [List.set_eq_take_append_cons_drop, if_pos h, List.append_assoc]
  rfl
theorem rep_flat {α : Type} (x : α) : ∀ n : Nat, (List.replicate n [x]).flatten = List.replicate n x
  | 0 => rfl
  | n + 1 => by rw [List.replicate_succ, List.flatten_cons, rep_flat x n, List.replicate_succ]; rfl
theorem repA_one {S : Store} {x : D} {k : Int} (h1 : 1 ≤ k) (h2 : k ≤ 1000) : oRepA (.d (.tup [x])) (.d (.int k)) S = some (.ok (.d (.tup (List.replicate k.toNat x))), S) := by
  unfold oRepA
  dsimp only
  by_cases hk : k = 1
  · rw [if_pos hk]
    subst hk
    rfl
  · rw [if_neg hk]
    unfold oRepT
    dsimp only
    rw [if_pos ⟨by simp, by omega, h2, by simp⟩, rep_flat]
theorem enum_enc {S : Store} {α : Type} (e : α → D) (xs : List α) : oEnum [.d (.tup (xs.map e))] S = some (.ok ((xs.zipIdx).map fun p => W.d (.tup [.int (p.2 : Int), e p.1]), none), S) := by
  show some (Except.ok (enumD (xs.map e), none), S) = _
  have : enumD (xs.map e) = (xs.zipIdx).map fun p => W.d (.tup [.int (p.2 : Int), e p.1]) := by
    unfold enumD
    refine List.ext_getElem (by simp) fun i h1 h2 => ?_
    simp
  rw [this]
/-! ### instances -/
theorem fld_ins {C0 : Addr} {n : Str} {ns : List Str} {ds : List D} {d : D} {S : Store} (h : (ns.zip ds).lookup n = some d) : oFld C0 n (.d (.ins C0 ns ds)) S = some (.ok (.d d), S) := by
  unfold oFld
  dsimp only
  rw [if_pos rfl, h]
theorem mkIns_two {C0 : Addr} {ns : List Str} {a b : D} {S : Store} {n : Nat} (h : n = S.length) : mkIns C0 S (some (.ok (.d .non), S ++ [.ins C0 ns [.d a, .d b]])) = some (.ok (.d (.ins C0 ns [a, b])), S) := by
  unfold mkIns
  dsimp only
  rw [if_pos keepOk_app]
  have e : (S ++ [M.ins C0 ns [.d a, .d b]])[S.length]? = some (.ins C0 ns [.d a, .d b]) := by simp
  rw [e]
  dsimp only
  rw [if_pos rfl]
  have e2 : pure? [W.d a, W.d b] = some [a, b] := rfl
  rw [e2]
  simp [List.take_left]
theorem giveS_nil {x : D} {S1 : Store} : giveS [] (.d x) S1 = some (.ok (.d x), []) := by
  unfold giveS
  rw [if_pos ⟨Nat.zero_le _, fun i q hi e => by simp at hi⟩]
  rfl
/-! ### small exponents, cells -/
def Ep (p : Int × Int) : Prop := FrB 3 p ∧ p.1.natAbs ≤ 6 ∧ p.2 ≤ 4
def UnOk (b : Nat) (us : Unit') : Prop := us.length = b ∧ ∀ p ∈ us, Ep p
def CellOk (b : Nat) : Option Unit' → Prop
  | none => True
  | some us => UnOk b us
def RowsOk (b m n : Nat) (rs : List (List (Option Unit'))) : Prop := rs.length = m ∧ ∀ r ∈ rs, r.length = n ∧ ∀ c ∈ r, CellOk b c
def setC {α : Type} (rs : List (List α)) (i j : Nat) (c : α) : List (List α) := match rs[i]? with
  | some r => rs.set i (r.set j c)
  | none => rs
theorem setC_eq {α : Type} {rs : List (List α)} {i j : Nat} {c : α} (h : i < rs.length) : setC rs i j c = rs.set i (rs[i].set j c) := by
  unfold setC
  rw [List.getElem?_eq_getElem h]
theorem RowsOk.set {b m n : Nat} {rs : List (List (Option Unit'))} (h : RowsOk b m n rs) {i j : Nat} {c : Option Unit'} (hc : CellOk b c) : RowsOk b m n (setC rs i j c) := by
  unfold setC
  split
  · rename_i r er
    obtain ⟨hi, rfl⟩ := List.getElem?_eq_some_iff.mp er
    refine ⟨by simp [h.1], fun r hr => ?_⟩
    rcases List.mem_or_eq_of_mem_set hr with z | z
    · exact h.2 r z
    · have q := h.2 _ (List.getElem_mem hi)
      subst z
      refine ⟨by simp [q.1], fun d hd => ?_⟩
      rcases List.mem_or_eq_of_mem_set hd with z | z
      · exact q.2 d z
      · subst z; exact hc
  · exact h
section
variable {S : Store}
theorem asPt_int {i : Int} : asPt (.d (.int i)) S = some (.ok (some i), S) := rfl
theorem isN_non : oIsN (.d .non) (.d .non) S = some (.ok (.d (.bl true)), S) := rfl
theorem isN_tup {ds : List D} : oIsN (.d (.tup ds)) (.d .non) S = some (.ok (.d (.bl false)), S) := rfl
theorem isN_U {us : Unit'} : oIsN (.d (encU us)) (.d .non) S = some (.ok (.d (.bl false)), S) := rfl
theorem notN_non : oNotN (.d .non) (.d .non) S = some (.ok (.d (.bl false)), S) := rfl
theorem notN_tup {ds : List D} : oNotN (.d (.tup ds)) (.d .non) S = some (.ok (.d (.bl true)), S) := rfl
theorem notN_U {us : Unit'} : oNotN (.d (encU us)) (.d .non) S = some (.ok (.d (.bl true)), S) := rfl
theorem put_last {C0 : Addr} {n : Str} {ns : List Str} {ws : List W} {w : W} (hn : n ∉ ns) (hl : ns.length < 1000) : putM C0 n (.loc S.length) w (S ++ [.ins C0 ns ws]) = some (S ++ [.ins C0 (ns ++ [n]) (ws ++ [w])]) := by
  unfold putM
  have e : (S ++ [M.ins C0 ns ws])[S.length]? = some (.ins C0 ns ws) := by simp
  dsimp only
  rw [e]
  dsimp only
  rw [if_pos ⟨rfl, hn, hl⟩]
  simp
theorem keepOk_last {m m' : M} (h : mBelow (S.length + 1) m') : keepOk (S ++ [m]) (S ++ [m']) := ⟨by simp, fun i q hi e => by
  by_cases hk : i < S.length
  · exact .inl (by rw [List.getElem?_append_left hk] at e ⊢; exact e)
  · have : i = S.length := by simp at hi; omega
    subst this
    simp at e
    subst e
    exact .inr (by simpa using h)⟩
theorem giveS_last {x : D} {m m' : M} (h : mBelow (S.length + 1) m') : giveS (S ++ [m]) (.d x) (S ++ [m']) = some (.ok (.d x), S ++ [m']) := by
  unfold giveS
  rw [if_pos (keepOk_last h)]
  show some (Except.ok (W.d x), (S ++ [m']).take (S ++ [m]).length) = _
  rw [List.take_of_length_le (by simp)]
theorem frz2_map (n : Nat) (ds : List D) : giveW.frz2 n S (ds.map W.d) = some ds := by
  induction ds with
  | nil => rfl
  | cons d ds ih => show (giveW.frz2 n S (ds.map W.d)).map (d :: ·) = _; rw [ih]; rfl
/-- a list of data of the def's own is handed back -/
theorem giveS_own {ds : List D} {G : Store} : giveS S (.loc S.length) (S ++ .lst (ds.map W.d) :: G) = some (.ok (.d (.lst ds)), S) := by
  unfold giveS
  rw [if_pos keepOk_app]
  have e : (S ++ M.lst (ds.map W.d) :: G)[S.length]? = some (.lst (ds.map W.d)) := by simp
  unfold giveW
  dsimp only
  rw [if_neg (Nat.lt_irrefl _), e]
  dsimp only
  rw [frz2_map]
  dsimp only [Option.map_some]
  rw [List.take_left]
end
/-! ### comprehensions with a condition -/
theorem lcL_filter {α : Type} {tf : Tg} {ft : FT} {fe : FE} {δ : DEnv} {S : Store} {wf : α → W} {q : α → Bool} {f : α → W} : ∀ {xs : List α} {acc : List W}, (∀ x ∈ xs, ∃ δ1, tf (wf x) δ S = some (δ1, S) ∧ ft δ1 S = some (.ok (q x), S) ∧ (q x = true → fe δ1 S = some (.ok (f x), S))) →
    lcL tf ft fe none δ (xs.map wf) S acc = some (.ok (acc ++ (xs.filter q).map f), S)
  | [], acc, _ => by show lcL tf ft fe none δ [] S acc = _; unfold lcL; rw [if_pos okG_no]; simp
  | x :: xs, acc, h => by
    obtain ⟨δ1, h1, h2, h3⟩ := h x List.mem_cons_self
    have ih := fun acc => lcL_filter (acc := acc) fun y hy => h y (List.mem_cons_of_mem _ hy)
    show lcL tf ft fe none δ (wf x :: xs.map wf) S acc = _
    unfold lcL
    rw [if_pos okG_no]
    cases hq : q x with
    | true =>
      rw [hq] at h2
      simp only [h1, h2, h3 hq]
      rw [ih]
      simp [hq]
    | false =>
      rw [hq] at h2
      simp only [h1, h2]
      rw [ih]
      simp [hq]
theorem dLc_filter {α : Type} {fi : FI} {tf : Tg} {ft : FT} {fe : FE} {fin : List W → Store → Rs W} {vs : List Nat} {δ : DEnv} {S : Store} {xs : List α} {wf : α → W} {q : α → Bool} {f : α → W} (hi : fi δ S = some (.ok (xs.map wf, none), S)) (hl : xs.length ≤ 1000)
    (h : ∀ x ∈ xs, ∃ δ1, tf (wf x) (wipeE δ vs) S = some (δ1, S) ∧ ft δ1 S = some (.ok (q x), S) ∧ (q x = true → fe δ1 S = some (.ok (f x), S))) : dLc fin fi tf ft fe vs δ S = fin ((xs.filter q).map f) S := by
  have hz : (xs.map wf).length ≤ sizeLine := by simp; exact Nat.le_trans hl (by decide)
  unfold dLc
  rw [hi, bind_ok]
  dsimp only
  rw [if_pos hz, lcL_filter h, bind_ok, List.nil_append]
/-! ### folds, step by step -/
theorem foldl_step {α β : Type} {g : β → α → β} {a : β} {xs : List α} {i : Nat} (h : i < xs.length) : (xs.take (i + 1)).foldl g a = g ((xs.take i).foldl g a) xs[i] := by
  rw [List.take_succ_eq_append_getElem h, List.foldl_append]
  rfl
theorem foldl_inv {α β : Type} {g : β → α → β} {Q : β → Prop} {xs : List α} (h : ∀ a, ∀ x ∈ xs, Q a → Q (g a x)) : ∀ {a : β}, Q a → Q (xs.foldl g a) := by
  induction xs with
  | nil => intro a ha; exact ha
  | cons x xs ih => intro a ha; exact ih (fun a y hy => h a y (List.mem_cons_of_mem _ hy)) (h a x List.mem_cons_self ha)
theorem filterMap_fold {α β : Type} (g : β → α → β) : ∀ (xs : List (Option α)) (a : β), (xs.filterMap id).foldl g a = xs.foldl (fun a c => match c with | none => a | some u => g a u) a
  | [], _ => rfl
  | none :: xs, a => filterMap_fold g xs a
  | some x :: xs, a => filterMap_fold g xs (g a x)
/-! ### the least common multiple -/
def lcmI (a b : Int) : Int := a / gcd a b * b
theorem lcmI_eq {a b : Int} (hb : 0 < b) : a * (b / gcd a b) = lcmI a b := by
  unfold lcmI
  have hg := gcd_pos (t := a) hb
  obtain ⟨x, hx⟩ : gcd a b ∣ a := Int.gcd_dvd_left a b
  obtain ⟨y, hy⟩ : gcd a b ∣ b := Int.gcd_dvd_right a b
  generalize gcd a b = g at *
  have e1 : a / g = x := by rw [hx]; exact Int.mul_ediv_cancel_left _ (by omega)
  have e2 : b / g = y := by rw [hy]; exact Int.mul_ediv_cancel_left _ (by omega)
  rw [e1, e2, hx, hy]
  grind
/-- 1, 2, 3, 4, 6, 12 -/
def In12 (a : Int) : Prop := a = 1 ∨ a = 2 ∨ a = 3 ∨ a = 4 ∨ a = 6 ∨ a = 12
theorem in12_lcm {a b : Int} (h : In12 a) (b1 : 0 < b) (b4 : b ≤ 4) : In12 (lcmI a b) := by
  have hb : b = 1 ∨ b = 2 ∨ b = 3 ∨ b = 4 := by omega
  unfold In12 at *
  rcases h with rfl | rfl | rfl | rfl | rfl | rfl <;> rcases hb with rfl | rfl | rfl | rfl <;> decide
theorem In12.pos {a : Int} (h : In12 a) : 0 < a := by unfold In12 at h; omega
theorem In12.bd {a : Int} (h : In12 a) : Bd 4 a := by unfold In12 at h; unfold Bd; omega
def lcmU (a : Int) (us : Unit') : Int := us.foldl (fun a p => lcmI a p.2) a
def lcmC (a : Int) (c : Option Unit') : Int := match c with
  | none => a
  | some us => lcmU a us
def lcmR (rs : List (List (Option Unit'))) : Int := rs.foldl (fun a r => r.foldl lcmC a) 1
theorem in12_U {a : Int} {b : Nat} {us : Unit'} (h : In12 a) (hu : UnOk b us) : In12 (lcmU a us) :=
  foldl_inv (fun a p hp ha => in12_lcm ha (hu.2 p hp).1.fr.1 (hu.2 p hp).2.2) h
theorem in12_C {a : Int} {b : Nat} {c : Option Unit'} (h : In12 a) (hc : CellOk b c) : In12 (lcmC a c) := by
  cases c with
  | none => exact h
  | some us => exact in12_U h hc
/-! ### drawn lists -/
theorem all_encG {α : Type} {e : α → D} {ds : List D} {Q : α → Prop} (h : ∀ d ∈ ds, ∃ a, d = e a ∧ Q a) : ∃ as : List α, ds = as.map e ∧ ∀ a ∈ as, Q a := by
  induction ds with
  | nil => exact ⟨[], rfl, by simp⟩
  | cons d ds ih =>
    obtain ⟨a, rfl, ha⟩ := h d List.mem_cons_self
    obtain ⟨as, rfl, hs⟩ := ih fun e he => h e (List.mem_cons_of_mem _ he)
    refine ⟨a :: as, rfl, fun q hq => ?_⟩
    rcases List.mem_cons.mp hq with rfl | hq
    · exact ha
    · exact hs q hq
theorem dLc_draw {α : Type} (e : α → D) (Q : α → Prop) {fi : FI} {tf : Tg} {fe : FE} {vs : List Nat} {δ : DEnv} {T : Store} {m : M} {n : Nat} (hn : n ≤ 1000) (hm : DrSt m)
    (hi : fi δ (m :: T) = some (.ok (rngW 0 n, none), m :: T)) (h : ∀ w m, DrSt m → ∃ δ1 a m', tf w (wipeE δ vs) (m :: T) = some (δ1, m :: T) ∧ fe δ1 (m :: T) = some (.ok (.d (e a)), m' :: T) ∧ DrSt m' ∧ Q a) :
    ∃ (as : List α) (m' : M), dLc lcF fi tf ftYes fe vs δ (m :: T) = some (.ok (.d (.lst (as.map e))), m' :: T) ∧ as.length = n ∧ (∀ a ∈ as, Q a) ∧ DrSt m' := by
  have hl : (rngW 0 n).length = n := rngW_len
  obtain ⟨ds, m', e1, hm', hds, hd⟩ := lcL_thread (tf := tf) (fe := fe) (δ := wipeE δ vs) (T := T) (Pm := DrSt) (Pd := fun d => ∃ a, d = e a ∧ Q a) (ws := rngW 0 n) (acc := []) hm (by
    intro w _ m hm
    obtain ⟨δ1, a, m', e1, e2, e3, e4⟩ := h w m hm
    exact ⟨δ1, _, m', e1, e2, e3, a, rfl, e4⟩)
  obtain ⟨as, rfl, ha⟩ := all_encG hd
  refine ⟨as, m', ?_, by rw [← hl, ← hds]; simp, ha, hm'⟩
  have hz : (rngW 0 n).length ≤ sizeLine := Nat.le_trans (by rw [hl]; exact hn) (by decide)
  unfold dLc
  rw [hi, bind_ok]
  dsimp only
  rw [if_pos hz, e1, bind_ok, List.nil_append]
  unfold lcF
  rw [pure?_map]
end DL
set_option Elab.async false
set_option linter.all false
set_option maxRecDepth 100000
set_option maxHeartbeats 1000000
/-! DL19: max and min of two ints. -/
namespace DL
open PySem PySem.Spec PyProof.Rows L2
section
variable {K : PySem.W.Frag} {Wx : WX}
def oMax2 : FB
  | [.d (.int i), .d (.int j)], S => some (.ok (.d (.int (if i < j then j else i))), S)
  | _, _ => none
def oMin2 : FB
  | [.d (.int i), .d (.int j)], S => some (.ok (.d (.int (if j < i then j else i))), S)
  | _, _ => none
theorem oMax2_ok : CalF K Wx (rNuC2 nuMax2) oMax2 := by
  intro σ ρ S H ws vs Q ok rw' q
  unfold oMax2 at q
  split at q
  · rename_i i j
    obtain ⟨v, z, rfl, r1, r2⟩ := relWs2 rw'
    obtain rfl : v = .int i := by simpa [RelW, RelD] using r1
    obtain rfl : z = .int j := by simpa [RelW, RelD] using r2
    refine ⟨.int i, .int j, .int (if i < j then j else i), rfl, ?_, go_val ok q (by simp [RelW, RelD])⟩
    show (some (decide (i < j))).map (fun c => if c = true then V.int j else .int i) = _
    by_cases h : i < j <;> simp [h]
  · exact go_none q
theorem oMin2_ok : CalF K Wx (rNuC2 nuMin2) oMin2 := by
  intro σ ρ S H ws vs Q ok rw' q
  unfold oMin2 at q
  split at q
  · rename_i i j
    obtain ⟨v, z, rfl, r1, r2⟩ := relWs2 rw'
    obtain rfl : v = .int i := by simpa [RelW, RelD] using r1
    obtain rfl : z = .int j := by simpa [RelW, RelD] using r2
    refine ⟨.int i, .int j, .int (if j < i then j else i), rfl, ?_, go_val ok q (by simp [RelW, RelD])⟩
    show (some (decide (j < i))).map (fun c => if c = true then V.int j else .int i) = _
    by_cases h : j < i <;> simp [h]
  · exact go_none q
end
end DL
set_option Elab.async false
set_option linter.all false
set_option maxRecDepth 100000
set_option maxHeartbeats 1000000
/-! DL20: grids as data; lists that are filled. -/
namespace DL
open PySem L2
theorem len_row {S : Store} (r : List (Option Unit')) : oLen (.d (encRow r)) S = some (.ok (.d (.int (r.length : Int))), S) := len_enc encC r
theorem len_rows {S : Store} (rs : List (List (Option Unit'))) : oLen (.d (encR rs)) S = some (.ok (.d (.int (rs.length : Int))), S) := len_enc encRow rs
theorem ix_row {S : Store} {r : List (Option Unit')} {i : Nat} (h : i < r.length) : oIx (.d (encRow r)) (.d (.int (i : Int))) S = some (.ok (.d (encC r[i])), S) := oIx_enc encC h
theorem ix_rows {S : Store} {rs : List (List (Option Unit'))} {i : Nat} (h : i < rs.length) : oIx (.d (encR rs)) (.d (.int (i : Int))) S = some (.ok (.d (encRow rs[i])), S) := oIx_enc encRow h
theorem ix_rows0 {S : Store} {rs : List (List (Option Unit'))} (h : 0 < rs.length) : oIx (.d (encR rs)) (.d (.int 0)) S = some (.ok (.d (encRow rs[0])), S) := oIx_enc encRow h
def gridD (C : Str → Addr) (b : Nat) (rs : List (List (Option Unit'))) : D := .ins (C "Grid") ["bases", "rows"] [.int (b : Int), encR rs]
/-- rows as a Grid takes them -/
structure GrOk (b m n : Nat) (rs : List (List (Option Unit'))) : Prop where
  b1 : 1 ≤ b
  b3 : b ≤ 3
  m1 : 1 ≤ m
  m10 : m ≤ 10
  n1 : 1 ≤ n
  n10 : n ≤ 10
  rows : RowsOk b m n rs
theorem GrOk.lt {b m n : Nat} {rs : List (List (Option Unit'))} (h : GrOk b m n rs) : 0 < rs.length := by have := h.rows.1; have := h.m1; omega
theorem GrOk.set {b m n : Nat} {rs : List (List (Option Unit'))} (h : GrOk b m n rs) {i j : Nat} {c : Option Unit'} (hc : CellOk b c) : GrOk b m n (setC rs i j c) := ⟨h.b1, h.b3, h.m1, h.m10, h.n1, h.n10, h.rows.set hc⟩
section
variable (C : Str → Addr) (S : Store) {b : Nat} {rs : List (List (Option Unit'))}
theorem fld_bases : oFld (C "Grid") "bases" (.d (gridD C b rs)) S = some (.ok (.d (.int (b : Int))), S) := fld_ins rfl
theorem fld_rows : oFld (C "Grid") "rows" (.d (gridD C b rs)) S = some (.ok (.d (encR rs)), S) := fld_ins rfl
end
theorem with_core {rs : List (List (Option Unit'))} {S : Store} {i j : Nat} {c : Option Unit'} (hi : i < rs.length) (hj : j < rs[i].length) (h1 : rs.length ≤ 10) (h2 : rs[i].length ≤ 10) :
    oSlA (.d (encRow rs[i])) none (some (j : Int)) S = some (.ok (.d (encRow (rs[i].take j))), S) ∧
    oCat (.d (encRow (rs[i].take j))) (.d (.tup [encC c])) S = some (.ok (.d (encRow (rs[i].take j ++ [c]))), S) ∧
    oSlA (.d (encRow rs[i])) (some ((j : Int) + 1)) none S = some (.ok (.d (encRow (rs[i].drop (j + 1)))), S) ∧
    oCat (.d (encRow (rs[i].take j ++ [c]))) (.d (encRow (rs[i].drop (j + 1)))) S = some (.ok (.d (encRow (rs[i].set j c))), S) ∧
    oSlA (.d (encR rs)) none (some (i : Int)) S = some (.ok (.d (encR (rs.take i))), S) ∧
    oCat (.d (encR (rs.take i))) (.d (.tup [encRow (rs[i].set j c)])) S = some (.ok (.d (encR (rs.take i ++ [rs[i].set j c]))), S) ∧
    oSlA (.d (encR rs)) (some ((i : Int) + 1)) none S = some (.ok (.d (encR (rs.drop (i + 1)))), S) ∧
    oCat (.d (encR (rs.take i ++ [rs[i].set j c]))) (.d (encR (rs.drop (i + 1)))) S = some (.ok (.d (encR (setC rs i j c))), S) := by
  have e1 : ((j : Int) + 1) = ((j + 1 : Nat) : Int) := by omega
  have e2 : ((i : Int) + 1) = ((i + 1 : Nat) : Int) := by omega
  rw [e1, e2]
  refine ⟨slA_hi encC (by omega), cat_one encC rfl (by simp; omega), slA_lo encC (by omega), ?_, slA_hi encRow (by omega), cat_one encRow rfl (by simp; omega), slA_lo encRow (by omega), ?_⟩
  · rw [← set_split hj]
    exact cat_enc encC (by simp; omega)
  · rw [setC_eq hi, ← set_split hi]
    exact cat_enc encRow (by simp; omega)
theorem row_filter (r : List (Option Unit')) : (r.filter fun c => c.isSome).map (fun c => W.d (encC c)) = ((r.filterMap id).map encU).map W.d := by
  induction r with
  | nil => rfl
  | cons c r ih => cases c with
    | none => simpa using ih
    | some u =>
      have e : (some u :: r).filter (fun c => c.isSome) = some u :: r.filter fun c => c.isSome := rfl
      have e2 : (some u :: r).filterMap id = u :: r.filterMap id := rfl
      rw [e, e2]
      simp only [List.map_cons, ih]
      rfl
theorem row_len {r : List (Option Unit')} : (r.filterMap id).length ≤ r.length := List.length_filterMap_le _ _
def unitsR (rs : List (List (Option Unit'))) : List Unit' := rs.flatMap fun r => r.filterMap id
theorem unitsR_len {n : Nat} : ∀ {rs : List (List (Option Unit'))}, (∀ r ∈ rs, r.length ≤ n) → (unitsR rs).length ≤ rs.length * n
  | [], _ => by simp [unitsR]
  | r :: rs, h => by
    have ih := unitsR_len (n := n) fun q hq => h q (List.mem_cons_of_mem _ hq)
    have h1 := h r List.mem_cons_self
    have h2 := row_len (r := r)
    have e : unitsR (r :: rs) = r.filterMap id ++ unitsR rs := by simp [unitsR]
    rw [e, List.length_append, List.length_cons, Nat.add_mul]
    omega
theorem ext_own {S G : Store} {us vs : List D} (h : us.length + vs.length ≤ 1000) : extAt S.length (.loc (S ++ .lst (us.map W.d) :: G).length) ((S ++ .lst (us.map W.d) :: G) ++ [.lst (vs.map W.d)]) = some (.ok (.d .non), S ++ .lst ((us ++ vs).map W.d) :: (G ++ [.lst (vs.map W.d)])) := by
  unfold extAt
  dsimp only
  have e1 : ((S ++ M.lst (us.map W.d) :: G) ++ [.lst (vs.map W.d)])[S.length]? = some (.lst (us.map W.d)) := by
    rw [List.append_assoc, List.getElem?_append_right (Nat.le_refl _)]
    simp
  have e2 : ((S ++ M.lst (us.map W.d) :: G) ++ [.lst (vs.map W.d)])[(S ++ M.lst (us.map W.d) :: G).length]? = some (.lst (vs.map W.d)) := by
    rw [List.getElem?_append_right (Nat.le_refl _)]
    simp
  rw [e1, e2]
  dsimp only
  rw [if_pos (by simp; exact Nat.le_trans h (by decide))]
  rw [List.append_assoc, List.set_append_right _ _ (Nat.le_refl _)]
  simp
theorem isLst_own {S G : Store} {ws : List W} : isLst (S ++ .lst ws :: G) S.length = true := by
  unfold isLst
  have e1 : (S ++ M.lst ws :: G)[S.length]? = some (.lst ws) := by simp
  rw [e1]
theorem unitsR_fold : ∀ (rs : List (List (Option Unit'))) (a : Int), (unitsR rs).foldl lcmU a = rs.foldl (fun a r => r.foldl lcmC a) a
  | [], a => rfl
  | r :: rs, a => by
    have e : unitsR (r :: rs) = r.filterMap id ++ unitsR rs := by simp [unitsR]
    rw [e, List.foldl_append, unitsR_fold rs, filterMap_fold]
    show rs.foldl (fun a r => r.foldl lcmC a) _ = rs.foldl (fun a r => r.foldl lcmC a) (r.foldl lcmC a)
    refine congrArg (fun z => rs.foldl (fun a r => r.foldl lcmC a) z) (congrArg (fun g => r.foldl g a) ?_)
    funext a c
    cases c <;> rfl
theorem setC_self {rs : List (List (Option Unit'))} {i j : Nat} {c : Option Unit'} (hi : i < rs.length) (hj : j < rs[i].length) : rs = setC rs i j c ↔ rs[i][j] = c := by
  rw [setC_eq hi]
  constructor
  · intro e
    have e1 : rs[i]? = (rs.set i (rs[i].set j c))[i]? := congrArg (fun z => z[i]?) e
    rw [List.getElem?_set_self hi, List.getElem?_eq_getElem hi] at e1
    have e2 := Option.some.inj e1
    have e3 : rs[i][j]? = (rs[i].set j c)[j]? := congrArg (fun z => z[j]?) e2
    rw [List.getElem?_set_self hj, List.getElem?_eq_getElem hj] at e3
    exact Option.some.inj e3
  · intro e
    rw [← e, List.set_getElem_self, List.set_getElem_self]
theorem ne_R {S : Store} (rs : List (List (Option Unit'))) : oNe (.d (encR rs)) (.d (encR rs)) S = some (.ok (.d (.bl false)), S) := by rw [eqE_R.oNe (by decide)]; simp
theorem ne_C {S : Store} (c : Option Unit') : oNe (.d (encC c)) (.d (encC c)) S = some (.ok (.d (.bl false)), S) := by rw [eqE_C.oNe (by decide)]; simp
theorem eq_R {S : Store} (rs rs' : List (List (Option Unit'))) : oEq (.d (encR rs)) (.d (encR rs')) S = some (.ok (.d (.bl (decide (rs = rs')))), S) := eqE_R.oEq (by decide) rs rs'
theorem eq_C {S : Store} (c c' : Option Unit') : oEq (.d (encC c)) (.d (encC c')) S = some (.ok (.d (.bl (decide (c = c')))), S) := eqE_C.oEq (by decide) c c'
theorem ty_R {S : Store} (rs : List (List (Option Unit'))) : tyN S (.d (encR rs)) = some "tuple" := rfl
theorem isi_gg {C : Str → Addr} {S : Store} {b : Nat} {rs : List (List (Option Unit'))} : oIsiI [C "Grid"] [.d (gridD C b rs), .d (.ref (C "Grid"))] S = some (.ok (.d (.bl true)), S) := by
  show (if C "Grid" = C "Grid" ∧ C "Grid" ∈ [C "Grid"] then some (Except.ok (W.d (.bl true)), S) else none) = _
  rw [if_pos ⟨rfl, by simp⟩]
theorem isi_go {C : Str → Addr} {S : Store} {x : D} {t : String} (h : tyN S (.d x) = some t) : oIsiI [C "Grid"] [.d x, .d (.ref (C "Grid"))] S = some (.ok (.d (.bl false)), S) := by
  have hx : ∀ K ns ds, x ≠ .ins K ns ds := fun K ns ds e => by subst e; cases h
  unfold oIsiI
  split
  · rename_i K ns ds E e
    injection e with e1 e2
    injection e1 with e3
    exact absurd e3 (hx _ _ _)
  · rename_i K ns ds t e
    injection e with e1 e2
    injection e1 with e3
    exact absurd e3 (hx _ _ _)
  · rename_i y E _ e
    injection e with e1 e2
    injection e2 with e3 e4
    injection e3 with e5
    injection e5 with e6
    subst e1 e6
    rw [if_pos (by simp), h]
  · rename_i z1 z2 z3
    exact absurd rfl (z3 _ _)
theorem emptyR (m n : Nat) : encR (List.replicate m (List.replicate n none)) = .tup (List.replicate m (.tup (List.replicate n .non))) := by
  unfold encR encRow
  rw [List.map_replicate, List.map_replicate]
  rfl
/-! ### lists that are filled -/
theorem app_last {T : Store} {ws : List W} {w : W} (h : ws.length ≤ 1000) : appAt T.length w (T ++ [.lst ws]) = some (.ok (.d .non), T ++ [.lst (ws ++ [w])]) := by
  unfold appAt
  have e : (T ++ [M.lst ws])[T.length]? = some (.lst ws) := by simp
  rw [e]
  dsimp only
  rw [if_pos (Nat.lt_of_le_of_lt h (by decide))]
  simp
theorem app_mid {S G : Store} {ws : List W} {w : W} (h : ws.length ≤ 1000) : appAt S.length w (S ++ .lst ws :: G) = some (.ok (.d .non), S ++ .lst (ws ++ [w]) :: G) := by
  unfold appAt
  have e : (S ++ M.lst ws :: G)[S.length]? = some (.lst ws) := by simp
  rw [e]
  dsimp only
  rw [if_pos (Nat.lt_of_le_of_lt h (by decide))]
  simp
theorem tuple_own {S G : Store} {ds : List D} : oTuple (.loc S.length) (S ++ .lst (ds.map W.d) :: G) = some (.ok (.d (.tup ds)), S ++ .lst (ds.map W.d) :: G) := by
  unfold oTuple
  have e : seqW (S ++ M.lst (ds.map W.d) :: G) (.loc S.length) = some (false, ds.map W.d) := by
    have e : (S ++ M.lst (ds.map W.d) :: G)[S.length]? = some (.lst (ds.map W.d)) := by simp
    unfold seqW
    dsimp only
    rw [e]
  rw [e]
  dsimp only
  rw [pure?_map]
/-- xs.append(..), the value first -/
theorem dApp_loc {δ : DEnv} {S S1 : Store} {fo fe : FE} {n : Nat} {w : W} (h1 : fo δ S = some (.ok (.loc n), S)) (h2 : isLst S n = true) (h3 : fe δ S = some (.ok w, S1)) : dApp fo fe δ S = appAt n w S1 := by
  unfold dApp
  rw [h1, bind_ok]
  dsimp only
  rw [if_pos h2, h3, bind_ok]
end DL
set_option Elab.async false
set_option linter.all false
set_option maxRecDepth 100000
set_option maxHeartbeats 1000000
/-! DL21: factors of units; numbers of grids. -/
namespace DL
open PySem L2
/-- what a factor is reckoned of -/
structure FacOk (k n M : Nat) (s : Int) (us rs : List (Int × Int)) : Prop where
  hu : UnB k us
  hr : ∀ r ∈ rs, FrB n r ∧ 0 < r.1
  hl : us.length = rs.length
  hs : 1 ≤ s
  sb : Bd 8 s
  hd : ∀ e ∈ us, s % e.2 = 0
  hM : ∀ e ∈ us, (ex s e).natAbs ≤ M
  k0 : 0 < k
  k9 : k ≤ 100
  n0 : 0 < n
  nM : n * M + 1 ≤ 2500
def fz (s : Int) (z : (Int × Int) × (Int × Int)) : Int × Int := rz z.2 (ex s z.1)
section
variable {k n M : Nat} {s : Int} {us rs : List (Int × Int)}
theorem FacOk.mem (h : FacOk k n M s us rs) {z : (Int × Int) × (Int × Int)} (hz : z ∈ us.zip rs) : FrB k z.1 ∧ FrB n z.2 ∧ 0 < z.2.1 ∧ s % z.1.2 = 0 ∧ (ex s z.1).natAbs ≤ M := by
  obtain ⟨a, b⟩ := z
  have := List.of_mem_zip hz
  exact ⟨h.hu.fr a this.1, (h.hr b this.2).1, (h.hr b this.2).2, h.hd a this.1, h.hM a this.1⟩
theorem FacOk.fzb (h : FacOk k n M s us rs) {z : (Int × Int) × (Int × Int)} (hz : z ∈ us.zip rs) : FrB 2500 (fz s z) := by
  have m := h.mem hz
  refine (frb_rz m.2.1 m.2.2.1 (ex s z.1)).up ?_
  have := Nat.mul_le_mul_left n m.2.2.2.2
  have := h.nM
  omega
theorem FacOk.pos (h : FacOk k n M s us rs) {z : (Int × Int) × (Int × Int)} (hz : z ∈ us.zip rs) : Pos (fz s z) := Pos.rz ⟨(h.mem hz).2.2.1, (h.mem hz).2.1.fr.1⟩ _
theorem FacOk.len (h : FacOk k n M s us rs) : (us.zip rs).length = us.length := by rw [List.length_zip, ← h.hl]; exact Nat.min_self _
theorem FacOk.acc (h : FacOk k n M s us rs) {i : Nat} (hi : i < (us.zip rs).length) : FrB 5001 (fac (fz s) ((us.zip rs).take i)) := by
  have h3 := h.hu.l3
  have hl := h.len
  have := fac_bd (f := fz s) (n := 2500) (xs := (us.zip rs).take i) (a := (1, 1)) (m := 1) ⟨⟨by decide, by decide⟩, by decide, by decide⟩ fun x hx => h.fzb (List.mem_of_mem_take hx)
  refine this.up ?_
  rw [List.length_take]
  omega
theorem FacOk.bd (h : FacOk k n M s us rs) : FrB 7501 (fac (fz s) (us.zip rs)) := by
  have h3 := h.hu.l3
  have hl := h.len
  have := fac_bd (f := fz s) (n := 2500) (xs := us.zip rs) (a := (1, 1)) (m := 1) ⟨⟨by decide, by decide⟩, by decide, by decide⟩ fun x hx => h.fzb hx
  exact this.up (by omega)
theorem fac_step {f : (Int × Int) × (Int × Int) → Int × Int} {zs : List ((Int × Int) × (Int × Int))} {i : Nat} (hi : i < zs.length) : fac f (zs.take (i + 1)) = ftimes (fac f (zs.take i)) (f zs[i]) := by
  rw [List.take_succ_eq_append_getElem hi]
  unfold fac
  rw [List.foldl_append]
  rfl
end
theorem zips {us vs ms : List (Int × Int)} (l1 : us.length = vs.length) (l2 : us.length = ms.length) :
    us.zip ms = ((us.zip vs).zip ms).map (fun x => (x.1.1, x.2)) ∧ vs.zip ms = ((us.zip vs).zip ms).map (fun x => (x.1.2, x.2)) ∧ (uplus us vs).zip ms = ((us.zip vs).zip ms).map fun x => (fplus x.1.1 x.1.2, x.2) := by
  induction us generalizing vs ms with
  | nil => cases vs with
    | nil => exact ⟨rfl, rfl, rfl⟩
    | cons v vs => simp at l1
  | cons u us ih => cases vs with
    | nil => simp at l1
    | cons v vs => cases ms with
      | nil => simp at l2
      | cons m ms =>
        obtain ⟨h1, h2, h3⟩ := ih (vs := vs) (ms := ms) (by simpa using l1) (by simpa using l2)
        exact ⟨congrArg (fun t => (u, m) :: t) h1, congrArg (fun t => (v, m) :: t) h2, congrArg (fun t => (fplus u v, m) :: t) h3⟩
def both (rs ms : List (Int × Int)) : List (Int × Int) := (rs.zip ms).map fun p => ftimes p.1 p.2
theorem zipsR {us rs ms : List (Int × Int)} (l1 : us.length = rs.length) (l2 : us.length = ms.length) :
    us.zip rs = (us.zip (rs.zip ms)).map (fun x => (x.1, x.2.1)) ∧ us.zip ms = (us.zip (rs.zip ms)).map (fun x => (x.1, x.2.2)) ∧ us.zip (both rs ms) = (us.zip (rs.zip ms)).map fun x => (x.1, ftimes x.2.1 x.2.2) := by
  induction us generalizing rs ms with
  | nil => exact ⟨rfl, rfl, rfl⟩
  | cons u us ih => cases rs with
    | nil => simp at l1
    | cons v vs => cases ms with
      | nil => simp at l2
      | cons m ms =>
        obtain ⟨h1, h2, h3⟩ := ih (rs := vs) (ms := ms) (by simpa using l1) (by simpa using l2)
        exact ⟨congrArg (fun t => (u, v) :: t) h1, congrArg (fun t => (u, m) :: t) h2, congrArg (fun t => (u, ftimes v m) :: t) h3⟩
theorem fac_units {k k' n M M' : Nat} {s : Int} {us vs ms : List (Int × Int)} (h : FacOk k n M s us ms) (g : FacOk k' n M' s vs ms) : fac (fz s) ((uplus us vs).zip ms) = ftimes (fac (fz s) (us.zip ms)) (fac (fz s) (vs.zip ms)) := by
  obtain ⟨z1, z2, z3⟩ := zips (us := us) (vs := vs) (ms := ms) (by rw [h.hl, g.hl]) h.hl
  have m1 : ∀ x ∈ (us.zip vs).zip ms, (x.1.1, x.2) ∈ us.zip ms := fun x hx => by rw [z1]; exact List.mem_map_of_mem hx
  have m2 : ∀ x ∈ (us.zip vs).zip ms, (x.1.2, x.2) ∈ vs.zip ms := fun x hx => by rw [z2]; exact List.mem_map_of_mem hx
  rw [z1, z2, z3, fac_map, fac_map, fac_map]
  refine fac_mul (fun x hx => h.pos (m1 x hx)) (fun x hx => g.pos (m2 x hx)) (fun x hx => ?_) fun x hx => ?_
  · have e := h.mem (m1 x hx)
    exact Pos.rz ⟨e.2.2.1, e.2.1.fr.1⟩ _
  · have e := h.mem (m1 x hx)
    have d := g.mem (m2 x hx)
    have q := (ex_plus e.1.fr d.1.fr e.2.2.2.1 d.2.2.2.1).2
    have r := rz_add (p := x.2) ⟨e.2.2.1, e.2.1.fr.1⟩ (ex s x.1.1) (ex s x.1.2)
    unfold fz
    dsimp only
    dsimp only at q
    rw [q]
    exact r
theorem fac_roots {k k' n n' M M' : Nat} {s : Int} {us rs ms : List (Int × Int)} (h : FacOk k n M s us rs) (g : FacOk k' n' M' s us ms) : fac (fz s) (us.zip (both rs ms)) = ftimes (fac (fz s) (us.zip rs)) (fac (fz s) (us.zip ms)) := by
  obtain ⟨z1, z2, z3⟩ := zipsR (us := us) (rs := rs) (ms := ms) h.hl g.hl
  have m1 : ∀ x ∈ us.zip (rs.zip ms), (x.1, x.2.1) ∈ us.zip rs := fun x hx => by rw [z1]; exact List.mem_map_of_mem hx
  have m2 : ∀ x ∈ us.zip (rs.zip ms), (x.1, x.2.2) ∈ us.zip ms := fun x hx => by rw [z2]; exact List.mem_map_of_mem hx
  rw [z1, z2, z3, fac_map, fac_map, fac_map]
  refine fac_mul (fun x hx => h.pos (m1 x hx)) (fun x hx => g.pos (m2 x hx)) (fun x hx => ?_) fun x hx => ?_
  · have e := h.mem (m1 x hx)
    have d := g.mem (m2 x hx)
    exact Pos.rz (ftimes_pos ⟨e.2.2.1, e.2.1.fr.1⟩ ⟨d.2.2.1, d.2.1.fr.1⟩) _
  · unfold fz
    dsimp only
    have r := (eqv_lo (fmul x.2.1 x.2.2)).rz (ex s x.1)
    rw [rz_mul] at r
    exact r
theorem fac_none {s : Int} {us rs : List (Int × Int)} (h : ∀ p ∈ us, Fr p) : fac (fz s) ((uminus us us).zip rs) = (1, 1) := by
  refine fac_one fun z hz => ?_
  obtain ⟨a, b⟩ := z
  have ha := (List.of_mem_zip hz).1
  unfold uminus at ha
  rw [self_zip] at ha
  obtain ⟨e, he, rfl⟩ := List.mem_map.mp ha
  unfold fz
  dsimp only
  rw [fminus_self (h e he)]
  have e0 : ex s (0, 1) = 0 := by unfold ex; simp
  rw [e0]
  unfold rz sw pw
  simp
theorem fac_scale {k n M : Nat} {s : Int} {us rs : List (Int × Int)} (h : FacOk k n M s us rs) {m : Nat} (hm : 0 < m) : fac (fz (s * (m : Int))) (us.zip rs) = rz (fac (fz s) (us.zip rs)) (m : Int) := by
  rw [fac_pow (f := fz s) (m := m) (fun x hx => h.pos hx) fun x hx => ?_]
  · unfold rz sw
    rw [if_neg (by omega), Int.natAbs_natCast]
  · have e := h.mem hx
    unfold fz
    rw [ex_scale e.1.fr.1 e.2.2.2.1, rz_mulN _ _ hm]
theorem FacOk.bd3 {k n M : Nat} {s : Int} {us rs : List (Int × Int)} (h : FacOk k n M s us rs) : FrB (1 + 3 * (n * M + 1)) (fac (fz s) (us.zip rs)) := by
  have h3 := h.hu.l3
  have hl := h.len
  have := fac_bd (f := fz s) (n := n * M + 1) (xs := us.zip rs) (a := (1, 1)) (m := 1) ⟨⟨by decide, by decide⟩, by decide, by decide⟩ fun x hx => by
    have m := h.mem hx
    exact (frb_rz m.2.1 m.2.2.1 (ex s x.1)).up (by have := Nat.mul_le_mul_left n m.2.2.2.2; omega)
  refine this.up ?_
  rw [hl]
  have := Nat.mul_le_mul_right (n * M + 1) h3
  omega
theorem both_ok {n m : Nat} {rs ms : List (Int × Int)} (h : ∀ r ∈ rs, FrB n r ∧ 0 < r.1) (g : ∀ r ∈ ms, FrB m r ∧ 0 < r.1) : ∀ r ∈ both rs ms, FrB (n + m) r ∧ 0 < r.1 := by
  intro r hr
  obtain ⟨⟨a, b⟩, hp, rfl⟩ := List.mem_map.mp hr
  have := List.of_mem_zip hp
  have ha := h a this.1
  have hb := g b this.2
  exact ⟨ftimes_ok ha.1 hb.1, (ftimes_pos ⟨ha.2, ha.1.fr.1⟩ ⟨hb.2, hb.1.fr.1⟩).1⟩
theorem both_len {rs ms : List (Int × Int)} (h : rs.length = ms.length) : (both rs ms).length = rs.length := by simp [both, h]
/-! ### loops that may return -/
theorem forL_all {α : Type} {tf : Tg} {fb : FS} {S : Store} {wf : α → W} {q : α → Bool} {w : W} {P : Nat → DEnv → Prop} {xs : List α}
    (h : ∀ (i : Nat) (hi : i < xs.length) (δ : DEnv), P i δ → ∃ δ1, tf (wf xs[i]) δ S = some (δ1, S) ∧ (q xs[i] = true → ∃ δ2, fb δ1 S = some (.ok (.nx δ2), S) ∧ P (i + 1) δ2) ∧ (q xs[i] = false → fb δ1 S = some (.ok (.rt w), S))) :
    ∀ (k i : Nat) (δ : DEnv), i + k = xs.length → P i δ → ((xs.drop i).all q = true → ∃ δ', forL tf fb none ((xs.drop i).map wf) δ S = some (.ok (.nx δ'), S) ∧ P xs.length δ') ∧ ((xs.drop i).all q = false → forL tf fb none ((xs.drop i).map wf) δ S = some (.ok (.rt w), S)) := by
  intro k
  induction k with
  | zero =>
    intro i δ hi hp
    have e : xs.drop i = [] := List.drop_eq_nil_of_le (by omega)
    rw [e]
    refine ⟨fun _ => ⟨δ, ?_, by have : i = xs.length := by omega
                                rwa [this] at hp⟩, fun z => by simp at z⟩
    show forL tf fb none [] δ S = _
    unfold forL
    rw [if_pos okG_no]
  | succ k ih =>
    intro i δ hi hp
    have hlt : i < xs.length := by omega
    obtain ⟨δ1, h1, h2, h3⟩ := h i hlt δ hp
    rw [List.drop_eq_getElem_cons hlt]
    cases hq : q xs[i] with
    | true =>
      obtain ⟨δ2, e2, hp2⟩ := h2 hq
      have z := ih (i + 1) δ2 (by omega) hp2
      have step : forL tf fb none ((xs[i] :: xs.drop (i + 1)).map wf) δ S = forL tf fb none ((xs.drop (i + 1)).map wf) δ2 S := by
        show forL tf fb none (wf xs[i] :: (xs.drop (i + 1)).map wf) δ S = _
        conv => lhs; unfold forL
        rw [if_pos okG_no]
        simp only [h1, e2]
      rw [step, List.all_cons, hq, Bool.true_and]
      exact z
    | false =>
      have step : forL tf fb none ((xs[i] :: xs.drop (i + 1)).map wf) δ S = some (.ok (.rt w), S) := by
        show forL tf fb none (wf xs[i] :: (xs.drop (i + 1)).map wf) δ S = _
        unfold forL
        rw [if_pos okG_no]
        simp only [h1, h3 hq]
      rw [step, List.all_cons, hq, Bool.false_and]
      exact ⟨fun z => (nomatch z), fun _ => rfl⟩
theorem dFor_all {α : Type} {fi : FI} {tf : Tg} {fb : FS} {S : Store} {wf : α → W} {q : α → Bool} {w : W} {P : Nat → DEnv → Prop} {xs : List α} {δ : DEnv} (hi : fi δ S = some (.ok (xs.map wf, none), S))
    (h : ∀ (i : Nat) (hi : i < xs.length) (δ : DEnv), P i δ → ∃ δ1, tf (wf xs[i]) δ S = some (δ1, S) ∧ (q xs[i] = true → ∃ δ2, fb δ1 S = some (.ok (.nx δ2), S) ∧ P (i + 1) δ2) ∧ (q xs[i] = false → fb δ1 S = some (.ok (.rt w), S))) (h0 : P 0 δ) :
    (xs.all q = true → ∃ δ', dFor fi tf fb δ S = some (.ok (.nx δ'), S) ∧ P xs.length δ') ∧ (xs.all q = false → dFor fi tf fb δ S = some (.ok (.rt w), S)) := by
  have z := forL_all (tf := tf) (fb := fb) (wf := wf) h xs.length 0 δ (by omega) h0
  have e : dFor fi tf fb δ S = forL tf fb none (xs.map wf) δ S := by unfold dFor; rw [hi, sE_ok]
  rw [e]
  exact z
/-- range(len(xs)) -/
theorem rng_idx {α : Type} (xs : List α) : ((List.range xs.length).map fun (k : Nat) => W.d (.int (k : Int))) = xs.zipIdx.map fun z => W.d (.int (z.2 : Int)) := by
  refine List.ext_getElem (by simp) fun i h1 h2 => ?_
  simp
theorem all_idx {α : Type} (q : α → Bool) (xs : List α) : (xs.zipIdx.all fun z => q z.1) = xs.all q := by
  have e : xs = xs.zipIdx.map Prod.fst := by simp
  conv => rhs; rw [e]
  rw [List.all_map]
  rfl
/-! ### the bottom of all -/
theorem foldl_hit {α β : Type} {g : β → α → β} {Q : β → Prop} : ∀ {xs : List α} {a : β}, (∀ a, ∀ x ∈ xs, Q a → Q (g a x)) → (∃ x ∈ xs, ∀ a, Q (g a x)) → Q (xs.foldl g a)
  | [], _, _, h => by obtain ⟨x, hx, _⟩ := h; simp at hx
  | x :: xs, a, h, hx => by
    obtain ⟨y, hy, hq⟩ := hx
    rcases List.mem_cons.mp hy with rfl | hy
    · exact foldl_inv (fun a z hz ha => h a z (List.mem_cons_of_mem _ hz) ha) (hq a)
    · show Q (xs.foldl g (g a x))
      exact foldl_hit (xs := xs) (fun a z hz ha => h a z (List.mem_cons_of_mem _ hz) ha) ⟨y, hy, hq⟩
theorem dvd_lcmI {a b : Int} (hb : 0 < b) : a ∣ lcmI a b := by rw [← lcmI_eq hb]; exact Int.dvd_mul_right _ _
theorem dvd_lcmI' {a b : Int} : b ∣ lcmI a b := Int.dvd_mul_left _ _
theorem lcmR_dvd {b m n : Nat} {rs : List (List (Option Unit'))} (h : RowsOk b m n rs) {r : List (Option Unit')} (hr : r ∈ rs) {us : Unit'} (hu : some us ∈ r) {p : Int × Int} (hp : p ∈ us) : lcmR rs % p.2 = 0 := by
  refine Int.emod_eq_zero_of_dvd ?_
  have keepU : ∀ (us : Unit'), UnOk b us → ∀ a, p.2 ∣ a → p.2 ∣ lcmU a us := fun us hu a ha => foldl_inv (fun a z hz ha => Int.dvd_trans ha (dvd_lcmI (hu.2 z hz).1.fr.1)) ha
  have keepC : ∀ c, CellOk b c → ∀ a, p.2 ∣ a → p.2 ∣ lcmC a c := fun c hc a ha => by
    cases c with
    | none => exact ha
    | some us => exact keepU us hc a ha
  refine foldl_hit (Q := fun a => p.2 ∣ a) (fun a r' hr' ha => foldl_inv (fun a c hc ha => keepC c ((h.2 r' hr').2 c hc) a ha) ha) ⟨r, hr, fun a => ?_⟩
  have hc := (h.2 r hr).2
  refine foldl_hit (Q := fun a => p.2 ∣ a) (fun a c hc' ha => keepC c (hc c hc') a ha) ⟨some us, hu, fun a => ?_⟩
  have hus : UnOk b us := hc _ hu
  exact foldl_hit (g := fun a p => lcmI a p.2) (Q := fun a => p.2 ∣ a) (fun a z hz ha => Int.dvd_trans ha (dvd_lcmI (hus.2 z hz).1.fr.1)) ⟨p, hp, fun a => dvd_lcmI'⟩
theorem lcmR_12 {b m n : Nat} {rs : List (List (Option Unit'))} (h : RowsOk b m n rs) : In12 (lcmR rs) :=
  foldl_inv (fun a r hr ha => foldl_inv (g := lcmC) (fun a c hc ha => in12_C ha ((h.2 r hr).2 c hc)) ha) (.inl rfl)
/-! ### numbers -/
abbrev Num := Int × Int
def encN (ns : List (List Num)) : D := .tup (ns.map encU)
theorem eqE_N : EqE encN 3 := eqE_U.list
def NumOk (n : Nat) (c : Option Unit') (p : Num) : Prop := FrB n p ∧ (c = none → p = (0, 1))
def NumsOk (n : Nat) (rs : List (List (Option Unit'))) (ns : List (List Num)) : Prop := ns.length = rs.length ∧ ∀ z ∈ rs.zip ns, z.2.length = z.1.length ∧ ∀ y ∈ z.1.zip z.2, NumOk n y.1 y.2
def cellF (f : Unit' → Num) : Option Unit' → Num → Num
  | none, p => p
  | some us, p => ftimes p (f us)
def rowF (f : Unit' → Num) (z : List (Option Unit') × List Num) : List Num := (z.1.zip z.2).map fun y => cellF f y.1 y.2
def renum (f : Unit' → Num) (rs : List (List (Option Unit'))) (ns : List (List Num)) : List (List Num) := (rs.zip ns).map (rowF f)
def valC (y : Option Unit' × Num) : Bool := y.1.isNone || decide (0 < y.2.1)
def valB (rs : List (List (Option Unit'))) (ns : List (List Num)) : Bool := (rs.zip ns).all fun z => (z.1.zip z.2).all valC
/-- roots -/
structure RtOk (b k : Nat) (ms : List Num) : Prop where
  len : ms.length = b
  ok : ∀ r ∈ ms, FrB k r ∧ 0 < r.1
  k0 : 0 < k
  k9 : k * 72 + 1 ≤ 2500
theorem unB_of {b : Nat} {us : Unit'} (h : UnOk b us) (b1 : 1 ≤ b) (b3 : b ≤ 3) : UnB 3 us := ⟨fun p hp => (h.2 p hp).1, by rw [h.1]; exact b1, by rw [h.1]; exact b3⟩
theorem facOk_cell {b m n k : Nat} {rs : List (List (Option Unit'))} {ms : List Num} (h : GrOk b m n rs) (q : RtOk b k ms) {r : List (Option Unit')} (hr : r ∈ rs) {us : Unit'} (hu : some us ∈ r) : FacOk 3 k 72 (lcmR rs) us ms := by
  have c : UnOk b us := (h.rows.2 r hr).2 _ hu
  have i12 := lcmR_12 h.rows
  refine ⟨unB_of c h.b1 h.b3, q.ok, by rw [c.1, q.len], by have := i12.pos; omega, i12.bd.up (by decide), fun e he => lcmR_dvd h.rows hr hu he, fun e he => ?_, by decide, by decide, q.k0, q.k9⟩
  have h1 : (ex (lcmR rs) e).natAbs ≤ (e.1 * lcmR rs).natAbs := Int.natAbs_ediv_le_natAbs _ _
  rw [Int.natAbs_mul] at h1
  have h2 := (c.2 e he).2.1
  have h3 : (lcmR rs).natAbs ≤ 12 := by unfold In12 at i12; omega
  have := Nat.mul_le_mul h2 h3
  omega
/-- the factor of a unit -/
def fU (s : Int) (ms : List Num) (us : Unit') : Num := fac (fz s) (us.zip ms)
theorem fU_pos {k n M : Nat} {s : Int} {us ms : List Num} (h : FacOk k n M s us ms) : Pos (fU s ms us) := fac_pos fun x hx => h.pos hx
theorem zip_fst {α β : Type} {xs : List α} {ys : List β} {z : α × β} (h : z ∈ xs.zip ys) : z.1 ∈ xs := by obtain ⟨a, b⟩ := z; exact (List.of_mem_zip h).1
theorem renum_len {f : Unit' → Num} {n : Nat} {rs : List (List (Option Unit'))} {ns : List (List Num)} (h : NumsOk n rs ns) : (renum f rs ns).length = rs.length := by simp [renum, h.1]
/-- zip with what is made of a zip -/
theorem zip_mapz {α β γ : Type} (f : α × β → γ) : ∀ (xs : List α) (ys : List β), xs.zip ((xs.zip ys).map f) = (xs.zip ys).map fun z => (z.1, f z)
  | [], _ => rfl
  | _ :: _, [] => rfl
  | x :: xs, y :: ys => congrArg ((x, f (x, y)) :: ·) (zip_mapz f xs ys)
theorem renum_ok {b m n nb k : Nat} {rs : List (List (Option Unit'))} {ns : List (List Num)} {ms : List Num} (h : GrOk b m n rs) (q : RtOk b k ms) (g : NumsOk nb rs ns) : NumsOk (nb + (1 + 3 * (k * 72 + 1))) rs (renum (fU (lcmR rs) ms) rs ns) := by
  refine ⟨renum_len g, fun z hz => ?_⟩
  unfold renum at hz
  rw [zip_mapz] at hz
  obtain ⟨z0, h0, rfl⟩ := List.mem_map.mp hz
  have g0 := g.2 z0 h0
  refine ⟨by simp [rowF, g0.1], fun y hy => ?_⟩
  unfold rowF at hy
  dsimp only at hy
  rw [zip_mapz] at hy
  obtain ⟨y0, h1, rfl⟩ := List.mem_map.mp hy
  have g1 := g0.2 y0 h1
  obtain ⟨c, p⟩ := y0
  cases c with
  | none => exact ⟨g1.1.up (by omega), fun _ => g1.2 rfl⟩
  | some us => exact ⟨ftimes_ok g1.1 (facOk_cell h q (zip_fst h0) (zip_fst h1)).bd3, fun e => nomatch e⟩
/-! ### reckoning with fractions in lowest terms -/
theorem pos_fr {p q : Num} (hp : Fr p) (hq : Fr q) : 0 < (fmul p q).2 := Int.mul_pos hp.1 hq.1
theorem ftimes_assoc {p a c : Num} (hp : Fr p) (ha : Fr a) (hc : Fr c) : ftimes (ftimes p a) c = ftimes p (ftimes a c) := by
  have e1 : (ftimes p a).1 * (p.2 * a.2) = (p.1 * a.1) * (ftimes p a).2 := low_mul
  have e2 : (ftimes a c).1 * (a.2 * c.2) = (a.1 * c.1) * (ftimes a c).2 := low_mul
  have p1 : 0 < (ftimes p a).2 := low_pos (pos2 hp ha)
  have p2 : 0 < (ftimes a c).2 := low_pos (pos2 ha hc)
  show low ((ftimes p a).1 * c.1) ((ftimes p a).2 * c.2) = low (p.1 * (ftimes a c).1) (p.2 * (ftimes a c).2)
  refine low_eq (Int.mul_pos p1 hc.1) (Int.mul_pos hp.1 p2) ?_
  generalize ftimes p a = x at *
  generalize ftimes a c = y at *
  have h0 : p.2 * a.2 * (a.2 * c.2) ≠ 0 := by
    have := Int.mul_pos (pos2 hp ha) (pos2 ha hc)
    omega
  refine Int.eq_of_mul_eq_mul_right h0 ?_
  calc x.1 * c.1 * (p.2 * y.2) * (p.2 * a.2 * (a.2 * c.2)) = (x.1 * (p.2 * a.2)) * (c.1 * p.2 * y.2 * (a.2 * c.2)) := by grind
    _ = (p.1 * a.1 * x.2) * (c.1 * p.2 * y.2 * (a.2 * c.2)) := by rw [e1]
    _ = ((a.1 * c.1) * y.2) * (p.1 * x.2 * p.2 * (a.2 * c.2)) := by grind
    _ = (y.1 * (a.2 * c.2)) * (p.1 * x.2 * p.2 * (a.2 * c.2)) := by rw [e2]
    _ = p.1 * y.1 * (x.2 * c.2) * (p.2 * a.2 * (a.2 * c.2)) := by grind
def turn (p : Num) : Num := (p.2, p.1)
theorem turn_pos {p : Num} (h : Pos p) : Pos (turn p) := ⟨h.2, h.1⟩
theorem turn_fr {p : Num} (h : Fr p) (h1 : 0 < p.1) : Fr (turn p) := ⟨h1, by have := h.2; rw [Int.gcd_comm]; exact this⟩
theorem ftimes_turn {a : Num} (h : Pos a) : ftimes a (turn a) = (1, 1) := by
  show low (a.1 * a.2) (a.2 * a.1) = _
  have e : low (a.1 * a.2) (a.2 * a.1) = low 1 1 := low_eq (Int.mul_pos h.2 h.1) (by decide) (by grind)
  rw [e]
  exact low_id (p := (1, 1)) ⟨by decide, by decide⟩
theorem ftimes_one {p : Num} (h : Fr p) : ftimes p (1, 1) = p := by
  show low (p.1 * 1) (p.2 * 1) = p
  rw [Int.mul_one, Int.mul_one]
  exact low_id h
theorem ftimes_sign {p a : Num} (hp : Fr p) (ha : Pos a) : decide (0 < (ftimes p a).1) = decide (0 < p.1) := by
  have e : (ftimes p a).1 * (p.2 * a.2) = (p.1 * a.1) * (ftimes p a).2 := low_mul
  have h1 : 0 < p.2 * a.2 := Int.mul_pos hp.1 ha.2
  have h2 : 0 < (ftimes p a).2 := low_pos h1
  generalize ftimes p a = x at *
  have key : 0 < x.1 ↔ 0 < p.1 := by
    constructor
    · intro h
      have h3 : 0 < p.1 * a.1 * x.2 := by rw [← e]; exact Int.mul_pos h h1
      rcases Int.lt_trichotomy p.1 0 with z | z | z
      · have := Int.mul_neg_of_neg_of_pos (Int.mul_neg_of_neg_of_pos z ha.1) h2; omega
      · rw [z] at h3; simp at h3
      · exact z
    · intro h
      have h3 : 0 < x.1 * (p.2 * a.2) := by rw [e]; exact Int.mul_pos (Int.mul_pos h ha.1) h2
      rcases Int.lt_trichotomy x.1 0 with z | z | z
      · have := Int.mul_neg_of_neg_of_pos z h1; omega
      · rw [z] at h3; simp at h3
      · exact z
  exact decide_eq_decide.mpr key
/-- the factor of turned roots -/
theorem rz_turn (p : Num) (k : Int) : rz (turn p) k = turn (rz p k) := by
  unfold rz sw turn pw
  split <;> rfl
theorem prodR_turn {α : Type} {f g : α → Num} : ∀ {xs : List α}, (∀ x ∈ xs, g x = turn (f x)) → prodR g xs = turn (prodR f xs)
  | [], _ => rfl
  | x :: xs, h => by
    rw [prodR, prodR, h x List.mem_cons_self, prodR_turn fun y hy => h y (List.mem_cons_of_mem _ hy)]
    rfl
theorem lo_turn {p : Num} (h : Pos p) : lo (turn p) = turn (lo p) := by
  refine fr_uniq (low_fr h.1) (turn_fr (low_fr h.2) (lo_pos h).1) ?_
  have e1 : (lo p).1 * p.2 = p.1 * (lo p).2 := low_mul
  have e2 : (lo (turn p)).1 * p.1 = p.2 * (lo (turn p)).2 := low_mul
  show (lo (turn p)).1 * (lo p).1 = (lo p).2 * (lo (turn p)).2
  have h0 : p.1 * p.2 ≠ 0 := by have := Int.mul_pos h.1 h.2; omega
  refine Int.eq_of_mul_eq_mul_right h0 ?_
  generalize lo (turn p) = x at *
  generalize lo p = y at *
  calc x.1 * y.1 * (p.1 * p.2) = (x.1 * p.1) * (y.1 * p.2) := by grind
    _ = (p.2 * x.2) * (p.1 * y.2) := by rw [e1, e2]
    _ = y.2 * x.2 * (p.1 * p.2) := by grind
theorem fU_turn {k n M : Nat} {s : Int} {us ms : List Num} (h : FacOk k n M s us ms) : fU s (ms.map turn) us = turn (fU s ms us) := by
  unfold fU
  have e : us.zip (ms.map turn) = (us.zip ms).map fun z => (z.1, turn z.2) := by rw [List.zip_map_right]; rfl
  rw [e, fac_map]
  have ht : ∀ x ∈ us.zip ms, fz s (x.1, turn x.2) = turn (fz s x) := fun x _ => rz_turn _ _
  rw [fac_eq (f := fz s) fun x hx => h.pos hx, fac_eq fun x hx => by rw [ht x hx]; exact turn_pos (h.pos hx), prodR_turn ht]
  exact lo_turn (prodR_pos fun x hx => h.pos hx)
end DL
set_option Elab.async false
set_option linter.all false
set_option maxRecDepth 100000
set_option maxHeartbeats 1000000
/-! DL22: raise and try of own exceptions; small dicts; lists put together. -/
namespace DL
open PySem PySem.Spec PyProof.Rows L2
/-! ### raise -/
/-- an own exception class without an __init__ of its own -/
structure KExc (K : PySem.W.Frag) (mg : Str → Option Value) (x : Str) : Prop where
  g : mg x = some (.ref (He.ga K x))
  e : PySem.W.excIn K (He.ga K x) He.veBase "ValueError.__new__" = true
  k : PySem.W.keepIn K (.ref (He.ga K x)) = true
  s : PySem.W.subIn K (.ref (He.ga K x)) (.type "BaseException") = some true
  t : PySem.W.typeIn K (.ref (He.ga K x)) = some (.type "type")
theorem kexc_of {K : PySem.W.Frag} {mg : Str → Option Value} {x : Str} (g : mg x = some (.ref (He.ga K x))) (c : (He.Fa.exc x).ok K = true) : KExc K mg x := by
  obtain ⟨h1, h2, h3, h4⟩ := He.exc_ok c
  exact ⟨g, h1, h2, h3, h4⟩
section
variable {X : Cx} {Wx : WX} {x : Str} {p pos pos2 : PySem.Pos}
/-- x(), an own exception class -/
theorem pmk_bare (k : KExc X.K X.mg x) (hg : Gl X x) (hdb : (x == ("__debug__" : Str)) = false) : PMk X (.Call (.Name x p) [] [] pos) (fun σ H Q => Q (.ref (He.ga X.K x)) none H) := by
  intro pins s σ H Q I h
  refine wpAny_Call_Name_kw (ld_glob I hg k.g ?_ hdb)
  refine PySem.W.callWith_K0 I.kIn k.k ?_
  show wpAny _ _ (call (.ref (He.ga X.K x)) []) _ _ _
  obtain ⟨bm, N, nm, qn, bs, hdct, sn, sub, ab, col, dd, k0, k1, k2, k3, k5, mN, hC, hN, hni, T⟩ := exc_obj I.kIn k.e
  exact wpAny_call_exc_subT PySem.F.excBase_ValueError T hC hN hni (fun h' e hm => mk_of I hm (raises_own k.s k.t) h (I.hok.gone hm.new)) (Nat.zero_le _)
/-- raise x() -/
def sRaise (x : Str) : FS := fun δ S => some (.error (⟨x, [], []⟩, δ), S)
theorem ds_raise0 (k : KExc X.K X.mg x) (hc : X.calm = true) (tk : Takes X Wx) (hg : Gl X x := by rfl) (hdb : (x == ("__debug__" : Str)) = false := by decide) : PS X (.Raise (some (.Call (.Name x p) [] [] pos)) none pos2) (tS X.K Wx (sRaise x)) :=
  (ps_raise hc tk (pmk_bare k hg hdb)).imp fun D σ H q => by
    obtain ⟨δ, S, ρ, ok, en, r, S', e, c⟩ := q
    cases e
    exact c ρ H ok (Step.refl ρ H) none σ en ⟨rfl, rfl⟩
end
/-! ### try -/
def sHandle (sub : Str → Str → Bool) : List (Str × FS) → Ex → DEnv → Store → Ss
  | [], x, δ, S => some (.error (x, δ), S)
  | (nm, f) :: l, x, δ, S => if sub x.cls nm = true then (match f δ S with
    | some (.ok fl, S2) => some (.ok fl, S2)
    | _ => none) else sHandle sub l x δ S
def sTry (cs : List Str) (sub : Str → Str → Bool) (body : FS) (l : List (Str × FS)) : FS := fun δ S => match body δ S with
  | some (.error (x, δ1), S1) => if x.cls ∈ cs then sHandle sub l x δ1 S1 else none
  | o => o
inductive HdsD (X : Cx) (cs : List Str) (sub : Str → Str → Bool) : List ExceptHandler → List (Str × FS) → Prop
  | nil : HdsD X cs sub [] []
  | cons {x : Str} {f : FS} {b₀ : Stmt} {suite : List Stmt} {np pos' : PySem.Pos} {hds : List ExceptHandler} {l : List (Str × FS)} (hc : Names X x (.ref (He.ga X.K x))) (hx : ∀ c ∈ cs, PySem.W.exmOne X.K (.ref (He.ga X.K c)) (.ref (He.ga X.K x)) = some (sub c x))
      (hsu : ∀ (a : Addr) (oe : Obj) (cls : Value) (d : Option Addr) (pn : List (Addr × Obj)), PSs (X.suite a ((a, oe) :: pn)) (b₀ :: suite) (tS X.K WF f)) (r : HdsD X cs sub hds l) :
      HdsD X cs sub (.ExceptHandler (some (.Name x np)) none (b₀ :: suite) pos' :: hds) ((x, f) :: l)
abbrev hdl (K : PySem.W.Frag) (q : Str × FS) : Value × (Addr → Value → Option Addr → TS) := (.ref (He.ga K q.1), fun _ _ _ => tS K WF q.2)
section
variable {X : Cx} {Wx : WX} {cs : List Str} {sub : Str → Str → Bool}
theorem HdsD.ok {hds : List ExceptHandler} {l : List (Str × FS)} (h : HdsD X cs sub hds l) : HdsOk X hds (l.map (hdl X.K)) := by
  induction h with
  | nil => exact .nil
  | cons hc hx hsu r ih => exact .cons hc (fun a oe cls d pn _ _ => hsu a oe cls d pn) ih
theorem ds_try {body : List Stmt} {h₀ : ExceptHandler} {hds : List ExceptHandler} {l : List (Str × FS)} {fs : FS} {pos : PySem.Pos} (hs : X.stack = X.env :: X.outer) (hf : X.env.frame = some X.env.locals) (tk : Takes X Wx)
    (hb : ∀ (W : WX) (pn : List (Addr × Obj)) (xe : Value → Shared → Prop), Takes (X.tr pn xe) W → PassesOwn (model X.prog X.w) X.A X.env xe → PSs (X.tr pn xe) body (tS X.K W fs)) (hh : HdsD X cs sub (h₀ :: hds) l) :
    PS X (.Try body (h₀ :: hds) [] [] pos) (tS X.K Wx (sTry cs sub fs l)) :=
  (ps_try_many hs hf tk hb hh.ok).imp fun D σ H q => by
    obtain ⟨δ, S, ρ, ok, en, r, S', e, c⟩ := q
    refine ⟨δ, S, ρ, ok, en, ?_⟩
    unfold sTry at e
    cases eb : fs δ S with
    | none => rw [eb] at e; cases e
    | some z =>
      obtain ⟨z, S1⟩ := z
      rw [eb] at e
      cases z with
      | ok fl =>
        cases e
        refine ⟨_, _, rfl, fun ρ' H' ok' st' => ?_⟩
        have c' := c ρ' H' ok' st'
        cases fl <;> exact c'
      | error y =>
        obtain ⟨x, δ1⟩ := y
        dsimp only at e
        split at e
        · rename_i hm
          refine ⟨_, _, rfl, fun ρ' H' ok' st' d σ' en' hx => ?_⟩
          have key : ∀ (hds : List ExceptHandler) (l : List (Str × FS)), HdsD X cs sub hds l → sHandle sub l x δ1 S1 = some (r, S') → wMany X.K Wx D (l.map (hdl X.K)) (x.cl X.K) d σ' H' := by
            intro hds l h
            induction h with
            | nil =>
              intro e
              cases e
              exact c ρ' H' ok' st' d σ' en' hx
            | @cons y f b₀ suite np pos' hds2 l2 hc hxm hsu r2 ih =>
              intro e
              rw [sHandle] at e
              refine ⟨sub x.cls y, hxm _ hm, fun hb a ha => ?_, fun hb => ?_⟩
              · rw [if_pos hb] at e
                split at e
                · rename_i fl S2 ef
                  cases e
                  refine ⟨δ1, S1, ρ', ok', en', _, _, ef, fun ρ2 H2 ok2 st2 => ?_⟩
                  have c' := c ρ2 H2 ok2 (st'.trans st2)
                  cases fl <;> exact c'
                · cases e
              · rw [if_neg (by rw [hb]; exact Bool.false_ne_true)] at e
                exact ih e
          exact key _ _ hh e
        · cases e
end
/-! ### small dicts -/
theorem upd_upd {H : Hp} {p : Addr} {o u : HO} : upd (upd H p o) p u = upd H p u := by
  funext b
  by_cases h : b = p
  · subst h; rw [upd_same, upd_same]
  · rw [upd_ne h, upd_ne h, upd_ne h]
def dDct (ks : List Key) (ds : List D) : FE := fun _ S => some (.ok (.d (.dct ks ds)), S)
section
variable {X : Cx} {Wx : WX} {pos : PySem.Pos}
theorem dct_go {σ : L2.St} {ρ : Ad} {S : Store} {H : Hp} {Q : VK} {ks : List Key} {ds : List D} {vs : List V} {p : Addr} (ok : Ok X.K ρ S H) (hp : H p = none) (r : ∀ ρ H, RelDs X.K ρ H ds vs) (hl : ks.length = ds.length) (q : Go X.K Wx σ ρ H (RelW X.K) (some (.ok (.d (.dct ks ds)), S)) Q) : Q (.ref p) (upd H p (.dK (ks.zip vs))) := by
  have st := step_new ok (.dK (ks.zip vs)) hp
  refine go_at q (ok_new ok _ hp) st (show RelD X.K ρ (upd H p (.dK (ks.zip vs))) (.dct ks ds) (.ref p) from ?_)
  rw [RelD]
  exact ⟨p, vs, rfl, upd_same, ok.off hp, r _ _, hl⟩
theorem de_dct0 : PE X (.Dict [] [] pos) (tE X.K Wx (dDct [] [])) := pe_dnewK.imp fun σ H Q ⟨δ, S, ρ, ok, en, q⟩ => fun p hp => by
  have z := dct_go (vs := []) ok hp (fun _ _ => by rw [RelDs]) rfl q
  exact z
theorem de_dct1 {i j : Int} {k1 k2 : Nat} {p1 p2 : PySem.Pos} : PE X (.Dict [some (.Constant (.int i) k1 p1)] [.Constant (.int j) k2 p2] pos) (tE X.K Wx (dDct [.inl i] [.int j])) :=
  (pe_disp (pps_cons (pe_int (i := i)) (pe_int (i := j)) pps_nil) rfl rfl (by simp) (by simp)).imp fun σ H Q ⟨δ, S, ρ, ok, en, q⟩ => fun p hp => by
    refine ⟨upd_same, [(.inl i, .int j)], rfl, by simp, ?_⟩
    rw [upd_upd]
    have z := dct_go (vs := [.int j]) ok hp (fun _ _ => by rw [RelDs]; exact ⟨_, _, rfl, by rw [RelD], by rw [RelDs]⟩) rfl q
    exact z
end
/-! ### lists put together -/
section
variable {K : PySem.W.Frag} {Wx : WX}
def oCatL : F2
  | .loc n, .loc m, S => (match S[n]? with
    | some (.lst ws) => (match S[m]? with
      | some (.lst us) => mkLoc (ws ++ us) S
      | _ => none)
    | _ => none)
  | _, _, _ => none
theorem oCatL_ok : OpF K Wx rCat oCatL := by
  intro σ ρ S H x y a b Q ok rx ry q
  unfold oCatL at q
  split at q
  · rename_i n m
    split at q
    · rename_i ws ew
      split at q
      · rename_i us eu
        obtain ⟨p, vs, rfl, _, h1, h2⟩ := loc_at ok rx ew
        obtain ⟨p', vs', rfl, _, h3, h4⟩ := loc_at ok ry eu
        obtain ⟨z1, z2⟩ := mkLoc_ok ok (h2.app h4) q
        exact ⟨p, p', vs, vs', rfl, rfl, h1, h3, by rw [← List.length_append]; exact z1, z2⟩
      · exact go_none q
    · exact go_none q
  · exact go_none q
end
end DL
set_option Elab.async false
set_option linter.all false
set_option maxRecDepth 100000
set_option maxHeartbeats 1000000
/-! DL23: things of any kind, judged. -/
namespace DL
open PySem L2
/-- a thing of small numbers; G: the class of its instances -/
inductive ThN (N : Nat) (G : Addr) : D → Prop
  | non : ThN N G .non
  | bl (b : Bool) : ThN N G (.bl b)
  | int {i : Int} (h : i.natAbs ≤ N) : ThN N G (.int i)
  | str (x : Str) : ThN N G (.str x)
  | tup {ds : List D} (hl : ds.length ≤ 100) (h : ∀ d ∈ ds, ThN N G d) : ThN N G (.tup ds)
  | lst {ds : List D} (hl : ds.length ≤ 100) (h : ∀ d ∈ ds, ThN N G d) : ThN N G (.lst ds)
  | dct (ks : List Key) (ds : List D) : ThN N G (.dct ks ds)
  | ins (ns : List Str) (ds : List D) : ThN N G (.ins G ns ds)
/-- .. or a great number -/
def TgN (N : Nat) (G : Addr) (d : D) : Prop := ThN N G d ∨ ∃ i, d = .int i
abbrev Th := ThN 12
abbrev Tg' := TgN 12
theorem ThN.tg {N : Nat} {G : Addr} {d : D} (h : ThN N G d) : TgN N G d := .inl h
section
variable {S : Store} {cs : List Addr} {c : String}
theorem isi_int' {i : Int} : oIsiI cs [.d (.int i), .d (.ty c)] S = oIsi [.d (.int i), .d (.ty c)] S := rfl
theorem isi_bl' {i : Bool} : oIsiI cs [.d (.bl i), .d (.ty c)] S = oIsi [.d (.bl i), .d (.ty c)] S := rfl
theorem isi_str' {i : Str} : oIsiI cs [.d (.str i), .d (.ty c)] S = oIsi [.d (.str i), .d (.ty c)] S := rfl
theorem isi_non' : oIsiI cs [.d .non, .d (.ty c)] S = oIsi [.d .non, .d (.ty c)] S := rfl
theorem isi_tup' {ds : List D} : oIsiI cs [.d (.tup ds), .d (.ty c)] S = oIsi [.d (.tup ds), .d (.ty c)] S := rfl
theorem isi_lst' {ds : List D} : oIsiI cs [.d (.lst ds), .d (.ty c)] S = oIsi [.d (.lst ds), .d (.ty c)] S := rfl
theorem isi_dct' {ks : List Key} {ds : List D} : oIsiI cs [.d (.dct ks ds), .d (.ty c)] S = oIsi [.d (.dct ks ds), .d (.ty c)] S := rfl
theorem isi_U' {us : Unit'} : oIsiI cs [.d (encU us), .d (.ty c)] S = oIsi [.d (encU us), .d (.ty c)] S := rfl
theorem isi_F' {p : Int × Int} : oIsiI cs [.d (encF p), .d (.ty c)] S = oIsi [.d (encF p), .d (.ty c)] S := rfl
theorem isi_ins' {G : Addr} {ns : List Str} {ds : List D} (h : c ∈ tyCs) : oIsiI [G] [.d (.ins G ns ds), .d (.ty c)] S = some (.ok (.d (.bl false)), S) := by
  show (if G ∈ [G] ∧ c ∈ tyCs then some (Except.ok (W.d (.bl false)), S) else none) = _
  rw [if_pos ⟨by simp, h⟩]
theorem ty_dct {ks : List Key} {ds : List D} : tyN S (.d (.dct ks ds)) = some "dict" := rfl
end
theorem tc_int : "int" ∈ tyCs := by decide
theorem tc_bool : "bool" ∈ tyCs := by decide
theorem tc_tuple : "tuple" ∈ tyCs := by decide
theorem isi_bi : isiB "bool" "int" = some true := by decide
theorem isi_bb : isiB "bool" "bool" = some true := by decide
theorem isi_bt : isiB "bool" "tuple" = some false := by decide
theorem isi_si : isiB "str" "int" = some false := by decide
theorem isi_sb : isiB "str" "bool" = some false := by decide
theorem isi_st : isiB "str" "tuple" = some false := by decide
theorem isi_ni : isiB "NoneType" "int" = some false := by decide
theorem isi_nb : isiB "NoneType" "bool" = some false := by decide
theorem isi_nt : isiB "NoneType" "tuple" = some false := by decide
theorem isi_li : isiB "list" "int" = some false := by decide
theorem isi_lb : isiB "list" "bool" = some false := by decide
theorem isi_lt : isiB "list" "tuple" = some false := by decide
theorem isi_di : isiB "dict" "int" = some false := by decide
theorem isi_db : isiB "dict" "bool" = some false := by decide
theorem isi_dt : isiB "dict" "tuple" = some false := by decide
/-! ### judges -/
def intB : D → Bool
  | .int _ => true
  | _ => false
def tupB : D → Bool
  | .tup _ => true
  | _ => false
def fracB : D → Bool
  | .tup [.int t, .int b] => decide (1 ≤ b) && decide (gcd t b = 1)
  | _ => false
def unitB (n : Int) : D → Bool
  | .tup ds => decide ((ds.length : Int) = n) && ds.all fracB
  | _ => false
def anyB : D → Bool
  | .tup ds => decide (1 ≤ ds.length ∧ ds.length ≤ 3) && ds.all fracB
  | _ => false
def aboveB : D → Bool
  | .tup [.int t, .int b] => fracB (.tup [.int t, .int b]) && decide (0 < t)
  | _ => false
def rootsB (n : Int) : D → Bool
  | .tup ds => decide ((ds.length : Int) = n) && ds.all aboveB
  | _ => false
theorem fracB_of {d : D} (h : fracB d = true) : ∃ p : Int × Int, d = encF p ∧ Fr p := by
  unfold fracB at h
  split at h
  · rename_i t b
    rw [Bool.and_eq_true, decide_eq_true_eq, decide_eq_true_eq] at h
    refine ⟨(t, b), rfl, by show 0 < b; omega, ?_⟩
    have := h.2
    unfold gcd at this
    show Int.gcd t b = 1
    omega
  · cases h
theorem fracB_F {p : Int × Int} (h : Fr p) : fracB (encF p) = true := by
  have h1 := h.1
  have h2 := h.2
  show (decide (1 ≤ p.2) && decide (gcd p.1 p.2 = 1)) = true
  rw [Bool.and_eq_true, decide_eq_true_eq, decide_eq_true_eq]
  exact ⟨by omega, by unfold gcd; rw [h2]; rfl⟩
theorem all_frac {ds : List D} (h : ds.all fracB = true) : ∃ us : Unit', ds = us.map encF ∧ ∀ p ∈ us, Fr p := by
  rw [List.all_eq_true] at h
  exact all_encG fun d hd => fracB_of (h d hd)
theorem aboveB_of {d : D} (h : aboveB d = true) : ∃ p : Int × Int, d = encF p ∧ Fr p ∧ 0 < p.1 := by
  unfold aboveB at h
  split at h
  · rename_i t b
    rw [Bool.and_eq_true, decide_eq_true_eq] at h
    obtain ⟨p, e, hp⟩ := fracB_of h.1
    have e' : D.tup [.int t, .int b] = .tup [.int p.1, .int p.2] := e
    injection e' with e1
    injection e1 with e2 e3
    injection e2 with e4
    exact ⟨p, e, hp, by have := h.2; omega⟩
  · cases h
theorem all_above {ds : List D} (h : ds.all aboveB = true) : ∃ us : Unit', ds = us.map encF ∧ ∀ p ∈ us, Fr p ∧ 0 < p.1 := by
  rw [List.all_eq_true] at h
  exact all_encG fun d hd => aboveB_of (h d hd)
theorem low_same {t b : Int} (hb : 1 ≤ b) : decide (low t b = (t, b)) = decide (gcd t b = 1) := by
  refine decide_eq_decide.mpr ⟨fun e => ?_, fun e => ?_⟩
  · have h2 : (low t b).2 * gcd t b = b := Int.ediv_mul_cancel (Int.gcd_dvd_right t b)
    rw [e] at h2
    have h3 : b * gcd t b = b * 1 := by rw [Int.mul_one]; exact h2
    exact Int.eq_of_mul_eq_mul_left (by omega) h3
  · unfold low
    rw [e, Int.ediv_one, Int.ediv_one]
theorem ThN.frac {N : Nat} {G : Addr} {p : Int × Int} (h : ThN N G (encF p)) : p.1.natAbs ≤ N ∧ p.2.natAbs ≤ N := by
  have h' : ThN N G (.tup [.int p.1, .int p.2]) := h
  cases h' with
  | tup _ h => exact ⟨by cases h (.int p.1) (by simp) with | int h => exact h, by cases h (.int p.2) (by simp) with | int h => exact h⟩
theorem ThN.items {N : Nat} {G : Addr} {ds : List D} (h : ThN N G (.tup ds)) : ds.length ≤ 100 ∧ ∀ d ∈ ds, ThN N G d := by
  cases h with
  | tup hl h => exact ⟨hl, h⟩
theorem th_F {N : Nat} {G : Addr} {p : Int × Int} (h1 : p.1.natAbs ≤ N) (h2 : p.2.natAbs ≤ N) : ThN N G (encF p) := .tup (by simp) fun d hd => by
  simp at hd
  rcases hd with rfl | rfl
  · exact .int h1
  · exact .int h2
theorem all_eqOn {α : Type} {p q : α → Bool} {xs : List α} (h : ∀ x ∈ xs, p x = q x) : xs.all p = xs.all q := by
  induction xs with
  | nil => rfl
  | cons x xs ih => rw [List.all_cons, List.all_cons, h x List.mem_cons_self, ih fun y hy => h y (List.mem_cons_of_mem _ hy)]
theorem aboveB_F {p : Int × Int} (h : Fr p) : aboveB (encF p) = decide (0 < p.1) := by
  show (fracB (encF p) && decide (0 < p.1)) = _
  rw [fracB_F h, Bool.true_and]
theorem pl_str (x : Str) (h : PyData.canLay0 (.str x) = true) : Pl 0 (.str x) := ⟨.str x, by rw [toP], h, by simp [PyData.depth], by simp [PyData.eqv]⟩
theorem ne_str {S : Store} (x : Str) (h : PyData.canLay0 (.str x) = true) : oNe (.d (.str x)) (.d (.str x)) S = some (.ok (.d (.bl false)), S) := oNe_refl (pl_str x h) (by decide)
theorem ne_bl {S : Store} (x : Bool) : oNe (.d (.bl x)) (.d (.bl x)) S = some (.ok (.d (.bl false)), S) := oNe_refl (pl_bl x) (by decide)
theorem mkLoc2 {S : Store} {a0 a1 : W} : mkLoc [a0, a1] S = some (.ok (.loc S.length), S ++ [.lst [a0, a1]]) := rfl
theorem mkLoc7 {S : Store} {a0 a1 a2 a3 a4 a5 a6 : W} : mkLoc [a0, a1, a2, a3, a4, a5, a6] S = some (.ok (.loc S.length), S ++ [.lst [a0, a1, a2, a3, a4, a5, a6]]) := rfl
theorem mkLoc8 {S : Store} {a0 a1 a2 a3 a4 a5 a6 a7 : W} : mkLoc [a0, a1, a2, a3, a4, a5, a6, a7] S = some (.ok (.loc S.length), S ++ [.lst [a0, a1, a2, a3, a4, a5, a6, a7]]) := rfl
theorem mkLoc9 {S : Store} {a0 a1 a2 a3 a4 a5 a6 a7 a8 : W} : mkLoc [a0, a1, a2, a3, a4, a5, a6, a7, a8] S = some (.ok (.loc S.length), S ++ [.lst [a0, a1, a2, a3, a4, a5, a6, a7, a8]]) := rfl
theorem mkLoc11 {S : Store} {a0 a1 a2 a3 a4 a5 a6 a7 a8 a9 a10 : W} : mkLoc [a0, a1, a2, a3, a4, a5, a6, a7, a8, a9, a10] S = some (.ok (.loc S.length), S ++ [.lst [a0, a1, a2, a3, a4, a5, a6, a7, a8, a9, a10]]) := rfl
theorem mkLoc17 {S : Store} {a0 a1 a2 a3 a4 a5 a6 a7 a8 a9 a10 a11 a12 a13 a14 a15 a16 : W} : mkLoc [a0, a1, a2, a3, a4, a5, a6, a7, a8, a9, a10, a11, a12, a13, a14, a15, a16] S = some (.ok (.loc S.length), S ++ [.lst [a0, a1, a2, a3, a4, a5, a6, a7, a8, a9, a10, a11, a12, a13, a14, a15, a16]]) := rfl
theorem mkLoc25 {S : Store} {a0 a1 a2 a3 a4 a5 a6 a7 a8 a9 a10 a11 a12 a13 a14 a15 a16 a17 a18 a19 a20 a21 a22 a23 a24 : W} : mkLoc [a0, a1, a2, a3, a4, a5, a6, a7, a8, a9, a10, a11, a12, a13, a14, a15, a16, a17, a18, a19, a20, a21, a22, a23, a24] S = some (.ok (.loc S.length), S ++ [.lst [a0, a1, a2, a3, a4, a5, a6, a7, a8, a9, a10, a11, a12, a13, a14, a15, a16, a17, a18, a19, a20, a21, a22, a23, a24]]) := rfl
theorem mkLoc32 {S : Store} {a0 a1 a2 a3 a4 a5 a6 a7 a8 a9 a10 a11 a12 a13 a14 a15 a16 a17 a18 a19 a20 a21 a22 a23 a24 a25 a26 a27 a28 a29 a30 a31 : W} : mkLoc [a0, a1, a2, a3, a4, a5, a6, a7, a8, a9, a10, a11, a12, a13, a14, a15, a16, a17, a18, a19, a20, a21, a22, a23, a24, a25, a26, a27, a28, a29, a30, a31] S = some (.ok (.loc S.length), S ++ [.lst [a0, a1, a2, a3, a4, a5, a6, a7, a8, a9, a10, a11, a12, a13, a14, a15, a16, a17, a18, a19, a20, a21, a22, a23, a24, a25, a26, a27, a28, a29, a30, a31]]) := rfl
theorem cat_tup {S : Store} {a b : List D} (h : a.length + b.length ≤ 1000) : oCat (.d (.tup a)) (.d (.tup b)) S = some (.ok (.d (.tup (a ++ b))), S) := by
  show (if a.length + b.length ≤ sizeLine then some (Except.ok (W.d (.tup (a ++ b))), S) else none) = _
  rw [if_pos (Nat.le_trans h (by decide))]
theorem ix_loc {S : Store} {n : Nat} {ds : List D} (h : S[n]? = some (.lst (ds.map W.d))) {i : Int} (h0 : 0 ≤ i) (h1 : i < (ds.length : Int)) : ∃ d ∈ ds, oIx (.loc n) (.d (.int i)) S = some (.ok (.d d), S) := by
  have hi : i.toNat < ds.length := by omega
  have e : atI (ds.map W.d) ((i.toNat : Nat) : Int) = some (W.d ds[i.toNat]) := atI_nat (by simp [hi])
  have ei : ((i.toNat : Nat) : Int) = i := by omega
  rw [ei] at e
  refine ⟨ds[i.toNat], List.getElem_mem hi, ?_⟩
  simp only [oIx, seqW, h, e]
theorem ix_lstD {S : Store} {ds : List D} {i : Int} (h0 : 0 ≤ i) (h1 : i < (ds.length : Int)) : ∃ d ∈ ds, oIx (.d (.lst ds)) (.d (.int i)) S = some (.ok (.d d), S) := by
  have hi : i.toNat < ds.length := by omega
  have e : atI (ds.map W.d) ((i.toNat : Nat) : Int) = some (W.d ds[i.toNat]) := atI_nat (by simp [hi])
  have ei : ((i.toNat : Nat) : Int) = i := by omega
  rw [ei] at e
  refine ⟨ds[i.toNat], List.getElem_mem hi, ?_⟩
  simp only [oIx, seqW, e]
theorem len_loc {S : Store} {n : Nat} {ws : List W} (h : S[n]? = some (.lst ws)) : oLen (.loc n) S = some (.ok (.d (.int (ws.length : Int))), S) := by
  simp only [oLen, seqW, h]
/-! ### try -/
theorem try_ok {cs : List Str} {sub : Str → Str → Bool} {body : FS} {l : List (Str × FS)} {δ δ1 : DEnv} {S S1 : Store} (h : body δ S = some (.ok (.nx δ1), S1)) : sTry cs sub body l δ S = some (.ok (.nx δ1), S1) := by
  unfold sTry
  rw [h]
theorem try_bad {cs : List Str} {sub : Str → Str → Bool} {body : FS} {l : List (Str × FS)} {x : Ex} {δ δ1 : DEnv} {S S1 : Store} (h : body δ S = some (.error (x, δ1), S1)) (hm : x.cls ∈ cs) : sTry cs sub body l δ S = sHandle sub l x δ1 S1 := by
  unfold sTry
  rw [h]
  dsimp only
  rw [if_pos hm]
end DL
set_option Elab.async false
set_option linter.all false
set_option maxRecDepth 100000
set_option maxHeartbeats 1000000
/-! DL24: things of any kind with small pairs, judged as places, cells, rows, numbers. -/
namespace DL
open PySem L2
/-- a thing whose pairs of whole numbers are small; G: the class of its instances -/
inductive Tk (N : Nat) (G : Addr) : D → Prop
  | non : Tk N G .non
  | bl (b : Bool) : Tk N G (.bl b)
  | int {i : Int} : Tk N G (.int i)
  | str (x : Str) : Tk N G (.str x)
  | tup {ds : List D} (hl : ds.length ≤ 100) (h : ∀ d ∈ ds, Tk N G d) (hb : ∀ t u : Int, ds = [.int t, .int u] → t.natAbs ≤ N ∧ u.natAbs ≤ N) : Tk N G (.tup ds)
  | lst {ds : List D} (hl : ds.length ≤ 100) (h : ∀ d ∈ ds, Tk N G d) : Tk N G (.lst ds)
  | dct (ks : List Key) (ds : List D) : Tk N G (.dct ks ds)
  | ins (ns : List Str) (ds : List D) : Tk N G (.ins G ns ds)
def TgK (N : Nat) (G : Addr) (d : D) : Prop := Tk N G d ∨ ∃ i, d = .int i
section
variable {N : Nat} {G : Addr} {d : D}
theorem Tk.tg (h : Tk N G d) : TgK N G d := .inl h
theorem TgK.tk (h : TgK N G d) : Tk N G d := by
  rcases h with h | ⟨i, rfl⟩
  · exact h
  · exact .int
theorem TgK.pair {t u : Int} (h : TgK N G (.tup [.int t, .int u])) : t.natAbs ≤ N ∧ u.natAbs ≤ N := by
  cases h.tk with
  | tup hl h hb => exact hb t u rfl
theorem TgN.pair {t u : Int} (h : TgN N G (.tup [.int t, .int u])) : t.natAbs ≤ N ∧ u.natAbs ≤ N := by
  rcases h with h | ⟨i, e⟩
  · exact ThN.frac (p := (t, u)) h
  · cases e
theorem Tk.frac {p : Int × Int} (h : Tk N G (encF p)) : p.1.natAbs ≤ N ∧ p.2.natAbs ≤ N := TgK.pair (N := N) (G := G) (t := p.1) (u := p.2) h.tg
theorem Tk.items {ds : List D} (h : Tk N G (.tup ds)) : ds.length ≤ 100 ∧ ∀ d ∈ ds, Tk N G d := by
  cases h with
  | tup hl h hb => exact ⟨hl, h⟩
theorem tk_0 : Tk N G (.tup []) := .tup (by simp) (by simp) (by simp)
theorem tk_1 {a : D} (h : Tk N G a) : Tk N G (.tup [a]) := .tup (by simp) (fun d hd => by simp at hd; rw [hd]; exact h) (by simp)
theorem tk_2 {a b : D} (h : Tk N G a) (k : Tk N G b) (hb : ∀ t u : Int, a = .int t → b = .int u → t.natAbs ≤ N ∧ u.natAbs ≤ N) : Tk N G (.tup [a, b]) := .tup (by simp) (fun d hd => by
  simp at hd
  rcases hd with rfl | rfl
  · exact h
  · exact k) (fun t u e => by simp at e; exact hb t u e.1 e.2)
theorem tk_F {t u : Int} (h : t.natAbs ≤ N) (k : u.natAbs ≤ N) : Tk N G (.tup [.int t, .int u]) := tk_2 .int .int fun t' u' e e' => by
  injection e with e; injection e' with e'
  subst e e'
  exact ⟨h, k⟩
theorem tk_n {ds : List D} (h : ∀ d ∈ ds, Tk N G d) (hl : ds.length ≤ 100) (h2 : ∀ d ∈ ds, intB d = false) : Tk N G (.tup ds) := .tup hl h fun t u e => by
  subst e
  have := h2 (.int t) (by simp)
  cases this
theorem tk_enc {p : Int × Int} (h : p.1.natAbs ≤ N ∧ p.2.natAbs ≤ N) : Tk N G (encF p) := tk_F h.1 h.2
end
/-! ### judges -/
def plB (lo hi : Int) : D → Bool
  | .int i => decide (lo ≤ i) && decide (i ≤ hi)
  | _ => false
def smB : D → Bool
  | .tup [.int t, .int b] => decide ((t.natAbs : Int) ≤ 6) && decide (b ≤ 4)
  | _ => false
def cellB (b : Int) : D → Bool
  | .non => true
  | .tup ds => unitB b (.tup ds) && ds.all smB
  | _ => false
def zB : D → Bool
  | .tup [.int t, .int b] => decide ((t, b) = ((0 : Int), (1 : Int)))
  | _ => false
def fitB (c : Option Unit') (d : D) : Bool := fracB d && (c.isSome || zB d)
def its : D → List D
  | .tup es => es
  | _ => []
def rowB (n : Int) : D → Bool
  | .tup es => decide ((es.length : Int) = n)
  | _ => false
def rowsB (m n : Int) : D → Bool
  | .tup ds => decide ((ds.length : Int) = m) && ds.all (rowB n)
  | _ => false
def fitsR (rs : List (List (Option Unit'))) (ds : List D) : Bool := (rs.zip ds).all fun z => (z.1.zip (its z.2)).all fun y => fitB y.1 y.2
def numsB (m n : Int) (rs : List (List (Option Unit'))) (x : D) : Bool := rowsB m n x && fitsR rs (its x)
theorem rowB_of {n : Int} {d : D} (h : rowB n d = true) : ∃ es, d = .tup es ∧ (es.length : Int) = n := by
  cases d with
  | tup es => exact ⟨es, rfl, of_decide_eq_true h⟩
  | _ => cases h
theorem rowsB_of {m n : Int} {x : D} (h : rowsB m n x = true) : ∃ ds, x = .tup ds ∧ (ds.length : Int) = m ∧ ∀ d ∈ ds, rowB n d = true := by
  cases x with
  | tup ds =>
    have h' : (decide ((ds.length : Int) = m) && ds.all (rowB n)) = true := h
    rw [Bool.and_eq_true, decide_eq_true_eq, List.all_eq_true] at h'
    exact ⟨ds, rfl, h'.1, h'.2⟩
  | _ => cases h
theorem smB_F (p : Int × Int) : smB (encF p) = (decide ((p.1.natAbs : Int) ≤ 6) && decide (p.2 ≤ 4)) := rfl
theorem fitB_F (c : Option Unit') {p : Int × Int} (h : Fr p) : fitB c (encF p) = (c.isSome || decide (p = (0, 1))) := by
  unfold fitB
  rw [fracB_F h, Bool.true_and]
  rfl
theorem fitB_of {c : Option Unit'} {d : D} (h : fitB c d = true) : ∃ p, d = encF p ∧ Fr p ∧ (c = none → p = (0, 1)) := by
  unfold fitB at h
  rw [Bool.and_eq_true] at h
  obtain ⟨p, rfl, hp⟩ := fracB_of h.1
  refine ⟨p, rfl, hp, fun e => ?_⟩
  subst e
  exact of_decide_eq_true h.2
/-- what is a cell, once judged -/
theorem cellB_of {b : Nat} {x : D} (h : cellB (b : Int) x = true) : ∃ c, x = encC c ∧ CellOk b c := by
  cases x with
  | non => exact ⟨none, rfl, trivial⟩
  | tup ds =>
    have h' : ((decide ((ds.length : Int) = (b : Int)) && ds.all fracB) && ds.all smB) = true := h
    rw [Bool.and_eq_true, Bool.and_eq_true, decide_eq_true_eq] at h'
    obtain ⟨⟨hl, hf⟩, hs⟩ := h'
    obtain ⟨us, rfl, hu⟩ := all_frac hf
    rw [List.all_eq_true] at hs
    refine ⟨some us, rfl, by rw [List.length_map] at hl; omega, fun p hp => ?_⟩
    have s := hs _ (List.mem_map_of_mem hp)
    rw [smB_F, Bool.and_eq_true, decide_eq_true_eq, decide_eq_true_eq] at s
    have f := hu p hp
    have f1 := f.1
    exact ⟨⟨f, by unfold Bd; omega, by unfold Bd; omega⟩, by omega, s.2⟩
  | _ => cases h
theorem numsB_of {N : Nat} {G : Addr} {b m n nb : Nat} {rs : List (List (Option Unit'))} {x : D} (g : GrOk b m n rs) (hN : N < 2 ^ nb) (hx : Tk N G x) (h : numsB (m : Int) (n : Int) rs x = true) : ∃ ns, x = encN ns ∧ NumsOk nb rs ns := by
  unfold numsB at h
  rw [Bool.and_eq_true] at h
  obtain ⟨hr, hf⟩ := h
  obtain ⟨ds, rfl, hl, hd⟩ := rowsB_of hr
  have hf' : ((rs.zip ds).all fun z => (z.1.zip (its z.2)).all fun y => fitB y.1 y.2) = true := hf
  rw [List.all_eq_true] at hf'
  have key : ∀ z ∈ rs.zip ds, ∃ l : List Num, z.2 = encU l ∧ l.length = z.1.length ∧ ∀ y ∈ z.1.zip l, NumOk nb y.1 y.2 := by
    intro z hz
    have hm := List.of_mem_zip (show (z.1, z.2) ∈ rs.zip ds from hz)
    obtain ⟨es, ee, hel⟩ := rowB_of (hd _ hm.2)
    have q := hf' z hz
    rw [ee] at q
    have q' : ((z.1.zip es).all fun y => fitB y.1 y.2) = true := q
    rw [List.all_eq_true] at q'
    have hrl : z.1.length = n := (g.rows.2 _ hm.1).1
    have hz2 : Tk N G (.tup es) := by rw [← ee]; exact hx.items.2 _ hm.2
    have each : ∀ e ∈ es, ∃ p : Num, e = encF p ∧ FrB nb p := by
      intro e he
      obtain ⟨i, hi, rfl⟩ := List.mem_iff_getElem.mp he
      have hi2 : i < (z.1.zip es).length := by rw [List.length_zip]; omega
      have w := q' _ (List.getElem_mem hi2)
      rw [List.getElem_zip] at w
      obtain ⟨p, ep, fp, _⟩ := fitB_of w
      have bp : p.1.natAbs ≤ N ∧ p.2.natAbs ≤ N := Tk.frac (G := G) (by rw [← ep]; exact hz2.items.2 _ he)
      exact ⟨p, ep, fp, by unfold Bd; omega, by unfold Bd; omega⟩
    obtain ⟨l, rfl, hl2⟩ := all_encG each
    rw [List.length_map] at hel
    refine ⟨l, ee, by omega, fun y hy => ?_⟩
    have hy' : (y.1, encF y.2) ∈ z.1.zip (l.map encF) := by
      rw [List.zip_map_right]
      exact List.mem_map.mpr ⟨y, hy, rfl⟩
    obtain ⟨p, ep, fp, z0⟩ := fitB_of (q' _ hy')
    have e : y.2 = p := by
      have e1 : D.tup [.int y.2.1, .int y.2.2] = .tup [.int p.1, .int p.2] := ep
      injection e1 with e1
      injection e1 with e2 e3
      injection e3 with e3
      injection e2 with e2
      injection e3 with e3
      exact Prod.ext e2 e3
    exact ⟨hl2 _ (List.of_mem_zip (show (y.1, y.2) ∈ z.1.zip l from hy)).2, fun ec => by rw [e]; exact z0 ec⟩
  have lz : rs.length = ds.length := by rw [g.rows.1]; omega
  have each : ∀ d ∈ ds, ∃ l : List Num, d = encU l ∧ True := by
    intro d hd'
    obtain ⟨i, hi, rfl⟩ := List.mem_iff_getElem.mp hd'
    have hi2 : i < (rs.zip ds).length := by rw [List.length_zip]; omega
    obtain ⟨l, e, _⟩ := key _ (List.getElem_mem hi2)
    rw [List.getElem_zip] at e
    exact ⟨l, e, trivial⟩
  obtain ⟨ns, rfl, _⟩ := all_encG each
  refine ⟨ns, rfl, by rw [lz, List.length_map], fun z hz => ?_⟩
  have hz' : (z.1, encU z.2) ∈ rs.zip (ns.map encU) := by
    rw [List.zip_map_right]
    exact List.mem_map.mpr ⟨z, hz, rfl⟩
  obtain ⟨l, e, h1, h2⟩ := key _ hz'
  have el : z.2 = l := by
    obtain ⟨f, t1, t2⟩ := eqE_U
    have q1 := t1 z.2
    have q2 := t1 l
    have e' : encU z.2 = encU l := e
    rw [e', q2] at q1
    have := Option.some.inj q1
    exact (t2.eqv _ _).mp (by rw [← this]; exact (t2.eqv _ _).mpr rfl)
  rw [el]
  exact ⟨h1, fun y hy => h2 y hy⟩
section
variable {S : Store} {cs : List Addr} {c : String}
theorem isi_N' {ns : List (List Num)} : oIsiI cs [.d (encN ns), .d (.ty c)] S = oIsi [.d (encN ns), .d (.ty c)] S := rfl
theorem isi_Row' {r : List (Option Unit')} : oIsiI cs [.d (encRow r), .d (.ty c)] S = oIsi [.d (encRow r), .d (.ty c)] S := rfl
theorem isi_R' {rs : List (List (Option Unit'))} : oIsiI cs [.d (encR rs), .d (.ty c)] S = oIsi [.d (encR rs), .d (.ty c)] S := rfl
end
end DL
set_option Elab.async false
set_option linter.all false
set_option maxRecDepth 100000
set_option maxHeartbeats 1000000
/-! DL25: odd things, rows of things, draws over lists. -/
namespace DL
open PySem L2
theorem Tk.mono {N M : Nat} {G : Addr} {d : D} (hN : N ≤ M) (h : Tk N G d) : Tk M G d := by
  induction h with
  | non => exact .non
  | bl b => exact .bl b
  | int => exact .int
  | str x => exact .str x
  | tup hl h hb ih => exact .tup hl ih fun t u e => by have := hb t u e; omega
  | lst hl h ih => exact .lst hl ih
  | dct ks ds => exact .dct ks ds
  | ins ns ds => exact .ins ns ds
theorem TgK.mono {N M : Nat} {G : Addr} {d : D} (hN : N ≤ M) (h : TgK N G d) : TgK M G d := (h.tk.mono hN).tg
/-- an odd thing: small pairs, and not too great itself -/
def Od (G : Addr) (d : D) : Prop := Tk 24 G d ∧ ∀ i, d = .int i → i.natAbs ≤ 10000000000000000000000000000000000000000
theorem Od.tg {G : Addr} {d : D} (h : Od G d) : TgK 24 G d := h.1.tg
theorem od_of {G : Addr} {d : D} (h : Tk 24 G d) (hi : intB d = false) : Od G d := ⟨h, fun i e => by subst e; cases hi⟩
theorem od_int {G : Addr} {i : Int} (h : i.natAbs ≤ 10000000000000000000000000000000000000000) : Od G (.int i) := ⟨.int, fun j e => by injection e with e; subst e; exact h⟩
def deepD : Nat → D
  | 0 => .tup [.int 0, .int 1]
  | n + 1 => .tup [deepD n]
section
variable {S : Store} {a : W}
theorem mkTup0 : mkTup [] S = some (.ok (.d (.tup [])), S) := rfl
theorem mkLst0 : mkLst [] S = some (.ok (.d (.lst [])), S) := rfl
theorem mkLst1 {d : D} : mkLst [.d d] S = some (.ok (.d (.lst [d])), S) := rfl
theorem neg1 : oNeg (.d (.int 1)) S = some (.ok (.d (.int (-1))), S) := rfl
end
def L1 : List D := [.non, .bl true, .bl false, .int 0, .int (-1), .int 1000000000000000000000000000000000000000, .str "", .str "1", .str "star", .tup [], .lst [], .dct [] [], .tup [.int 1], .lst [.int 1], .dct [.inl 0] [.int 1], .tup [.int 0, .int 1], .lst [.tup [.int 0, .int 1]]]
def L2' : List D := [.tup [.tup [.int 0, .int 1]], .tup [.tup [.int 0, .int 1], .tup [.int 0, .int 1]], .tup [.tup [.int 1, .int 1], .non], .tup [.tup [.int 2, .int 2]], .tup [.tup [.int 1, .int 0]], .tup [.tup [.int 1, .int (-1)]], .tup [.tup [.bl true, .int 1]], deepD 36]
def L3 (C : Str → Addr) : List D := [.lst [deepD 36], gridD C 1 [[none]], .tup [gridD C 2 [[none]]], .tup [.tup [.int 0, .int 1], .lst [.int 0, .int 1]], .tup [.tup [.int 0, .int 1], .tup [.int 0, .int 1], .tup [.int 0, .int 1], .tup [.int 0, .int 1]], .tup [.str "1", .str "1"], .tup [.int 1, .int 2]]
theorem grok1 {b : Nat} (h1 : 1 ≤ b) (h3 : b ≤ 3) : GrOk b 1 1 [[none]] := ⟨h1, h3, by decide, by decide, by decide, by decide, rfl, fun r hr => by
  simp at hr
  subst hr
  exact ⟨rfl, fun c hc => by simp at hc; subst hc; trivial⟩⟩
section
variable {N : Nat} {G : Addr}
theorem tk_lst1 {a : D} (h : Tk N G a) : Tk N G (.lst [a]) := .lst (by simp) fun d hd => by simp at hd; rw [hd]; exact h
theorem tk_two {a b : D} (h : Tk N G a) (k : Tk N G b) (ha : intB a = false) : Tk N G (.tup [a, b]) := tk_2 h k fun t u e _ => by subst e; cases ha
theorem deep_tk (hN : 2 ≤ N) : ∀ n, Tk N G (deepD n)
  | 0 => tk_F (by show 0 ≤ N; omega) (by show 1 ≤ N; omega)
  | n + 1 => tk_1 (deep_tk hN n)
end
theorem th_L1 {G : Addr} : ∀ d ∈ L1, Od G d := fun d hd => by
  unfold L1 at hd
  simp only [List.mem_cons, List.not_mem_nil, or_false] at hd
  have f01 : Tk 24 G (.tup [.int 0, .int 1]) := tk_F (by decide) (by decide)
  rcases hd with rfl | rfl | rfl | rfl | rfl | rfl | rfl | rfl | rfl | rfl | rfl | rfl | rfl | rfl | rfl | rfl | rfl
  · exact od_of .non rfl
  · exact od_of (.bl _) rfl
  · exact od_of (.bl _) rfl
  · exact od_int (by decide)
  · exact od_int (by decide)
  · exact od_int (by decide)
  · exact od_of (.str _) rfl
  · exact od_of (.str _) rfl
  · exact od_of (.str _) rfl
  · exact od_of tk_0 rfl
  · exact od_of (.lst (by simp) (by simp)) rfl
  · exact od_of (.dct _ _) rfl
  · exact od_of (tk_1 .int) rfl
  · exact od_of (tk_lst1 .int) rfl
  · exact od_of (.dct _ _) rfl
  · exact od_of f01 rfl
  · exact od_of (tk_lst1 f01) rfl
theorem th_L2 {G : Addr} : ∀ d ∈ L2', Od G d := fun d hd => by
  unfold L2' at hd
  simp only [List.mem_cons, List.not_mem_nil, or_false] at hd
  rcases hd with rfl | rfl | rfl | rfl | rfl | rfl | rfl | rfl
  · exact od_of (tk_1 (tk_F (by decide) (by decide))) rfl
  · exact od_of (tk_two (tk_F (by decide) (by decide)) (tk_F (by decide) (by decide)) rfl) rfl
  · exact od_of (tk_two (tk_F (by decide) (by decide)) .non rfl) rfl
  · exact od_of (tk_1 (tk_F (by decide) (by decide))) rfl
  · exact od_of (tk_1 (tk_F (by decide) (by decide))) rfl
  · exact od_of (tk_1 (tk_F (by decide) (by decide))) rfl
  · exact od_of (tk_1 (tk_two (.bl _) .int rfl)) rfl
  · exact od_of (deep_tk (by decide) 36) rfl
theorem th_L3 {C : Str → Addr} : ∀ d ∈ L3 C, Od (C "Grid") d := fun d hd => by
  unfold L3 at hd
  simp only [List.mem_cons, List.not_mem_nil, or_false] at hd
  have f01 : Tk 24 (C "Grid") (.tup [.int 0, .int 1]) := tk_F (by decide) (by decide)
  rcases hd with rfl | rfl | rfl | rfl | rfl | rfl | rfl
  · exact od_of (tk_lst1 (deep_tk (by decide) 36)) rfl
  · exact od_of (.ins _ _) rfl
  · exact od_of (tk_1 (.ins _ _)) rfl
  · exact od_of (tk_two f01 (.lst (by simp) fun d hd => by
      simp at hd
      rcases hd with rfl | rfl <;> exact .int) rfl) rfl
  · exact od_of (tk_n (fun d hd => by simp at hd; rw [hd]; exact f01) (by simp) (fun d hd => by simp at hd; rw [hd]; rfl)) rfl
  · exact od_of (tk_two (.str _) (.str _) rfl) rfl
  · exact od_of (tk_F (by decide) (by decide)) rfl
/-! ### parts of tuples -/
section
variable {S : Store} {ds : List D} {lo hi : Option Int} {d : D}
theorem sl_any : oSlA (.d (.tup ds)) lo hi S = some (.ok (.d (.tup (cutD ds lo hi))), S) := rfl
theorem cutD_mem (h : d ∈ cutD ds lo hi) : d ∈ ds := List.mem_of_mem_drop (List.mem_of_mem_take h)
theorem cutD_len : (cutD ds lo hi).length ≤ ds.length := by
  unfold cutD
  rw [List.length_take, List.length_drop]
  omega
theorem ix_neg (h : 0 < ds.length) : ∃ d ∈ ds, oIx (.d (.tup ds)) (.d (.int (-1))) S = some (.ok (.d d), S) := by
  have hi : ds.length - 1 < ds.length := by omega
  have e : atI (ds.map W.d) (-1) = some (W.d ds[ds.length - 1]) := by
    have e2 : ixN ds.length (-1) = some (ds.length - 1) := by
      unfold ixN
      rw [if_neg (by decide), if_pos (by omega)]
      congr 1
      omega
    unfold atI
    rw [List.length_map, e2]
    simp [hi]
  refine ⟨ds[ds.length - 1], List.getElem_mem hi, ?_⟩
  simp only [oIx, seqW, e]
theorem list_tup : oList (.d (.tup ds)) S = some (.ok (.d (.lst ds)), S) := by
  show (match pure? (ds.map W.d) with
    | some ds => (some (Except.ok (W.d (.lst ds)), S) : Rs W)
    | none => none) = _
  rw [pure?_map]
theorem set_two {xs : List D} {i : Nat} {z : D} (h : i < xs.length) : cutD xs none (some (i : Int)) ++ [z] ++ cutD xs (some ((i : Int) + 1)) none = xs.set i z := by
  rw [show ((i : Int) + 1) = ((i + 1 : Nat) : Int) by omega, cut_hi (by omega), cut_lo (by omega)]
  exact set_split h
end
/-- rows of odd things -/
def RowK (n : Nat) (G : Addr) (d : D) : Prop := ∃ es, d = .tup es ∧ es.length = n ∧ ∀ e ∈ es, Od G e
def RowsK (m n : Nat) (G : Addr) (ds : List D) : Prop := ds.length = m ∧ ∀ d ∈ ds, RowK n G d
section
variable {G : Addr} {m n : Nat} {ds es : List D} {d : D}
theorem odRow (h : ∀ e ∈ es, Od G e) (hl : es.length ≤ 100) : Tk 10000000000000000000000000000000000000000 G (.tup es) := .tup hl (fun e he => (h e he).1.mono (by decide)) fun t u e => by
  subst e
  exact ⟨(h (.int t) (by simp)).2 t rfl, (h (.int u) (by simp)).2 u rfl⟩
theorem RowK.tk (h : RowK n G d) (hn : n ≤ 100) : Tk 10000000000000000000000000000000000000000 G d := by
  obtain ⟨es, rfl, hl, he⟩ := h
  exact odRow he (by omega)
theorem RowK.nint (h : RowK n G d) : intB d = false := by
  obtain ⟨es, rfl, _⟩ := h
  rfl
theorem RowsK.set {i j : Nat} {z : D} (h : RowsK m n G ds) (hi : i < ds.length) {es : List D} (he : ds[i] = .tup es) (hz : Od G z) : RowsK m n G (ds.set i (.tup (es.set j z))) := by
  refine ⟨by rw [List.length_set]; exact h.1, fun d hd => ?_⟩
  rcases List.mem_or_eq_of_mem_set hd with y | y
  · exact h.2 d y
  · subst y
    obtain ⟨es', e, hl, ho⟩ := h.2 _ (List.getElem_mem hi)
    rw [he] at e
    injection e with e
    subst e
    refine ⟨_, rfl, by rw [List.length_set]; exact hl, fun x hx => ?_⟩
    rcases List.mem_or_eq_of_mem_set hx with y | y
    · exact ho x y
    · rw [y]; exact hz
end
/-! ### draws over a list -/
theorem dLc_drawL {α β : Type} (e : α → D) (Q : α → Prop) {fi : FI} {tf : Tg} {fe : FE} {vs : List Nat} {δ : DEnv} {T : Store} {m : M} {xs : List β} {wf : β → W} (hn : xs.length ≤ 1000) (hm : DrSt m)
    (hi : fi δ (m :: T) = some (.ok (xs.map wf, none), m :: T)) (h : ∀ x ∈ xs, ∀ m, DrSt m → ∃ δ1 a m', tf (wf x) (wipeE δ vs) (m :: T) = some (δ1, m :: T) ∧ fe δ1 (m :: T) = some (.ok (.d (e a)), m' :: T) ∧ DrSt m' ∧ Q a) :
    ∃ (as : List α) (m' : M), dLc lcF fi tf ftYes fe vs δ (m :: T) = some (.ok (.d (.lst (as.map e))), m' :: T) ∧ as.length = xs.length ∧ (∀ a ∈ as, Q a) ∧ DrSt m' := by
  obtain ⟨ds, m', e1, hm', hds, hd⟩ := lcL_thread (tf := tf) (fe := fe) (δ := wipeE δ vs) (T := T) (Pm := DrSt) (Pd := fun d => ∃ a, d = e a ∧ Q a) (ws := xs.map wf) (acc := []) hm (by
    intro w hw m hm
    obtain ⟨x, hx, rfl⟩ := List.mem_map.mp hw
    obtain ⟨δ1, a, m', e1, e2, e3, e4⟩ := h x hx m hm
    exact ⟨δ1, _, m', e1, e2, e3, a, rfl, e4⟩)
  obtain ⟨as, rfl, ha⟩ := all_encG hd
  refine ⟨as, m', ?_, by simpa using hds, ha, hm'⟩
  have hz : (xs.map wf).length ≤ sizeLine := Nat.le_trans (by rw [List.length_map]; exact hn) (by decide)
  unfold dLc
  rw [hi, bind_ok]
  dsimp only
  rw [if_pos hz, e1, bind_ok, List.nil_append]
  unfold lcF
  rw [pure?_map]
end DL
set_option Elab.async false
set_option linter.all false
set_option maxRecDepth 100000
set_option maxHeartbeats 1000000
/-! DL26: max of a pair, op=, tables of the module. -/
namespace DL
open PySem PySem.Spec PyProof.Rows L2
/-! ### max of a tuple -/
theorem max_tup_raw {prog : Program} {w : World} {A : Around} {E : Value → Shared → Prop} {s : Shared} {l : Addr} {its : List Value} {ns : List Int} {Q : Value → Shared → Prop} (hh : A.handled = none) (hl : s.heap.IsTuple l its.toArray) (hi : IntsAre its ns) (hne : 0 < ns.length)
    (h : ∀ h' tk M t', (∀ b o, s.heap.get? b = some o → h'.get? b = some o) → M ∈ ns → (∀ a, a ∈ ns → a ≤ M) → Q (.int M t') { s with heap := h', toks := tk }) : wpAny (model prog w) A (call (.builtin "max") [.ref l]) Q E s := by
  obtain ⟨xs, e⟩ := hi.allInts.items
  have hn : numsOf (intItems xs).toList = ns := by rw [← e]; exact hi.numsOf
  rw [nums_intItems] at hn
  subst hn
  rw [e] at hl
  have hsz : 0 < xs.size := by simpa using hne
  have hlt : l < s.heap.objs.size := by obtain ⟨_, e, _⟩ := hl; exact Heap.lt_size e
  refine call_max_walk (wpAny_pyIter_tuple hl ?_)
  refine ⟨_, [s.heap.objs.size, l], [s.heap.objs.size], _, _, _, _, rfl, Walks.tuple (A := A.in1) hh _ l (Nat.ne_of_lt hlt) (intItems xs), ⟨⟨_, Heap.get?_push_size _ rfl, rfl, rfl⟩, hl.push _⟩, fun c hc => ?_, by simpa [intItems] using hsz, CmpOf.ints_gt (numAt xs) (fun _ _ => intItems_at), fun v h' tk hP hk => ?_⟩
  · show c < (s.heap.push _).objs.size
    rw [Heap.size_push]
    rcases List.mem_cons.mp hc with rfl | hc
    · exact Nat.lt_succ_self _
    · rcases List.mem_cons.mp hc with rfl | hc
      · exact Nat.lt_succ_of_lt hlt
      · cases hc
  · have hP' : (intItems xs)[argBest (fun i j => decide (numAt xs i > numAt xs j)) (xs.size - 1)]? = some v := by simpa [intItems] using hP
    obtain ⟨t, rfl⟩ := intItems_at hP'
    obtain ⟨h1, h2⟩ := argBest_gt (numAt xs) (xs.size - 1)
    refine h h' tk _ t (fun b o e => hk b o (fun hm => ?_) (Heap.get?_push_of_some _ e)) ?_ fun a ha => ?_
    · rcases List.mem_cons.mp hm with e1 | hm
      · exact absurd (e1 ▸ Heap.lt_size e) (Nat.lt_irrefl _)
      · cases hm
    · rw [numAt_eq]; exact PySem.getD_mem (by rw [List.length_map, Array.length_toList]; omega)
    · obtain ⟨j, hj, rfl⟩ := mem_getD ha
      rw [List.length_map, Array.length_toList] at hj
      rw [← numAt_eq]; exact h2 j (by omega)
def rMaxT (K : PySem.W.Frag) : List V → Hp → VK → Prop := fun vs H Q => ∃ (a : Addr) (ns : List Int), vs = [V.ref a] ∧ SqT K H a (ns.map V.int) ∧ 0 < ns.length ∧ ∀ m, m ∈ ns → (∀ y, y ∈ ns → y ≤ m) → Q (.int m) H
theorem cr_maxT {X : Cx} (hc : X.calm = true) : CallR X (.builtin "max") (rMaxT X.K) := by
  intro pins s σ H vs us Q I r h
  obtain ⟨a, ns, rfl, hs, hne, q⟩ := h
  obtain ⟨its, rv, hl, _⟩ := I.tuple hs
  rw [Vals.ref1 r]
  exact max_tup_raw (I.ok.hd hc) hl rv.ints hne fun h' tk m t' hk h1 h2 => ⟨.int _, H, I.kept hk, ⟨_, rfl⟩, q m h1 h2⟩
def oMaxT (x : W) (S : Store) : Rs W := match x with
  | .d (.tup [.int i, .int j]) => some (.ok (.d (.int (if i < j then j else i))), S)
  | _ => none
theorem oMaxT_ok {K : PySem.W.Frag} {Wx : WX} : CalF K Wx (rMaxT K) (b1 oMaxT) := b1_ok fun σ ρ S H w v Q ok r q => by
  unfold oMaxT at q
  split at q
  · rename_i i j
    obtain ⟨a, vs, rfl, h1, h2⟩ := seqW_ok ok r (show seqW S (.d (.tup [.int i, .int j])) = some (true, [.d (.int i), .d (.int j)]) from rfl)
    obtain ⟨u, z, rfl, r1, r2⟩ := relWs2 h2
    obtain rfl : u = .int i := by simpa [RelW, RelD] using r1
    obtain rfl : z = .int j := by simpa [RelW, RelD] using r2
    refine ⟨a, [i, j], rfl, h1, by simp, fun m hm hy => ?_⟩
    have e : m = if i < j then j else i := by
      have a1 := hy i (by simp)
      have a2 := hy j (by simp)
      simp at hm
      split <;> omega
    rw [e]
    exact go_val ok q (by simp [RelW, RelD])
  · exact go_none q
/-! ### op= -/
section
variable {X : Cx} {Wx : WX} {pos : PySem.Pos} {e : Expr} {f : FE}
theorem ds_aug (i : Nat) {x : Str} {op : Operator} {ti : TIp} {fo : F2} {pos' : PySem.Pos} (hp : PIp X op ti) (o : OpF X.K Wx ti fo) (hN : X.N.Nodup) (he : PE X e (tE X.K Wx f)) (hi : X.N[i]? = some x := by rfl) (hx : Loc X.env.scope x := by first | exact Or.inl rfl | exact Or.inr rfl)
    (hf : X.fn x = true ∨ X.env.scope.names.lookup x = some .local := by first | exact .inl rfl | exact .inr rfl | assumption) : PS X (.AugAssign (.Name x pos') op e pos) (tS X.K Wx (sSet i (d2 fo (dVar i) f))) := (ps_aug hN hi hx he hp hf).imp fun D σ H q => by
  obtain ⟨δ, S, ρ, ok, en, q⟩ := q
  have q1 := gos_bind (rel := RelW X.K) en q
  unfold d2 dVar at q1
  split at q1
  · rename_i w ew
    obtain ⟨v, e1, r⟩ := en.rel i w ew
    refine ⟨v, e1, δ, S, ρ, ok, en, ?_⟩
    refine (go_bind (show Go X.K Wx σ ρ H (RelW X.K) ((f δ S).bind fun y S2 => fo w y S2) _ from q1)).mono fun u H2 ⟨y, S2, ρ2, ok2, st2, r2, q2⟩ => ?_
    refine o σ ρ2 S2 H2 w y v u _ ok2 (r.mono st2) r2 (q2.mono fun z H3 ⟨c, S3, ρ3, ok3, st3, r3, q3⟩ => ?_)
    exact gos_nx ok3 q3 ((en.mono st3).set i r3)
  · exact go_none q1
def getIx : V → V → Hp → VK → Prop := fun _ _ _ _ => False
theorem get_listI : PGet X (rIxL X.K) := by
  intro pins s σ H x y v u Q I rx ry h
  obtain ⟨p, xs, i, z, rfl, rfl, hq, he, q⟩ := h
  cases rx
  obtain ⟨t, rfl⟩ := ry
  obtain ⟨its, r, pl, hz⟩ := I.list hq
  obtain ⟨j, h1, h2, h3, h4, h5⟩ := atI_get he
  obtain ⟨w, ew, rw'⟩ := r.get h2
  have hl := r.length
  have hn := line63
  have fin : EP X pins σ Q w s := ⟨z, H, I, rw', q⟩
  by_cases h0 : 0 ≤ i
  · have hj : i.toNat = j := by
      rw [seqIndex_of h0 h5] at h1
      exact Option.some.inj h1
    exact wpAny_getItem_list pl.isList h0 (by omega) (by rw [hj]; simpa using ew) fin
  · have hj : (i + (its.toArray.size : Int)).toNat = j := by
      rw [seqIndex_neg (by omega) h4] at h1
      rw [List.size_toArray, ← hl]
      exact Option.some.inj h1
    exact wpAny_getItem_list_neg pl.isList (by omega) (by rw [List.size_toArray] <;> omega) (by omega) (by rw [hj]; simpa using ew) fin
/-- o[i] op= e, o a list -/
def getAt (x y : W) (S : Store) : Option W := match x, y with
  | .loc n, .d (.int k) => (match S[n]? with
    | some (.lst ws) => atI ws k
    | _ => none)
  | _, _ => none
def sAugIx (op : F2) (fo fi fe : FE) : FS := fun δ S => sE (fo δ S) δ fun x S1 => sE (fi δ S1) δ fun y S2 => match getAt x y S2 with
  | none => none
  | some z => sE (fe δ S2) δ fun u S4 => sE (op z u S4) δ fun r S5 => match setAt x y r S5 with
    | some S6 => some (.ok (.nx δ), S6)
    | none => none
theorem ds_augIx {oo ii : Expr} {op : Operator} {tip : TIp} {fop : F2} {fo fi fe : FE} {tpos : PySem.Pos} (hp : PIp X op tip) (ho' : OpF X.K Wx tip fop) (ho : PE X oo (tE X.K Wx fo)) (hi : PE X ii (tE X.K Wx fi)) (he : PE X e (tE X.K Wx fe))
    (ha : ∀ ov iv new, augStore ii ov iv new = (do holding [new, ov, iv] (setItem ov iv new); release [new, ov, iv] []; pure .next) := by intros; rfl) : PS X (.AugAssign (.Subscript oo ii tpos) op e pos) (tS X.K Wx (sAugIx fop fo fi fe)) :=
  (ps_augS ho hi get_listI he hp set_list ha).imp fun D σ H q => by
  obtain ⟨δ, S, ρ, ok, en, q⟩ := q
  unfold sAugIx at q
  refine ⟨δ, S, ρ, ok, en, (gos_bind (rel := RelW X.K) en q).mono fun xv H1 ⟨x, S1, ρ1, ok1, st1, rx, q1⟩ => ?_⟩
  have en1 := en.mono st1
  refine ⟨δ, S1, ρ1, ok1, en1, (gos_bind (rel := RelW X.K) en1 q1).mono fun yv H2 ⟨y, S2, ρ2, ok2, st2, ry, q2⟩ => ?_⟩
  have en2 := en1.mono st2
  split at q2
  · exact gos_none q2
  · rename_i z ez
    unfold getAt at ez
    split at ez
    · rename_i n k hh
      split at ez
      · rename_i ws ew
        obtain ⟨a, vs, t⟩ := seqW_ok ok2 (rx.mono st2) (show seqW S2 (.loc n) = some (false, ws) by simp [seqW, ew])
        obtain ⟨rfl, h1, h2⟩ := t
        obtain ⟨zv, ev, rz⟩ := atI_rel h2 ez
        refine ⟨a, vs, k, zv, rfl, by simpa [RelW, RelD] using ry, h1, ev, ?_⟩
        refine ⟨δ, S2, ρ2, ok2, en2, (gos_bind (rel := RelW X.K) en2 q2).mono fun uv H3 ⟨u, S3, ρ3, ok3, st3, ru, q3⟩ => ?_⟩
        have en3 := en2.mono st3
        refine ho' σ ρ3 S3 H3 z u zv uv _ ok3 (rz.mono st3) ru ((gos_bind (rel := RelW X.K) en3 q3).mono fun rv H4 ⟨r, S4, ρ4, ok4, st4, rr, q4⟩ => ?_)
        have en4 := en3.mono st4
        split at q4
        · rename_i S6 e6
          unfold setAt at e6
          dsimp only at e6
          split at e6
          · rename_i ws' ew'
            obtain ⟨j, ej, rfl⟩ := Option.map_eq_some_iff.mp e6
            obtain ⟨a', us, e7, ha', h3, h4⟩ := loc_at ok4 (((rx.mono st2).mono st3).mono st4) ew'
            injection e7 with e7
            subst e7
            obtain ⟨ok5, st5⟩ := ok_write ok4 (m := .lst (ws'.set j r)) (o := .lst (us.set j rv)) ha' fun H' st e => ⟨_, e, (h4.mono st).set j (rr.mono st)⟩
            refine ⟨_, us, k, j, rfl, by simpa [RelW, RelD] using ry, h3, by rw [← h4.length]; exact ej, ?_⟩
            exact gos_nx ok5 (q4.step st5) (en4.mono st5)
          · cases e6
        · exact gos_none q4
      · cases ez
    · cases ez
end
/-! ### tables of the module: text keys, ints -/
structure TabOk (K : PySem.W.Frag) (w : World) (A : Addr) (kvs : List (Str × Int)) : Prop where
  d : ∃ es n, KDict K w A es n
  v : ∀ q ∈ kvs, ∃ u, PySem.W.nsIn K A q.1 = some (some u) ∧ RelV (.int q.2) u
def oInT (neg : Bool) (A : Addr) (kvs : List (Str × Int)) : F2 := fun x y S => match x, y with
  | .d (.str z), .d (.ref a) => if a = A then (match kvs.find? (fun q => q.1 == z) with
    | some _ => some (.ok (.d (.bl (!neg))), S)
    | none => none) else none
  | _, _ => none
def oIxT (A : Addr) (kvs : List (Str × Int)) : F2 := fun x y S => match x, y with
  | .d (.ref a), .d (.str z) => if a = A then (match kvs.find? (fun q => q.1 == z) with
    | some q => some (.ok (.d (.int q.2)), S)
    | none => none) else none
  | _, _ => none
section
variable {K : PySem.W.Frag} {Wx : WX} {w : World} {A : Addr} {kvs : List (Str × Int)} {X : Cx}
abbrev rInT (neg : Bool) (K : PySem.W.Frag) (A : Addr) : R2 := fun x y H Q => ∃ (z : Str) (r : Option Value), x = .str z ∧ y = .ref A ∧ PySem.W.nsIn K A z = some r ∧ Q (.bl (if neg = true then !r.isSome else r.isSome)) H
abbrev rIxT' (K : PySem.W.Frag) (A : Addr) : R2 := fun x y H Q => ∃ (z : Str) (u0 : Value) (v0 : V), x = .ref A ∧ y = .str z ∧ PySem.W.nsIn K A z = some (some u0) ∧ RelV v0 u0 ∧ Q v0 H
theorem op_inT (t : TabOk X.K X.w A kvs) : OpR X (compareOp .In) (rInT false X.K A) := by
  obtain ⟨es, n, D⟩ := t.d
  exact op_in_kd D
theorem op_notInT (t : TabOk X.K X.w A kvs) : OpR X (compareOp .NotIn) (rInT true X.K A) := by
  obtain ⟨es, n, D⟩ := t.d
  exact op_notIn_kd D
theorem ix_T (t : TabOk X.K X.w A kvs) : IxR X (rIxT' X.K A) := by
  obtain ⟨es, n, D⟩ := t.d
  intro value slice pins s σ H x y v u Q I rx ry h hs
  obtain ⟨z, u0, v0, rfl, rfl, e, r, q⟩ := h
  cases rx
  obtain ⟨t, rfl⟩ := ry
  exact tail_any (kd_type D I) PySem.F.slot_dict_getitem.lookup (wpAny_getItem_of (PySem.strKind_is X.prog X.w z t) (PySem.W.mapOf_K (prog := X.prog) I.kIn D.at_ D.lit) (PySem.W.find_K D.at_ e) ⟨v0, H, I.tok _, r, q⟩) hs
theorem oInT_ok {neg : Bool} (t : TabOk K w A kvs) : OpF K Wx (rInT neg K A) (oInT neg A kvs) := by
  intro σ ρ S H x y a b Q ok rx ry q
  unfold oInT at q
  split at q
  · rename_i z a'
    split at q
    · rename_i ha
      subst ha
      split at q
      · rename_i p ep
        have hp := List.mem_of_find?_eq_some ep
        have hz := List.find?_some ep
        obtain ⟨u, e, r⟩ := t.v p hp
        have hz' : p.1 = z := by simpa using hz
        rw [hz'] at e
        refine ⟨z, some u, by simpa [RelW, RelD] using rx, by simpa [RelW, RelD] using ry, e, go_val ok q ?_⟩
        cases neg <;> simp [RelW, RelD]
      · exact go_none q
    · exact go_none q
  · exact go_none q
theorem oIxT_ok (t : TabOk K w A kvs) : OpF K Wx (rIxT' K A) (oIxT A kvs) := by
  intro σ ρ S H x y a b Q ok rx ry q
  unfold oIxT at q
  split at q
  · rename_i a' z
    split at q
    · rename_i ha
      subst ha
      split at q
      · rename_i p ep
        have hp := List.mem_of_find?_eq_some ep
        have hz := List.find?_some ep
        obtain ⟨u, e, r⟩ := t.v p hp
        have hz' : p.1 = z := by simpa using hz
        rw [hz'] at e
        exact ⟨z, u, .int p.2, by simpa [RelW, RelD] using rx, by simpa [RelW, RelD] using ry, e, r, go_val ok q (by simp [RelW, RelD])⟩
      · exact go_none q
    · exact go_none q
  · exact go_none q
end
/-! ### the head with tables -/
abbrev AlMT : Type := He.AlT × Bool
def obsMT (n : Nat) (fa : List He.Fa) (fn : List He.DefD) (ts : List He.Tab) (ex : PySem.W.Frag → Bool) (g : Addr → Option Obj) : AlMT := (He.obsTG n fa fn ts g, ex (He.frG g (He.asD g n)))
def hookMT (n : Nat) (fa : List He.Fa) (fn : List He.DefD) (ts : List He.Tab) (ex : PySem.W.Frag → Bool) : PySem.W.Hook where
  α := AlMT
  obs := fun s => obsMT n fa fn ts ex s.heap.get?
  val := fun w => (He.valT fn ts w, true)
  says := fun w h => ∃ K : PySem.W.Frag, K.In h ∧ He.SaysT fa fn ts w K ∧ ex K = true
  of := fun _ _ e => ⟨_, He.frG_in, congrArg Prod.fst e, congrArg Prod.snd e⟩
  keeps := fun _ _ _ ⟨K, hK, c⟩ k => ⟨K, PySem.W.Frag.In.keeps hK k, c⟩
theorem obsMT_eq {n : Nat} {fa : List He.Fa} {fn : List He.DefD} {ts : List He.Tab} {ex : PySem.W.Frag → Bool} {g : Addr → Option Obj} {s : Shared} (h : ∀ a, g a = s.heap.get? a) : obsMT n fa fn ts ex g = (hookMT n fa fn ts ex).obs s := by
  obtain rfl : g = s.heap.get? := funext h
  rfl
theorem tabOk_of {K : PySem.W.Frag} {w : World} {A : Addr} {kvs : List (Str × Int)} (d : ∃ es n, KDict K w A es n) (h : He.valsB K A (kvs.map fun q => (q.1, He.Dv.int q.2)) = true) : TabOk K w A kvs := ⟨d, fun q hq => by
  have := He.valsB_ok h (List.mem_map_of_mem hq)
  exact this⟩
end DL
set_option Elab.async false
set_option linter.all false
set_option maxRecDepth 100000
set_option maxHeartbeats 1000000
/-! DL27: instances whose fields are lists; defs that leave their places. -/
namespace DL
open PySem PySem.Spec PyProof.Rows L2
/-- what is handed back goes on as it is, with all that the def left -/
def giveK : Gv := fun _ w S1 => some (.ok w, S1)
theorem giveK_ok {K : PySem.W.Frag} : GiveOk K giveK := by
  intro ρ H S ρ1 H1 S1 w r S' v ok ok1 st1 e rv
  cases e
  exact ⟨w, ρ1, rfl, ok1, st1, rv⟩
/-! ### lists of lists, read-only from here on -/
def frzL (g : W → Option D) : List W → Option (List D)
  | [] => some []
  | w :: ws => match g w, frzL g ws with
    | some d, some ds => some (d :: ds)
    | _, _ => none
def frzW (n : Nat) (S1 : Store) : Nat → W → Option D
  | 0, w => match w with
    | .d x => some x
    | _ => none
  | f + 1, w => match w with
    | .d x => some x
    | .loc k => if n ≤ k then (match S1[k]? with
      | some (.lst ws) => (frzL (frzW n S1 f) ws).map .lst
      | _ => none) else none
section
variable {K : PySem.W.Frag} {ρ1 : Ad} {S1 : Store} {H1 : Hp} {n : Nat}
theorem frzL_ok {g : W → Option D} {ρ' : Ad} (hg : ∀ w d v, g w = some d → RelW K ρ1 H1 w v → RelD K ρ' H1 d v) : ∀ {ws : List W} {ds : List D} {vs : List V}, frzL g ws = some ds → RelWs K ρ1 H1 ws vs → RelDs K ρ' H1 ds vs
  | [], ds, vs, e, r => by
    cases (show some [] = some ds from e)
    rw [RelDs]; exact r
  | w :: ws, ds, vs, e, r => by
    obtain ⟨v, vr, rfl, h1, h2⟩ := r
    rw [frzL] at e
    split at e
    · rename_i d ds' e1 e2
      cases e
      rw [RelDs]
      exact ⟨v, vr, rfl, hg _ _ _ e1 h1, frzL_ok hg e2 h2⟩
    · cases e
theorem frzW_ok (ok1 : Ok K ρ1 S1 H1) : ∀ {f : Nat} {w : W} {d : D} {v : V}, frzW n S1 f w = some d → RelW K ρ1 H1 w v → RelD K (ρ1.cut n) H1 d v
  | 0, .d x, d, v, e, r => by
    cases (show some x = some d from e)
    exact RelD.sub (fun a z => cut_off z) _ v r
  | 0, .loc k, d, v, e, r => nomatch (show (none : Option D) = some d from e)
  | f + 1, .d x, d, v, e, r => by
    cases (show some x = some d from e)
    exact RelD.sub (fun a z => cut_off z) _ v r
  | f + 1, .loc k, d, v, e, r => by
    have e' : (if n ≤ k then (match S1[k]? with
      | some (.lst ws) => (frzL (frzW n S1 f) ws).map .lst
      | _ => none) else none) = some d := e
    split at e'
    · rename_i hk
      split at e'
      · rename_i ws ew
        obtain ⟨ds, e1, rfl⟩ := Option.map_eq_some_iff.mp e'
        obtain ⟨a, vs, rfl, ha, h3, h4⟩ := loc_at ok1 r ew
        rw [RelD]
        exact ⟨a, vs, rfl, .inl ⟨.inl h3, own_off ok1 hk ha⟩, frzL_ok (fun w d v e r => frzW_ok ok1 e r) e1 h4⟩
      · cases e'
    · cases e'
end
/-! ### an instance made, its fields lists too -/
open Classical in
noncomputable def mkInsL (C0 : Addr) (S1 : Store) (m : Rs W) : Rs W := match m with
  | some (.ok (.d .non), S2) => if keepOk S1 S2 then (match S2[S1.length]? with
    | some (.ins C ns us) => if C = C0 then (match frzL (frzW S1.length S2 3) us with
      | some ds => some (.ok (.d (.ins C0 ns ds)), S2.take S1.length)
      | none => none) else none
    | _ => none) else none
  | _ => none
noncomputable def dMakeL (C0 : Addr) (n : Nat) (g : Fn) (fa : FA) : FE := fun δ S => (fa δ S).bind fun ws S1 => if ws.length + 1 = n then mkInsL C0 S1 (g (.loc S1.length :: ws) (S1 ++ [.ins C0 [] []])) else none
section
variable {K : PySem.W.Frag} {Wx : WX} {X : Cx} {f g fo fv : FE} {fa : FA} {pos p p2 : PySem.Pos} {e o value : Expr} {es : List Expr}
theorem de_makeL {C0 f0 : Addr} {fd : FuncData} {ps : List Str} {k n : Nat} {g : Fn} {x : Str} (M : Mk X.K C0 f0) (F : FnOk X.prog X.w X.K X.mg X.base (L2.CX X.prog X.w) k f0 fd ps (spD X.K n g)) (hb : Binds X.K fd ps []) (hr : Room (k + 1) X.A) (hm : X.mg x = some (.ref C0)) (ha : PA X (e :: es) (tA X.K Wx fa))
    (hg : Gl X x := by rfl) (hdb : (x == ("__debug__" : Str)) = false := by decide) (he : starEach (e :: es) X.env = (false, eval e X.env) :: starEach es X.env := by rfl) (hpl : (backTo pos (starEach es X.env)).any (·.1) = false := by rfl) :
    PE X (.Call (.Name x p) (e :: es) [] pos) (tE X.K Wx (dMakeL C0 n g fa)) :=
  (pe_make (E := E0) M (fn_noex F) hr hg hm hb .nil pass0 ha hdb he hpl).imp fun σ H Q q => by
    obtain ⟨δ, S, ρ, ok, en, q⟩ := q
    refine ⟨δ, S, ρ, ok, en, (go_bind q).mono fun vs H1 ⟨ws, S1, ρ1, ok1, st1, r1, q1⟩ => fun y dx hy hdx hne => ?_⟩
    split at q1
    · rename_i hn
      have hy' : upd H1 dx (.own y) y = none := by rw [upd_ne (Ne.symm hne)]; exact hy
      have okd := ok_new ok1 (.own y) hdx
      have std := step_new ok1 (.own y) hdx
      obtain ⟨okx, stx⟩ := ok_alloc okd (m := .ins C0 [] []) (o := .ins C0 dx []) hy' fun ρ' H' _ e' => ⟨dx, [], e', rfl, rfl⟩
      have st12 := std.trans stx
      obtain ⟨r, S', e1, c⟩ := q1
      unfold mkInsL at e1
      split at e1
      · rename_i S2 eg
        split at e1
        · rename_i kp
          split at e1
          · rename_i C ns us eu
            split at e1
            · rename_i hC
              subst hC
              split at e1
              · rename_i ds ed
                cases e1
                refine ⟨by rw [List.append_nil, List.length_cons, ← r1.length]; exact hn, .loc S1.length :: ws, S1 ++ [.ins C [] []], ρ1.add y, .ok (.d .non), S2, ?_, okx, eg, fun ρ' H' ok' st' v rv => ⟨by simpa [RelW, RelD] using rv, ?_⟩⟩
                · refine ⟨.ref y, vs, by rw [List.append_nil], ⟨by simp [Ad.add, ok1.len], fun a ea => ?_⟩, r1.mono st12⟩
                  rcases add_key ea with ⟨a1, hl⟩ | ⟨_, a2⟩
                  · rw [ok1.len] at hl; omega
                  · rw [a2]
                · obtain ⟨ok2, st2⟩ := ok_cut ok1 ok' (st12.trans st') kp
                  obtain ⟨a, hpa⟩ := ok'.live _ _ eu (by simp)
                  obtain ⟨m', e2, ob⟩ := ok'.obj _ a hpa
                  rw [eu] at e2
                  cases e2
                  have hpa2 := st'.same S1.length a (by simp [Ad.add, ok1.len]) hpa
                  have hay : a = y := by
                    rcases add_key hpa2 with ⟨_, hl⟩ | ⟨_, a2⟩
                    · rw [ok1.len] at hl; omega
                    · exact a2
                  subst hay
                  obtain ⟨dx', us', h1, h2, h3⟩ := ob
                  have hd := frzL_ok (fun w d v e r => frzW_ok ok' e r) ed h2
                  refine c _ _ ok2 st2 _ (show RelD X.K (ρ'.cut S1.length) H' (.ins C ns ds) (.ref a) from ?_)
                  rw [RelD]
                  exact ⟨a, dx', us', rfl, h1, own_off ok' (Nat.le_refl _) hpa, hd, by rw [h3, h2.length, hd.length]⟩
              · cases e1
            · cases e1
          · cases e1
        · cases e1
      · cases e1
    · exact go_none q1
/-- C(args), by what is known of its __init__ -/
theorem de_makeLE {C0 f0 : Addr} {k n : Nat} {g : Fn} {x : Str} (M : Mk X.K C0 f0) (F : ∃ fd ps, FnOk X.prog X.w X.K X.mg X.base (L2.CX X.prog X.w) k f0 fd ps (spD X.K n g) ∧ Binds X.K fd ps []) (hm : X.mg x = some (.ref C0)) (hr : Room (k + 1) X.A) (ha : PA X (e :: es) (tA X.K Wx fa))
    (hg : Gl X x := by rfl) (hdb : (x == ("__debug__" : Str)) = false := by decide) (he : starEach (e :: es) X.env = (false, eval e X.env) :: starEach es X.env := by rfl) (hpl : (backTo pos (starEach es X.env)).any (·.1) = false := by rfl) :
    PE X (.Call (.Name x p) (e :: es) [] pos) (tE X.K Wx (dMakeL C0 n g fa)) := by
  obtain ⟨fd, ps, F, hb⟩ := F
  exact de_makeL M F hb hr hm ha hg hdb he hpl
end
/-! ### the head in a world that follows the text at a row, or doesn't -/
def setF (w : World) (row : String) (b : Bool) : World := { w with params := { w.params with followText := fun s => if s = row then b else w.params.followText s } }
theorem setF_eq (w : World) (row : String) : setF w row (w.params.followText row) = w := by
  have e : (fun s => if s = row then w.params.followText row else w.params.followText s) = w.params.followText := by
    funext s
    by_cases h : s = row
    · rw [if_pos h, h]
    · rw [if_neg h]
  show ({ w with params := { w.params with followText := fun s => if s = row then w.params.followText row else w.params.followText s } } : World) = w
  rw [e]
theorem run_split {r : PySem.W.OpenRow} {q : Program} {H : PySem.W.Hook} {ob : PySem.W.SharedT → H.α} {M : Nat} {loose : List Str} (row : String) (h : ∀ (b : Bool) (w : World), HandSHeadRun.RunEq r q H ob M loose (setF w row b)) : ∀ w, HandSHeadRun.RunEq r q H ob M loose w := fun w => by
  have := h (w.params.followText row) w
  rwa [setF_eq] at this
end DL
set_option Elab.async false
set_option linter.all false
set_option maxRecDepth 100000
set_option maxHeartbeats 1000000
/-! DL28: the law's state in two places (cells, counts), behind what is there already; draws by it. -/
namespace DL
open PySem L2
/-- the state of _law_pick: pre, the cells, [cells, at, count]; f: so many draws are left -/
def PkSt (pre : Store) (f : Nat) (S : Store) : Prop := ∃ (cs : List Int) (a c : Int), S = pre ++ [.lst (cs.map fun i => W.d (.int i)), .lst [.loc pre.length, .d (.int a), .d (.int c)]] ∧ cs ≠ [] ∧ (∀ x ∈ cs, 0 ≤ x) ∧ 0 ≤ a ∧ 0 ≤ c ∧ c + (f : Int) ≤ 1000000000
theorem PkSt.weak {pre : Store} {f g : Nat} {S : Store} (h : PkSt pre f S) (hg : g ≤ f) : PkSt pre g S := by
  obtain ⟨cs, a, c, h1, h2, h3, h4, h5, h6⟩ := h
  exact ⟨cs, a, c, h1, h2, h3, h4, h5, by omega⟩
theorem PkSt.len {pre : Store} {f : Nat} {S : Store} (h : PkSt pre f S) : S.length = pre.length + 2 := by
  obtain ⟨cs, a, c, rfl, _⟩ := h
  simp
section
variable {pre T : Store} {A B m : M}
theorem pre_0 : (pre ++ A :: B :: T)[pre.length]? = some A := by simp
theorem pre_1 : (pre ++ A :: B :: T)[pre.length + 1]? = some B := by simp
theorem pre_s0 : (pre ++ A :: B :: T).set pre.length m = pre ++ m :: B :: T := by simp
theorem pre_s1 : (pre ++ A :: B :: T).set (pre.length + 1) m = pre ++ A :: m :: T := by
  have h : ∀ (l : List M) (k : Nat) (hk : k = l.length + 1), (l ++ A :: B :: T).set k m = l ++ A :: m :: T := fun l => by
    induction l with
    | nil => intro k hk; subst hk; rfl
    | cons x l ih => intro k hk; subst hk; exact congrArg (x :: ·) (ih _ (by simp))
  exact h pre _ rfl
end
section
variable {pre T U : Store} {f f' : Nat} {S S' : Store}
theorem keepOk_pk (h : PkSt pre f S) (h' : PkSt pre f' S') : keepOk (S ++ T) (S' ++ (T ++ U)) := by
  obtain ⟨cs, a, c, rfl, _⟩ := h
  obtain ⟨cs', a', c', rfl, _⟩ := h'
  refine ⟨by simp, fun i m hi e => ?_⟩
  by_cases h1 : i < pre.length
  · left
    rw [List.append_assoc, List.getElem?_append_left h1] at e ⊢
    exact e
  · by_cases h2 : i < pre.length + 2
    · right
      have hc : i = pre.length ∨ i = pre.length + 1 := by omega
      rcases hc with rfl | rfl
      · have : m = .lst (cs'.map fun i => W.d (.int i)) := by simpa using e.symm
        subst this
        intro w hw
        obtain ⟨x, _, rfl⟩ := List.mem_map.mp hw
        trivial
      · have : m = .lst [.loc pre.length, .d (.int a'), .d (.int c')] := by simpa using e.symm
        subst this
        intro w hw
        simp at hw
        rcases hw with rfl | rfl | rfl
        · show pre.length < _
          simp
        · trivial
        · trivial
    · left
      have hl1 : (pre ++ [M.lst (cs.map fun i => W.d (.int i)), .lst [.loc pre.length, .d (.int a), .d (.int c)]]).length = pre.length + 2 := by simp
      have hl2 : (pre ++ [M.lst (cs'.map fun i => W.d (.int i)), .lst [.loc pre.length, .d (.int a'), .d (.int c')]]).length = pre.length + 2 := by simp
      rw [List.getElem?_append_right (by rw [hl2]; omega), hl2] at e
      rw [List.getElem?_append_right (by rw [hl1]; omega), hl1]
      rw [List.length_append, hl1] at hi
      rw [List.getElem?_append_left (by omega)] at e
      exact e
theorem give_pk {x : D} (h : PkSt pre f S) (h' : PkSt pre f' S') : giveS (S ++ T) (.d x) (S' ++ (T ++ U)) = some (.ok (.d x), S' ++ T) := by
  unfold giveS
  rw [if_pos (keepOk_pk h h')]
  show some (Except.ok (W.d x), (S' ++ (T ++ U)).take (S ++ T).length) = _
  have e : (S ++ T).length = (S' ++ T).length := by rw [List.length_append, List.length_append, h.len, h'.len]
  rw [e, ← List.append_assoc, List.take_left]
theorem give_pk0 {x : D} (h : PkSt pre f S) (h' : PkSt pre f' S') : giveS (S ++ T) (.d x) (S' ++ T) = some (.ok (.d x), S' ++ T) := by
  have := give_pk (T := T) (U := []) (x := x) h h'
  rwa [List.append_nil] at this
end
/-! ### draws over a list -/
theorem lcL_pk {β : Type} {tf : Tg} {fe : FE} {δ : DEnv} {pre T : Store} {K : Nat} {wf : β → W} {Pd : β → D → Prop} : ∀ {xs : List β} {acc : List W} {f : Nat} {S : Store}, PkSt pre (f + xs.length * K) S →
    (∀ x ∈ xs, ∀ f S, PkSt pre (f + K) S → ∃ δ1 d S', tf (wf x) δ (S ++ T) = some (δ1, S ++ T) ∧ fe δ1 (S ++ T) = some (.ok (.d d), S' ++ T) ∧ PkSt pre f S' ∧ Pd x d) →
    ∃ (ds : List D) (S' : Store), lcL tf ftYes fe none δ (xs.map wf) (S ++ T) acc = some (.ok (acc ++ ds.map W.d), S' ++ T) ∧ PkSt pre f S' ∧ ds.length = xs.length ∧ ∀ z ∈ xs.zip ds, Pd z.1 z.2
  | [], acc, f, S, hm, _ => ⟨[], S, by show lcL tf ftYes fe none δ [] (S ++ T) acc = _; unfold lcL; rw [if_pos okG_no]; simp, by simpa using hm, rfl, by simp⟩
  | x :: xs, acc, f, S, hm, h => by
    have hm' : PkSt pre ((f + xs.length * K) + K) S := hm.weak (by rw [List.length_cons, Nat.add_mul]; omega)
    obtain ⟨δ1, d, S1, h1, h2, h3, h4⟩ := h x List.mem_cons_self _ S hm'
    obtain ⟨ds, S2, e, g1, g2, g3⟩ := lcL_pk (acc := acc ++ [.d d]) h3 fun u hu => h u (List.mem_cons_of_mem _ hu)
    refine ⟨d :: ds, S2, ?_, g1, by simp [g2], fun z hz => ?_⟩
    · show lcL tf ftYes fe none δ (wf x :: xs.map wf) (S ++ T) acc = _
      unfold lcL
      rw [if_pos okG_no]
      simp only [h1, h2, ftYes]
      rw [e]
      simp
    · rw [List.zip_cons_cons] at hz
      rcases List.mem_cons.mp hz with rfl | hz
      · exact h4
      · exact g3 z hz
theorem all_encZ {α β : Type} {e : α → D} {Q : β → α → Prop} : ∀ {xs : List β} {ds : List D}, ds.length = xs.length → (∀ z ∈ xs.zip ds, ∃ a, z.2 = e a ∧ Q z.1 a) → ∃ as : List α, ds = as.map e ∧ as.length = xs.length ∧ ∀ z ∈ xs.zip as, Q z.1 z.2
  | [], [], _, _ => ⟨[], rfl, rfl, by simp⟩
  | [], _ :: _, h, _ => by simp at h
  | _ :: _, [], h, _ => by simp at h
  | x :: xs, d :: ds, hl, h => by
    obtain ⟨a, e1, q⟩ := h (x, d) (by simp)
    obtain ⟨as, rfl, h2, h3⟩ := all_encZ (xs := xs) (ds := ds) (by simpa using hl) fun z hz => h z (by rw [List.zip_cons_cons]; exact List.mem_cons_of_mem _ hz)
    have e1' : d = e a := e1
    refine ⟨a :: as, by rw [e1']; rfl, by simp [h2], fun z hz => ?_⟩
    rw [List.zip_cons_cons] at hz
    rcases List.mem_cons.mp hz with rfl | hz
    · exact q
    · exact h3 z hz
theorem dLc_pk {α β : Type} (e : α → D) (Q : β → α → Prop) (K : Nat) {fi : FI} {tf : Tg} {fe : FE} {vs : List Nat} {δ : DEnv} {pre T : Store} {S0 S : Store} {f : Nat} {xs : List β} {wf : β → W} (hn : xs.length ≤ 1000) (hm : PkSt pre (f + xs.length * K) S)
    (hi : fi δ S0 = some (.ok (xs.map wf, none), S ++ T)) (h : ∀ x ∈ xs, ∀ f S, PkSt pre (f + K) S → ∃ δ1 a S', tf (wf x) (wipeE δ vs) (S ++ T) = some (δ1, S ++ T) ∧ fe δ1 (S ++ T) = some (.ok (.d (e a)), S' ++ T) ∧ PkSt pre f S' ∧ Q x a) :
    ∃ (as : List α) (S' : Store), dLc lcF fi tf ftYes fe vs δ S0 = some (.ok (.d (.lst (as.map e))), S' ++ T) ∧ PkSt pre f S' ∧ as.length = xs.length ∧ ∀ z ∈ xs.zip as, Q z.1 z.2 := by
  obtain ⟨ds, S', e1, hm', hds, hd⟩ := lcL_pk (tf := tf) (fe := fe) (δ := wipeE δ vs) (T := T) (K := K) (wf := wf) (Pd := fun x d => ∃ a, d = e a ∧ Q x a) (acc := []) hm (by
    intro x hx f S hm
    obtain ⟨δ1, a, S', e1, e2, e3, e4⟩ := h x hx f S hm
    exact ⟨δ1, _, S', e1, e2, e3, a, rfl, e4⟩)
  obtain ⟨as, rfl, ha, hq⟩ := all_encZ hds hd
  refine ⟨as, S', ?_, hm', ha, hq⟩
  have hz : (xs.map wf).length ≤ sizeLine := Nat.le_trans (by rw [List.length_map]; exact hn) (by decide)
  unfold dLc
  rw [hi, bind_ok]
  dsimp only
  rw [if_pos hz, e1, bind_ok, List.nil_append]
  unfold lcF
  rw [pure?_map]
/-- a loop that changes the store: what holds after i rounds, by i -/
theorem zip_mem_left {α β : Type} {xs : List α} {ys : List β} (h : ys.length = xs.length) {Q : β → Prop} (hq : ∀ z ∈ xs.zip ys, Q z.2) : ∀ y ∈ ys, Q y := fun y hy => by
  obtain ⟨i, hi, rfl⟩ := List.mem_iff_getElem.mp hy
  have hz : i < (xs.zip ys).length := by rw [List.length_zip]; omega
  have := hq _ (List.getElem_mem hz)
  rwa [List.getElem_zip] at this
end DL
set_option Elab.async false
set_option linter.all false
set_option maxRecDepth 100000
set_option maxHeartbeats 1000000
/-! DL29: words of steps, shapes, steps that fit. -/
namespace DL
open PySem L2
/-! ### words -/
section
variable {S : Store}
theorem eqS_t (x : Str) (h : PyData.canLay0 (.str x) = true) : oEq (.d (.str x)) (.d (.str x)) S = some (.ok (.d (.bl true)), S) := oEq_refl (pl_str x h) (by decide)
theorem eqS_f {x y : Str} (h : eqW (.d (.str x)) (.d (.str y)) = some false) : oEq (.d (.str x)) (.d (.str y)) S = some (.ok (.d (.bl false)), S) := by
  simp [oEq, h]
theorem neS_f {x y : Str} (h : eqW (.d (.str x)) (.d (.str y)) = some false) : oNe (.d (.str x)) (.d (.str y)) S = some (.ok (.d (.bl true)), S) := by
  simp [oNe, h]
theorem eqs_plus_plus : oEq (.d (.str "plus")) (.d (.str "plus")) S = some (.ok (.d (.bl true)), S) := eqS_t "plus" (by decide +kernel)
theorem eqs_plus_times : oEq (.d (.str "plus")) (.d (.str "times")) S = some (.ok (.d (.bl false)), S) := eqS_f (by decide +kernel)
theorem eqs_plus_turned : oEq (.d (.str "plus")) (.d (.str "turned")) S = some (.ok (.d (.bl false)), S) := eqS_f (by decide +kernel)
theorem eqs_plus_beside : oEq (.d (.str "plus")) (.d (.str "beside")) S = some (.ok (.d (.bl false)), S) := eqS_f (by decide +kernel)
theorem eqs_plus_above : oEq (.d (.str "plus")) (.d (.str "above")) S = some (.ok (.d (.bl false)), S) := eqS_f (by decide +kernel)
theorem eqs_plus_piece : oEq (.d (.str "plus")) (.d (.str "piece")) S = some (.ok (.d (.bl false)), S) := eqS_f (by decide +kernel)
theorem eqs_plus_star : oEq (.d (.str "plus")) (.d (.str "star")) S = some (.ok (.d (.bl false)), S) := eqS_f (by decide +kernel)
theorem nes_plus : oNe (.d (.str "plus")) (.d (.str "star")) S = some (.ok (.d (.bl true)), S) := neS_f (by decide +kernel)
theorem eqs_times_plus : oEq (.d (.str "times")) (.d (.str "plus")) S = some (.ok (.d (.bl false)), S) := eqS_f (by decide +kernel)
theorem eqs_times_times : oEq (.d (.str "times")) (.d (.str "times")) S = some (.ok (.d (.bl true)), S) := eqS_t "times" (by decide +kernel)
theorem eqs_times_turned : oEq (.d (.str "times")) (.d (.str "turned")) S = some (.ok (.d (.bl false)), S) := eqS_f (by decide +kernel)
theorem eqs_times_beside : oEq (.d (.str "times")) (.d (.str "beside")) S = some (.ok (.d (.bl false)), S) := eqS_f (by decide +kernel)
theorem eqs_times_above : oEq (.d (.str "times")) (.d (.str "above")) S = some (.ok (.d (.bl false)), S) := eqS_f (by decide +kernel)
theorem eqs_times_piece : oEq (.d (.str "times")) (.d (.str "piece")) S = some (.ok (.d (.bl false)), S) := eqS_f (by decide +kernel)
theorem eqs_times_star : oEq (.d (.str "times")) (.d (.str "star")) S = some (.ok (.d (.bl false)), S) := eqS_f (by decide +kernel)
theorem nes_times : oNe (.d (.str "times")) (.d (.str "star")) S = some (.ok (.d (.bl true)), S) := neS_f (by decide +kernel)
theorem eqs_turned_plus : oEq (.d (.str "turned")) (.d (.str "plus")) S = some (.ok (.d (.bl false)), S) := eqS_f (by decide +kernel)
theorem eqs_turned_times : oEq (.d (.str "turned")) (.d (.str "times")) S = some (.ok (.d (.bl false)), S) := eqS_f (by decide +kernel)
theorem eqs_turned_turned : oEq (.d (.str "turned")) (.d (.str "turned")) S = some (.ok (.d (.bl true)), S) := eqS_t "turned" (by decide +kernel)
theorem eqs_turned_beside : oEq (.d (.str "turned")) (.d (.str "beside")) S = some (.ok (.d (.bl false)), S) := eqS_f (by decide +kernel)
theorem eqs_turned_above : oEq (.d (.str "turned")) (.d (.str "above")) S = some (.ok (.d (.bl false)), S) := eqS_f (by decide +kernel)
theorem eqs_turned_piece : oEq (.d (.str "turned")) (.d (.str "piece")) S = some (.ok (.d (.bl false)), S) := eqS_f (by decide +kernel)
theorem eqs_turned_star : oEq (.d (.str "turned")) (.d (.str "star")) S = some (.ok (.d (.bl false)), S) := eqS_f (by decide +kernel)
theorem nes_turned : oNe (.d (.str "turned")) (.d (.str "star")) S = some (.ok (.d (.bl true)), S) := neS_f (by decide +kernel)
theorem eqs_beside_plus : oEq (.d (.str "beside")) (.d (.str "plus")) S = some (.ok (.d (.bl false)), S) := eqS_f (by decide +kernel)
theorem eqs_beside_times : oEq (.d (.str "beside")) (.d (.str "times")) S = some (.ok (.d (.bl false)), S) := eqS_f (by decide +kernel)
theorem eqs_beside_turned : oEq (.d (.str "beside")) (.d (.str "turned")) S = some (.ok (.d (.bl false)), S) := eqS_f (by decide +kernel)
theorem eqs_beside_beside : oEq (.d (.str "beside")) (.d (.str "beside")) S = some (.ok (.d (.bl true)), S) := eqS_t "beside" (by decide +kernel)
theorem eqs_beside_above : oEq (.d (.str "beside")) (.d (.str "above")) S = some (.ok (.d (.bl false)), S) := eqS_f (by decide +kernel)
theorem eqs_beside_piece : oEq (.d (.str "beside")) (.d (.str "piece")) S = some (.ok (.d (.bl false)), S) := eqS_f (by decide +kernel)
theorem eqs_beside_star : oEq (.d (.str "beside")) (.d (.str "star")) S = some (.ok (.d (.bl false)), S) := eqS_f (by decide +kernel)
theorem nes_beside : oNe (.d (.str "beside")) (.d (.str "star")) S = some (.ok (.d (.bl true)), S) := neS_f (by decide +kernel)
theorem eqs_above_plus : oEq (.d (.str "above")) (.d (.str "plus")) S = some (.ok (.d (.bl false)), S) := eqS_f (by decide +kernel)
theorem eqs_above_times : oEq (.d (.str "above")) (.d (.str "times")) S = some (.ok (.d (.bl false)), S) := eqS_f (by decide +kernel)
theorem eqs_above_turned : oEq (.d (.str "above")) (.d (.str "turned")) S = some (.ok (.d (.bl false)), S) := eqS_f (by decide +kernel)
theorem eqs_above_beside : oEq (.d (.str "above")) (.d (.str "beside")) S = some (.ok (.d (.bl false)), S) := eqS_f (by decide +kernel)
theorem eqs_above_above : oEq (.d (.str "above")) (.d (.str "above")) S = some (.ok (.d (.bl true)), S) := eqS_t "above" (by decide +kernel)
theorem eqs_above_piece : oEq (.d (.str "above")) (.d (.str "piece")) S = some (.ok (.d (.bl false)), S) := eqS_f (by decide +kernel)
theorem eqs_above_star : oEq (.d (.str "above")) (.d (.str "star")) S = some (.ok (.d (.bl false)), S) := eqS_f (by decide +kernel)
theorem nes_above : oNe (.d (.str "above")) (.d (.str "star")) S = some (.ok (.d (.bl true)), S) := neS_f (by decide +kernel)
theorem eqs_piece_plus : oEq (.d (.str "piece")) (.d (.str "plus")) S = some (.ok (.d (.bl false)), S) := eqS_f (by decide +kernel)
theorem eqs_piece_times : oEq (.d (.str "piece")) (.d (.str "times")) S = some (.ok (.d (.bl false)), S) := eqS_f (by decide +kernel)
theorem eqs_piece_turned : oEq (.d (.str "piece")) (.d (.str "turned")) S = some (.ok (.d (.bl false)), S) := eqS_f (by decide +kernel)
theorem eqs_piece_beside : oEq (.d (.str "piece")) (.d (.str "beside")) S = some (.ok (.d (.bl false)), S) := eqS_f (by decide +kernel)
theorem eqs_piece_above : oEq (.d (.str "piece")) (.d (.str "above")) S = some (.ok (.d (.bl false)), S) := eqS_f (by decide +kernel)
theorem eqs_piece_piece : oEq (.d (.str "piece")) (.d (.str "piece")) S = some (.ok (.d (.bl true)), S) := eqS_t "piece" (by decide +kernel)
theorem eqs_piece_star : oEq (.d (.str "piece")) (.d (.str "star")) S = some (.ok (.d (.bl false)), S) := eqS_f (by decide +kernel)
theorem nes_piece : oNe (.d (.str "piece")) (.d (.str "star")) S = some (.ok (.d (.bl true)), S) := neS_f (by decide +kernel)
end
/-! ### shapes, steps -/
abbrev Sh := Nat × Nat
def encSh (s : Sh) : D := .tup [.int (s.1 : Int), .int (s.2 : Int)]
theorem eqE_nat : EqE (fun n : Nat => D.int (n : Int)) 0 := ⟨fun n => .int (n : Int), fun a => by rw [toP], fun _ => rfl, fun _ => by simp [PyData.depth], fun a b => by simp [PyData.eqv]; constructor <;> omega⟩
theorem eqE_Sh : EqE encSh 1 := (eqE_nat.pair eqE_nat : EqE (fun p : Nat × Nat => D.tup [.int (p.1 : Int), .int (p.2 : Int)]) 1)
inductive St' where
  | plus (a b : Nat) | times (a b : Nat) | turned (a : Nat) | beside (a b : Nat) | above (a b : Nat) | piece (a i j h w : Nat)
def encStp : St' → D
  | .plus a b => .tup [.str "plus", .int (a : Int), .int (b : Int)]
  | .times a b => .tup [.str "times", .int (a : Int), .int (b : Int)]
  | .turned a => .tup [.str "turned", .int (a : Int)]
  | .beside a b => .tup [.str "beside", .int (a : Int), .int (b : Int)]
  | .above a b => .tup [.str "above", .int (a : Int), .int (b : Int)]
  | .piece a i j h w => .tup [.str "piece", .int (a : Int), .int (i : Int), .int (j : Int), .int (h : Int), .int (w : Int)]
/-- a step that fits, its shape -/
inductive Fit (shs : List Sh) : St' → Sh → Prop
  | plus {a b : Nat} {s : Sh} (ha : shs[a]? = some s) (hb : shs[b]? = some s) : Fit shs (.plus a b) s
  | times {a b r k c : Nat} (ha : shs[a]? = some (r, k)) (hb : shs[b]? = some (k, c)) : Fit shs (.times a b) (r, c)
  | turned {a r c : Nat} (ha : shs[a]? = some (r, c)) : Fit shs (.turned a) (c, r)
  | beside {a b r c d : Nat} (ha : shs[a]? = some (r, c)) (hb : shs[b]? = some (r, d)) : Fit shs (.beside a b) (r, c + d)
  | above {a b r s c : Nat} (ha : shs[a]? = some (r, c)) (hb : shs[b]? = some (s, c)) : Fit shs (.above a b) (r + s, c)
  | piece {a i j h w r c : Nat} (ha : shs[a]? = some (r, c)) (h1 : 1 ≤ h) (w1 : 1 ≤ w) (hr : i + h ≤ r) (hc : j + w ≤ c) : Fit shs (.piece a i j h w) (h, w)
/-- shapes from 1 to n -/
def ShLe (n : Nat) (s : Sh) : Prop := 1 ≤ s.1 ∧ s.1 ≤ n ∧ 1 ≤ s.2 ∧ s.2 ≤ n
/-- steps, one behind another, each fitting what is ahead -/
inductive Chain (n : Nat) : List Sh → List St' → List Sh → Prop
  | nil {shs : List Sh} : Chain n shs [] shs
  | cons {shs : List Sh} {st : St'} {s : Sh} {sts : List St'} {out : List Sh} (h : Fit shs st s) (hs : ShLe n s) (r : Chain n (shs ++ [s]) sts out) : Chain n shs (st :: sts) out
theorem Chain.snoc {n : Nat} {shs out : List Sh} {sts : List St'} {st : St'} {s : Sh} (c : Chain n shs sts out) (h : Fit out st s) (hs : ShLe n s) : Chain n shs (sts ++ [st]) (out ++ [s]) := by
  induction c with
  | nil => exact .cons h hs .nil
  | cons h' hs' r ih => exact .cons h' hs' (ih h)
section
variable {S : Store} {shs : List Sh} {a : Nat} {s : Sh}
theorem ix_sh (h : shs[a]? = some s) : oIx (.d (.lst (shs.map encSh))) (.d (.int (a : Int))) S = some (.ok (.d (encSh s)), S) := by
  obtain ⟨hi, rfl⟩ := List.getElem?_eq_some_iff.mp h
  have e : atI ((shs.map encSh).map W.d) (a : Int) = some (W.d (encSh shs[a])) := atI_nat (by simp [hi])
  simp only [oIx, seqW, e]
theorem ix_shL {k : Nat} (hS : S[k]? = some (.lst ((shs.map encSh).map W.d))) (h : shs[a]? = some s) : oIx (.loc k) (.d (.int (a : Int))) S = some (.ok (.d (encSh s)), S) := by
  obtain ⟨hi, rfl⟩ := List.getElem?_eq_some_iff.mp h
  have e : atI ((shs.map encSh).map W.d) (a : Int) = some (W.d (encSh shs[a])) := atI_nat (by simp [hi])
  simp only [oIx, seqW, hS, e]
theorem sh_0 : oIx (.d (encSh s)) (.d (.int 0)) S = some (.ok (.d (.int (s.1 : Int))), S) := rfl
theorem sh_1 : oIx (.d (encSh s)) (.d (.int 1)) S = some (.ok (.d (.int (s.2 : Int))), S) := rfl
theorem tg_sh {i j : Nat} {δ : DEnv} : tgT 2 (tgCons (tgN i) (tgCons (tgN j) tgNil)) (.d (encSh s)) δ S = some ((δ.set i (some (.d (.int (s.1 : Int))))).set j (some (.d (.int (s.2 : Int)))), S) := rfl
theorem max_sh : oMaxT (.d (encSh s)) S = some (.ok (.d (.int ((if s.1 < s.2 then s.2 else s.1 : Nat) : Int))), S) := by
  show some (Except.ok (W.d (.int (if (s.1 : Int) < (s.2 : Int) then (s.2 : Int) else (s.1 : Int)))), S) = _
  by_cases h : s.1 < s.2
  · rw [if_pos (by omega), if_pos h]
  · rw [if_neg (by omega), if_neg h]
theorem isN_sh : oIsN (.d (encSh s)) (.d .non) S = some (.ok (.d (.bl false)), S) := rfl
theorem notN_sh : oNotN (.d (encSh s)) (.d .non) S = some (.ok (.d (.bl true)), S) := rfl
end
end DL
set_option Elab.async false
set_option linter.all false
set_option maxRecDepth 100000
set_option maxHeartbeats 1000000
/-! DL30: numbers by a scale that all bottoms divide; the least common multiple of several grids. -/
namespace DL
open PySem L2
/-! ### least common multiples up to 12 -/
def L12 : List Int := [1, 2, 3, 4, 6, 12]
theorem in12_mem {a : Int} : In12 a ↔ a ∈ L12 := by simp [In12, L12]
theorem lcm_tab : ∀ a ∈ L12, ∀ b ∈ L12, lcmI a b ∈ L12 ∧ ∀ m ∈ List.range 13, (m : Int) % a = 0 → (m : Int) % b = 0 → (m : Int) % lcmI a b = 0 := by decide +kernel
theorem in12_lcm2 {a b : Int} (h : In12 a) (g : In12 b) : In12 (lcmI a b) := in12_mem.mpr (lcm_tab a (in12_mem.mp h) b (in12_mem.mp g)).1
theorem lcm_low {a b : Int} (h : In12 a) (g : In12 b) {m : Nat} (hm : m ≤ 12) (h1 : (m : Int) % a = 0) (h2 : (m : Int) % b = 0) : (m : Int) % lcmI a b = 0 := (lcm_tab a (in12_mem.mp h) b (in12_mem.mp g)).2 m (by simp; omega) h1 h2
theorem in12_of4 {b : Int} (b1 : 0 < b) (b4 : b ≤ 4) : In12 b := by unfold In12; omega
/-! ### a scale that all bottoms divide -/
def SclOk (s : Int) (rs : List (List (Option Unit'))) : Prop := In12 s ∧ ∀ r ∈ rs, ∀ us, some us ∈ r → ∀ p ∈ us, s % p.2 = 0
section
variable {b m n nb k k' : Nat} {s : Int} {rs : List (List (Option Unit'))} {ns : List (List Num)} {ms ms' : List Num}
theorem facOk_s (hs : SclOk s rs) (h : GrOk b m n rs) (q : RtOk b k ms) {r : List (Option Unit')} (hr : r ∈ rs) {us : Unit'} (hu : some us ∈ r) : FacOk 3 k 72 s us ms := by
  have c : UnOk b us := (h.rows.2 r hr).2 _ hu
  have i12 := hs.1
  refine ⟨unB_of c h.b1 h.b3, q.ok, by rw [c.1, q.len], by have := i12.pos; omega, i12.bd.up (by decide), fun e he => hs.2 r hr us hu e he, fun e he => ?_, by decide, by decide, q.k0, q.k9⟩
  have h1 : (ex s e).natAbs ≤ (e.1 * s).natAbs := Int.natAbs_ediv_le_natAbs _ _
  rw [Int.natAbs_mul] at h1
  have h2 := (c.2 e he).2.1
  have h3 : s.natAbs ≤ 12 := by unfold In12 at i12; omega
  have := Nat.mul_le_mul h2 h3
  omega
theorem renum_ok_s (hs : SclOk s rs) (h : GrOk b m n rs) (q : RtOk b k ms) (g : NumsOk nb rs ns) : NumsOk (nb + (1 + 3 * (k * 72 + 1))) rs (renum (fU s ms) rs ns) := by
  refine ⟨renum_len g, fun z hz => ?_⟩
  unfold renum at hz
  rw [zip_mapz] at hz
  obtain ⟨z0, h0, rfl⟩ := List.mem_map.mp hz
  have g0 := g.2 z0 h0
  refine ⟨by simp [rowF, g0.1], fun y hy => ?_⟩
  unfold rowF at hy
  dsimp only at hy
  rw [zip_mapz] at hy
  obtain ⟨y0, h1, rfl⟩ := List.mem_map.mp hy
  have g1 := g0.2 y0 h1
  obtain ⟨c, p⟩ := y0
  cases c with
  | none => exact ⟨g1.1.up (by omega), fun _ => g1.2 rfl⟩
  | some us => exact ⟨ftimes_ok g1.1 (facOk_s hs h q (zip_fst h0) (zip_fst h1)).bd3, fun e => nomatch e⟩
theorem renum_twice2 {f g : Unit' → Num} {φ : Option Unit' × Num → Num} (h : ∀ z ∈ rs.zip ns, ∀ y ∈ z.1.zip z.2, cellF f y.1 (cellF g y.1 y.2) = φ y) : renum f rs (renum g rs ns) = (rs.zip ns).map fun z => (z.1.zip z.2).map φ := by
  unfold renum
  rw [zip_mapz, List.map_map]
  refine List.map_congr_left fun z hz => ?_
  show rowF f (z.1, rowF g z) = _
  unfold rowF
  dsimp only
  rw [zip_mapz, List.map_map]
  exact List.map_congr_left fun y hy => h z hz y hy
theorem nums_same2 (h : NumsOk nb rs ns) : ((rs.zip ns).map fun z => (z.1.zip z.2).map fun y => y.2) = ns := by
  have e : ((rs.zip ns).map fun z => (z.1.zip z.2).map fun y => y.2) = (rs.zip ns).map Prod.snd := List.map_congr_left fun z hz => by
    rw [show (fun y : Option Unit' × Num => y.2) = Prod.snd from rfl, List.map_snd_zip (by have := (h.2 z hz).1; omega)]
  rw [e, List.map_snd_zip (by rw [h.1]; exact Nat.le_refl _)]
theorem turn_rt2 (q : RtOk b k ms) : RtOk b k (ms.map turn) := ⟨by simp [q.len], fun r hr => by
  obtain ⟨p, hp, rfl⟩ := List.mem_map.mp hr
  have h := q.ok p hp
  exact ⟨⟨turn_fr h.1.fr h.2, h.1.b2, h.1.b1⟩, h.1.fr.1⟩, q.k0, q.k9⟩
theorem renum_back_s (hs : SclOk s rs) (g : GrOk b m n rs) (h : NumsOk nb rs ns) (q : RtOk b k ms) : renum (fU s (ms.map turn)) rs (renum (fU s ms) rs ns) = ns := by
  rw [renum_twice2 (φ := fun y => y.2) fun z hz y hy => ?_]
  · exact nums_same2 h
  · obtain ⟨c, p⟩ := y
    cases c with
    | none => rfl
    | some us =>
      have o1 := facOk_s hs g q (zip_fst hz) (zip_fst hy)
      have o2 := facOk_s hs g (turn_rt2 q) (zip_fst hz) (zip_fst hy)
      have fp : Fr p := ((h.2 z hz).2 _ hy).1.fr
      have f1 : Fr (fU s ms us) := o1.bd3.fr
      show ftimes (ftimes p (fU s ms us)) (fU s (ms.map turn) us) = p
      have e : fU s (ms.map turn) us = turn (fU s ms us) := fU_turn o1
      have f2 : Fr (fU s (ms.map turn) us) := o2.bd3.fr
      rw [ftimes_assoc fp f1 f2, e, ftimes_turn (fU_pos o1), ftimes_one fp]
theorem ones_rt (b : Nat) : RtOk b 4 (List.replicate b (1, 1)) := ⟨by simp, fun r hr => by
  rw [(List.mem_replicate.mp hr).2]
  exact ⟨⟨⟨by decide, by decide⟩, by decide, by decide⟩, by decide⟩, by decide, by decide⟩
theorem fU_ones {us : Unit'} : fU s (List.replicate b (1, 1)) us = (1, 1) := by
  refine fac_one fun z hz => ?_
  obtain ⟨e, r⟩ := z
  have hr := (List.mem_replicate.mp (List.of_mem_zip hz).2).2
  subst hr
  unfold fz rz sw pw
  dsimp only
  split <;> simp [Int.one_pow]
theorem renum_ones (h : NumsOk nb rs ns) : renum (fU s (List.replicate b (1, 1))) rs ns = ns := by
  have e : renum (fU s (List.replicate b (1, 1))) rs ns = (rs.zip ns).map fun z => (z.1.zip z.2).map fun y => y.2 := by
    unfold renum
    refine List.map_congr_left fun z hz => ?_
    unfold rowF
    refine List.map_congr_left fun y hy => ?_
    obtain ⟨c, p⟩ := y
    have fp : Fr p := ((h.2 z hz).2 _ hy).1.fr
    cases c with
    | none => rfl
    | some us =>
      show ftimes p (fU s _ us) = p
      rw [fU_ones, ftimes_one fp]
  rw [e]
  exact nums_same2 h
theorem all_same2 {α : Type} {p q : α → Bool} {xs : List α} (h : ∀ x ∈ xs, p x = q x) : xs.all p = xs.all q := by
  induction xs with
  | nil => rfl
  | cons x xs ih => rw [List.all_cons, List.all_cons, h x List.mem_cons_self, ih fun y hy => h y (List.mem_cons_of_mem _ hy)]
theorem val_renum_s (hs : SclOk s rs) (g : GrOk b m n rs) (h : NumsOk nb rs ns) (q : RtOk b k ms) : valB rs (renum (fU s ms) rs ns) = valB rs ns := by
  unfold valB renum
  rw [zip_mapz, List.all_map]
  refine all_same2 fun z hz => ?_
  show ((z.1.zip (rowF _ z)).all valC) = _
  unfold rowF
  rw [zip_mapz, List.all_map]
  refine all_same2 fun y hy => ?_
  obtain ⟨c, p⟩ := y
  cases c with
  | none => rfl
  | some us =>
    have o1 := facOk_s hs g q (zip_fst hz) (zip_fst hy)
    have fp : Fr p := ((h.2 z hz).2 _ hy).1.fr
    show decide (0 < (ftimes p (fU s ms us)).1) = decide (0 < p.1)
    exact ftimes_sign fp (fU_pos o1)
end
/-! ### several grids -/
abbrev Rws := List (List (Option Unit'))
def lcmG (Rs : List Rws) : Int := Rs.foldl (fun a rs => lcmI a (lcmR rs)) 1
section
variable {Rs : List Rws}
theorem lcmG_12 (h : ∀ rs ∈ Rs, ∃ b m n, RowsOk b m n rs) : In12 (lcmG Rs) := foldl_inv (Q := In12) (fun a rs hr ha => by
  obtain ⟨b, m, n, q⟩ := h rs hr
  exact in12_lcm2 ha (lcmR_12 q)) (.inl rfl)
theorem lcmG_scl (h : ∀ rs ∈ Rs, ∃ b m n, RowsOk b m n rs) {rs : Rws} (hr : rs ∈ Rs) : SclOk (lcmG Rs) rs := ⟨lcmG_12 h, fun r hrr us hu p hp => by
  obtain ⟨b, m, n, q⟩ := h rs hr
  refine Int.emod_eq_zero_of_dvd ?_
  have d : p.2 ∣ lcmR rs := Int.dvd_of_emod_eq_zero (lcmR_dvd q hrr hu hp)
  refine foldl_hit (g := fun a rs => lcmI a (lcmR rs)) (Q := fun a => p.2 ∣ a) (fun a r' hr' ha => ?_) ⟨rs, hr, fun a => ?_⟩
  · obtain ⟨b, m, n, q'⟩ := h r' hr'
    exact Int.dvd_trans ha (dvd_lcmI (lcmR_12 q').pos)
  · exact Int.dvd_trans d dvd_lcmI'⟩
theorem lcmR_low {b m n : Nat} {rs : Rws} (q : RowsOk b m n rs) {c : Nat} (hc : c ≤ 12) (hd : ∀ r ∈ rs, ∀ us, some us ∈ r → ∀ p ∈ us, (c : Int) % p.2 = 0) : (c : Int) % lcmR rs = 0 := by
  have z : In12 (rs.foldl (fun a r => r.foldl lcmC a) 1) ∧ (c : Int) % rs.foldl (fun a r => r.foldl lcmC a) 1 = 0 := foldl_inv (Q := fun a => In12 a ∧ (c : Int) % a = 0) (xs := rs) (g := fun a r => r.foldl lcmC a) (fun a r hr ha => foldl_inv (Q := fun a => In12 a ∧ (c : Int) % a = 0) (g := lcmC) (fun a x hx ha => by
    cases x with
    | none => exact ha
    | some us =>
      have hu : UnOk b us := (q.2 r hr).2 _ hx
      exact foldl_inv (Q := fun a => In12 a ∧ (c : Int) % a = 0) (g := fun a (p : Int × Int) => lcmI a p.2) (fun a p hp ha => by
        have b12 := in12_of4 (hu.2 p hp).1.fr.1 (hu.2 p hp).2.2
        exact ⟨in12_lcm2 ha.1 b12, lcm_low ha.1 b12 hc ha.2 (hd r hr us hx p hp)⟩) ha) ha) ⟨.inl rfl, by simp⟩
  exact z.2
theorem lcmG_low (h : ∀ rs ∈ Rs, ∃ b m n, RowsOk b m n rs) {c : Nat} (hc : c ≤ 12) (hd : ∀ rs ∈ Rs, ∀ r ∈ rs, ∀ us, some us ∈ r → ∀ p ∈ us, (c : Int) % p.2 = 0) : (c : Int) % lcmG Rs = 0 := by
  have z : In12 (Rs.foldl (fun a rs => lcmI a (lcmR rs)) 1) ∧ (c : Int) % Rs.foldl (fun a rs => lcmI a (lcmR rs)) 1 = 0 := foldl_inv (Q := fun a => In12 a ∧ (c : Int) % a = 0) (xs := Rs) (g := fun a rs => lcmI a (lcmR rs)) (fun a rs hr ha => by
    obtain ⟨b, m, n, q⟩ := h rs hr
    exact ⟨in12_lcm2 ha.1 (lcmR_12 q), lcm_low ha.1 (lcmR_12 q) hc ha.2 (lcmR_low q hc (hd rs hr))⟩) ⟨.inl rfl, by simp⟩
  exact z.2
end
end DL
set_option Elab.async false
set_option linter.all false
set_option maxRecDepth 100000
set_option maxHeartbeats 1000000
/-! DL31: zip of a list and a tuple. -/
namespace DL
open PySem PySem.Spec PyProof.Rows L2 RZ
/-- what a list's, a tuple's iterator draws, told at one turn -/
theorem dr_list {prog : Program} {w : World} {A : Around} (hh : A.handled = none) (it l : Addr) (hne : l ≠ it) (items : Array Value) (i : Nat) :
    ∃ (n : Nat) (St : Nat → Heap → Prop), Draws prog w A it [it, l] n (fun j v => items[j]? = some v) St ∧ (∀ h, h.IsListIter it l i → h.IsList l items → St i h) ∧ i ≤ n ∧ (items.size ≤ i → i = n) ∧ (i < items.size → n = items.size) := by
  by_cases hi : i < items.size
  · exact ⟨_, _, Draws.list hh it l hne items, fun h a b => ⟨a, b⟩, by omega, fun z => by omega, fun _ => rfl⟩
  · refine ⟨i, fun j h => j = i ∧ h.IsListIter it l j ∧ h.IsList l items, ⟨fun _ _ st => let ⟨o, ho, _⟩ := st.2.1; ⟨o, ho⟩, fun _ _ _ st hk => ⟨st.1, st.2.1.at fun o e => hk it (by simp) o e, st.2.2.at fun o e => hk l (by simp) o e⟩, fun j s Q E hj st _ => absurd hj (by rw [st.1]; exact Nat.lt_irrefl _), fun s Q E st hE => wpAny_nextOf_list_end hh st.2.1 st.2.2 (by simp; omega) hE⟩, fun h a b => ⟨rfl, a, b⟩, Nat.le_refl _, fun _ => rfl, fun z => absurd z hi⟩
theorem dr_tuple {prog : Program} {w : World} {A : Around} (hh : A.handled = none) (it l : Addr) (hne : l ≠ it) (items : Array Value) (i : Nat) :
    ∃ (n : Nat) (St : Nat → Heap → Prop), Draws prog w A it [it, l] n (fun j v => items[j]? = some v) St ∧ (∀ h, h.IsTupleIter it l i → h.IsTuple l items → St i h) ∧ i ≤ n ∧ (items.size ≤ i → i = n) ∧ (i < items.size → n = items.size) := by
  by_cases hi : i < items.size
  · exact ⟨_, _, Draws.tuple hh it l hne items, fun h a b => ⟨a, b⟩, by omega, fun z => by omega, fun _ => rfl⟩
  · refine ⟨i, fun j h => j = i ∧ h.IsTupleIter it l j ∧ h.IsTuple l items, ⟨fun _ _ st => let ⟨o, ho, _⟩ := st.2.1; ⟨o, ho⟩, fun _ _ _ st hk => ⟨st.1, st.2.1.at fun o e => hk it (by simp) o e, st.2.2.at fun o e => hk l (by simp) o e⟩, fun j s Q E hj st _ => absurd hj (by rw [st.1]; exact Nat.lt_irrefl _), fun s Q E st hE => nextOf_tuple_end hh st.2.1 st.2.2 (by simp; omega) hE⟩, fun h a b => ⟨rfl, a, b⟩, Nat.le_refl _, fun _ => rfl, fun z => absurd z hi⟩
/-- the list at a and the tuple at b as they stand at each turn, the items in new pairs -/
def ItzM (K : PySem.W.Frag) (a b : Addr) : It :=
  ⟨fun i H => ∃ (xs ys : List V) (x y : V), SqL K H a xs ∧ SqT K H b ys ∧ xs[i]? = some x ∧ ys[i]? = some y,
    fun i H v H' => ∃ T x y, v = .ref T ∧ H T = none ∧ H' = upd H T (.tup [x, y]) ∧ (∀ xs, SqL K H a xs → xs[i]? = some x) ∧ ∀ ys, SqT K H b ys → ys[i]? = some y,
    fun i H => ∃ xs ys : List V, SqL K H a xs ∧ SqT K H b ys ∧ (xs.length ≤ i ∨ ys.length ≤ i)⟩
theorem turn_zipM {P : Program} {w : World} {K : PySem.W.Frag} {elts : List Expr} {kk : Nat} {tpos : PySem.Pos} {a b z TI TO i1 i2 : Addr} (D : ZipSep2 z TI TO i1 i2 [i1, a] [i2, b]) (n1 : a ≠ i1) (n2 : b ≠ i2) :
    Turn P w K (.Tuple elts kk tpos) (ItzM K a b) [z, TI, TO, i1, i2] z (fun i h => IsZip h z TI TO .none ∧ IsTupOf2 h TI (.ref i1) (.ref i2) ∧ (∃ x y, IsTupOf2 h TO x y) ∧ h.IsListIter i1 a i ∧ h.IsTupleIter i2 b i) where
  mem := by simp
  obj := fun i h st c hc => by
    obtain ⟨hz, hTI, ⟨x, y, hTO⟩, ⟨o1, e1, _, d1⟩, ⟨o2, e2, _, d2⟩⟩ := st
    have e' : c = z ∨ c = TI ∨ c = TO ∨ c = i1 ∨ c = i2 := by simpa using hc
    rcases e' with q | q | q | q | q
    · rw [q]; exact ⟨_, hz, fun v q => nomatch q⟩
    · rw [q]; exact ⟨_, hTI, fun v q => nomatch q⟩
    · rw [q]; exact ⟨_, hTO, fun v q => nomatch q⟩
    · rw [q]; exact ⟨o1, e1, fun v q => by rw [d1] at q; cases q⟩
    · rw [q]; exact ⟨o2, e2, fun v q => by rw [d2] at q; cases q⟩
  keep := fun i h h' st k => by
    obtain ⟨hz, hTI, ⟨x, y, hTO⟩, h1, h2⟩ := st
    exact ⟨k z (by simp) _ hz, k TI (by simp) _ hTI, ⟨x, y, k TO (by simp) _ hTO⟩, h1.at fun o q => k i1 (by simp) o q, h2.at fun o q => k i2 (by simp) o q⟩
  item := by
    intro X hP hw hK hc i pins s σ H E I hf st hg
    subst hP hw hK
    obtain ⟨hz, hTI, ⟨x0, y0, hTO⟩, h1, h2⟩ := st
    obtain ⟨xs, ys, x, y, hqx, hqy, hx, hy⟩ := hg
    obtain ⟨its, rv, p, _⟩ := I.list hqx
    obtain ⟨its2, rv2, p2, _⟩ := I.tuple hqy
    have hh : X.A.in1.handled = none := I.ok.hd hc
    have l1 : i < its.toArray.size := by
      have h3 := (List.getElem?_eq_some_iff.mp hx).1
      have h4 := rv.length
      simp
      omega
    have l2 : i < its2.toArray.size := by
      have h3 := (List.getElem?_eq_some_iff.mp hy).1
      have h4 := rv2.length
      simp
      omega
    have hzl : z < s.heap.objs.size := Heap.lt_size hz
    refine wpAny_pyNext_zipD2_item D (Draws.list hh i1 a n1 its.toArray) (Draws.tuple hh i2 b n2 its2.toArray) hz hTI hTO ⟨h1, p.isList⟩ ⟨h2, p2⟩ l1 l2 fun u u2 h' tk hu hu2 z' TO' h1' h2' hT hsz hk => ?_
    obtain ⟨v1, hv1, ru⟩ := rv.get hx
    obtain ⟨v2, hv2, ru2⟩ := rv2.get hy
    have eu : v1 = u := by
      have e : its[i]? = some u := by simpa using hu
      rw [hv1] at e
      exact Option.some.inj e
    have eu2 : v2 = u2 := by
      have e : its2[i]? = some u2 := by simpa using hu2
      rw [hv2] at e
      exact Option.some.inj e
    subst eu eu2
    refine ⟨_, rfl, wpAny_letOwnedTupleGo_zip (s := { s with heap := h', toks := tk }) z' fun h'' z'' sb => ?_⟩
    have hT2 : h''.get? s.heap.objs.size = some { cls := .type "tuple", data := .seq #[v1, v2] } := (sb.2 _ (Nat.ne_of_gt hzl)).trans hT
    have new : ObjOk X.prog X.w (upd H s.heap.objs.size (.tup [x, y])) h'' s.heap.objs.size (.tup [x, y]) :=
      ⟨by show 2 ≤ sizeLine; decide, [v1, v2], .cons ru (.cons ru2 .nil), ⟨_, hT2, rfl, _, rfl⟩⟩
    have I1 : Inv X pins σ (upd H s.heap.objs.size (.tup [x, y])) { s with heap := h'', toks := tk } :=
      I.turnedNew (t' := tk) (ch := [z, TI, TO, i1, i2]) (fun c o hb q => (sb.2 c (fun q' => hb (by simp [q']))).trans (hk c o (fun q' => hb (by simp [q'])) (fun q' => hb (by simp [q'])) (fun q' => hb (by simp [q'])) (fun q' => hb (by simp [q'])) q)) hf (Nat.le_refl _) new
    refine ⟨.ref s.heap.objs.size, _, I1, rfl, ⟨_, x, y, rfl, I.hok.fresh (Nat.le_refl _), rfl, fun l hl => by rw [I.list_inj hl hqx]; exact hx, fun l hl => by rw [I.tuple_inj hl hqy]; exact hy⟩, ⟨z'', ?_, ⟨v1, v2, ?_⟩, ?_, ?_⟩, fun c hcm => ?_⟩
    · exact (sb.2 _ D.TIz).trans (hk _ _ D.TIz D.TITO D.TIi1 D.TIi2 hTI)
    · exact (sb.2 _ D.TOz).trans TO'
    · exact h1'.1.at fun o q => (sb.2 _ (Ne.symm D.zi1)).trans q
    · exact h2'.1.at fun o q => (sb.2 _ (Ne.symm D.zi2)).trans q
    · have hlt : c < s.heap.objs.size := by
        have e' : c = z ∨ c = TI ∨ c = TO ∨ c = i1 ∨ c = i2 := by simpa using hcm
        rcases e' with q | q | q | q | q
        · rw [q]; exact hzl
        · rw [q]; exact Heap.lt_size hTI
        · rw [q]; exact Heap.lt_size hTO
        · rw [q]; obtain ⟨_, e1, _⟩ := h1; exact Heap.lt_size e1
        · rw [q]; obtain ⟨_, e2, _⟩ := h2; exact Heap.lt_size e2
      rw [upd_ne (Nat.ne_of_lt hlt)]
      exact (hf c hcm).1
  done := by
    intro X hP hw hK hc i pins s σ H E I hf st hg
    subst hP hw hK
    obtain ⟨hz, hTI, ⟨x0, y0, hTO⟩, h1, h2⟩ := st
    obtain ⟨xs, ys, hqx, hqy, hend⟩ := hg
    obtain ⟨its, rv, p, _⟩ := I.list hqx
    obtain ⟨its2, rv2, p2, _⟩ := I.tuple hqy
    have hh : X.A.in1.handled = none := I.ok.hd hc
    have l1 := rv.length
    have l2 := rv2.length
    obtain ⟨m1, St1, D1, s1, le1, e1, _⟩ := dr_list (prog := X.prog) (w := X.w) hh i1 a n1 its.toArray i
    obtain ⟨m2, St2, D2, s2, le2, e2, _⟩ := dr_tuple (prog := X.prog) (w := X.w) hh i2 b n2 its2.toArray i
    have he : i = m1 ∨ i = m2 := by
      rcases hend with q | q
      · exact .inl (e1 (by simp; omega))
      · exact .inr (e2 (by simp; omega))
    exact wpAny_pyNext_zipD2_end D D1 D2 hz hTI hTO (s1 _ h1 p.isList) (s2 _ h2 p2) le1 le2 he fun h' tk hk => ⟨rfl, I.turnedL (t' := tk) (ch := [z, TI, TO, i1, i2]) (fun c o hb q =>
      hk c o (fun q' => hb (by simp [q'])) (fun q' => hb (by simp [q'])) (fun q' => hb (by simp [q'])) (fun q' => hb (by simp [q'])) q) hf⟩
  self := fun A i s Q E st h => wpAny_pyIter_zip st.1 h
def iZipM (K : PySem.W.Frag) (ta : TA) : TI := fun σ H R => ta σ H fun vs H1 => ∃ a b xs ys, vs = [.ref a, .ref b] ∧ SqL K H1 a xs ∧ SqT K H1 b ys ∧ R (ItzM K a b) H1
theorem pi_zipM {X : Cx} {e e2 : Expr} {ta : TA} {p pos tpos : PySem.Pos} {elts : List Expr} {kk : Nat} (hg : Gl X "zip") (hm : X.mg "zip" = none) (ha : PA X [e, e2] ta)
    (hs : starEach [e, e2] X.env = (false, eval e X.env) :: starEach [e2] X.env := by rfl) (hpl : (backTo pos (starEach [e2] X.env)).any (·.1) = false := by rfl) :
    PI X (.Tuple elts kk tpos) (.Call (.Name "zip" p) [e, e2] [] pos) (iZipM X.K ta) := by
  refine ⟨fun pins s σ H R I h => ?_⟩
  refine Call_ (ld_blt I hg hm PyProof.Rows.boot_zip (PyProof.Rows.callWith_type1 (thn (ha.run pos pins s σ H _ I h) fun us s1 ⟨vs, H1, I1, r1, q1⟩ => ?_) hs hpl))
  obtain ⟨a, b, xs, ys, ex, hqx, hqy, q⟩ := q1
  subst ex
  cases r1 with
  | cons r rr =>
    cases rr with
    | cons r' rr =>
      cases rr
      cases r
      cases r'
      have fresh5 : ∀ c, c ∈ [s1.heap.objs.size + 4, s1.heap.objs.size + 2, s1.heap.objs.size + 3, s1.heap.objs.size, s1.heap.objs.size + 1] → FpOk X pins H1 c := fun c hcm => by
        have e' : c = s1.heap.objs.size + 4 ∨ c = s1.heap.objs.size + 2 ∨ c = s1.heap.objs.size + 3 ∨ c = s1.heap.objs.size ∨ c = s1.heap.objs.size + 1 := by simpa using hcm
        have hle : s1.heap.objs.size ≤ c := by
          rcases e' with z | z | z | z | z
          · rw [z]; exact Nat.le_add_right _ _
          · rw [z]; exact Nat.le_add_right _ _
          · rw [z]; exact Nat.le_add_right _ _
          · rw [z]; exact Nat.le_refl _
          · rw [z]; exact Nat.le_add_right _ _
        exact I1.fpOk hle (I1.hok.fresh hle)
      obtain ⟨its, rv, p1, _⟩ := I1.list hqx
      obtain ⟨its2, rv2, p2, _⟩ := I1.tuple hqy
      have la : a < s1.heap.objs.size := p1.lt
      have lb : b < s1.heap.objs.size := by obtain ⟨o2, ho2, _⟩ := id p2; exact Heap.lt_size ho2
      refine zip_begins2 (begins_list a its.toArray) (begins_tuple b its2.toArray) p1.isList (show s1.heap.IsTuple b its2.toArray from p2) fun h' hz hTI hTO h1 h2 hsz hk => wpAny_pyIter_zip hz ?_
      have I2 : Inv X pins σ H1 { s1 with heap := h' } := I1.kept (t' := s1.toks) hk
      exact ⟨s1.heap.objs.size + 4, [s1.heap.objs.size + 4, s1.heap.objs.size + 2, s1.heap.objs.size + 3, s1.heap.objs.size, s1.heap.objs.size + 1], _, _, H1, rfl, I2,
        turn_zipM (zip_sep2 (fp1 := [a]) (fp2 := [b]) (by simpa using la) (by simpa using lb)) (Nat.ne_of_lt la) (Nat.ne_of_lt (Nat.lt_succ_of_lt lb)), ⟨hz, hTI, ⟨_, _, hTO⟩, ⟨_, h1, rfl, rfl⟩, ⟨_, h2, rfl, rfl⟩⟩, fresh5, q⟩
/-! ### as functions -/
def oZipM : List W → Store → Rs (List W × Grd)
  | [.d (.lst xs), .d (.tup ys)], S => some (.ok (zipD xs ys, none), S)
  | _, _ => none
theorem itR_zipM {K : PySem.W.Frag} {ρ : Ad} {H : Hp} {xs ys : List D} {a b : Addr} {us vs : List V} (h1 : LstF K ρ H a us) (r1 : RelDs K ρ H xs us) (h2 : TupF K ρ H b vs) (r2 : RelDs K ρ H ys vs) : ItR K ρ H (zipD xs ys, none) (ItzM K a b) := by
  intro ρ' S' H' ok st _ i
  have g1 := (h1.monoW st).sq
  have g2 := (h2.monoW st).sq
  have q1 := RelDs.monoW st xs us r1
  have q2 := RelDs.monoW st ys vs r2
  refine ⟨fun w hw => ?_, fun hi => ⟨us, vs, g1, g2, ?_⟩⟩
  · obtain ⟨x, y, ex, ey, rfl⟩ := zipD_get hw
    obtain ⟨u, hu, ru⟩ := q1.get ex
    obtain ⟨v, hv, rv⟩ := q2.get ey
    refine ⟨⟨us, vs, u, v, g1, g2, hu, hv⟩, fun z H'' ⟨T, u', v', e1, hT, e2, k1, k2⟩ => ?_⟩
    have e3 := k1 us g1
    have e4 := k2 vs g2
    rw [hu] at e3
    rw [hv] at e4
    cases e3
    cases e4
    subst e1 e2
    exact ⟨fun c o hc => by rw [upd_ne (ne_of_none hc hT)]; exact hc, tup2_new ok hT ru rv⟩
  · rw [zipD_len, q1.length, q2.length] at hi
    omega
theorem di_zipM {X : Cx} {Wx : WX} {e e2 : Expr} {fa : FA} {p pos tpos : PySem.Pos} {elts : List Expr} {kk : Nat} (hm : X.mg "zip" = none) (ha : PA X [e, e2] (tA X.K Wx fa)) (hg : Gl X "zip" := by rfl) (hs : starEach [e, e2] X.env = (false, eval e X.env) :: starEach [e2] X.env := by rfl) (hpl : (backTo pos (starEach [e2] X.env)).any (·.1) = false := by rfl) :
    PI X (.Tuple elts kk tpos) (.Call (.Name "zip" p) [e, e2] [] pos) (tI X.K Wx (dIt oZipM fa)) :=
  (pi_zipM hg hm ha hs hpl).imp fun σ H R q => by
    obtain ⟨δ, S, ρ, ok, en, q⟩ := q
    refine ⟨δ, S, ρ, ok, en, (go_bind q).mono fun vs H1 ⟨ws, S1, ρ1, ok1, st1, r1, q1⟩ => ?_⟩
    unfold oZipM at q1
    split at q1
    · rename_i xs ys
      obtain ⟨v, u, rfl, rv, ru⟩ := relWs2 r1
      obtain ⟨a, us, rfl, h1, h2⟩ : ∃ a vs, v = .ref a ∧ LstF X.K ρ1 H1 a vs ∧ RelDs X.K ρ1 H1 xs vs := by simpa [RelW, RelD] using rv
      obtain ⟨b, zs, rfl, h3, h4⟩ : ∃ a vs, u = .ref a ∧ TupF X.K ρ1 H1 a vs ∧ RelDs X.K ρ1 H1 ys vs := by simpa [RelW, RelD] using ru
      exact ⟨a, b, us, zs, rfl, h1.sq, h3.sq, go_val ok1 q1 (itR_zipM h1 h2 h3 h4)⟩
    · exact go_none q1
end DL
set_option Elab.async false
set_option linter.all false
set_option maxRecDepth 100000
set_option maxHeartbeats 1000000
/-! DL32: texts and tuples of ints of the module; x in a tuple. -/
namespace DL
open PySem PySem.Spec PyProof.Rows L2
section
variable {X : Cx} {Wx : WX} {pos : PySem.Pos}
theorem de_gstr {x z : Str} {t : Tok} (hm : X.mg x = some (.str z t)) (hg : Gl X x := by rfl) (hd : (x == ("__debug__" : Str)) = false := by decide) : PE X (.Name x pos) (tE X.K Wx (dC (.str z))) :=
  de_c (pe_glob hg hm (v := .str z) ⟨t, rfl⟩ hd) fun _ _ => by rw [RelD]
/-- a tuple of ints of the module, as it stands -/
def intsB : List Value → List Int → Bool
  | [], [] => true
  | .int i _ :: vs, j :: js => decide (i = j) && intsB vs js
  | _, _ => false
def tupKB (K : PySem.W.Frag) (a : Addr) (ns : List Int) : Bool := match K.lookup a with
  | some o => decide (o.cls = .type "tuple") && (match o.data with
    | .seq its _ => decide (its.size ≤ sizeLine) && intsB its.toList ns
    | _ => false)
  | none => false
theorem intsB_ok : ∀ {vs : List Value} {ns : List Int}, intsB vs ns = true → Vals (ns.map V.int) vs
  | [], [], _ => .nil
  | .int i t :: vs, j :: js, h => by
    obtain ⟨h1, h2⟩ := Bool.and_eq_true_iff.mp (show (decide (i = j) && intsB vs js) = true from h)
    have e := of_decide_eq_true h1
    subst e
    exact .cons ⟨t, rfl⟩ (intsB_ok h2)
  | [], _ :: _, h => by simp [intsB] at h
  | .none :: _, _, h => by simp [intsB] at h
  | .int _ _ :: _, [], h => by simp [intsB] at h
  | .bool _ :: _, _, h => by simp [intsB] at h
  | .str _ _ :: _, _, h => by simp [intsB] at h
  | .ref _ :: _, _, h => by simp [intsB] at h
  | .type _ :: _, _, h => by simp [intsB] at h
  | .builtin _ :: _, _, h => by simp [intsB] at h
  | .ellipsis :: _, _, h => by simp [intsB] at h
  | .float _ _ :: _, _, h => by simp [intsB] at h
theorem tupKB_ok {K : PySem.W.Frag} {a : Addr} {ns : List Int} (h : tupKB K a ns = true) : KT K a (ns.map V.int) := by
  unfold tupKB at h
  split at h
  · rename_i o ho
    obtain ⟨h1, h2⟩ := Bool.and_eq_true_iff.mp h
    split at h2
    · rename_i its n hd
      obtain ⟨h3, h4⟩ := Bool.and_eq_true_iff.mp h2
      exact ⟨o, its, n, ho, of_decide_eq_true h1, hd, of_decide_eq_true h3, intsB_ok h4⟩
    · cases h2
  · cases h
theorem relDs_ints {K : PySem.W.Frag} {ρ : Ad} {H : Hp} : ∀ ns : List Int, RelDs K ρ H (ns.map D.int) (ns.map V.int)
  | [] => by rw [List.map_nil, RelDs]; rfl
  | n :: ns => by
    rw [List.map_cons, RelDs]
    exact ⟨.int n, ns.map V.int, rfl, by rw [RelD], relDs_ints ns⟩
theorem de_gtup {x : Str} {a : Addr} {ns : List Int} (hm : X.mg x = some (.ref a)) (hk : KT X.K a (ns.map V.int)) (hg : Gl X x := by rfl) (hd : (x == ("__debug__" : Str)) = false := by decide) : PE X (.Name x pos) (tE X.K Wx (dC (.tup (ns.map D.int)))) :=
  de_c (pe_glob hg hm (v := .ref a) rfl hd) fun _ _ => by
    rw [RelD]
    exact ⟨a, _, rfl, .inr hk, relDs_ints ns⟩
/-! ### x in a tuple -/
def rInTp (K : PySem.W.Frag) (neg : Bool) : R2 := fun x y H Q => ∃ d ds, Dp K H x d ∧ Dp K H y (.tuple ds) ∧ SeqAt.shaped d = true ∧ SeqAt.shaped (.tuple ds) = true ∧ Q (.bl (if neg then !(ds.any fun z => PyData.eqv z d) else ds.any fun z => PyData.eqv z d)) H
theorem op_inTp (hu : X.A.units + 65 < cLine) : OpR X (compareOp .In) (rInTp X.K false) := by
  intro pins s σ H x y v u Q I rx ry h
  obtain ⟨d, ds, hd, he, sd, se, q⟩ := h
  obtain ⟨as, r1⟩ := Dp.reads I d x v hd rx
  obtain ⟨bs, r2⟩ := Dp.reads I (.tuple ds) y u he ry
  have pl : (PyData.tuple ds).plain = true := PyData.plain_of_canLay0 _ (SeqAt.canLay_of_shaped se)
  exact SeqAt.in_tuple_data r2 r1 (by simpa [PyData.plain] using pl) (PyData.plain_of_canLay0 _ (SeqAt.canLay_of_shaped sd)) (PyProof.Rows.room_in_shaped sd hu) ⟨.bl _, H, I, rfl, q⟩
def oInTp : F2 := fun x y S => match x, y with
  | .d a, .d (.tup ys) => (match toP a, toPs ys with
    | some p, some ps => if SeqAt.shaped p = true ∧ SeqAt.shaped (.tuple ps) = true then some (.ok (.d (.bl (ps.any fun z => PyData.eqv z p))), S) else none
    | _, _ => none)
  | _, _ => none
theorem oInTp_ok {K : PySem.W.Frag} : OpF K Wx (rInTp K false) oInTp := by
  intro σ ρ S H x y a b Q ok rx ry q
  unfold oInTp at q
  split at q
  · rename_i a0 ys
    split at q
    · rename_i p ps e1 e2
      split at q
      · rename_i hs
        have ry' : RelD K ρ H (.tup ys) b := ry
        have e3 : toP (.tup ys) = some (.tuple ps) := by rw [toP, e2]; rfl
        exact ⟨p, ps, toP_ok a0 a p e1 rx, toP_ok (.tup ys) b _ e3 ry', hs.1, hs.2, go_val ok q (by simp [RelW, RelD])⟩
      · exact go_none q
    · exact go_none q
  · exact go_none q
end
theorem Room.units65 {k : Nat} {A : Around} (r : Room k A) : A.units + 65 < cLine := by have := r.un; omega
end DL
set_option Elab.async false
set_option linter.all false
set_option maxRecDepth 100000
set_option maxHeartbeats 1000000
/-! DL33: outcomes of steps: what each cell is, how great it gets. -/
namespace DL
open PySem L2
/-! ### numbers of a degree -/
structure Nm (D V d : Nat) (p : Num) : Prop where
  fr : Fr p
  nn : 0 ≤ p.1
  dv : p.2 ∣ ((D ^ d : Nat) : Int)
  vl : 4 * p.1 ≤ ((V ^ d : Nat) : Int) * p.2
theorem low_dvd {t b : Int} : (low t b).2 ∣ b := ⟨gcd t b, (Int.ediv_mul_cancel (Int.gcd_dvd_right t b)).symm⟩
theorem fplus_dvd {p q : Num} (hp : Fr p) (hq : Fr q) {M : Int} (hM : 0 < M) (h1 : p.2 ∣ M) (h2 : q.2 ∣ M) : (fplus p q).2 ∣ M := by
  obtain ⟨a, ha⟩ := h1
  obtain ⟨b, hb⟩ := h2
  have e : fplus p q = low (p.1 * a + q.1 * b) M := low_eq (Int.mul_pos hp.1 hq.1) hM (by
    show (p.1 * q.2 + q.1 * p.2) * M = (p.1 * a + q.1 * b) * (p.2 * q.2)
    calc (p.1 * q.2 + q.1 * p.2) * M = p.1 * q.2 * M + q.1 * p.2 * M := by grind
      _ = p.1 * q.2 * (p.2 * a) + q.1 * p.2 * (q.2 * b) := by rw [← ha, ← hb]
      _ = (p.1 * a + q.1 * b) * (p.2 * q.2) := by grind)
  rw [e]
  exact low_dvd
theorem fplus_fr {p q : Num} (hp : Fr p) (hq : Fr q) : Fr (fplus p q) := low_fr (Int.mul_pos hp.1 hq.1)
theorem ftimes_fr {p q : Num} (hp : Fr p) (hq : Fr q) : Fr (ftimes p q) := low_fr (Int.mul_pos hp.1 hq.1)
theorem nonneg_of {x y k m : Int} (hk : 0 < k) (e : x * k = y * m) (hy : 0 ≤ y) (hm : 0 < m) : 0 ≤ x := by
  rcases Int.lt_or_le x 0 with h | h
  · have h1 := Int.mul_neg_of_neg_of_pos h hk
    have h2 := Int.mul_nonneg hy (Int.le_of_lt hm)
    omega
  · exact h
theorem fplus_nn {p q : Num} (hp : Fr p) (hq : Fr q) (h1 : 0 ≤ p.1) (h2 : 0 ≤ q.1) : 0 ≤ (fplus p q).1 := by
  have e : (fplus p q).1 * (p.2 * q.2) = (p.1 * q.2 + q.1 * p.2) * (fplus p q).2 := low_mul
  exact nonneg_of (Int.mul_pos hp.1 hq.1) e (Int.add_nonneg (Int.mul_nonneg h1 (Int.le_of_lt hq.1)) (Int.mul_nonneg h2 (Int.le_of_lt hp.1))) (fplus_fr hp hq).1
theorem ftimes_nn {p q : Num} (hp : Fr p) (hq : Fr q) (h1 : 0 ≤ p.1) (h2 : 0 ≤ q.1) : 0 ≤ (ftimes p q).1 := by
  have e : (ftimes p q).1 * (p.2 * q.2) = (p.1 * q.1) * (ftimes p q).2 := low_mul
  exact nonneg_of (Int.mul_pos hp.1 hq.1) e (Int.mul_nonneg h1 h2) (ftimes_fr hp hq).1
theorem fplus_val {p q : Num} {c A B : Int} (hp : Fr p) (hq : Fr q) (h1 : c * p.1 ≤ A * p.2) (h2 : c * q.1 ≤ B * q.2) : c * (fplus p q).1 ≤ (A + B) * (fplus p q).2 := by
  have e : (fplus p q).1 * (p.2 * q.2) = (p.1 * q.2 + q.1 * p.2) * (fplus p q).2 := low_mul
  have hf := (fplus_fr hp hq).1
  have hk : 0 < p.2 * q.2 := Int.mul_pos hp.1 hq.1
  refine Int.le_of_mul_le_mul_right ?_ hk
  generalize fplus p q = f at *
  have a1 : c * p.1 * q.2 ≤ A * p.2 * q.2 := Int.mul_le_mul_of_nonneg_right h1 (Int.le_of_lt hq.1)
  have a2 : c * q.1 * p.2 ≤ B * q.2 * p.2 := Int.mul_le_mul_of_nonneg_right h2 (Int.le_of_lt hp.1)
  have a3 : (c * p.1 * q.2 + c * q.1 * p.2) * f.2 ≤ (A * p.2 * q.2 + B * q.2 * p.2) * f.2 := Int.mul_le_mul_of_nonneg_right (Int.add_le_add a1 a2) (Int.le_of_lt hf)
  calc c * f.1 * (p.2 * q.2) = c * (f.1 * (p.2 * q.2)) := by grind
    _ = c * ((p.1 * q.2 + q.1 * p.2) * f.2) := by rw [e]
    _ = (c * p.1 * q.2 + c * q.1 * p.2) * f.2 := by grind
    _ ≤ (A * p.2 * q.2 + B * q.2 * p.2) * f.2 := a3
    _ = (A + B) * f.2 * (p.2 * q.2) := by grind
theorem ftimes_val {p q : Num} {A B : Int} (hp : Fr p) (hq : Fr q) (p0 : 0 ≤ p.1) (q0 : 0 ≤ q.1) (h1 : 4 * p.1 ≤ A * p.2) (h2 : 4 * q.1 ≤ B * q.2) : 16 * (ftimes p q).1 ≤ A * B * (ftimes p q).2 := by
  have e : (ftimes p q).1 * (p.2 * q.2) = (p.1 * q.1) * (ftimes p q).2 := low_mul
  have hf := (ftimes_fr hp hq).1
  have hk : 0 < p.2 * q.2 := Int.mul_pos hp.1 hq.1
  refine Int.le_of_mul_le_mul_right ?_ hk
  generalize ftimes p q = f at *
  have a1 : (4 * p.1) * (4 * q.1) ≤ (A * p.2) * (B * q.2) := Int.mul_le_mul h1 h2 (by omega) (by omega)
  have a3 : (4 * p.1) * (4 * q.1) * f.2 ≤ (A * p.2) * (B * q.2) * f.2 := Int.mul_le_mul_of_nonneg_right a1 (Int.le_of_lt hf)
  calc 16 * f.1 * (p.2 * q.2) = 16 * (f.1 * (p.2 * q.2)) := by grind
    _ = 16 * ((p.1 * q.1) * f.2) := by rw [e]
    _ = (4 * p.1) * (4 * q.1) * f.2 := by grind
    _ ≤ (A * p.2) * (B * q.2) * f.2 := a3
    _ = A * B * f.2 * (p.2 * q.2) := by grind
section
variable {D V d e : Nat} {p q : Num}
theorem Nm.mono (h : Nm D V d p) (hV : 1 ≤ V) (hd : d ≤ e) : Nm D V e p := by
  refine ⟨h.fr, h.nn, Int.dvd_trans h.dv ?_, Int.le_trans h.vl ?_⟩
  · exact Int.natCast_dvd_natCast.mpr (Nat.pow_dvd_pow D hd)
  · exact Int.mul_le_mul_of_nonneg_right (by exact_mod_cast Nat.pow_le_pow_right hV hd) (Int.le_of_lt h.fr.1)
theorem Nm.plus (hp : Nm D V d p) (hq : Nm D V d q) (hD : 0 < D) (hV : 2 ≤ V) (hd : 1 ≤ d) : Nm D V (2 * d) (fplus p q) := by
  have hM : 0 < ((D ^ (2 * d) : Nat) : Int) := by exact_mod_cast Nat.pow_pos hD
  have k1 : D ^ d ∣ D ^ (2 * d) := Nat.pow_dvd_pow D (by omega)
  refine ⟨fplus_fr hp.fr hq.fr, fplus_nn hp.fr hq.fr hp.nn hq.nn, fplus_dvd hp.fr hq.fr hM (Int.dvd_trans hp.dv (Int.natCast_dvd_natCast.mpr k1)) (Int.dvd_trans hq.dv (Int.natCast_dvd_natCast.mpr k1)), ?_⟩
  refine Int.le_trans (fplus_val hp.fr hq.fr hp.vl hq.vl) (Int.mul_le_mul_of_nonneg_right ?_ (Int.le_of_lt (fplus_fr hp.fr hq.fr).1))
  have h2 : V ^ d + V ^ d ≤ V ^ (2 * d) := by
    have e1 : V ^ (2 * d) = V ^ d * V ^ d := by rw [Nat.two_mul, Nat.pow_add]
    have e2 : 2 ≤ V ^ d := Nat.le_trans hV (by
      have := Nat.pow_le_pow_right (show 0 < V by omega) hd
      rwa [Nat.pow_one] at this)
    have e3 : 2 * V ^ d ≤ V ^ d * V ^ d := Nat.mul_le_mul_right _ e2
    omega
  exact_mod_cast h2
/-- a sum of up to so many products -/
theorem Nm.sums {α : Type} {f g : α → Num} (hD : 0 < D) : ∀ {xs : List α} {a : Num} {n : Nat}, Fr a → 0 ≤ a.1 → a.2 ∣ ((D ^ (2 * d) : Nat) : Int) → 16 * a.1 ≤ (((n * V ^ (2 * d) : Nat)) : Int) * a.2 → (∀ x ∈ xs, Nm D V d (f x) ∧ Nm D V d (g x)) →
    Fr (xs.foldl (fun a x => fplus a (ftimes (f x) (g x))) a) ∧ 0 ≤ (xs.foldl (fun a x => fplus a (ftimes (f x) (g x))) a).1 ∧ (xs.foldl (fun a x => fplus a (ftimes (f x) (g x))) a).2 ∣ ((D ^ (2 * d) : Nat) : Int) ∧
      16 * (xs.foldl (fun a x => fplus a (ftimes (f x) (g x))) a).1 ≤ ((((n + xs.length) * V ^ (2 * d) : Nat)) : Int) * (xs.foldl (fun a x => fplus a (ftimes (f x) (g x))) a).2
  | [], a, n, h1, h2, h3, h4, _ => ⟨h1, h2, h3, h4⟩
  | x :: xs, a, n, h1, h2, h3, h4, h => by
    obtain ⟨hf, hg⟩ := h x List.mem_cons_self
    have hM : 0 < ((D ^ (2 * d) : Nat) : Int) := by exact_mod_cast Nat.pow_pos hD
    have t1 := ftimes_fr hf.fr hg.fr
    have t2 := ftimes_nn hf.fr hg.fr hf.nn hg.nn
    have t3 : (ftimes (f x) (g x)).2 ∣ ((D ^ (2 * d) : Nat) : Int) := by
      have e1 : ((D ^ (2 * d) : Nat) : Int) = ((D ^ d : Nat) : Int) * ((D ^ d : Nat) : Int) := by
        rw [Nat.two_mul, Nat.pow_add]
        exact_mod_cast rfl
      rw [e1]
      exact Int.dvd_trans low_dvd (Int.mul_dvd_mul hf.dv hg.dv)
    have t4 := ftimes_val hf.fr hg.fr hf.nn hg.nn hf.vl hg.vl
    have e2 : ((V ^ d : Nat) : Int) * ((V ^ d : Nat) : Int) = ((V ^ (2 * d) : Nat) : Int) := by
      rw [Nat.two_mul, Nat.pow_add]
      exact_mod_cast rfl
    rw [e2] at t4
    have s4 := fplus_val h1 t1 h4 t4
    have e3 : (((n * V ^ (2 * d) : Nat)) : Int) + ((V ^ (2 * d) : Nat) : Int) = ((((n + 1) * V ^ (2 * d) : Nat)) : Int) := by
      rw [Nat.add_mul, Nat.one_mul]
      exact_mod_cast rfl
    rw [e3] at s4
    have z := Nm.sums hD (xs := xs) (n := n + 1) (fplus_fr h1 t1) (fplus_nn h1 t1 h2 t2) (fplus_dvd h1 t1 hM h3 t3) s4 fun y hy => h y (List.mem_cons_of_mem _ hy)
    rw [List.foldl_cons, List.length_cons, show n + (xs.length + 1) = n + 1 + xs.length by omega]
    exact z
theorem nm_frb {N : Nat} {p : Num} {n : Nat} (hn : n ≤ 4) (h1 : Fr p) (h2 : 0 ≤ p.1) (h3 : p.2 ∣ ((D ^ d : Nat) : Int)) (h4 : 16 * p.1 ≤ (((n * V ^ d : Nat)) : Int) * p.2) (hD : 0 < D) (hV : 1 ≤ V) (hB : (V * D) ^ d < 2 ^ N) : FrB N p := by
  have hM : 0 < ((D ^ d : Nat) : Int) := by exact_mod_cast Nat.pow_pos hD
  have le2 : p.2 ≤ ((D ^ d : Nat) : Int) := Int.le_of_dvd hM h3
  have kV : (1 : Int) ≤ ((V ^ d : Nat) : Int) := by exact_mod_cast Nat.one_le_pow d V hV
  have hB2 : ((V ^ d : Nat) : Int) * ((D ^ d : Nat) : Int) < 2 ^ N := by
    rw [Nat.mul_pow] at hB
    exact_mod_cast hB
  have p2 : p.2 < 2 ^ N := by
    have : (1 : Int) * p.2 ≤ ((V ^ d : Nat) : Int) * ((D ^ d : Nat) : Int) := Int.mul_le_mul kV le2 (Int.le_of_lt h1.1) (by omega)
    omega
  have p1 : p.1 < 2 ^ N := by
    have a1 : (((n * V ^ d : Nat)) : Int) * p.2 ≤ 4 * (((V ^ d : Nat) : Int) * ((D ^ d : Nat) : Int)) := by
      have a2 : (((n * V ^ d : Nat)) : Int) ≤ 4 * ((V ^ d : Nat) : Int) := by exact_mod_cast Nat.mul_le_mul_right _ hn
      have a3 : (((n * V ^ d : Nat)) : Int) * p.2 ≤ (4 * ((V ^ d : Nat) : Int)) * ((D ^ d : Nat) : Int) := Int.mul_le_mul a2 le2 (Int.le_of_lt h1.1) (by omega)
      rw [Int.mul_assoc] at a3
      exact a3
    omega
  exact ⟨h1, by unfold Bd; have : (p.1.natAbs : Int) < ((2 ^ N : Nat) : Int) := by rw [Int.natAbs_of_nonneg h2]; exact_mod_cast p1
                exact_mod_cast this, by unfold Bd; have : (p.2.natAbs : Int) < ((2 ^ N : Nat) : Int) := by rw [Int.natAbs_of_nonneg (Int.le_of_lt h1.1)]; exact_mod_cast p2
                                        exact_mod_cast this⟩
theorem Nm.frb {N : Nat} (h : Nm D V d p) (hD : 0 < D) (hV : 1 ≤ V) (hB : (V * D) ^ d < 2 ^ N) : FrB N p := nm_frb (n := 4) (by decide) h.fr h.nn h.dv (by
  have := h.vl
  have e : (((4 * V ^ d : Nat)) : Int) = 4 * ((V ^ d : Nat) : Int) := by exact_mod_cast rfl
  rw [e, Int.mul_assoc]
  omega) hD hV hB
end
end DL
set_option Elab.async false
set_option linter.all false
set_option maxRecDepth 100000
set_option maxHeartbeats 1000000
/-! DL34: what each step makes of the rows of outcomes ahead. -/
namespace DL
open PySem L2
abbrev Nss := List (List (List Num))
/-- where a cell of a step's grid comes from -/
def srcS (shs : List Sh) : St' → Nat → Nat → Nat × Nat × Nat
  | .turned a, i, j => (a, j, i)
  | .piece a y x _ _, i, j => (a, y + i, x + j)
  | .beside a b, i, j => if j < (shs.getD a (0, 0)).2 then (a, i, j) else (b, i, j - (shs.getD a (0, 0)).2)
  | .above a b, i, j => if i < (shs.getD a (0, 0)).1 then (a, i, j) else (b, i - (shs.getD a (0, 0)).1, j)
  | .plus a _, i, j => (a, i, j)
  | .times a _, i, j => (a, i, j)
theorem src_beside {shs : List Sh} {a b i j : Nat} : srcS shs (.beside a b) i j = if j < (shs.getD a (0, 0)).2 then (a, i, j) else (b, i, j - (shs.getD a (0, 0)).2) := rfl
theorem src_above {shs : List Sh} {a b i j : Nat} : srcS shs (.above a b) i j = if i < (shs.getD a (0, 0)).1 then (a, i, j) else (b, i - (shs.getD a (0, 0)).1, j) := rfl
def getN (Rs : Nss) (a i j : Nat) : Num := ((Rs.getD a []).getD i []).getD j (0, 1)
def prodN (Rs : Nss) (a b i j k : Nat) : Num := (List.range k).foldl (fun acc q => fplus acc (ftimes (getN Rs a i q) (getN Rs b q j))) (0, 1)
def cellS (shs : List Sh) (Rs : Nss) (st : St') (i j : Nat) : Num := match st with
  | .plus a b => fplus (getN Rs a i j) (getN Rs b i j)
  | .times a b => prodN Rs a b i j (shs.getD b (0, 0)).1
  | st => getN Rs (srcS shs st i j).1 (srcS shs st i j).2.1 (srcS shs st i j).2.2
def rowsS (shs : List Sh) (Rs : Nss) (st : St') (s : Sh) : List (List Num) := (List.range s.1).map fun i => (List.range s.2).map fun j => cellS shs Rs st i j
def ShOk (s : Sh) (rows : List (List Num)) : Prop := rows.length = s.1 ∧ ∀ r ∈ rows, r.length = s.2
def ShRs (shs : List Sh) (Rs : Nss) : Prop := Rs.length = shs.length ∧ ∀ (a : Nat) (s : Sh), shs[a]? = some s → ShOk s (Rs.getD a [])
def AllN (P : Num → Prop) (Rs : Nss) : Prop := ∀ rows ∈ Rs, ∀ r ∈ rows, ∀ p ∈ r, P p
section
variable {shs out : List Sh} {Rs full : Nss} {a b i j : Nat} {s : Sh} {st : St'}
theorem shD (h : shs[a]? = some s) : shs.getD a (0, 0) = s := by simp [List.getD, h]
theorem getD_mem {rows : List (List Num)} (h : ShRs shs Rs) (ha : shs[a]? = some s) : Rs.getD a [] ∈ Rs := by
  have hi : a < Rs.length := by rw [h.1]; exact (List.getElem?_eq_some_iff.mp ha).1
  have e : Rs.getD a [] = Rs[a] := by simp [List.getD, hi]
  rw [e]
  exact List.getElem_mem hi
theorem ShRs.row (h : ShRs shs Rs) (ha : shs[a]? = some s) (hi : i < s.1) : i < (Rs.getD a []).length ∧ (Rs.getD a []).getD i [] ∈ Rs.getD a [] ∧ ((Rs.getD a []).getD i []).length = s.2 := by
  have o := h.2 a s ha
  have hl : i < (Rs.getD a []).length := by rw [o.1]; exact hi
  have e : (Rs.getD a []).getD i [] = (Rs.getD a [])[i] := by
    generalize Rs.getD a [] = rows at *
    simp [List.getD, hl]
  refine ⟨hl, ?_, ?_⟩
  · rw [e]; exact List.getElem_mem hl
  · rw [e]; exact o.2 _ (List.getElem_mem hl)
theorem ShRs.num (h : ShRs shs Rs) {P : Num → Prop} (hp : AllN P Rs) (ha : shs[a]? = some s) (hi : i < s.1) (hj : j < s.2) : P (getN Rs a i j) := by
  obtain ⟨h1, h2, h3⟩ := h.row ha hi
  have hj' : j < ((Rs.getD a []).getD i []).length := by rw [h3]; exact hj
  have e : getN Rs a i j = ((Rs.getD a []).getD i [])[j] := by
    unfold getN
    generalize (Rs.getD a []).getD i [] = r at *
    simp [List.getD, hj']
  rw [e]
  exact hp _ (getD_mem (rows := []) h ha) _ h2 _ (List.getElem_mem hj')
/-- where it comes from lies within -/
theorem src_in (h : Fit shs st s) (ho : ∀ (a : Nat) (s : Sh), shs[a]? = some s → out[a]? = some s) (hi : i < s.1) (hj : j < s.2) (h1 : ∀ a b, st ≠ .plus a b) (h2 : ∀ a b, st ≠ .times a b) :
    ∃ s', shs[(srcS out st i j).1]? = some s' ∧ (srcS out st i j).2.1 < s'.1 ∧ (srcS out st i j).2.2 < s'.2 := by
  cases h with
  | plus ha hb => exact absurd rfl (h1 _ _)
  | times ha hb => exact absurd rfl (h2 _ _)
  | turned ha => exact ⟨_, ha, hj, hi⟩
  | @piece a y x h w r c ha h1 w1 hr hc =>
    dsimp only at hi hj
    exact ⟨_, ha, by show y + i < r; omega, by show x + j < c; omega⟩
  | @beside a b r c d ha hb =>
    have e := shD (ho _ _ ha)
    dsimp only at hi hj
    rw [src_beside, e]
    dsimp only
    split
    · rename_i hjc
      exact ⟨_, ha, hi, hjc⟩
    · exact ⟨_, hb, hi, by show j - c < d; omega⟩
  | @above a b r t c ha hb =>
    have e := shD (ho _ _ ha)
    dsimp only at hi hj
    rw [src_above, e]
    dsimp only
    split
    · rename_i hir
      exact ⟨_, ha, hir, hj⟩
    · exact ⟨_, hb, by show i - r < t; omega, hj⟩
theorem ch_pre {n : Nat} {sts : List St'} (c : Chain n shs sts out) : ∀ (a : Nat) (s : Sh), shs[a]? = some s → out[a]? = some s := by
  induction c with
  | nil => exact fun _ _ h => h
  | cons _ _ _ ih =>
    refine fun a s h => ih a s ?_
    rw [List.getElem?_append_left (List.getElem?_eq_some_iff.mp h).1]
    exact h
theorem getN_take (h : full.take Rs.length = Rs) (ha : a < Rs.length) : full.getD a [] = Rs.getD a [] := by
  have e : Rs.getD a [] = (full.take Rs.length).getD a [] := by rw [h]
  rw [e]
  simp only [List.getD, List.getElem?_take, if_pos ha]
/-- a cell looks at what is ahead alone -/
theorem cellS_same (h : Fit shs st s) (ho : ∀ (a : Nat) (s : Sh), shs[a]? = some s → out[a]? = some s) (hr : ShRs shs Rs) (ht : full.take Rs.length = Rs) (hi : i < s.1) (hj : j < s.2) : cellS shs Rs st i j = cellS out full st i j := by
  have key : ∀ {a : Nat} {s : Sh}, shs[a]? = some s → ∀ i j, getN full a i j = getN Rs a i j := fun {a s} ha i j => by
    have hl : a < Rs.length := by rw [hr.1]; exact (List.getElem?_eq_some_iff.mp ha).1
    unfold getN
    rw [getN_take ht hl]
  have sd : ∀ {a : Nat} {s : Sh}, shs[a]? = some s → out.getD a (0, 0) = shs.getD a (0, 0) := fun {a s} ha => by rw [shD ha, shD (ho _ _ ha)]
  have h' := h
  cases h with
  | plus ha hb =>
    show fplus _ _ = fplus _ _
    rw [key ha, key hb]
  | @times a b r k c ha hb =>
    show prodN Rs a b i j _ = prodN full a b i j _
    rw [sd hb]
    unfold prodN
    refine congrFun (congrArg (fun f => List.foldl f (0, 1)) ?_) _
    funext acc q
    rw [key ha, key hb]
  | @turned a r c ha => exact (key ha _ _).symm
  | @piece a y x h w r c ha h1 w1 hr hc => exact (key ha _ _).symm
  | @beside a b r c d ha hb =>
    show getN Rs _ _ _ = getN full _ _ _
    rw [src_beside, src_beside, sd ha]
    split
    · exact (key ha _ _).symm
    · exact (key hb _ _).symm
  | @above a b r t c ha hb =>
    show getN Rs _ _ _ = getN full _ _ _
    rw [src_above, src_above, sd ha]
    split
    · exact (key ha _ _).symm
    · exact (key hb _ _).symm
theorem rowsS_ok : ShOk s (rowsS shs Rs st s) := ⟨by simp [rowsS], fun r hr => by
  obtain ⟨i, _, rfl⟩ := List.mem_map.mp hr
  simp⟩
theorem ShRs.snoc {rows : List (List Num)} (h : ShRs shs Rs) (ho : ShOk s rows) : ShRs (shs ++ [s]) (Rs ++ [rows]) := by
  refine ⟨by simp [h.1], fun a t ht => ?_⟩
  by_cases ha : a < shs.length
  · rw [List.getElem?_append_left ha] at ht
    have e : (Rs ++ [rows]).getD a [] = Rs.getD a [] := by
      have ha' : a < Rs.length := by rw [h.1]; exact ha
      simp only [List.getD, List.getElem?_append_left ha']
    rw [e]
    exact h.2 a t ht
  · have ha2 : a = shs.length := by
      have := (List.getElem?_eq_some_iff.mp ht).1
      simp at this
      omega
    subst ha2
    have e : (Rs ++ [rows]).getD shs.length [] = rows := by
      rw [← h.1]
      simp [List.getD]
    rw [e]
    have : s = t := by simpa using ht
    rw [← this]
    exact ho
theorem cellS_nm {D V d : Nat} (h : Fit shs st s) (h4 : ∀ s ∈ shs, ShLe 4 s) (hr : ShRs shs Rs) (hn : AllN (Nm D V d) Rs) (hD : 0 < D) (hV : 2 ≤ V) (hd : 1 ≤ d) (hi : i < s.1) (hj : j < s.2) : Nm D V (2 * d) (cellS shs Rs st i j) := by
  have up : ∀ {p : Num}, Nm D V d p → Nm D V (2 * d) p := fun z => z.mono (by omega) (by omega)
  have h' := h
  cases h with
  | plus ha hb => exact (hr.num hn ha hi hj).plus (hr.num hn hb hi hj) hD hV hd
  | @times a b r k c ha hb =>
    dsimp only at hi hj
    have k4 : k ≤ 4 := (h4 _ (List.mem_of_getElem? ha)).2.2.2
    show Nm D V (2 * d) (prodN Rs a b i j _)
    rw [shD hb]
    unfold prodN
    have z := Nm.sums (D := D) (V := V) (d := d) (f := fun q => getN Rs a i q) (g := fun q => getN Rs b q j) hD (xs := List.range k) (a := (0, 1)) (n := 0) ⟨by decide, by decide⟩ (by decide) (Int.one_dvd _) (by simp) fun q hq => ⟨hr.num hn ha hi (List.mem_range.mp hq), hr.num hn hb (List.mem_range.mp hq) hj⟩
    obtain ⟨z1, z2, z3, z4⟩ := z
    rw [List.length_range, Nat.zero_add] at z4
    refine ⟨z1, z2, z3, ?_⟩
    dsimp only
    generalize (List.range k).foldl (fun acc q => fplus acc (ftimes (getN Rs a i q) (getN Rs b q j))) (0, 1) = x at *
    have e1 : (((k * V ^ (2 * d) : Nat)) : Int) * x.2 ≤ 4 * (((V ^ (2 * d) : Nat) : Int) * x.2) := by
      rw [← Int.mul_assoc]
      refine Int.mul_le_mul_of_nonneg_right ?_ (Int.le_of_lt z1.1)
      exact_mod_cast Nat.mul_le_mul_right _ k4
    omega
  | turned ha =>
    obtain ⟨s', q1, q2, q3⟩ := src_in (out := shs) h' (fun _ _ h => h) hi hj (fun _ _ e => nomatch e) (fun _ _ e => nomatch e)
    exact up (hr.num hn q1 q2 q3)
  | piece ha _ _ _ _ =>
    obtain ⟨s', q1, q2, q3⟩ := src_in (out := shs) h' (fun _ _ h => h) hi hj (fun _ _ e => nomatch e) (fun _ _ e => nomatch e)
    exact up (hr.num hn q1 q2 q3)
  | beside ha hb =>
    obtain ⟨s', q1, q2, q3⟩ := src_in (out := shs) h' (fun _ _ h => h) hi hj (fun _ _ e => nomatch e) (fun _ _ e => nomatch e)
    exact up (hr.num hn q1 q2 q3)
  | above ha hb =>
    obtain ⟨s', q1, q2, q3⟩ := src_in (out := shs) h' (fun _ _ h => h) hi hj (fun _ _ e => nomatch e) (fun _ _ e => nomatch e)
    exact up (hr.num hn q1 q2 q3)
/-- all rows of outcomes -/
theorem run_ex {D V : Nat} (hD : 0 < D) (hV : 2 ≤ V) {sts : List St'} (c : Chain 4 shs sts out) : ∀ {Rs : Nss} {d : Nat}, 1 ≤ d → (∀ s ∈ shs, ShLe 4 s) → ShRs shs Rs → AllN (Nm D V d) Rs →
    ∃ full : Nss, ShRs out full ∧ full.take Rs.length = Rs ∧ AllN (Nm D V (d * 2 ^ sts.length)) full ∧ ∀ (i : Nat) (hi : i < sts.length), full.getD (shs.length + i) [] = rowsS out full sts[i] (out.getD (shs.length + i) (0, 0)) := by
  induction c with
  | nil => exact fun {Rs d} hd h4 hr hn => ⟨Rs, hr, List.take_length, by simpa using hn, fun i hi => absurd hi (by simp)⟩
  | @cons shs st s sts out h hs r ih =>
    intro Rs d hd h4 hr hn
    have hr2 := hr.snoc (rowsS_ok (shs := shs) (Rs := Rs) (st := st) (s := s))
    have hn2 : AllN (Nm D V (2 * d)) (Rs ++ [rowsS shs Rs st s]) := fun rows hrows x hx p hp => by
      rcases List.mem_append.mp hrows with z | z
      · exact (hn rows z x hx p hp).mono (by omega) (by omega)
      · simp at z
        rw [z] at hx
        obtain ⟨i, hi, rfl⟩ := List.mem_map.mp hx
        obtain ⟨j, hj, rfl⟩ := List.mem_map.mp hp
        exact cellS_nm h h4 hr hn hD hV hd (List.mem_range.mp hi) (List.mem_range.mp hj)
    obtain ⟨full, f1, f2, f3, f4⟩ := ih (Rs := Rs ++ [rowsS shs Rs st s]) (d := 2 * d) (by omega) (fun t ht => by
      rcases List.mem_append.mp ht with z | z
      · exact h4 t z
      · simp at z; rw [z]; exact hs) hr2 hn2
    have ft : full.take Rs.length = Rs := by
      have e := congrArg (List.take Rs.length) f2
      rw [List.take_take, List.take_left] at e
      rwa [Nat.min_eq_left (by simp)] at e
    have ho := ch_pre (Chain.cons h hs r)
    refine ⟨full, f1, ft, ?_, fun i hi => ?_⟩
    · have e : d * 2 ^ (st :: sts).length = 2 * d * 2 ^ sts.length := by rw [List.length_cons, Nat.pow_succ]; grind
      rw [e]
      exact f3
    · cases i with
      | zero =>
        have os : out.getD (shs.length + 0) (0, 0) = s := shD (ch_pre r _ _ (by simp))
        have e1 : full.getD (shs.length + 0) [] = rowsS shs Rs st s := by
          have e2 := getN_take (Rs := Rs ++ [rowsS shs Rs st s]) f2 (a := shs.length) (by simp [hr.1])
          show full.getD shs.length [] = _
          rw [e2, ← hr.1]
          simp [List.getD]
        rw [e1, os]
        unfold rowsS
        refine List.map_congr_left fun i hi => List.map_congr_left fun j hj => ?_
        exact cellS_same h ho hr ft (List.mem_range.mp hi) (List.mem_range.mp hj)
      | succ i =>
        have z := f4 i (by simpa using hi)
        rw [List.length_append] at z
        have e : shs.length + [s].length + i = shs.length + (i + 1) := by simp; omega
        rw [e] at z
        exact z
end
end DL
set_option Elab.async false
set_option linter.all false
set_option maxRecDepth 100000
set_option maxHeartbeats 1000000
/-! DL35: comprehensions with two sources. -/
namespace DL
open PySem PySem.Spec PyProof.Rows L2
section
open Classical
/-- the inner source's items -/
noncomputable def lcI (tf1 : Tg) (fe : FE) (g : Grd) (δ : DEnv) : List W → Store → List W → Rs (List W)
  | [], S, acc => if okG g S then some (.ok acc, S) else none
  | w :: ws, S, acc => if okG g S ∧ acc.length < sizeLine then (match tf1 w δ S with
    | none => none
    | some (δ1, S1) => (match fe δ1 S1 with
      | some (.ok u, S2) => lcI tf1 fe g δ ws S2 (acc ++ [u])
      | _ => none)) else none
noncomputable def lcO (tf : Tg) (fi1 : FI) (tf1 : Tg) (fe : FE) (vs1 : List Nat) (g : Grd) (δ : DEnv) : List W → Store → List W → Rs (List W)
  | [], S, acc => if okG g S then some (.ok acc, S) else none
  | w :: ws, S, acc => if okG g S then (match tf w δ S with
    | none => none
    | some (δ1, S1) => (match fi1 δ1 S1 with
      | some (.ok p, S2) => (match lcI tf1 fe p.2 (wipeE δ1 vs1) p.1 S2 acc with
        | some (.ok acc', S3) => lcO tf fi1 tf1 fe vs1 g δ ws S3 acc'
        | _ => none)
      | _ => none)) else none
noncomputable def dLc2 (fin : List W → Store → Rs W) (fi : FI) (tf : Tg) (fi1 : FI) (tf1 : Tg) (fe : FE) (vs vs1 : List Nat) : FE := fun δ S => (fi δ S).bind fun p S1 => (lcO tf fi1 tf1 fe vs1 p.2 (wipeE δ vs) p.1 S1 []).bind fin
end
section
variable {X : Cx} {Wx : WX} {elt tg iter tg1 iter1 c : Expr} {fi fi1 : FI} {fe : FE} {tf tf1 : Tg} {pos : PySem.Pos}
theorem impLc2 {K : PySem.W.Frag} {fin : List W → Store → Rs W} (hf : FinOk K fin) (vs vs1 : List Nat) (σ : L2.St) (H : Hp) (Q : VK) (q : tE K Wx (dLc2 fin fi tf fi1 tf1 fe vs vs1) σ H Q) :
    tLc2 (tI K Wx fi) (tG K vs tf) (tT K WF ftYes) (tI K WF fi1) (tG K vs1 tf1) (tT K WF ftYes) (tE K WF fe) vs vs1 σ H Q := by
  obtain ⟨δ, S, ρ, ok, en, q⟩ := q
  refine ⟨δ, S, ρ, ok, en, (go_bind q).mono fun J H1 ⟨p, S1, ρ1, ok1, st1, it, q1⟩ => ?_⟩
  intro D hD
  obtain ⟨okD, stD⟩ := ok_keep ok1 (o := .lst []) hD
  have hdn : D ∉ ρ1.rs := (ok1.off hD).2
  have en1 := (en.mono st1).wipe vs
  refine ⟨fun i m H' => m = p.1.length - i ∧ i ≤ p.1.length ∧ ∃ S' ρ' acc vacc, Ok K ρ' S' H' ∧ Stw ρ1 H1 ρ' H' ∧ ρ'.rs = D :: ρ1.rs ∧ (∀ a o, a ∈ ρ1.rs → H1 a = some o → H' a = some o) ∧ H' D = some (.lst vacc) ∧ RelWs K ρ' H' acc vacc ∧ Go K Wx σ ρ1 H1 (RelW K) ((lcO tf fi1 tf1 fe vs1 p.2 (wipeE δ vs) (p.1.drop i) S' acc).bind fin) Q,
    ⟨p.1.length, rfl, Nat.zero_le _, S1, ρ1.keep D, [], [], okD, stD, rfl, fun a o ha e => by rw [upd_ne (ne_of_none e hD)]; exact e, upd_same, rfl, q1⟩, ?_⟩
  rintro i m H' ⟨rfl, hi, S', ρ', acc, vacc, ok', st', hrs, kr, he, ra, q'⟩
  have hmem : D ∈ ρ'.rs := by rw [hrs]; exact List.mem_cons_self
  by_cases hgd : okG p.2 S'
  · obtain ⟨it1, it2⟩ := it ρ' S' H' ok' st' hgd i
    by_cases hlt : i < p.1.length
    · refine .inr ?_
      have hdrop : p.1.drop i = p.1[i] :: p.1.drop (i + 1) := List.drop_eq_getElem_cons hlt
      rw [hdrop] at q'
      obtain ⟨hgo, hyl⟩ := it1 p.1[i] (List.getElem?_eq_getElem hlt)
      unfold lcO at q'
      rw [if_pos hgd] at q'
      refine ⟨hgo, fun H2 => i + 1 ≤ p.1.length ∧ ∃ S' ρ' acc vacc, Ok K ρ' S' H2 ∧ Stw ρ1 H1 ρ' H2 ∧ ρ'.rs = D :: ρ1.rs ∧ (∀ a o, a ∈ ρ1.rs → H1 a = some o → H2 a = some o) ∧ H2 D = some (.lst vacc) ∧ RelWs K ρ' H2 acc vacc ∧ Go K Wx σ ρ1 H1 (RelW K) ((lcO tf fi1 tf1 fe vs1 p.2 (wipeE δ vs) (p.1.drop (i + 1)) S' acc).bind fin) Q,
        fun H2 n2 => ⟨p.1.length - (i + 1), by omega, rfl, n2⟩, fun x H'' y => ?_⟩
      obtain ⟨kp, rx⟩ := hyl x H'' y
      obtain ⟨ok2, st2⟩ := ok_grow ok' kp
      cases e1 : tf p.1[i] (wipeE δ vs) S' with
      | none => simp only [e1] at q'; exact go_none q'
      | some z =>
        obtain ⟨δ1, S2⟩ := z
        simp only [e1] at q'
        refine ⟨p.1[i], wipeE δ vs, S', ρ', δ1, S2, ok2, (en1.monoW st').mono st2, rx, e1, fun ρ3 H3 σ3 ok3 st3 en3 w3 => ⟨w3.trans (wipe_idem σ vs), ?_⟩⟩
        have st13 := st2.trans st3
        refine ⟨δ1, S2, ρ3, ok3, en3, _, _, rfl, fun ρ4 H4 ok4 st4 b' hb' => ?_⟩
        obtain rfl : true = b' := hb'
        have st14 := st13.trans st4
        refine iteT ?_
        cases e2 : fi1 δ1 S2 with
        | none => simp only [e2] at q'; exact go_none q'
        | some z =>
          obtain ⟨r1, S3⟩ := z
          cases r1 with
          | error x => simp only [e2] at q'; exact go_none q'
          | ok p1 =>
            simp only [e2] at q'
            refine ⟨δ1, S2, ρ4, ok4, en3.mono st4, _, _, e2, fun ρ5 H5 ok5 st5 J1 iti => ?_⟩
            have st15 := st14.trans st5
            have hrs5 := st15.rs.trans hrs
            have en5 := ((en3.mono st4).mono st5).wipe vs1
            refine ⟨fun j k H6 => k = p1.1.length - j ∧ j ≤ p1.1.length ∧ ∃ S' ρ' acc vacc, Ok K ρ' S' H6 ∧ Stw ρ5 H5 ρ' H6 ∧ Stw ρ1 H1 ρ' H6 ∧ ρ'.rs = D :: ρ1.rs ∧ (∀ a o, a ∈ ρ1.rs → H1 a = some o → H6 a = some o) ∧ H6 D = some (.lst vacc) ∧ RelWs K ρ' H6 acc vacc ∧
              Go K Wx σ ρ1 H1 (RelW K) (Rs.bind (match lcI tf1 fe p1.2 (wipeE δ1 vs1) (p1.1.drop j) S' acc with
                | some (.ok acc', S3) => lcO tf fi1 tf1 fe vs1 p.2 (wipeE δ vs) (p.1.drop (i + 1)) S3 acc'
                | _ => none) fin) Q,
              ⟨p1.1.length, rfl, Nat.zero_le _, S3, ρ5, acc, vacc, ok5, ⟨fun _ _ e _ => e, fun _ _ _ z => z, Nat.le_refl _, fun _ _ _ z => z⟩, st'.trans st15.toStw, hrs5, fun a o ha e => st15.kr a o (by rw [hrs]; exact List.mem_cons_of_mem _ ha) (kr a o ha e), st15.kr D _ hmem he, ra.mono st15, q'⟩, ?_⟩
            rintro j k H6 ⟨rfl, hj, S6, ρ6, acc6, vacc6, ok6, s56, s16, hrs6, kr6, he6, ra6, q6⟩
            have hmem6 : D ∈ ρ6.rs := by rw [hrs6]; exact List.mem_cons_self
            by_cases hg1 : okG p1.2 S6
            · obtain ⟨jt1, jt2⟩ := iti ρ6 S6 H6 ok6 s56 hg1 j
              by_cases hlj : j < p1.1.length
              · refine .inr ?_
                have hdj : p1.1.drop j = p1.1[j] :: p1.1.drop (j + 1) := List.drop_eq_getElem_cons hlj
                rw [hdj] at q6
                obtain ⟨hgo1, hyl1⟩ := jt1 p1.1[j] (List.getElem?_eq_getElem hlj)
                unfold lcI at q6
                by_cases hz : acc6.length < sizeLine
                · rw [if_pos ⟨hg1, hz⟩] at q6
                  refine ⟨hgo1, _, fun H7 n7 => ⟨p1.1.length - (j + 1), by omega, n7⟩, fun x7 H7 y7 => ?_⟩
                  obtain ⟨kp7, rx7⟩ := hyl1 x7 H7 y7
                  obtain ⟨ok7, st7⟩ := ok_grow ok6 kp7
                  cases e7 : tf1 p1.1[j] (wipeE δ1 vs1) S6 with
                  | none => simp only [e7] at q6; exact go_none q6
                  | some z =>
                    obtain ⟨δ8, S8⟩ := z
                    simp only [e7] at q6
                    refine ⟨p1.1[j], wipeE δ1 vs1, S6, ρ6, δ8, S8, ok7, (en5.monoW s56).mono st7, rx7, e7, fun ρ8 H8 σ8 ok8 st8 en8 w8 => ⟨w8.trans (wipe_idem σ3 vs1), ?_⟩⟩
                    have st78 := st7.trans st8
                    refine ⟨δ8, S8, ρ8, ok8, en8, _, _, rfl, fun ρ9 H9 ok9 st9 b9 hb9 => ?_⟩
                    obtain rfl : true = b9 := hb9
                    have st79 := st78.trans st9
                    refine iteT ?_
                    cases e9 : fe δ8 S8 with
                    | none => simp only [e9] at q6; exact go_none q6
                    | some z =>
                      obtain ⟨u, S10⟩ := z
                      cases u with
                      | error x => simp only [e9] at q6; exact go_none q6
                      | ok u =>
                        simp only [e9] at q6
                        refine ⟨δ8, S8, ρ9, ok9, en8.mono st9, _, _, e9, fun ρa Ha oka sta v rv => ?_⟩
                        have st7a := st79.trans sta
                        have hrsa := st7a.rs.trans hrs6
                        have hmema : D ∈ ρa.rs := by rw [hrsa]; exact List.mem_cons_self
                        have hea := st7a.kr D _ hmem6 he6
                        have sw := stw_res (H := Ha) (o := .lst (vacc6 ++ [v])) hmema
                        refine ⟨vacc6, hea, by rw [← ra6.length]; exact hz, rfl, hlj, S10, ρa, acc6 ++ [u], vacc6 ++ [v], ok_res oka hmema, (s56.trans st7a.toStw).trans sw, (s16.trans st7a.toStw).trans sw, hrsa, fun a o ha e => ?_, upd_same, ((ra6.mono st7a).monoW sw).app ⟨v, [], rfl, rv.monoW sw, rfl⟩, q6⟩
                        rw [upd_ne (fun z => by subst z; exact hdn ha)]
                        exact st7a.kr a o (by rw [hrs6]; exact List.mem_cons_of_mem _ ha) (kr6 a o ha e)
                · rw [if_neg (fun z => hz z.2)] at q6
                  exact go_none q6
              · have e : j = p1.1.length := by omega
                subst e
                rw [List.drop_length] at q6
                unfold lcI at q6
                rw [if_pos hg1] at q6
                exact .inl ⟨jt2 (Nat.le_refl _), hlt, S6, ρ6, acc6, vacc6, ok6, s16, hrs6, kr6, he6, ra6, q6⟩
            · cases hd : p1.1.drop j with
              | nil => rw [hd] at q6; unfold lcI at q6; rw [if_neg hg1] at q6; exact go_none q6
              | cons w ws => rw [hd] at q6; unfold lcI at q6; rw [if_neg (fun z => hg1 z.1)] at q6; exact go_none q6
    · have e : i = p.1.length := by omega
      subst e
      rw [List.drop_length] at q'
      unfold lcO at q'
      rw [if_pos hgd] at q'
      exact .inl ⟨it2 (Nat.le_refl _), hf Wx σ ρ1 ρ' H1 H' S' acc vacc D Q ok' st' hrs hdn kr he ra q'⟩
  · cases hd : p.1.drop i with
    | nil => rw [hd] at q'; unfold lcO at q'; rw [if_neg hgd] at q'; exact go_none q'
    | cons w ws => rw [hd] at q'; unfold lcO at q'; rw [if_neg hgd] at q'; exact go_none q'
/-- [elt for target in iter for target1 in iter1] -/
theorem de_lc2 {fin : List W → Store → Rs W} (hf : FinOk X.K fin) {scope : Scope} {own : List (Str × Nat)} {vs1 : List Nat} (hc : X.calm = true) (hN : X.N.Nodup) (ok : BlkOk X.N X.env.scope scope own) (hv : ∀ i ∈ vs1, i ∈ own.map (·.2)) (hi : PI X tg iter (tI X.K Wx fi))
    (hg : ∀ (s : Shared) (H : Hp) (C : Addr) (cl : List (Str × Addr)) (fp : List Addr), PG (X.blk s H scope (compEnvC scope cl C X.env) fp) tg (tG X.K (own.map (·.2)) tf))
    (hi1 : ∀ (s : Shared) (H : Hp) (C : Addr) (cl : List (Str × Addr)) (fp : List Addr), PI (X.blk s H scope (compEnvC scope cl C X.env) fp) tg1 iter1 (tI X.K WF fi1))
    (hg1 : ∀ (s : Shared) (H : Hp) (C : Addr) (cl : List (Str × Addr)) (fp : List Addr), PG (X.blk s H scope (compEnvC scope cl C X.env) fp) tg1 (tG X.K vs1 tf1))
    (he : ∀ (s : Shared) (H : Hp) (C : Addr) (cl : List (Str × Addr)) (fp : List Addr), PE (X.blk s H scope (compEnvC scope cl C X.env) fp) elt (tE X.K WF fe)) (hs : ∀ x, foldedSetIterable iter X.env x = pure x := by intro _; rfl) (hs1 : ∀ env x, foldedSetIterable iter1 env x = pure x := by intro _ _; rfl) :
    PE X (.ListComp elt [⟨tg, iter, [], 0⟩, ⟨tg1, iter1, [], 0⟩] scope pos) (tE X.K Wx (dLc2 fin fi tf fi1 tf1 fe (own.map (·.2)) vs1)) := (pe_lc2 hc hN hi ok hv hg (fun _ _ _ _ _ => dts_yes) hi1 hg1 (fun _ _ _ _ _ => dts_yes) he hs hs1).imp fun σ H Q q => impLc2 hf (own.map (·.2)) vs1 σ H Q q
end
end DL
set_option Elab.async false
set_option linter.all false
set_option maxRecDepth 100000
set_option maxHeartbeats 1000000
/-! DL36: // by a divisor of any sign; fractions as Lean's rational numbers. -/
namespace DL
open PySem PySem.Spec PyProof.Rows L2
/-- // by a divisor that is not 0, below 2 ^ 9000 -/
def CDivS (_ j : Int) : Prop := j ≠ 0 ∧ j.natAbs.log2 < 9000
instance (i j : Int) : Decidable (CDivS i j) := by unfold CDivS; infer_instance
abbrev oDivS : F2 := oII CDivS fun i j => .int (i.fdiv j)
section
variable {K : PySem.W.Frag} {Wx : WX}
theorem oDivS_ok : OpF K Wx (rI CDivS fun i j => .int (i.fdiv j)) oDivS := oII_ok fun _ _ _ _ => by rw [RelD]
theorem op_fdivS {X : Cx} : OpR X (binaryOp .FloorDiv) (rI CDivS fun i j => .int (i.fdiv j)) := opI fun _ _ _ _ _ _ _ hc q => floordiv_int hc.1 q (.inl (PyProof.noPylong_of_log2 hc.2))
end
theorem oDivS_eq {S : Store} {i j : Int} (h : CDivS i j) : oDivS (.d (.int i)) (.d (.int j)) S = some (.ok (.d (.int (i.fdiv j))), S) := oII_eq h
theorem divS {i j : Int} {n : Nat} (h : j ≠ 0) (hb : Bd n j) (h0 : 0 < n) (h9 : n ≤ 9000) : CDivS i j := ⟨h, Nat.lt_of_lt_of_le (PySem.Flt.log2_lt_of h0 hb) h9⟩
/-! ### tuple * int, 0 and below too -/
theorem tuple_mul0 (l : Addr) (items : Array Value) (n : Nat) (dd : Option Addr) (sl : Array (Option Value)) (x : Int) (u : Tok) (c0 : (decide (x < -(2 ^ 63)) || decide (x ≥ 2 ^ 63)) = false) (c1 : (items.isEmpty || x == 1) = false) (c2 : (decide (x ≤ 0) || items.isEmpty) = true) :
    Meets (Builtin.«tuple.__mul__» ⟨[.ref l, .int x u], []⟩) (fun _ R s => s.heap.get? l = some { cls := .type "tuple", dict := dd, data := .seq items n, slots := sl } ∧
      R (.ok (.ret (Value.ref s.heap.objs.size))) { s with heap := s.heap.push { cls := Value.type "tuple", data := Data.seq #[] }, toks := s.toks }) :=
  .of_wp fun prog w A R s h => by
    obtain ⟨hp, g, d, tk, os⟩ := s
    obtain ⟨hl, h⟩ := h
    have f1 := AutoSeq1.idx_int
    wp_walk using AutoSeq1.wpAny_loadPart' hl
    repeat (first
      | (refine wpAny_ite_false (decide_eq_false (by rw [c0]; exact Bool.false_ne_true)) ?_; wp_walk using AutoSeq1.wpAny_loadPart' hl)
      | (refine wpAny_ite_false (decide_eq_false (by rw [c1]; exact Bool.false_ne_true)) ?_; wp_walk using AutoSeq1.wpAny_loadPart' hl)
      | (refine wpAny_ite_true (decide_eq_true c2) ?_; wp_walk using AutoSeq1.wpAny_loadPart' hl))
    exact ⟨_, rfl, h⟩
def rRepT0 (K : PySem.W.Frag) : R2 := fun x y H Q => ∃ l k xs, x = .ref l ∧ y = .int k ∧ SqT K H l xs ∧ xs ≠ [] ∧ -1000 ≤ k ∧ k ≤ 0 ∧ ∀ p, H p = none → Q (.ref p) (upd H p (.tup []))
theorem op_repT0 {X : Cx} : OpR X (binaryOp .Mult) (rRepT0 X.K) := by
  intro pins s σ H x y v u Q I rx ry h
  obtain ⟨l, k, xs, rfl, rfl, hT, hne, h1, h2, q⟩ := h
  cases rx
  obtain ⟨t, rfl⟩ := ry
  obtain ⟨its, r, ⟨⟨cls, dd, data, sl⟩, ho, hc, n, hd⟩, hs⟩ := I.tuple hT
  simp only at hc hd
  subst hc hd
  have hle : its.length = xs.length := r.length.symm
  have hn : its ≠ [] := fun e => hne (by
    rw [e] at hle
    exact List.eq_nil_of_length_eq_zero hle.symm)
  have hi : its.toArray.isEmpty = false := by
    cases its with
    | nil => exact absurd rfl hn
    | cons a b => rfl
  have c0 : (decide (k < -(2 ^ 63)) || decide (k ≥ 2 ^ 63)) = false := by
    rw [decide_eq_false (by omega), decide_eq_false (by omega)] <;> rfl
  have c1 : (its.toArray.isEmpty || k == 1) = false := by
    rw [hi, Bool.false_or]
    exact beq_eq_false_iff_ne.mpr (by omega)
  have c2 : (decide (k ≤ 0) || its.toArray.isEmpty) = true := by
    rw [hi, Bool.or_false]
    exact decide_eq_true (by omega)
  refine wpAny_binaryOp_repeat_ref (T := "tuple") (U := "int") (by decide) ⟨_, ho, rfl⟩ (fun s' => typeIs_int s' k t) noFill_tuple_mul F.fills_int_mul F.slot_int_rmul repeat_tuple F.slot_int_index.lookup
    (call_meets F.slot_int_rmul (typeIs_int s k t) F.entry_int_rmul (F.args_int_rmul_2 _ _) (int_rmul_tuple k t l its.toArray n dd sl)
      ⟨ho, rfl, ⟨_, ho, rfl⟩, call_meets F.slot_tuple_mul ⟨_, ho, rfl⟩ F.entry_tuple_mul (F.args_tuple_mul_2 _ _) (tuple_mul0 l its.toArray n dd sl k t c0 c1 c2) ⟨ho, ?_⟩⟩)
  refine ⟨.ref s.heap.objs.size, _, I.laid (t' := s.toks) (o := .tup []) (fun b ob q => Heap.get?_push_of_some _ q) (Nat.le_refl _) ?_, rfl, q _ (I.hok.fresh (Nat.le_refl _))⟩
  exact ⟨by rw [sizeLine_eq]; exact Nat.zero_le _, [], .nil, IsTup.new _ _⟩
open Classical in
def oRepZ : F2
  | .d (.tup a), .d (.int k), S => if k ≤ 0 then (if a ≠ [] ∧ -1000 ≤ k then some (.ok (.d (.tup [])), S) else none) else oRepA (.d (.tup a)) (.d (.int k)) S
  | _, _, _ => none
theorem oRepZ_ok {K : PySem.W.Frag} {Wx : WX} : OpF K Wx (fun x y H Q => rRepT0 K x y H Q ∨ (rRepT K x y H Q ∨ rRepT1 K x y H Q)) oRepZ := by
  intro σ ρ S H x y u v Q ok rx ry q
  unfold oRepZ at q
  split at q
  · rename_i a k
    split at q
    · rename_i hk
      split at q
      · rename_i ha
        have rx' : RelD K ρ H (.tup a) u := rx
        have ey : v = .int k := by simpa [RelW, RelD] using ry
        rw [RelD] at rx'
        obtain ⟨p, vs, rfl, ht, hv⟩ := rx'
        subst ey
        refine .inl ⟨p, k, vs, rfl, rfl, ht.sq, fun e => ha.1 (List.length_eq_zero_iff.mp (by rw [hv.length, e]; rfl)), ha.2, hk, fun l hl => ?_⟩
        have st := step_new ok (.tup []) hl
        exact go_at q (ok_new ok _ hl) st (show RelD K ρ (upd H l (.tup [])) (.tup []) (.ref l) by rw [RelD]; exact ⟨l, _, rfl, tupF_new ok hl, by simp [RelDs]⟩)
      · exact go_none q
    · exact .inr (oRepA_ok σ ρ S H _ _ u v Q ok rx ry q)
  · exact go_none q
theorem repZ_one {S : Store} {x : D} {k : Int} (h1 : -1000 ≤ k) (h2 : k ≤ 1000) : oRepZ (.d (.tup [x])) (.d (.int k)) S = some (.ok (.d (.tup (List.replicate k.toNat x))), S) := by
  unfold oRepZ
  dsimp only
  by_cases hk : k ≤ 0
  · rw [if_pos hk, if_pos ⟨by simp, h1⟩]
    have : k.toNat = 0 := by omega
    rw [this]
    rfl
  · rw [if_neg hk]
    exact repA_one (by omega) h2
/-! ### rational numbers -/
def fq (q : Rat) : Int × Int := (q.num, (q.den : Int))
theorem fq_fr (q : Rat) : Fr (fq q) := ⟨by have := q.den_pos; show (0 : Int) < (q.den : Int); omega, q.reduced⟩
theorem fq_inj {a b : Rat} (h : fq a = fq b) : a = b := by
  have h1 := congrArg Prod.fst h
  have h2 := congrArg Prod.snd h
  simp only [fq] at h1 h2
  exact Rat.ext h1 (by omega)
theorem num_eq (q : Rat) : (q.num : Rat) = q * (q.den : Rat) := by
  have h : (q.num : Rat) / (q.den : Rat) = q := by
    have := Rat.num_divInt_den q
    rw [Rat.divInt_eq_div] at this
    exact this
  have hd : (q.den : Rat) ≠ 0 := by
    intro h
    have := q.den_nz
    rw [Rat.natCast_eq_zero_iff] at h
    exact this h
  calc (q.num : Rat) = (q.num : Rat) / (q.den : Rat) * (q.den : Rat) := by rw [Rat.div_mul_cancel hd]
    _ = q * (q.den : Rat) := by rw [h]
theorem den_ne (q : Rat) : (q.den : Rat) ≠ 0 := by
  intro h
  rw [Rat.natCast_eq_zero_iff] at h
  exact q.den_nz h
theorem low_fq {t b : Int} (h : 0 < b) : low t b = fq ((t : Rat) / (b : Rat)) := by
  refine fr_uniq (low_fr h) (fq_fr _) ?_
  have e : (((t : Rat) / (b : Rat)).num) * b = t * (((t : Rat) / (b : Rat)).den : Int) := by
    have h1 : Rat.divInt ((t : Rat) / (b : Rat)).num (((t : Rat) / (b : Rat)).den : Int) = Rat.divInt t b := by rw [Rat.num_divInt_den, Rat.divInt_eq_div]
    exact (Rat.divInt_eq_divInt_iff (by have := ((t : Rat) / (b : Rat)).den_nz; omega) (by omega)).mp h1
  have g := low_mul (t := t) (b := b)
  have hb : b ≠ 0 := by omega
  apply Int.eq_of_mul_eq_mul_right hb
  show (low t b).1 * ((t : Rat) / (b : Rat)).den * b = ((t : Rat) / (b : Rat)).num * (low t b).2 * b
  rw [Int.mul_right_comm, g, Int.mul_right_comm ((t : Rat) / (b : Rat)).num, e]
  grind
theorem fq_zero : fq 0 = (0, 1) := rfl
theorem fq_one : fq 1 = (1, 1) := rfl
theorem fq_neg_one : fq (-1) = (-1, 1) := rfl
theorem fq_eq_zero {q : Rat} : fq q = (0, 1) ↔ q = 0 := ⟨fun h => fq_inj (h.trans fq_zero.symm), fun h => by rw [h]; rfl⟩
theorem fplus_fq (a b : Rat) : fplus (fq a) (fq b) = fq (a + b) := by
  show low (a.num * (b.den : Int) + b.num * (a.den : Int)) ((a.den : Int) * (b.den : Int)) = _
  rw [low_fq (show (0 : Int) < (a.den : Int) * (b.den : Int) from Int.mul_pos (fq_fr a).1 (fq_fr b).1)]
  congr 1
  rw [Rat.intCast_add, Rat.intCast_mul, Rat.intCast_mul, Rat.intCast_mul, Rat.intCast_natCast, Rat.intCast_natCast, num_eq a, num_eq b]
  have := den_ne a
  have := den_ne b
  grind
theorem fminus_fq (a b : Rat) : fminus (fq a) (fq b) = fq (a - b) := by
  show low (a.num * (b.den : Int) - b.num * (a.den : Int)) ((a.den : Int) * (b.den : Int)) = _
  rw [low_fq (show (0 : Int) < (a.den : Int) * (b.den : Int) from Int.mul_pos (fq_fr a).1 (fq_fr b).1)]
  congr 1
  rw [Rat.intCast_sub, Rat.intCast_mul, Rat.intCast_mul, Rat.intCast_mul, Rat.intCast_natCast, Rat.intCast_natCast, num_eq a, num_eq b]
  have := den_ne a
  have := den_ne b
  grind
theorem ftimes_fq (a b : Rat) : ftimes (fq a) (fq b) = fq (a * b) := by
  show low (a.num * b.num) ((a.den : Int) * (b.den : Int)) = _
  rw [low_fq (show (0 : Int) < (a.den : Int) * (b.den : Int) from Int.mul_pos (fq_fr a).1 (fq_fr b).1)]
  congr 1
  rw [Rat.intCast_mul, Rat.intCast_mul, Rat.intCast_natCast, Rat.intCast_natCast, num_eq a, num_eq b]
  have := den_ne a
  have := den_ne b
  grind
/-- what lowest makes of a bottom of any sign -/
theorem low_any {t b : Int} (h : b ≠ 0) : low (if b < 0 then -t else t) (if b < 0 then -b else b) = fq ((t : Rat) / (b : Rat)) := by
  split
  · rename_i hn
    rw [low_fq (by omega)]
    congr 1
    rw [Rat.intCast_neg, Rat.intCast_neg]
    have : (b : Rat) ≠ 0 := by rw [Ne, Rat.intCast_eq_zero_iff]; exact h
    grind
  · rw [low_fq (by omega)]
theorem over_fq (a b : Rat) (h : b ≠ 0) : ((a.num * (b.den : Int) : Int) : Rat) / (((a.den : Int) * b.num : Int) : Rat) = a / b := by
  rw [Rat.intCast_mul, Rat.intCast_mul, Rat.intCast_natCast, Rat.intCast_natCast, num_eq a, num_eq b]
  have := den_ne a
  have := den_ne b
  grind
end DL
set_option Elab.async false
set_option linter.all false
set_option maxRecDepth 100000
set_option maxHeartbeats 1000000
/-! DL37: the law's hand (cells, at, rest, state, count) as the first place; draws by it. -/
namespace DL
open PySem L2
def encHd (cs : List Int) (a b c d : Int) : M := .lst [.d (.lst (cs.map D.int)), .d (.int a), .d (.int b), .d (.int c), .d (.int d)]
/-- f: so many draws are left -/
def HdSt (f : Nat) (m : M) : Prop := ∃ (cs : List Int) (a : Nat) (b c d : Int), m = encHd cs a b c d ∧ (∀ x ∈ cs, 0 ≤ x) ∧ a ≤ cs.length ∧ 0 ≤ b ∧ 0 ≤ c ∧ c < 2 ^ 32 ∧ 0 ≤ d ∧ d + (f : Int) ≤ 1000000000
theorem HdSt.weak {f g : Nat} {m : M} (h : HdSt f m) (hg : g ≤ f) : HdSt g m := by
  obtain ⟨cs, a, b, c, d, h1, h2, h3, h4, h5, h6, h7, h8⟩ := h
  exact ⟨cs, a, b, c, d, h1, h2, h3, h4, h5, h6, h7, by omega⟩
theorem hd_below {n : Nat} {cs : List Int} {a b c d : Int} : mBelow n (encHd cs a b c d) := by
  intro w hw
  simp only [List.mem_cons, List.not_mem_nil, or_false] at hw
  rcases hw with rfl | rfl | rfl | rfl | rfl <;> trivial
theorem HdSt.below {n f : Nat} {m : M} (h : HdSt f m) : mBelow n m := by
  obtain ⟨cs, a, b, c, d, rfl, _⟩ := h
  exact hd_below
section
variable {cs : List Int} {a b c d i : Int} {T : Store}
theorem hd0 : oIx (.loc 0) (.d (.int 0)) (encHd cs a b c d :: T) = some (.ok (.d (.lst (cs.map D.int))), encHd cs a b c d :: T) := rfl
theorem hd1 : oIx (.loc 0) (.d (.int 1)) (encHd cs a b c d :: T) = some (.ok (.d (.int a)), encHd cs a b c d :: T) := rfl
theorem hd2 : oIx (.loc 0) (.d (.int 2)) (encHd cs a b c d :: T) = some (.ok (.d (.int b)), encHd cs a b c d :: T) := rfl
theorem hd3 : oIx (.loc 0) (.d (.int 3)) (encHd cs a b c d :: T) = some (.ok (.d (.int c)), encHd cs a b c d :: T) := rfl
theorem hd4 : oIx (.loc 0) (.d (.int 4)) (encHd cs a b c d :: T) = some (.ok (.d (.int d)), encHd cs a b c d :: T) := rfl
theorem hs1 : setAt (.loc 0) (.d (.int 1)) (.d (.int i)) (encHd cs a b c d :: T) = some (encHd cs i b c d :: T) := rfl
theorem hs2 : setAt (.loc 0) (.d (.int 2)) (.d (.int i)) (encHd cs a b c d :: T) = some (encHd cs a i c d :: T) := rfl
theorem hs3 : setAt (.loc 0) (.d (.int 3)) (.d (.int i)) (encHd cs a b c d :: T) = some (encHd cs a b i d :: T) := rfl
theorem hs4 : setAt (.loc 0) (.d (.int 4)) (.d (.int i)) (encHd cs a b c d :: T) = some (encHd cs a b c i :: T) := rfl
theorem giveS_hnd {cs' : List Int} {x : D} {a' b' c' d' : Int} : giveS (encHd cs a b c d :: T) (.d x) (encHd cs' a' b' c' d' :: T) = some (.ok (.d x), encHd cs' a' b' c' d' :: T) := giveS_hd0 hd_below
end
theorem hd_mix {n : Int} (h0 : 0 ≤ n) (h1 : n < 2 ^ 60) : ∃ t u v : Int, n * 48271 % 2147483647 = t ∧ t * (t / 1009 + 69621) % 2147483647 = u ∧ u * (u / 2003 + 40692) % 2147483399 = v ∧ CMulW n 48271 ∧ CDivW t 1009 ∧ CMulW t (t / 1009 + 69621) ∧ CDivW u 2003 ∧ CMulW u (u / 2003 + 40692) ∧ CDivW v 16 := by
  have key : ∀ (i m : Int), 0 < m → 0 ≤ i % m ∧ i % m < m := fun i m h => ⟨Int.emod_nonneg i (by omega), Int.emod_lt_of_pos i h⟩
  obtain ⟨a0, a9⟩ := key (n * 48271) 2147483647 (by decide)
  refine ⟨n * 48271 % 2147483647, _, _, rfl, rfl, rfl, (bd_nn (n := 60) h0 h1).mulOk (bd_nn (n := 16) (by decide) (by decide)), ?_⟩
  generalize n * 48271 % 2147483647 = t at *
  obtain ⟨b0, b9⟩ := key (t * (t / 1009 + 69621)) 2147483647 (by decide)
  refine ⟨wide_div (b := 10) (by decide) (by decide) (by decide) (by decide), (bd_nn (n := 32) a0 (by omega)).mulOk (bd_nn (n := 32) (by omega) (by omega)), ?_⟩
  generalize t * (t / 1009 + 69621) % 2147483647 = u at *
  exact ⟨wide_div (b := 11) (by decide) (by decide) (by decide) (by decide), (bd_nn (n := 32) b0 (by omega)).mulOk (bd_nn (n := 32) (by omega) (by omega)), wide_div (b := 5) (by decide) (by decide) (by decide) (by decide)⟩
end DL
set_option Elab.async false
set_option linter.all false
set_option maxRecDepth 100000
set_option maxHeartbeats 1000000
/-! DL38: elimination over the rational numbers. -/
namespace DL
abbrev Mat := Nat → Nat → Rat
/-- the sum of f at 0 .. n - 1 -/
def sm : Nat → (Nat → Rat) → Rat
  | 0, _ => 0
  | n + 1, f => sm n f + f n
theorem sm_congr : ∀ {n : Nat} {f g : Nat → Rat}, (∀ k, k < n → f k = g k) → sm n f = sm n g
  | 0, _, _, _ => rfl
  | n + 1, f, g, h => by rw [sm, sm, sm_congr fun k hk => h k (by omega), h n (by omega)]
theorem sm_add : ∀ {n : Nat} {f g : Nat → Rat}, sm n (fun k => f k + g k) = sm n f + sm n g
  | 0, _, _ => by simp only [sm]; grind
  | n + 1, f, g => by rw [sm, sm, sm, sm_add]; grind
theorem sm_mul {c : Rat} : ∀ {n : Nat} {f : Nat → Rat}, sm n (fun k => c * f k) = c * sm n f
  | 0, _ => by simp [sm]
  | n + 1, f => by rw [sm, sm, sm_mul]; grind
theorem sm_zero : ∀ {n : Nat} {f : Nat → Rat}, (∀ k, k < n → f k = 0) → sm n f = 0
  | 0, _, _ => rfl
  | n + 1, f, h => by rw [sm, sm_zero fun k hk => h k (by omega), h n (by omega)]; grind
theorem sm_delta {i : Nat} {f : Nat → Rat} : ∀ {n : Nat}, i < n → sm n (fun k => (if i = k then 1 else 0) * f k) = f i
  | n + 1, h => by
    rw [sm]
    by_cases e : i = n
    · subst e
      rw [sm_zero fun k hk => by rw [if_neg (by omega)]; grind, if_pos rfl]
      grind
    · rw [sm_delta (by omega), if_neg e]
      grind
def swp (A : Mat) (p q : Nat) : Mat := fun i => if i = p then A q else if i = q then A p else A i
def led (A : Mat) (t : Nat) : Mat := fun i j => if i = t then A t j / A t t else A i j - A i t * (A t j / A t t)
/-- the first row from t on with a number that is not 0 in the column t; k: so many rows are left -/
def leadN (A : Mat) (t : Nat) : Nat → Nat → Option Nat
  | _, 0 => none
  | i, k + 1 => if A i t = 0 then leadN A t (i + 1) k else some i
def lead (A : Mat) (n t : Nat) : Option Nat := leadN A t t (n - t)
theorem leadN_some {A : Mat} {t r : Nat} : ∀ {k i : Nat}, leadN A t i k = some r → i ≤ r ∧ r < i + k ∧ A r t ≠ 0
  | 0, _, h => by simp [leadN] at h
  | k + 1, i, h => by
    rw [leadN] at h
    split at h
    · have := leadN_some h
      exact ⟨by omega, by omega, this.2.2⟩
    · cases h
      exact ⟨by omega, by omega, by assumption⟩
theorem lead_some {A : Mat} {n t r : Nat} (h : lead A n t = some r) : t ≤ r ∧ r < n ∧ A r t ≠ 0 := by
  have := leadN_some h
  exact ⟨this.1, by omega, this.2.2⟩
theorem leadN_congr {A B : Mat} {t n : Nat} (h : ∀ i, i < n → A i t = B i t) : ∀ {k i : Nat}, i + k ≤ n → leadN A t i k = leadN B t i k
  | 0, _, _ => rfl
  | k + 1, i, hk => by rw [leadN, leadN, h i (by omega), leadN_congr h (by omega)]
/-- k steps from the column t on: the number so far, the rows -/
def run (n : Nat) : Nat → Nat → Rat → Mat → Option (Rat × Mat)
  | 0, _, d, A => some (d, A)
  | k + 1, t, d, A => match lead A n t with
    | none => none
    | some r => run n k (t + 1) ((if r = t then d else d * (-1)) * swp A t r t t) (led (swp A t r) t)
theorem swp_tt {A : Mat} {t r : Nat} : swp A t r t = A r := by unfold swp; rw [if_pos rfl]
theorem piv_ne {A : Mat} {n t r : Nat} (h : lead A n t = some r) : swp A t r t t ≠ 0 := by rw [swp_tt]; exact (lead_some h).2.2
/-! ### what is kept by sums and multiples of rows -/
structure Lin (P : (Nat → Rat) → Prop) : Prop where
  smul : ∀ c x, P x → P fun j => c * x j
  add : ∀ x y, P x → P y → P fun j => x j + y j
theorem swp_all {P : (Nat → Rat) → Prop} {A : Mat} {n t r : Nat} (ht : t < n) (hr : r < n) : (∀ i, i < n → P (swp A t r i)) ↔ (∀ i, i < n → P (A i)) := by
  constructor
  · intro h i hi
    by_cases e : i = t
    · subst e
      have := h r hr
      unfold swp at this
      by_cases e2 : r = i
      · subst e2; rw [if_pos rfl] at this; exact this
      · rw [if_neg e2, if_pos rfl] at this; exact this
    · by_cases e2 : i = r
      · subst e2
        have := h t ht
        rw [swp_tt] at this
        exact this
      · have := h i hi
        unfold swp at this
        rw [if_neg e, if_neg e2] at this
        exact this
  · intro h i hi
    unfold swp
    split
    · exact h r hr
    · split
      · exact h t ht
      · exact h i hi
theorem led_all {P : (Nat → Rat) → Prop} (L : Lin P) {A : Mat} {n t : Nat} (ht : t < n) (hA : A t t ≠ 0) : (∀ i, i < n → P (led A t i)) ↔ (∀ i, i < n → P (A i)) := by
  have e0 : led A t t = fun j => (1 / A t t) * A t j := by funext j; unfold led; rw [if_pos rfl]; grind
  have e1 : ∀ i, i ≠ t → led A t i = fun j => A i j + -(A i t / A t t) * A t j := fun i hi => by funext j; unfold led; rw [if_neg hi]; grind
  constructor
  · intro h i hi
    have h0 : P (A t) := by
      have := L.smul (A t t) _ (h t ht)
      rw [e0] at this
      have e : (fun j => A t t * (1 / A t t * A t j)) = A t := by funext j; grind
      rw [e] at this
      exact this
    by_cases e : i = t
    · subst e; exact h0
    · have := L.add _ _ (h i hi) (L.smul (A i t / A t t) _ h0)
      rw [e1 i e] at this
      have e2 : (fun j => A i j + -(A i t / A t t) * A t j + A i t / A t t * A t j) = A i := by funext j; grind
      rw [e2] at this
      exact this
  · intro h i hi
    by_cases e : i = t
    · subst e; rw [e0]; exact L.smul _ _ (h i hi)
    · rw [e1 i e]; exact L.add _ _ (h i hi) (L.smul _ _ (h t ht))
theorem run_all {P : (Nat → Rat) → Prop} (L : Lin P) {n : Nat} : ∀ {k t : Nat} {d : Rat} {A : Mat} {p : Rat × Mat}, t + k ≤ n → run n k t d A = some p → ((∀ i, i < n → P (p.2 i)) ↔ (∀ i, i < n → P (A i)))
  | 0, t, d, A, p, _, h => by cases h; exact Iff.rfl
  | k + 1, t, d, A, p, ht, h => by
    unfold run at h
    split at h
    · cases h
    · rename_i r hr
      have := lead_some hr
      exact (run_all L (by omega) h).trans ((led_all L (by omega) (piv_ne hr)).trans (swp_all (by omega) this.2.1))
/-! ### the columns that are led -/
theorem run_unit {n : Nat} : ∀ {k t : Nat} {d : Rat} {A : Mat} {p : Rat × Mat}, t + k ≤ n → run n k t d A = some p → (∀ i, i < n → ∀ c, c < t → A i c = if i = c then 1 else 0) → ∀ i, i < n → ∀ c, c < t + k → p.2 i c = if i = c then 1 else 0
  | 0, t, d, A, p, _, h, g => by cases h; exact g
  | k + 1, t, d, A, p, ht, h, g => by
    unfold run at h
    split at h
    · cases h
    · rename_i r hr
      obtain ⟨l1, l2, l3⟩ := lead_some hr
      have hs : ∀ i, i < n → ∀ c, c < t → swp A t r i c = if i = c then 1 else 0 := fun i hi c hc => by
        unfold swp
        split
        · rename_i e
          rw [g r l2 c hc, if_neg (by omega), if_neg (by omega)]
        · split
          · rename_i e
            rw [g t (by omega) c hc, if_neg (by omega), if_neg (by omega)]
          · exact g i hi c hc
      have hp := piv_ne hr
      have := run_unit (k := k) (t := t + 1) (by omega) h fun i hi c hc => by
        unfold led
        by_cases e : i = t
        · rw [if_pos e]
          by_cases e2 : c = t
          · subst e2 e
            rw [if_pos rfl]
            grind
          · rw [hs t (by omega) c (by omega), if_neg (by omega), if_neg (by omega)]
            grind
        · rw [if_neg e]
          by_cases e2 : c = t
          · subst e2
            rw [if_neg e]
            grind
          · rw [hs t (by omega) c (by omega), if_neg (show t ≠ c by omega), hs i hi c (by omega)]
            grind
      intro i hi c hc
      exact this i hi c (by omega)
/-! ### the first columns go alike -/
theorem run_congr {n : Nat} : ∀ {k t : Nat} {d : Rat} {A B : Mat}, t + k ≤ n → (∀ i, i < n → ∀ j, j < n → A i j = B i j) → (run n k t d A).map (·.1) = (run n k t d B).map (·.1)
  | 0, t, d, A, B, _, h => rfl
  | k + 1, t, d, A, B, ht, h => by
    have el : lead A n t = lead B n t := leadN_congr (n := n) (fun i hi => h i hi t (by omega)) (by omega)
    unfold run
    rw [el]
    cases hr : lead B n t with
    | none => rfl
    | some r =>
      have hl := lead_some hr
      have hs : ∀ i, i < n → ∀ j, j < n → swp A t r i j = swp B t r i j := fun i hi j hj => by
        unfold swp
        split
        · exact h r hl.2.1 j hj
        · split
          · exact h t (by omega) j hj
          · exact h i hi j hj
      dsimp only
      rw [hs t (by omega) t (by omega)]
      exact run_congr (by omega) fun i hi j hj => by
        unfold led
        rw [hs t (by omega) t (by omega), hs t (by omega) j hj, hs i hi j hj, hs i hi t (by omega)]
theorem run_ne {n : Nat} : ∀ {k t : Nat} {d : Rat} {A : Mat} {p : Rat × Mat}, d ≠ 0 → run n k t d A = some p → p.1 ≠ 0
  | 0, t, d, A, p, hd, h => by cases h; exact hd
  | k + 1, t, d, A, p, hd, h => by
    unfold run at h
    split at h
    · cases h
    · rename_i r hr
      have hp := piv_ne hr
      refine run_ne ?_ h
      split <;> grind
/-! ### inverses and solutions -/
/-- the numbers, and beside them 1 on the slant -/
def besM (n : Nat) (R : Mat) : Mat := fun i j => if j < n then R i j else if i = j - n then 1 else 0
def colM (n : Nat) (R : Mat) (b : Nat → Rat) : Mat := fun i j => if j < n then R i j else b i
section
variable {n : Nat} {R : Mat} {b : Nat → Rat} {p q : Rat × Mat}
theorem bes_run : (run n n 0 1 (besM n R)).map (·.1) = (run n n 0 1 R).map (·.1) := run_congr (by omega) fun i hi j hj => by unfold besM; rw [if_pos hj]
theorem col_run : (run n n 0 1 (colM n R b)).map (·.1) = (run n n 0 1 R).map (·.1) := run_congr (by omega) fun i hi j hj => by unfold colM; rw [if_pos hj]
theorem bes_r {i k : Nat} : besM n R i (n + k) = if i = k then 1 else 0 := by unfold besM; rw [if_neg (by omega), Nat.add_sub_cancel_left]
theorem col_r {i : Nat} : colM n R b i n = b i := by unfold colM; rw [if_neg (by omega)]
theorem inv_left (h : run n n 0 1 (besM n R) = some p) {i j : Nat} (hi : i < n) (hj : j < n) : sm n (fun k => p.2 i (n + k) * R k j) = if i = j then 1 else 0 := by
  have L : Lin fun row : Nat → Rat => row j = sm n fun k => row (n + k) * R k j := ⟨fun c x hx => by
      dsimp only at hx ⊢
      rw [hx, ← sm_mul]
      exact sm_congr fun k _ => by grind, fun x y hx hy => by
      dsimp only at hx hy ⊢
      rw [hx, hy, ← sm_add]
      exact sm_congr fun k _ => by grind⟩
  have h2 := (run_all L (by omega) h).mpr fun i hi => by
    show besM n R i j = sm n fun k => besM n R i (n + k) * R k j
    rw [sm_congr (g := fun k => (if i = k then 1 else 0) * R k j) fun k _ => by rw [bes_r], sm_delta (f := fun k => R k j) hi]
    unfold besM
    rw [if_pos hj]
  rw [← run_unit (by omega) h (fun _ _ c hc => absurd hc (by omega)) i hi j (by omega)]
  exact (h2 i hi).symm
theorem inv_right (h : run n n 0 1 (besM n R) = some p) {i j : Nat} (hi : i < n) (hj : j < n) : sm n (fun k => R i k * p.2 k (n + j)) = if i = j then 1 else 0 := by
  have L : Lin fun row : Nat → Rat => sm n (fun k => row k * p.2 k (n + j)) = row (n + j) := ⟨fun c x hx => by
      dsimp only at hx ⊢
      rw [← hx, ← sm_mul]
      exact sm_congr fun k _ => by grind, fun x y hx hy => by
      dsimp only at hx hy ⊢
      rw [← hx, ← hy, ← sm_add]
      exact sm_congr fun k _ => by grind⟩
  have h2 := (run_all L (by omega) h).mp (fun i hi => by
    show sm n (fun k => p.2 i k * p.2 k (n + j)) = p.2 i (n + j)
    rw [sm_congr (g := fun k => (if i = k then 1 else 0) * p.2 k (n + j)) fun k hk => by rw [run_unit (by omega) h (fun _ _ c hc => absurd hc (by omega)) i hi k (by omega)], sm_delta (f := fun k => p.2 k (n + j)) hi]) i hi
  have h2 : _ = besM n R i (n + j) := h2
  rw [bes_r] at h2
  rw [← h2]
  exact sm_congr fun k hk => by unfold besM; rw [if_pos hk]
theorem sol_right (h : run n n 0 1 (colM n R b) = some p) {i : Nat} (hi : i < n) : sm n (fun k => R i k * p.2 k n) = b i := by
  have L : Lin fun row : Nat → Rat => sm n (fun k => row k * p.2 k n) = row n := ⟨fun c x hx => by
      dsimp only at hx ⊢
      rw [← hx, ← sm_mul]
      exact sm_congr fun k _ => by grind, fun x y hx hy => by
      dsimp only at hx hy ⊢
      rw [← hx, ← hy, ← sm_add]
      exact sm_congr fun k _ => by grind⟩
  have h2 := (run_all L (by omega) h).mp (fun i hi => by
    show sm n (fun k => p.2 i k * p.2 k n) = p.2 i n
    rw [sm_congr (g := fun k => (if i = k then 1 else 0) * p.2 k n) fun k hk => by rw [run_unit (by omega) h (fun _ _ c hc => absurd hc (by omega)) i hi k (by omega)], sm_delta (f := fun k => p.2 k n) hi]) i hi
  have h2 : _ = colM n R b i n := h2
  rw [col_r] at h2
  rw [← h2]
  exact sm_congr fun k hk => by unfold colM; rw [if_pos hk]
theorem sol_inv (h : run n n 0 1 (besM n R) = some p) (g : run n n 0 1 (colM n R b) = some q) {i : Nat} (hi : i < n) : sm n (fun k => p.2 i (n + k) * b k) = q.2 i n := by
  have L : Lin fun row : Nat → Rat => sm n (fun k => row k * q.2 k n) = sm n (fun k => row (n + k) * b k) := ⟨fun c x hx => by
      dsimp only at hx ⊢
      rw [sm_congr (g := fun k => c * (x k * q.2 k n)) fun k _ => by grind, sm_mul, hx, ← sm_mul]
      exact sm_congr fun k _ => by grind, fun x y hx hy => by
      dsimp only at hx hy ⊢
      rw [sm_congr (g := fun k => x k * q.2 k n + y k * q.2 k n) fun k _ => by grind, sm_add, hx, hy, ← sm_add]
      exact sm_congr fun k _ => by grind⟩
  have h2 := (run_all L (by omega) h).mpr (fun i hi => by
    show sm n (fun k => besM n R i k * q.2 k n) = sm n (fun k => besM n R i (n + k) * b k)
    rw [sm_congr (g := fun k => R i k * q.2 k n) fun k hk => by unfold besM; rw [if_pos hk], sol_right g hi]
    rw [sm_congr (g := fun k => (if i = k then 1 else 0) * b k) fun k _ => by rw [bes_r], sm_delta hi]) i hi
  rw [← h2, sm_congr (g := fun k => (if i = k then 1 else 0) * q.2 k n) fun k hk => by rw [run_unit (by omega) h (fun _ _ c hc => absurd hc (by omega)) i hi k (by omega)], sm_delta (f := fun k => q.2 k n) hi]
end
end DL
set_option Elab.async false
set_option linter.all false
set_option maxRecDepth 100000
set_option maxHeartbeats 1000000
/-! DL39: a tuple display over lists of the def's own: they are read-only from there on. -/
namespace DL
open PySem PySem.Spec PyProof.Rows L2
section
variable {K : PySem.W.Frag} {ρ : Ad} {H : Hp} {S : Store}
def Ad.kill (ρ : Ad) (n : Nat) : Ad := ⟨ρ.pl.set n none, ρ.rs⟩
theorem kill_key {n k : Nat} {a : Addr} (h : (ρ.kill n).pl[k]? = some (some a)) : k ≠ n ∧ ρ.pl[k]? = some (some a) := by
  have h' : (ρ.pl.set n none)[k]? = some (some a) := h
  by_cases e : n = k
  · subst e
    by_cases hl : n < ρ.pl.length
    · rw [List.getElem?_set_self hl] at h'; cases h'
    · rw [List.getElem?_eq_none (by simp; omega)] at h'; cases h'
  · rw [List.getElem?_set_ne e] at h'
    exact ⟨fun z => e z.symm, h'⟩
theorem kill_ok (ok : Ok K ρ S H) (n : Nat) : Ok K (ρ.kill n) (S.set n .dead) H ∧ Step ρ H (ρ.kill n) H := by
  have st : Step ρ H (ρ.kill n) H := ⟨⟨fun _ _ e _ => e, fun a u _ z => ⟨fun m => by
    obtain ⟨k, hk⟩ := List.getElem?_of_mem m
    exact z.1 (List.mem_of_getElem? (kill_key hk).2), z.2⟩, by simp [Ad.kill], fun k a _ e => (kill_key e).2⟩, rfl, fun _ _ _ e => e⟩
  refine ⟨⟨by simp [Ad.kill, ok.len], fun i j a h1 h2 => ok.inj i j a (kill_key h1).2 (kill_key h2).2, fun k a e => ?_, fun k m e hm => ?_, ok.res, fun a ha z => ?_⟩, st⟩
  · obtain ⟨h1, h2⟩ := kill_key e
    obtain ⟨m, e1, r⟩ := ok.obj k a h2
    exact ⟨m, by rw [List.getElem?_set_ne (Ne.symm h1)]; exact e1, r.monoW st.toStw fun u z => z⟩
  · by_cases hk : n = k
    · subst hk
      have hl : n < S.length := by have := (List.getElem?_eq_some_iff.mp e).1; simpa using this
      rw [List.getElem?_set_self hl] at e
      cases e
      exact absurd rfl hm
    · rw [List.getElem?_set_ne hk] at e
      obtain ⟨a, ha⟩ := ok.live k m e hm
      exact ⟨a, by show (ρ.pl.set n none)[k]? = _; rw [List.getElem?_set_ne hk]; exact ha⟩
  · obtain ⟨k, hk⟩ := List.getElem?_of_mem z
    exact ok.dis a ha (List.mem_of_getElem? (kill_key hk).2)
def frzEl : List W → Store → Option (List D × Store)
  | [], S => some ([], S)
  | .d x :: ws, S => match frzEl ws S with
    | some (ds, S') => some (x :: ds, S')
    | none => none
  | .loc n :: ws, S => match S[n]? with
    | some (.lst us) => (match pure? us with
      | some es => (match frzEl ws (S.set n .dead) with
        | some (ds, S') => some (.lst es :: ds, S')
        | none => none)
      | none => none)
    | _ => none
theorem frzEl_ok : ∀ {ws : List W} {vs : List V} {ρ : Ad} {S : Store} {ds : List D} {S' : Store}, Ok K ρ S H → RelWs K ρ H ws vs → frzEl ws S = some (ds, S') → ∃ ρ', Ok K ρ' S' H ∧ Step ρ H ρ' H ∧ RelDs K ρ' H ds vs
  | [], vs, ρ, S, ds, S', ok, r, e => by
    cases e
    exact ⟨ρ, ok, Step.refl _ _, by rw [RelDs]; exact r⟩
  | .d x :: ws, vs, ρ, S, ds, S', ok, r, e => by
    obtain ⟨v, vr, rfl, r1, r2⟩ := r
    unfold frzEl at e
    split at e
    · rename_i ds1 S1 e1
      cases e
      obtain ⟨ρ', ok', st, rd⟩ := frzEl_ok ok r2 e1
      have r1' : RelD K ρ' H x v := (RelW.mono st r1 : RelW K ρ' H (.d x) v)
      exact ⟨ρ', ok', st, by rw [RelDs]; exact ⟨v, vr, rfl, r1', rd⟩⟩
    · cases e
  | .loc n :: ws, vs, ρ, S, ds, S', ok, r, e => by
    obtain ⟨v, vr, rfl, r1, r2⟩ := r
    unfold frzEl at e
    split at e
    · rename_i us eu
      split at e
      · rename_i es ee
        split at e
        · rename_i ds1 S1 e1
          cases e
          obtain ⟨a, vs0, rfl, hm, h3, h4⟩ := loc_at ok r1 eu
          obtain ⟨a', ha'⟩ := ok.live n _ eu (fun z => by cases z)
          obtain ⟨ok1, st1⟩ := kill_ok ok n
          have haa : V.ref a = V.ref a' := r1.2 a' ha'
          cases haa
          have off1 : Off (ρ.kill n) a := ⟨fun z => by
            obtain ⟨k, hk⟩ := List.getElem?_of_mem z
            obtain ⟨k1, k2⟩ := kill_key hk
            exact k1 (ok.inj _ _ _ k2 ha'), fun z => ok.dis a z (List.mem_of_getElem? ha')⟩
          obtain ⟨ρ', ok', st, rd⟩ := frzEl_ok ok1 (r2.mono st1) e1
          have rl : RelD K (ρ.kill n) H (.lst es) (.ref a) := by
            rw [RelD]
            exact ⟨a, vs0, rfl, .inl ⟨.inl h3, off1⟩, RelDs.mono st1 _ _ (pure?_rel ee h4)⟩
          have rl' : RelD K ρ' H (.lst es) (.ref a) := (RelW.mono st (show RelW K (ρ.kill n) H (.d (.lst es)) (.ref a) from rl) : RelW K ρ' H (.d (.lst es)) (.ref a))
          exact ⟨ρ', ok', st1.trans st, by rw [RelDs]; exact ⟨_, vr, rfl, rl', rd⟩⟩
        · cases e
      · cases e
    · cases e
def mkTupF (ws : List W) (S : Store) : Rs W := if ws.length ≤ sizeLine then (match frzEl ws S with
  | some (ds, S') => some (.ok (.d (.tup ds)), S')
  | none => none) else none
def dTupF (g : FA) : FE := fun δ S => (g δ S).bind mkTupF
theorem mkTupF_ok {Wx : WX} {σ : L2.St} {ws : List W} {vs : List V} {Q : VK} (ok : Ok K ρ S H) (r : RelWs K ρ H ws vs) (q : Go K Wx σ ρ H (RelW K) (mkTupF ws S) Q) : vs.length ≤ sizeLine ∧ ∀ p, H p = none → Q (.ref p) (upd H p (.tup vs)) := by
  unfold mkTupF at q
  split at q
  · rename_i hz
    refine ⟨by rw [← r.length]; exact hz, fun p hp => ?_⟩
    split at q
    · rename_i ds S' e
      obtain ⟨ρ', ok', st1, rd⟩ := frzEl_ok ok r e
      have st := step_new ok' (.tup vs) hp
      exact go_at q (ok_new ok' _ hp) (st1.trans st) (show RelD K ρ' (upd H p (.tup vs)) (.tup ds) (.ref p) by rw [RelD]; exact ⟨p, vs, rfl, tupF_new ok' hp, RelDs.mono st ds vs rd⟩)
    · exact go_none q
  · exact go_none q
end
section
variable {X : Cx} {Wx : WX} {es : List Expr} {fa : FA} {pos : PySem.Pos}
theorem de_tupF {k : Nat} (ha : PA X es (tA X.K Wx fa)) : PE X (.Tuple es k pos) (tE X.K Wx (dTupF fa)) := (pe_tup ha).imp fun σ H Q q => by
  obtain ⟨δ, S, ρ, ok, en, q⟩ := q
  exact ⟨δ, S, ρ, ok, en, (go_bind q).mono fun vs H1 ⟨ws, S1, ρ1, ok1, st1, r1, q1⟩ => mkTupF_ok ok1 r1 q1⟩
end
end DL
set_option Elab.async false
set_option linter.all false
set_option maxRecDepth 100000
set_option maxHeartbeats 1000000
/-! DL40: rational numbers by bits; matrices as a list of lists at the last place. -/
namespace DL
open PySem L2
/-! ### bits -/
def QB (n : Nat) (q : Rat) : Prop := Bd n q.num ∧ Bd n (q.den : Int)
theorem QB.fr {n : Nat} {q : Rat} (h : QB n q) : FrB n (fq q) := ⟨fq_fr q, h.1, h.2⟩
theorem QB.up {n m : Nat} {q : Rat} (h : QB n q) (hm : n ≤ m) : QB m q := ⟨h.1.up hm, h.2.up hm⟩
theorem FrB.qb {n : Nat} {q : Rat} (h : FrB n (fq q)) : QB n q := ⟨h.b1, h.b2⟩
def encQ (q : Rat) : D := encF (fq q)
theorem QB.mul {n m : Nat} {x y : Rat} (hx : QB n x) (hy : QB m y) : QB (n + m) (x * y) := FrB.qb (by rw [← ftimes_fq]; exact ftimes_ok hx.fr hy.fr)
theorem QB.sub {n m : Nat} {x y : Rat} (hx : QB n x) (hy : QB m y) : QB (n + m + 1) (x - y) := FrB.qb (by rw [← fminus_fq]; exact fminus_ok hx.fr hy.fr)
theorem QB.add {n m : Nat} {x y : Rat} (hx : QB n x) (hy : QB m y) : QB (n + m + 1) (x + y) := FrB.qb (by rw [← fplus_fq]; exact fplus_ok hx.fr hy.fr)
theorem icast_ne {s : Int} (h : s ≠ 0) : (s : Rat) ≠ 0 := by rw [Ne, Rat.intCast_eq_zero_iff]; exact h
theorem qb_of {n : Nat} {q : Rat} {s e : Int} (h : 0 < s) (he : q * (s : Rat) = (e : Rat)) (b1 : Bd n s) (b2 : Bd n e) : QB n q := by
  have hs := icast_ne (s := s) (by omega)
  have k := low_fq (t := e) h
  have e2 : (e : Rat) / (s : Rat) = q := by grind
  rw [e2] at k
  have l := low_bd (t := e) b2 b1
  rw [k] at l
  exact l
/-- each row has a scale that makes whole numbers of it -/
def RowB (b n m : Nat) (A : Mat) : Prop := ∀ i, i < n → ∃ s : Int, 0 < s ∧ Bd b s ∧ ∀ j, j < m → ∃ e : Int, Bd b e ∧ A i j * (s : Rat) = (e : Rat)
theorem RowB.qb {b n m : Nat} {A : Mat} (h : RowB b n m A) {i j : Nat} (hi : i < n) (hj : j < m) : QB b (A i j) := by
  obtain ⟨s, h1, h2, h3⟩ := h i hi
  obtain ⟨e, h4, h5⟩ := h3 j hj
  exact qb_of h1 h5 h2 h4
theorem RowB.swp {b n m t r : Nat} {A : Mat} (h : RowB b n m A) (ht : t < n) (hr : r < n) : RowB b n m (swp A t r) := fun i hi => by
  unfold DL.swp
  split
  · exact h r hr
  · split
    · exact h t ht
    · exact h i hi
theorem RowB.led {b n m t : Nat} {A : Mat} (h : RowB b n m A) (ht : t < n) (hm : t < m) (hA : A t t ≠ 0) : RowB (2 * b + 1) n m (led A t) := by
  obtain ⟨s, s0, s1, hs⟩ := h t ht
  obtain ⟨p, p1, p2⟩ := hs t hm
  have sne := icast_ne (s := s) (by omega)
  have pne : p ≠ 0 := fun z => by
    subst z
    have : A t t * (s : Rat) = 0 := by rw [p2]; rfl
    grind
  have key : ∃ (a σ : Int), 0 < a ∧ Bd b a ∧ (σ = 1 ∨ σ = -1) ∧ (a : Rat) = (σ : Rat) * (p : Rat) := by
    by_cases hp : 0 < p
    · exact ⟨p, 1, hp, p1, .inl rfl, by rw [Rat.intCast_one]; grind⟩
    · exact ⟨-p, -1, by omega, p1.neg, .inr rfl, by rw [Rat.intCast_neg, Rat.intCast_neg, Rat.intCast_one]; grind⟩
  obtain ⟨a, σ, a0, a1, hσ, ea⟩ := key
  have pr := icast_ne pne
  have bσ : ∀ {k : Nat} {e : Int}, Bd k e → Bd k (σ * e) := fun {k e} he => by
    rcases hσ with z | z <;> subst z
    · rw [Int.one_mul]; exact he
    · rw [Int.neg_one_mul]; exact he.neg
  intro i hi
  by_cases e : i = t
  · subst e
    refine ⟨a, a0, a1.up (by omega), fun j hj => ?_⟩
    obtain ⟨e, e1, e2⟩ := hs j hj
    refine ⟨σ * e, (bσ e1).up (by omega), ?_⟩
    unfold DL.led
    rw [if_pos rfl, ea, Rat.intCast_mul]
    grind
  · obtain ⟨u, u0, u1, hu⟩ := h i hi
    obtain ⟨v, v1, v2⟩ := hu t hm
    refine ⟨u * a, Int.mul_pos u0 a0, (u1.mul a1).up (by omega), fun j hj => ?_⟩
    obtain ⟨w, w1, w2⟩ := hs j hj
    obtain ⟨x, x1, x2⟩ := hu j hj
    refine ⟨x * a - v * (σ * w), ((x1.mul a1).sub (v1.mul (bσ w1))).up (by omega), ?_⟩
    unfold DL.led
    rw [if_neg e, Rat.intCast_sub, Rat.intCast_mul, Rat.intCast_mul, Rat.intCast_mul, Rat.intCast_mul, ← x2, ← v2, ea]
    grind
/-! ### matrices -/
def rowL (A : Mat) (m i : Nat) : List D := (List.range m).map fun j => encQ (A i j)
def rowD (A : Mat) (m i : Nat) : D := .lst (rowL A m i)
def rowT (A : Mat) (m i : Nat) : D := .tup (rowL A m i)
def matD (A : Mat) (n m : Nat) : List D := (List.range n).map (rowD A m)
def matT (A : Mat) (n m : Nat) : List D := (List.range n).map (rowT A m)
def matM (A : Mat) (n m : Nat) : M := .lst ((matD A n m).map W.d)
section
variable {A B : Mat} {n m i j : Nat} {S : Store}
theorem rowL_congr (h : ∀ j, j < m → A i j = B i j) : rowL A m i = rowL B m i := List.map_congr_left fun j hj => by rw [h j (List.mem_range.mp hj)]
theorem matD_congr (h : ∀ i, i < n → ∀ j, j < m → A i j = B i j) : matD A n m = matD B n m := List.map_congr_left fun i hi => by unfold rowD; rw [rowL_congr (h i (List.mem_range.mp hi))]
theorem matD_set (hi : i < n) (hne : ∀ k, k < n → k ≠ i → ∀ j, j < m → A k j = B k j) : (matD A n m).set i (rowD B m i) = matD B n m := by
  refine List.ext_getElem (by simp [matD]) fun k h1 h2 => ?_
  have hk : k < n := by simpa [matD] using h2
  by_cases e : i = k
  · subst e
    simp [matD]
  · rw [List.getElem_set_ne e]
    simp only [matD, List.getElem_map, List.getElem_range]
    unfold rowD
    rw [rowL_congr (hne k hk (Ne.symm e))]
theorem loc_last {a : M} : (S ++ [a])[S.length]? = some a := by simp
theorem mat_len : oLen (.loc S.length) (S ++ [matM A n m]) = some (.ok (.d (.int (n : Int))), S ++ [matM A n m]) := by
  simp only [oLen, seqW, matM, loc_last, matD, List.length_map, List.length_range]
theorem mat_ix (hi : i < n) : oIx (.loc S.length) (.d (.int (i : Int))) (S ++ [matM A n m]) = some (.ok (.d (rowD A m i)), S ++ [matM A n m]) := by
  have e : atI ((matD A n m).map W.d) (i : Int) = some (W.d (rowD A m i)) := atI_nat (by simp [matD, hi])
  simp only [oIx, seqW, matM, loc_last, e]
theorem row_ix (hj : j < m) : oIx (.d (rowD A m i)) (.d (.int (j : Int))) S = some (.ok (.d (encQ (A i j))), S) := by
  have e : atI ((rowL A m i).map W.d) (j : Int) = some (W.d (encQ (A i j))) := atI_nat (by simp [rowL, hj])
  simp only [oIx, rowD, seqW, e]
theorem rowT_ix (hj : j < m) : oIx (.d (rowT A m i)) (.d (.int (j : Int))) S = some (.ok (.d (encQ (A i j))), S) := by
  have e : atI ((rowL A m i).map W.d) (j : Int) = some (W.d (encQ (A i j))) := atI_nat (by simp [rowL, hj])
  simp only [oIx, rowT, seqW, e]
theorem mat_set {x : D} (hi : i < n) : setAt (.loc S.length) (.d (.int (i : Int))) (.d x) (S ++ [matM A n m]) = some (S ++ [.lst (((matD A n m).set i x).map W.d)]) := by
  have ej : ixN ((matD A n m).map W.d).length (i : Int) = some i := by
    unfold ixN
    have : ((matD A n m).map W.d).length = n := by simp [matD]
    rw [if_pos (by omega), if_pos (by omega)]
    simp
  simp only [setAt, matM, loc_last, ej, Option.map_some]
  rw [List.set_append_right _ _ (Nat.le_refl _), Nat.sub_self, List.map_set]
  rfl
theorem mat_below {k : Nat} {ds : List D} : mBelow k (.lst (ds.map W.d)) := fun w hw => by
  obtain ⟨d, _, rfl⟩ := List.mem_map.mp hw
  trivial
theorem giveS_mat {x : D} {a : M} {ds : List D} : giveS (S ++ [a]) (.d x) (S ++ [.lst (ds.map W.d)]) = some (.ok (.d x), S ++ [.lst (ds.map W.d)]) := giveS_last mat_below
theorem oNe_Q {q : Rat} {S : Store} : oNe (.d (encQ q)) (.d (.tup [.int 0, .int 1])) S = some (.ok (.d (.bl (!decide (q = 0)))), S) := by
  have h := EqE.oNe (S := S) eqE_F (by decide) (fq q) (0, 1)
  have e : decide (fq q = (0, 1)) = decide (q = 0) := decide_eq_decide.mpr fq_eq_zero
  rw [e] at h
  exact h
theorem lenRow {S : Store} : oLen (.d (rowD A m i)) S = some (.ok (.d (.int (m : Int))), S) := by
  unfold rowD rowL
  rw [len_lst]
  simp
theorem rng2 {a : Nat} (ha : a ≤ n) (hn : n ≤ 1000) : oRng2 [.d (.int (a : Int)), .d (.int (n : Int))] S = some (.ok ((List.range' a (n - a)).map fun (k : Nat) => W.d (.int (k : Int)), none), S) := by
  unfold oRng2
  dsimp only
  rw [if_pos (by omega)]
  have e : ((n : Int) - (a : Int)).toNat = n - a := by omega
  rw [e]
  have e2 : rngW (a : Int) (n - a) = (List.range' a (n - a)).map fun (k : Nat) => W.d (.int (k : Int)) := by
    unfold rngW
    rw [List.range'_eq_map_range, List.map_map]
    refine List.map_congr_left fun k _ => ?_
    simp
  rw [e2]
theorem leadN_find {t : Nat} : ∀ {k i : Nat}, (List.range' i k).find? (fun r => !decide (A r t = 0)) = leadN A t i k
  | 0, _ => rfl
  | k + 1, i => by
    rw [List.range'_succ, List.find?_cons, leadN]
    by_cases h : A i t = 0
    · rw [if_pos h, decide_eq_true h]
      exact leadN_find
    · rw [if_neg h, decide_eq_false h]
      rfl
end
/-! ### comprehensions over what is at a place -/
theorem lcL_mapG {α : Type} {tf : Tg} {fe : FE} {g : Grd} {δ : DEnv} {S : Store} {wf f : α → W} (hg : okG g S) : ∀ {xs : List α} {acc : List W}, (∀ x ∈ xs, ∃ δ1, tf (wf x) δ S = some (δ1, S) ∧ fe δ1 S = some (.ok (f x), S)) →
    lcL tf ftYes fe g δ (xs.map wf) S acc = some (.ok (acc ++ xs.map f), S)
  | [], acc, _ => by show lcL tf ftYes fe g δ [] S acc = _; unfold lcL; rw [if_pos hg]; simp
  | x :: xs, acc, h => by
    obtain ⟨δ1, h1, h2⟩ := h x List.mem_cons_self
    show lcL tf ftYes fe g δ (wf x :: xs.map wf) S acc = _
    unfold lcL
    rw [if_pos hg]
    simp only [h1, h2, ftYes]
    rw [lcL_mapG hg fun y hy => h y (List.mem_cons_of_mem _ hy)]
    simp
theorem dLc_mapG {α : Type} {fi : FI} {tf : Tg} {fe : FE} {fin : List W → Store → Rs W} {vs : List Nat} {δ : DEnv} {S : Store} {g : Grd} {xs : List α} {wf f : α → W} (hi : fi δ S = some (.ok (xs.map wf, g), S)) (hg : okG g S) (hl : xs.length ≤ 1000)
    (h : ∀ x ∈ xs, ∃ δ1, tf (wf x) (wipeE δ vs) S = some (δ1, S) ∧ fe δ1 S = some (.ok (f x), S)) : dLc fin fi tf ftYes fe vs δ S = fin (xs.map f) S := by
  have hz : (xs.map wf).length ≤ sizeLine := by simp; exact Nat.le_trans hl (by decide)
  unfold dLc
  rw [hi, bind_ok]
  dsimp only
  rw [if_pos hz, lcL_mapG hg h, bind_ok, List.nil_append]
end DL
set_option Elab.async false
set_option linter.all false
set_option maxRecDepth 100000
set_option maxHeartbeats 1000000
/-! DL41: comprehensions with two sources, reckoned; numbers with the scale 12; rows beside rows. -/
namespace DL
open PySem L2
section
variable {α β : Type} {tf1 : Tg} {fe : FE} {S : Store} {wg : β → W} {f : β → D}
theorem lcI_map {δ : DEnv} : ∀ {ys : List β} {acc : List W}, acc.length + ys.length ≤ 1000 → (∀ y ∈ ys, ∃ δ2, tf1 (wg y) δ S = some (δ2, S) ∧ fe δ2 S = some (.ok (.d (f y)), S)) →
    lcI tf1 fe none δ (ys.map wg) S acc = some (.ok (acc ++ ys.map fun y => W.d (f y)), S)
  | [], acc, _, _ => by show lcI tf1 fe none δ [] S acc = _; unfold lcI; rw [if_pos okG_no]; simp
  | y :: ys, acc, hl, h => by
    obtain ⟨δ2, h1, h2⟩ := h y List.mem_cons_self
    show lcI tf1 fe none δ (wg y :: ys.map wg) S acc = _
    unfold lcI
    rw [if_pos ⟨okG_no, Nat.lt_of_lt_of_le (by rw [List.length_cons] at hl; omega : acc.length < 1000) (by decide)⟩]
    simp only [h1, h2]
    rw [lcI_map (by rw [List.length_append]; rw [List.length_cons] at hl; simp; omega) fun z hz => h z (List.mem_cons_of_mem _ hz)]
    simp
variable {tf : Tg} {fi1 : FI} {vs1 : List Nat} {wf : α → W} {ys : α → List β}
theorem lcO_map {δ : DEnv} : ∀ {xs : List α} {acc : List W}, acc.length + (xs.flatMap ys).length ≤ 1000 → (∀ x ∈ xs, ∃ δ1, tf (wf x) δ S = some (δ1, S) ∧ fi1 δ1 S = some (.ok ((ys x).map wg, none), S) ∧ ∀ y ∈ ys x, ∃ δ2, tf1 (wg y) (wipeE δ1 vs1) S = some (δ2, S) ∧ fe δ2 S = some (.ok (.d (f y)), S)) →
    lcO tf fi1 tf1 fe vs1 none δ (xs.map wf) S acc = some (.ok (acc ++ (xs.flatMap ys).map fun y => W.d (f y)), S)
  | [], acc, _, _ => by show lcO tf fi1 tf1 fe vs1 none δ [] S acc = _; unfold lcO; rw [if_pos okG_no]; simp
  | x :: xs, acc, hl, h => by
    obtain ⟨δ1, h1, h2, h3⟩ := h x List.mem_cons_self
    rw [List.flatMap_cons, List.length_append] at hl
    show lcO tf fi1 tf1 fe vs1 none δ (wf x :: xs.map wf) S acc = _
    unfold lcO
    rw [if_pos okG_no]
    simp only [h1, h2]
    rw [lcI_map (by omega) h3]
    dsimp only
    rw [lcO_map (by rw [List.length_append, List.length_map]; omega) fun z hz => h z (List.mem_cons_of_mem _ hz)]
    simp
theorem dLc2_map {fi : FI} {vs : List Nat} {δ : DEnv} {xs : List α} (hi : fi δ S = some (.ok (xs.map wf, none), S)) (hl : (xs.flatMap ys).length ≤ 1000)
    (h : ∀ x ∈ xs, ∃ δ1, tf (wf x) (wipeE δ vs) S = some (δ1, S) ∧ fi1 δ1 S = some (.ok ((ys x).map wg, none), S) ∧ ∀ y ∈ ys x, ∃ δ2, tf1 (wg y) (wipeE δ1 vs1) S = some (δ2, S) ∧ fe δ2 S = some (.ok (.d (f y)), S)) :
    dLc2 lcF fi tf fi1 tf1 fe vs vs1 δ S = some (.ok (.d (.lst ((xs.flatMap ys).map f))), S) := by
  unfold dLc2
  rw [hi, bind_ok, lcO_map (by simpa using hl) h, bind_ok]
  unfold lcF
  have e : ([] ++ (xs.flatMap ys).map fun y => W.d (f y)) = ((xs.flatMap ys).map f).map W.d := by simp [List.map_map]
  rw [e, pure?_map]
end
/-! ### the scale 12 -/
def Tw (x : Rat) : Prop := ∃ e : Int, Bd 8 e ∧ x * 12 = (e : Rat)
theorem tw_zero : Tw 0 := ⟨0, by decide, by rw [Rat.intCast_zero]; grind⟩
theorem tw_one : Tw 1 := ⟨12, by decide, by rw [show ((12 : Int) : Rat) = 12 from rfl]; grind⟩
theorem Tw.qb {x : Rat} (h : Tw x) : QB 8 x := by
  obtain ⟨e, h1, h2⟩ := h
  exact qb_of (s := 12) (by decide) h2 (by decide) h1
theorem tw_row {n m : Nat} {A : Mat} (h : ∀ i, i < n → ∀ j, j < m → Tw (A i j)) : RowB 8 n m A := fun i hi => ⟨12, by decide, by decide, fun j hj => h i hi j hj⟩
theorem tw_bes {n : Nat} {R : Mat} (h : ∀ i, i < n → ∀ j, j < n → Tw (R i j)) : ∀ i, i < n → ∀ j, j < n + n → Tw (besM n R i j) := fun i hi j hj => by
  unfold besM
  split
  · exact h i hi j (by assumption)
  · split
    · exact tw_one
    · exact tw_zero
theorem tw_col {n : Nat} {R : Mat} {b : Nat → Rat} (h : ∀ i, i < n → ∀ j, j < n → Tw (R i j)) (hb : ∀ i, i < n → Tw (b i)) : ∀ i, i < n → ∀ j, j < n + 1 → Tw (colM n R b i j) := fun i hi j hj => by
  unfold colM
  split
  · exact h i hi j (by assumption)
  · exact hb i hi
/-! ### rows beside rows -/
section
variable {n i : Nat} {R : Mat} {b : Nat → Rat}
theorem bes_row (hi : i < n) : rowL (besM n R) (n + n) i = rowL R n i ++ List.replicate i (encQ 0) ++ [encQ 1] ++ List.replicate (n - i - 1) (encQ 0) := by
  unfold rowL
  refine List.ext_getElem (by simp; omega) fun k h1 h2 => ?_
  have hk : k < n + n := by simpa using h1
  simp only [List.getElem_map, List.getElem_range]
  unfold besM
  by_cases c1 : k < n
  · rw [if_pos c1, List.getElem_append_left (by simp; omega), List.getElem_append_left (by simp; omega), List.getElem_append_left (by simp; omega)]
    simp
  · rw [if_neg c1]
    by_cases c2 : k < n + i
    · rw [if_neg (by omega), List.getElem_append_left (by simp; omega), List.getElem_append_left (by simp; omega), List.getElem_append_right (by simp; omega)]
      simp
    · by_cases c3 : k = n + i
      · rw [if_pos (by omega), List.getElem_append_left (by simp; omega), List.getElem_append_right (by simp; omega)]
        simp
      · rw [if_neg (by omega), List.getElem_append_right (by simp; omega)]
        simp
theorem col_row : rowL (colM n R b) (n + 1) i = rowL R n i ++ [encQ (b i)] := by
  unfold rowL
  rw [List.range_succ, List.map_append]
  congr 1
  · exact List.map_congr_left fun j hj => by unfold colM; rw [if_pos (List.mem_range.mp hj)]
  · unfold colM
    simp
end
def vecT (b : Nat → Rat) (n : Nat) : List D := (List.range n).map fun i => encQ (b i)
end DL
set_option Elab.async false
set_option linter.all false
set_option maxRecDepth 100000
set_option maxHeartbeats 1000000
/-! DL42: draws by the law's hand over a list; matrices of drawn numbers. -/
namespace DL
open PySem L2
/-! ### draws -/
theorem lcL_hd {β : Type} {tf : Tg} {fe : FE} {δ : DEnv} {T : Store} {K : Nat} {wf : β → W} {Pd : D → Prop} : ∀ {xs : List β} {acc : List W} {f : Nat} {m : M}, HdSt (f + xs.length * K) m →
    (∀ x ∈ xs, ∀ f m, HdSt (f + K) m → ∃ δ1 d m', tf (wf x) δ (m :: T) = some (δ1, m :: T) ∧ fe δ1 (m :: T) = some (.ok (.d d), m' :: T) ∧ HdSt f m' ∧ Pd d) →
    ∃ (ds : List D) (m' : M), lcL tf ftYes fe none δ (xs.map wf) (m :: T) acc = some (.ok (acc ++ ds.map W.d), m' :: T) ∧ HdSt f m' ∧ ds.length = xs.length ∧ ∀ d ∈ ds, Pd d
  | [], acc, f, m, hm, _ => ⟨[], m, by show lcL tf ftYes fe none δ [] (m :: T) acc = _; unfold lcL; rw [if_pos okG_no]; simp, by simpa using hm, rfl, by simp⟩
  | x :: xs, acc, f, m, hm, h => by
    have hm' : HdSt ((f + xs.length * K) + K) m := hm.weak (by rw [List.length_cons, Nat.add_mul]; omega)
    obtain ⟨δ1, d, m1, h1, h2, h3, h4⟩ := h x List.mem_cons_self _ m hm'
    obtain ⟨ds, m2, e, g1, g2, g3⟩ := lcL_hd (acc := acc ++ [.d d]) h3 fun u hu => h u (List.mem_cons_of_mem _ hu)
    refine ⟨d :: ds, m2, ?_, g1, by simp [g2], fun z hz => ?_⟩
    · show lcL tf ftYes fe none δ (wf x :: xs.map wf) (m :: T) acc = _
      unfold lcL
      rw [if_pos okG_no]
      simp only [h1, h2, ftYes]
      rw [e]
      simp
    · rcases List.mem_cons.mp hz with rfl | hz
      · exact h4
      · exact g3 z hz
theorem dLc_hd {β : Type} (Q : Rat → Prop) (K : Nat) {fi : FI} {tf : Tg} {fe : FE} {vs : List Nat} {δ : DEnv} {T S0 : Store} {m : M} {f : Nat} {xs : List β} {wf : β → W} (hn : xs.length ≤ 1000) (hm : HdSt (f + xs.length * K) m)
    (hi : fi δ S0 = some (.ok (xs.map wf, none), m :: T)) (h : ∀ x ∈ xs, ∀ f m, HdSt (f + K) m → ∃ δ1 q m', tf (wf x) (wipeE δ vs) (m :: T) = some (δ1, m :: T) ∧ fe δ1 (m :: T) = some (.ok (.d (encQ q)), m' :: T) ∧ HdSt f m' ∧ Q q) :
    ∃ (qs : List Rat) (m' : M), dLc lcF fi tf ftYes fe vs δ S0 = some (.ok (.d (.lst (qs.map encQ))), m' :: T) ∧ HdSt f m' ∧ qs.length = xs.length ∧ ∀ q ∈ qs, Q q := by
  obtain ⟨ds, m', e1, hm', hds, hd⟩ := lcL_hd (tf := tf) (fe := fe) (δ := wipeE δ vs) (T := T) (K := K) (wf := wf) (Pd := fun d => ∃ q, d = encQ q ∧ Q q) (acc := []) hm (by
    intro x hx f m hm
    obtain ⟨δ1, q, m', e1, e2, e3, e4⟩ := h x hx f m hm
    exact ⟨δ1, _, m', e1, e2, e3, q, rfl, e4⟩)
  have hqs : ∀ {ds : List D}, (∀ d ∈ ds, ∃ q, d = encQ q ∧ Q q) → ∃ qs : List Rat, ds = qs.map encQ ∧ ∀ q ∈ qs, Q q := fun {ds} => by
    induction ds with
    | nil => exact fun _ => ⟨[], rfl, by simp⟩
    | cons d ds ih =>
      intro h
      obtain ⟨q, rfl, hq⟩ := h d List.mem_cons_self
      obtain ⟨qs, rfl, hqs⟩ := ih fun d hd => h d (List.mem_cons_of_mem _ hd)
      exact ⟨q :: qs, rfl, fun x hx => by
        rcases List.mem_cons.mp hx with rfl | hx
        · exact hq
        · exact hqs x hx⟩
  obtain ⟨qs, rfl, hq⟩ := hqs hd
  refine ⟨qs, m', ?_, hm', by simpa using hds, hq⟩
  have hz : (xs.map wf).length ≤ sizeLine := Nat.le_trans (by rw [List.length_map]; exact hn) (by decide)
  unfold dLc
  rw [hi, bind_ok]
  dsimp only
  rw [if_pos hz, e1, bind_ok, List.nil_append]
  unfold lcF
  rw [pure?_map]
/-! ### twelfths -/
def TwB (b : Nat) (x : Rat) : Prop := ∃ e : Int, Bd b e ∧ x * 12 = (e : Rat)
theorem TwB.tw {b : Nat} {x : Rat} (h : TwB b x) (hb : b ≤ 8) : Tw x := by
  obtain ⟨e, h1, h2⟩ := h
  exact ⟨e, h1.up hb, h2⟩
theorem TwB.add {b : Nat} {x y : Rat} (h : TwB b x) (g : TwB b y) : TwB (b + 1) (x + y) := by
  obtain ⟨e, h1, h2⟩ := h
  obtain ⟨d, g1, g2⟩ := g
  exact ⟨e + d, h1.add g1, by rw [Rat.intCast_add, ← h2, ← g2]; grind⟩
theorem tw_drawn {t b : Int} (h1 : -9 ≤ t) (h2 : t ≤ 9) (h3 : 1 ≤ b) (h4 : b ≤ 4) : TwB 7 ((t : Rat) / (b : Rat)) := by
  have hb : b = 1 ∨ b = 2 ∨ b = 3 ∨ b = 4 := by omega
  rcases hb with rfl | rfl | rfl | rfl
  · refine ⟨t * 12, by unfold Bd; omega, ?_⟩
    rw [Rat.intCast_mul, show ((12 : Int) : Rat) = 12 from rfl, show ((1 : Int) : Rat) = 1 from rfl]
    grind
  · refine ⟨t * 6, by unfold Bd; omega, ?_⟩
    rw [Rat.intCast_mul, show ((6 : Int) : Rat) = 6 from rfl, show ((2 : Int) : Rat) = 2 from rfl]
    grind
  · refine ⟨t * 4, by unfold Bd; omega, ?_⟩
    rw [Rat.intCast_mul, show ((4 : Int) : Rat) = 4 from rfl, show ((3 : Int) : Rat) = 3 from rfl]
    grind
  · refine ⟨t * 3, by unfold Bd; omega, ?_⟩
    rw [Rat.intCast_mul, show ((3 : Int) : Rat) = 3 from rfl, show ((4 : Int) : Rat) = 4 from rfl]
    grind
theorem twb_zero {b : Nat} : TwB b 0 := ⟨0, by unfold Bd; exact Nat.pow_pos (by decide), by rw [Rat.intCast_zero]; grind⟩
/-! ### matrices of lists -/
def matOf (rs : List (List Rat)) : Mat := fun i j => (rs.getD i []).getD j 0
theorem mat_of {rs : List (List Rat)} {n m : Nat} (h : rs.length = n) (hr : ∀ r ∈ rs, r.length = m) : rs.map (fun r => D.tup (r.map encQ)) = matT (matOf rs) n m := by
  refine List.ext_getElem (by simp [matT, h]) fun i h1 h2 => ?_
  have hi : i < rs.length := by simpa using h1
  simp only [matT, List.getElem_map, List.getElem_range, rowT]
  congr 1
  have hl := hr _ (List.getElem_mem hi)
  refine List.ext_getElem (by simp [rowL, hl]) fun j h3 h4 => ?_
  have hj : j < rs[i].length := by simpa using h3
  have e1 : rs[i]? = some rs[i] := List.getElem?_eq_getElem hi
  have e2 : rs[i][j]? = some rs[i][j] := List.getElem?_eq_getElem hj
  simp only [rowL, List.getElem_map, List.getElem_range, matOf, List.getD_eq_getElem?_getD, e1, Option.getD_some, e2]
theorem vec_of {qs : List Rat} {n : Nat} (h : qs.length = n) : qs.map encQ = vecT (fun i => qs.getD i 0) n := by
  refine List.ext_getElem (by simp [vecT, h]) fun i h1 h2 => ?_
  have hi : i < qs.length := by simpa using h1
  simp [vecT, List.getD_eq_getElem?_getD, List.getElem?_eq_getElem hi]
theorem matOf_all {P : Rat → Prop} {rs : List (List Rat)} {n m : Nat} (h : rs.length = n) (hr : ∀ r ∈ rs, r.length = m ∧ ∀ q ∈ r, P q) : ∀ i, i < n → ∀ j, j < m → P (matOf rs i j) := fun i hi j hj => by
  subst h
  obtain ⟨h1, h2⟩ := hr _ (List.getElem_mem hi)
  have e1 : rs[i]? = some rs[i] := List.getElem?_eq_getElem hi
  have hj' : j < rs[i].length := by omega
  have e2 : rs[i][j]? = some rs[i][j] := List.getElem?_eq_getElem hj'
  simp only [matOf, List.getD_eq_getElem?_getD, e1, Option.getD_some, e2]
  exact h2 _ (List.getElem_mem hj')
theorem vec_all {P : Rat → Prop} {qs : List Rat} {n : Nat} (h : qs.length = n) (hr : ∀ q ∈ qs, P q) : ∀ i, i < n → P (qs.getD i 0) := fun i hi => by
  subst h
  simp only [List.getD_eq_getElem?_getD, List.getElem?_eq_getElem hi, Option.getD_some]
  exact hr _ (List.getElem_mem hi)
/-- the last row made of the first one and the row k -/
def depM (n k : Nat) (R : Mat) : Mat := fun i j => if i + 1 = n then R 0 j + R k j else R i j
theorem dep_row {n k : Nat} {R : Mat} (h : 1 ≤ n) : matT R (n - 1) n ++ [.tup (rowL (fun _ j => R 0 j + R k j) n 0)] = matT (depM n k R) n n := by
  obtain ⟨m, rfl⟩ : ∃ m, n = m + 1 := ⟨n - 1, by omega⟩
  unfold matT
  rw [List.range_succ, List.map_append]
  congr 1
  · exact List.map_congr_left fun i hi => by
      have hi' := List.mem_range.mp hi
      have hne : ¬ i + 1 = m + 1 := by omega
      unfold rowT rowL depM
      simp only [if_neg hne]
  · simp [rowT, rowL, depM]
/-! ### equality -/
theorem oEq_Q {q : Rat} {S : Store} : oEq (.d (encQ q)) (.d (.tup [.int 0, .int 1])) S = some (.ok (.d (.bl (decide (q = 0)))), S) := by
  have h := EqE.oEq (S := S) eqE_F (by decide) (fq q) (0, 1)
  have e : decide (fq q = (0, 1)) = decide (q = 0) := decide_eq_decide.mpr fq_eq_zero
  rw [e] at h
  exact h
theorem pl_vec {b : Nat → Rat} {n : Nat} : Pl 2 (.tup (vecT b n)) := pl_tup fun d hd => by
  obtain ⟨i, _, rfl⟩ := List.mem_map.mp hd
  exact pl_encF _
theorem pl_mat {A : Mat} {n m : Nat} : Pl 3 (.tup (matT A n m)) := pl_tup fun d hd => by
  obtain ⟨i, _, rfl⟩ := List.mem_map.mp hd
  exact pl_tup fun d hd => by
    obtain ⟨j, _, rfl⟩ := List.mem_map.mp hd
    exact pl_encF _
theorem matT_congr {A B : Mat} {n m : Nat} (h : ∀ i, i < n → ∀ j, j < m → A i j = B i j) : matT A n m = matT B n m := List.map_congr_left fun i hi => by unfold rowT; rw [rowL_congr (h i (List.mem_range.mp hi))]
theorem vecT_congr {a b : Nat → Rat} {n : Nat} (h : ∀ i, i < n → a i = b i) : vecT a n = vecT b n := List.map_congr_left fun i hi => by rw [h i (List.mem_range.mp hi)]
end DL
set_option Elab.async false
set_option linter.all false
set_option maxRecDepth 100000
set_option maxHeartbeats 1000000
/-! DL43: x not in a tuple. -/
namespace DL
open PySem PySem.Spec PyProof.Rows L2
section
variable {X : Cx} {Wx : WX}
theorem op_notInTp (hu : X.A.units + 65 < cLine) : OpR X (compareOp .NotIn) (rInTp X.K true) := by
  intro pins s σ H x y v u Q I rx ry h
  obtain ⟨d, ds, hd, he, sd, se, q⟩ := h
  obtain ⟨as, r1⟩ := Dp.reads I d x v hd rx
  obtain ⟨bs, r2⟩ := Dp.reads I (.tuple ds) y u he ry
  have pl : (PyData.tuple ds).plain = true := PyData.plain_of_canLay0 _ (SeqAt.canLay_of_shaped se)
  exact SeqAt.notIn_tuple_data r2 r1 (by simpa [PyData.plain] using pl) (PyData.plain_of_canLay0 _ (SeqAt.canLay_of_shaped sd)) (PyProof.Rows.room_in_shaped sd hu) ⟨.bl _, H, I, rfl, q⟩
def oNotInTp : F2 := fun x y S => match x, y with
  | .d a, .d (.tup ys) => (match toP a, toPs ys with
    | some p, some ps => if SeqAt.shaped p = true ∧ SeqAt.shaped (.tuple ps) = true then some (.ok (.d (.bl (!(ps.any fun z => PyData.eqv z p)))), S) else none
    | _, _ => none)
  | _, _ => none
theorem oNotInTp_ok {K : PySem.W.Frag} : OpF K Wx (rInTp K true) oNotInTp := by
  intro σ ρ S H x y a b Q ok rx ry q
  unfold oNotInTp at q
  split at q
  · rename_i a0 ys
    split at q
    · rename_i p ps e1 e2
      split at q
      · rename_i hs
        have ry' : RelD K ρ H (.tup ys) b := ry
        have e3 : toP (.tup ys) = some (.tuple ps) := by rw [toP, e2]; rfl
        exact ⟨p, ps, toP_ok a0 a p e1 rx, toP_ok (.tup ys) b _ e3 ry', hs.1, hs.2, go_val ok q (by simp [RelW, RelD])⟩
      · exact go_none q
    · exact go_none q
  · exact go_none q
end
end DL
set_option Elab.async false
set_option linter.all false
set_option maxRecDepth 100000
set_option maxHeartbeats 1000000
/-! DL44: determinants: what is linear in each row and turns its sign when two rows are exchanged is told by elimination. -/
namespace DL
def upr (A : Mat) (i : Nat) (x : Nat → Rat) : Mat := fun k => if k = i then x else A k
def idM : Mat := fun i j => if i = j then 1 else 0
structure Alt (n : Nat) (D : Mat → Rat) : Prop where
  congr : ∀ A B : Mat, (∀ i, i < n → ∀ j, j < n → A i j = B i j) → D A = D B
  add : ∀ (A : Mat) (i : Nat) (x y : Nat → Rat), i < n → D (upr A i fun j => x j + y j) = D (upr A i x) + D (upr A i y)
  smul : ∀ (A : Mat) (i : Nat) (c : Rat) (x : Nat → Rat), i < n → D (upr A i fun j => c * x j) = c * D (upr A i x)
  swap : ∀ (A : Mat) (p : Nat), p + 1 < n → D (swp A p (p + 1)) = -D A
theorem swp_comm {A : Mat} {p q : Nat} : swp A p q = swp A q p := by
  funext i
  unfold swp
  by_cases h1 : i = p
  · by_cases h2 : i = q
    · rw [if_pos h1, if_pos h2, ← h1, ← h2]
    · rw [if_pos h1, if_neg h2, if_pos h1]
  · by_cases h2 : i = q
    · rw [if_neg h1, if_pos h2, if_pos h2]
    · rw [if_neg h1, if_neg h2, if_neg h2, if_neg h1]
theorem upr_self {A : Mat} {i : Nat} : upr A i (A i) = A := by
  funext k
  unfold upr
  split
  · rename_i e; rw [e]
  · rfl
/-- exchanged rows by neighbours -/
theorem swp_conj {A : Mat} {p q : Nat} (h : p + 1 < q) : swp A p q = swp (swp (swp A p (p + 1)) (p + 1) q) p (p + 1) := by
  funext i
  unfold swp
  have a1 : p ≠ p + 1 := by omega
  have a2 : p + 1 ≠ p := by omega
  have a3 : q ≠ p := by omega
  have a4 : q ≠ p + 1 := by omega
  have a5 : p ≠ q := by omega
  have a6 : p + 1 ≠ q := by omega
  by_cases h1 : i = p
  · subst h1; simp [a1, a2, a3, a4, a5, a6]
  · by_cases h2 : i = p + 1
    · subst h2; simp [a1, a2, a3, a4, a5, a6]
    · by_cases h3 : i = q
      · subst h3; simp [a1, a2, a3, a4, a5, a6]
      · simp [h1, h2, h3, a1, a2, a3, a4, a5, a6]
section
variable {n : Nat} {D : Mat → Rat} (L : Alt n D)
include L
theorem Alt.swpN : ∀ (d : Nat) {A : Mat} {p : Nat}, p + d + 1 < n → D (swp A p (p + d + 1)) = -D A
  | 0, A, p, h => L.swap A p h
  | d + 1, A, p, h => by
    have eq : p + (d + 1) + 1 = (p + 1) + d + 1 := by omega
    rw [eq, swp_conj (by omega), L.swap _ _ (by omega), Alt.swpN d (by omega), L.swap _ _ (by omega)]
    grind
theorem Alt.swp' {A : Mat} {p q : Nat} (hp : p < n) (hq : q < n) (h : p ≠ q) : D (swp A p q) = -D A := by
  by_cases hl : p < q
  · obtain ⟨d, rfl⟩ : ∃ d, q = p + d + 1 := ⟨q - p - 1, by omega⟩
    exact L.swpN d hq
  · obtain ⟨d, rfl⟩ : ∃ d, p = q + d + 1 := ⟨p - q - 1, by omega⟩
    rw [swp_comm]
    exact L.swpN d hp
/-- two rows alike -/
theorem Alt.eq0 {A : Mat} {p q : Nat} (hp : p < n) (hq : q < n) (h : p ≠ q) (e : A p = A q) : D A = 0 := by
  have s := L.swp' (A := A) hp hq h
  have : swp A p q = A := by
    funext i
    unfold swp
    split
    · rename_i z; rw [z, e]
    · split
      · rename_i z; rw [z, e]
      · rfl
  rw [this] at s
  grind
theorem Alt.addrow {A : Mat} {i k : Nat} {c : Rat} (hi : i < n) (hk : k < n) (h : i ≠ k) : D (upr A i fun j => A i j + c * A k j) = D A := by
  rw [L.add A i (A i) (fun j => c * A k j) hi, L.smul A i c (A k) hi, upr_self, L.eq0 (A := upr A i (A k)) hi hk h (by
    unfold upr
    rw [if_pos rfl, if_neg (Ne.symm h)])]
  grind
/-- multiples of one row added to all others below i -/
def addTo (A : Mat) (t : Nat) (g : Nat → Rat) (i : Nat) : Mat := fun k => if k ≠ t ∧ k < i then fun j => A k j + g k * A t j else A k
omit L in
theorem addTo_t {A : Mat} {t : Nat} {g : Nat → Rat} {i : Nat} : addTo A t g i t = A t := by
  unfold addTo
  rw [if_neg (by simp)]
theorem Alt.addTo {A : Mat} {t : Nat} {g : Nat → Rat} (ht : t < n) : ∀ i, i ≤ n → D (DL.addTo A t g i) = D A
  | 0, _ => by
    have : DL.addTo A t g 0 = A := by funext k; unfold DL.addTo; rw [if_neg (by omega)]
    rw [this]
  | i + 1, h => by
    refine Eq.trans ?_ (Alt.addTo (A := A) (g := g) ht i (by omega))
    by_cases e : i = t
    · have : DL.addTo A t g (i + 1) = DL.addTo A t g i := by
        funext k
        unfold DL.addTo
        by_cases h1 : k ≠ t ∧ k < i
        · rw [if_pos h1, if_pos ⟨h1.1, by omega⟩]
        · rw [if_neg h1, if_neg (by omega)]
      rw [this]
    · have ei : DL.addTo A t g i i = A i := by unfold DL.addTo; rw [if_neg (by omega)]
      have : DL.addTo A t g (i + 1) = upr (DL.addTo A t g i) i fun j => DL.addTo A t g i i j + g i * DL.addTo A t g i t j := by
        rw [addTo_t, ei]
        funext k
        unfold DL.addTo upr
        dsimp only
        by_cases h1 : k = i
        · subst h1; rw [if_pos ⟨e, by omega⟩, if_pos rfl]
        · rw [if_neg h1]
          by_cases h2 : k ≠ t ∧ k < i
          · rw [if_pos h2, if_pos ⟨h2.1, by omega⟩]
          · rw [if_neg h2, if_neg (by omega)]
      rw [this, L.addrow (by omega) ht e]
theorem Alt.zrow {A : Mat} {i : Nat} (hi : i < n) (h : ∀ j, j < n → A i j = 0) : D A = 0 := by
  have : D A = D (upr A i fun j => 0 * A i j) := L.congr _ _ fun k hk j hj => by
    unfold upr
    split
    · rename_i e; subst e; rw [h j hj]; grind
    · rfl
  rw [this, L.smul A i 0 (A i) hi]
  grind
/-- so many rows over one column fewer -/
theorem Alt.few : ∀ (k : Nat) {A : Mat} {t : Nat}, t + k + 1 = n → (∀ i, i < n → t ≤ i → ∀ j, j ≤ t → A i j = 0) → D A = 0
  | 0, A, t, ht, h => L.zrow (i := t) (by omega) fun j hj => h t (by omega) (Nat.le_refl _) j (by omega)
  | k + 1, A, t, ht, h => by
    by_cases hz : ∀ i, i < n → t ≤ i → A i (t + 1) = 0
    · exact Alt.few k (t := t + 1) (by omega) fun i hi h1 j hj => by
        by_cases e : j = t + 1
        · subst e; exact hz i hi (by omega)
        · exact h i hi (by omega) j (by omega)
    · have : ∃ r, r < n ∧ t ≤ r ∧ A r (t + 1) ≠ 0 := by
        apply Classical.byContradiction
        intro hc
        exact hz fun i hi h1 => Classical.byContradiction fun h2 => hc ⟨i, hi, h1, h2⟩
      obtain ⟨r, r1, r2, r3⟩ := this
      -- the row r at t
      have hB : ∃ B : Mat, (D B = D A ∨ D B = -D A) ∧ B t (t + 1) ≠ 0 ∧ ∀ i, i < n → t ≤ i → ∀ j, j ≤ t → B i j = 0 := by
        by_cases e : r = t
        · subst e; exact ⟨A, .inl rfl, r3, h⟩
        · refine ⟨swp A t r, .inr (L.swp' (by omega) r1 (Ne.symm e)), by rw [swp_tt]; exact r3, fun i hi h1 j hj => ?_⟩
          unfold swp
          split
          · exact h r r1 r2 j hj
          · split
            · exact h t (by omega) (Nat.le_refl _) j hj
            · exact h i hi h1 j hj
      obtain ⟨B, b1, b2, b3⟩ := hB
      have c1 := L.addTo (A := B) (t := t) (g := fun i => if t < i then -(B i (t + 1) / B t (t + 1)) else 0) (by omega) n (Nat.le_refl _)
      have c2 := Alt.few k (A := DL.addTo B t (fun i => if t < i then -(B i (t + 1) / B t (t + 1)) else 0) n) (t := t + 1) (by omega) fun i hi h1 j hj => by
        unfold DL.addTo
        rw [if_pos ⟨by omega, hi⟩]
        dsimp only
        rw [if_pos (by omega)]
        by_cases e : j = t + 1
        · subst e; grind
        · rw [b3 i hi (by omega) j (by omega), b3 t (by omega) (Nat.le_refl _) j (by omega)]
          grind
      rw [c2] at c1
      rcases b1 with z | z <;> grind
theorem Alt.led {A : Mat} {t : Nat} (ht : t < n) (hA : A t t ≠ 0) : D A = A t t * D (DL.led A t) := by
  have e : D (DL.led A t) = D (DL.addTo (upr A t fun j => (1 / A t t) * A t j) t (fun i => -A i t) n) := L.congr _ _ fun i hi j hj => by
    unfold DL.led DL.addTo upr
    by_cases e : i = t
    · subst e
      rw [if_pos rfl, if_neg (by simp), if_pos rfl]
      grind
    · rw [if_neg e, if_pos ⟨e, hi⟩, if_neg e, if_pos rfl]
      grind
  rw [e, L.addTo ht n (Nat.le_refl _), L.smul A t _ (A t) ht, upr_self]
  grind
/-- elimination tells it -/
theorem Alt.run : ∀ {k t : Nat} {d : Rat} {A : Mat}, t + k = n → (∀ i, i < n → ∀ c, c < t → A i c = if i = c then 1 else 0) → (DL.run n k t d A = none → D A = 0) ∧ ∀ p, DL.run n k t d A = some p → d * D A = p.1 * D p.2
  | 0, t, d, A, ht, hu => ⟨fun h => by simp [DL.run] at h, fun p h => by cases h; rfl⟩
  | k + 1, t, d, A, ht, hu => by
    have hu2 := hu
    cases hr : lead A n t with
    | none =>
      refine ⟨fun _ => ?_, fun p h => by unfold DL.run at h; rw [hr] at h; cases h⟩
      have hz : ∀ {m i : Nat}, leadN A t i m = none → ∀ r, i ≤ r → r < i + m → A r t = 0 := by
        intro m
        induction m with
        | zero => intro i _ r h1 h2; omega
        | succ m ih =>
          intro i h r h1 h2
          unfold leadN at h
          split at h
          · rename_i e
            by_cases e2 : r = i
            · subst e2; exact e
            · exact ih h r (by omega) (by omega)
          · cases h
      exact L.few k (by omega) fun i hi h1 j hj => by
        by_cases e : j = t
        · subst e; exact hz hr i h1 (by omega)
        · rw [hu i hi j (by omega), if_neg (by omega)]
    | some r =>
      obtain ⟨l1, l2, l3⟩ := lead_some hr
      have hp := piv_ne hr
      have ld := L.led (A := swp A t r) (t := t) (by omega) hp
      have sw : D (swp A t r) = if r = t then D A else -D A := by
        by_cases e : r = t
        · subst e
          have : swp A r r = A := by
            funext i
            unfold swp
            by_cases e : i = r
            · rw [if_pos e, e]
            · rw [if_neg e, if_neg e]
          rw [this, if_pos rfl]
        · rw [if_neg e]; exact L.swp' (by omega) l2 (Ne.symm e)
      have un := run_unit (n := n) (k := 1) (t := t) (d := d) (A := A) (by omega) (by unfold DL.run; rw [hr]; rfl) hu2
      obtain ⟨i1, i2⟩ := Alt.run (k := k) (t := t + 1) (d := (if r = t then d else d * (-1)) * swp A t r t t) (A := DL.led (swp A t r) t) (by omega) un
      have dd : (if r = t then d else d * (-1)) * D (swp A t r) = d * D A := by
        rw [sw]
        split <;> grind
      unfold DL.run
      rw [hr]
      refine ⟨fun h => ?_, fun p h => ?_⟩
      · have := i1 h
        rw [this] at ld
        rw [ld] at sw
        by_cases e : r = t
        · rw [if_pos e] at sw; grind
        · rw [if_neg e] at sw; grind
      · have := i2 p h
        rw [← this, ← dd, ld]
        grind
end
def detQ (n : Nat) (R : Mat) : Rat := match DL.run n n 0 1 R with
  | none => 0
  | some p => p.1
theorem Alt.det {n : Nat} {D : Mat → Rat} (L : Alt n D) {A : Mat} : D A = detQ n A * D idM := by
  obtain ⟨h1, h2⟩ := L.run (k := n) (t := 0) (d := 1) (A := A) (by omega) (fun _ _ c hc => absurd hc (by omega))
  unfold detQ
  cases hr : DL.run n n 0 1 A with
  | none => rw [h1 hr]; grind
  | some p =>
    have := h2 p hr
    have e : D p.2 = D idM := L.congr _ _ fun i hi j hj => run_unit (by omega) hr (fun _ _ c hc => absurd hc (by omega)) i hi j (by omega)
    rw [e] at this
    rw [← this]
    grind
end DL
set_option Elab.async false
set_option linter.all false
set_option maxRecDepth 100000
set_option maxHeartbeats 1000000
/-! DL45: the sum over all arrangements. -/
namespace DL
/-- the sign of a behind what is used -/
def sg : Nat → (Nat → Bool) → Nat → Rat
  | 0, _, _ => 1
  | n + 1, u, a => sg n u a * if u n = true ∧ a < n then -1 else 1
def us (u : Nat → Bool) (a : Nat) : Nat → Bool := fun j => decide (j = a) || u j
def lb (n : Nat) (A : Mat) : Nat → Nat → (Nat → Bool) → Rat
  | 0, _, _ => 1
  | k + 1, t, u => sm n fun a => if u a = true then 0 else sg n u a * A t a * lb n A k (t + 1) (us u a)
/-- so many are not used -/
def un : Nat → (Nat → Bool) → Nat
  | 0, _ => 0
  | n + 1, u => un n u + if u n = true then 0 else 1
theorem us_same {u : Nat → Bool} {a : Nat} : us u a a = true := by simp [us]
theorem us_ne {u : Nat → Bool} {a j : Nat} (h : j ≠ a) : us u a j = u j := by simp [us, h]
theorem us_keep {u : Nat → Bool} {a j : Nat} (h : u j = true) : us u a j = true := by simp [us, h]
theorem us_comm {u : Nat → Bool} {a b : Nat} : us (us u a) b = us (us u b) a := by
  funext j
  simp only [us]
  rw [← Bool.or_assoc, ← Bool.or_assoc, Bool.or_comm (decide (j = b))]
theorem sg_congr {a : Nat} : ∀ {n : Nat} {u v : Nat → Bool}, (∀ j, j < n → u j = v j) → sg n u a = sg n v a
  | 0, _, _, _ => rfl
  | n + 1, u, v, h => by rw [sg, sg, sg_congr fun j hj => h j (by omega), h n (by omega)]
theorem sg_big {a : Nat} {u : Nat → Bool} : ∀ {n : Nat}, n ≤ a + 1 → sg n u a = 1
  | 0, _ => rfl
  | n + 1, h => by rw [sg, sg_big (by omega), if_neg (by omega)]; grind
theorem sg_us {u : Nat → Bool} {a b : Nat} (hb : u b = false) : ∀ {n : Nat}, b < n → sg n (us u b) a = sg n u a * if a < b then -1 else 1
  | n + 1, h => by
    rw [sg, sg]
    by_cases e : b = n
    · subst e
      rw [sg_congr (v := u) fun j hj => us_ne (by omega), us_same, hb]
      simp
    · rw [sg_us hb (by omega), us_ne (by omega)]
      grind
theorem un_congr : ∀ {n : Nat} {u v : Nat → Bool}, (∀ j, j < n → u j = v j) → un n u = un n v
  | 0, _, _, _ => rfl
  | n + 1, u, v, h => by rw [un, un, un_congr fun j hj => h j (by omega), h n (by omega)]
theorem un_us {u : Nat → Bool} {a : Nat} (ha : u a = false) : ∀ {n : Nat}, a < n → un n (us u a) + 1 = un n u
  | n + 1, h => by
    rw [un, un]
    by_cases e : a = n
    · subst e
      rw [un_congr (v := u) fun j hj => us_ne (by omega), us_same, ha]
      simp
    · rw [us_ne (by omega), ← un_us ha (n := n) (by omega)]
      omega
theorem un_zero : ∀ {n : Nat} {u : Nat → Bool}, un n u = 0 → ∀ a, a < n → u a = true
  | n + 1, u, h, a, ha => by
    rw [un] at h
    by_cases e : a = n
    · subst e
      cases hu : u a with
      | true => rfl
      | false => rw [hu] at h; simp at h
    · exact un_zero (n := n) (by omega) a (by omega)
theorem un_none : ∀ n : Nat, un n (fun _ => false) = n
  | 0 => rfl
  | n + 1 => by rw [un, un_none n]; simp
theorem sm_swap {F : Nat → Nat → Rat} {m : Nat} : ∀ {n : Nat}, sm n (fun a => sm m fun b => F a b) = sm m fun b => sm n fun a => F a b
  | 0 => by rw [sm]; exact (sm_zero fun _ _ => rfl).symm
  | n + 1 => by
    rw [sm, sm_swap, ← sm_add]
    exact sm_congr fun b _ => by rw [sm]
theorem sm_neg {f : Nat → Rat} {n : Nat} : sm n (fun a => -f a) = -sm n f := by
  have := sm_mul (c := -1) (n := n) (f := f)
  rw [show -sm n f = -1 * sm n f by grind, ← this]
  exact sm_congr fun k _ => by grind
section
variable {n : Nat}
theorem lb_congr : ∀ {k t : Nat} {u : Nat → Bool} {A B : Mat}, (∀ i, t ≤ i → i < t + k → ∀ j, j < n → A i j = B i j) → lb n A k t u = lb n B k t u
  | 0, _, _, _, _, _ => rfl
  | k + 1, t, u, A, B, h => by
    rw [lb, lb]
    exact sm_congr fun a ha => by rw [h t (Nat.le_refl _) (by omega) a ha, lb_congr (k := k) (t := t + 1) fun i h1 h2 j hj => h i (by omega) (by omega) j hj]
theorem lb_upr {A : Mat} {i : Nat} {x : Nat → Rat} {k t : Nat} {u : Nat → Bool} (h : i < t) : lb n (upr A i x) k t u = lb n A k t u := lb_congr fun r h1 _ j _ => by
  unfold upr
  rw [if_neg (by omega)]
theorem lb_add {A : Mat} {i : Nat} {x y : Nat → Rat} : ∀ {k t : Nat} {u : Nat → Bool}, t ≤ i → i < t + k → lb n (upr A i fun j => x j + y j) k t u = lb n (upr A i x) k t u + lb n (upr A i y) k t u
  | 0, t, u, h1, h2 => by omega
  | k + 1, t, u, h1, h2 => by
    rw [lb, lb, lb, ← sm_add]
    refine sm_congr fun a _ => ?_
    by_cases hu : u a = true
    · rw [if_pos hu, if_pos hu, if_pos hu]; grind
    · rw [if_neg hu, if_neg hu, if_neg hu]
      by_cases e : t = i
      · subst e
        rw [lb_upr (by omega), lb_upr (by omega), lb_upr (by omega)]
        unfold upr
        rw [if_pos rfl, if_pos rfl, if_pos rfl]
        grind
      · rw [lb_add (by omega) (by omega)]
        unfold upr
        rw [if_neg e, if_neg e, if_neg e]
        grind
theorem lb_smul {A : Mat} {i : Nat} {c : Rat} {x : Nat → Rat} : ∀ {k t : Nat} {u : Nat → Bool}, t ≤ i → i < t + k → lb n (upr A i fun j => c * x j) k t u = c * lb n (upr A i x) k t u
  | 0, t, u, h1, h2 => by omega
  | k + 1, t, u, h1, h2 => by
    rw [lb, lb, ← sm_mul]
    refine sm_congr fun a _ => ?_
    by_cases hu : u a = true
    · rw [if_pos hu, if_pos hu]; grind
    · rw [if_neg hu, if_neg hu]
      by_cases e : t = i
      · subst e
        rw [lb_upr (by omega), lb_upr (by omega)]
        unfold upr
        rw [if_pos rfl, if_pos rfl]
        grind
      · rw [lb_smul (by omega) (by omega)]
        unfold upr
        rw [if_neg e, if_neg e]
        grind
theorem lb_succ {A : Mat} {k t : Nat} {u : Nat → Bool} : lb n A (k + 1) t u = sm n fun a => if u a = true then 0 else sg n u a * A t a * lb n A k (t + 1) (us u a) := rfl
theorem lb_two {A : Mat} {k t : Nat} {u : Nat → Bool} : lb n A (k + 2) t u = sm n fun a => sm n fun b => if u a = true ∨ u b = true ∨ a = b then 0 else sg n u a * sg n (us u a) b * A t a * A (t + 1) b * lb n A k (t + 2) (us (us u a) b) := by
  rw [lb]
  refine sm_congr fun a _ => ?_
  by_cases hu : u a = true
  · rw [if_pos hu]
    exact (sm_zero fun b _ => by rw [if_pos (Or.inl hu)]).symm
  · rw [if_neg hu, lb, ← sm_mul]
    refine sm_congr fun b _ => ?_
    by_cases e : a = b
    · subst e; rw [us_same, if_pos rfl, if_pos (Or.inr (Or.inr rfl))]; grind
    · rw [us_ne (Ne.symm e)]
      by_cases hb : u b = true
      · rw [if_pos hb, if_pos (Or.inr (Or.inl hb))]; grind
      · rw [if_neg hb, if_neg (by simp [hu, hb, e])]
        grind
theorem lb_swap {A : Mat} {p : Nat} : ∀ {k t : Nat} {u : Nat → Bool}, t ≤ p → p + 1 < t + k → t + k ≤ n → lb n (swp A p (p + 1)) k t u = -lb n A k t u
  | 0, t, u, h1, h2, _ => by omega
  | 1, t, u, h1, h2, _ => by omega
  | k + 2, t, u, h1, h2, h3 => by
    by_cases e : t = p
    · subst e
      rw [lb_two, lb_two, sm_swap, ← sm_neg]
      refine sm_congr fun a ha => ?_
      rw [← sm_neg]
      refine sm_congr fun b hb => ?_
      have e1 : swp A t (t + 1) t = A (t + 1) := swp_tt
      have e2 : swp A t (t + 1) (t + 1) = A t := by unfold swp; rw [if_neg (by omega), if_pos rfl]
      have e3 : ∀ v, lb n (swp A t (t + 1)) k (t + 2) v = lb n A k (t + 2) v := fun v => lb_congr fun i h1 h2 j hj => by
        unfold swp
        rw [if_neg (by omega), if_neg (by omega)]
      rw [e1, e2, e3]
      by_cases c : u a = true ∨ u b = true ∨ a = b
      · rw [if_pos c, if_pos (by rcases c with z | z | z; exact .inr (.inl z); exact .inl z; exact .inr (.inr z.symm))]; grind
      · have ua : u a = false := by
          cases h : u a with
          | true => exact absurd (.inl h) c
          | false => rfl
        have ub : u b = false := by
          cases h : u b with
          | true => exact absurd (.inr (.inl h)) c
          | false => rfl
        have ne : a ≠ b := fun z => c (.inr (.inr z))
        rw [if_neg c, if_neg (by rw [ua, ub]; simp; exact Ne.symm ne), sg_us ua ha, sg_us ub hb, us_comm (a := b)]
        by_cases hl : a < b
        · rw [if_pos hl, if_neg (by omega)]; grind
        · rw [if_neg hl, if_pos (by omega)]; grind
    · rw [lb_succ (A := swp A p (p + 1)), lb_succ (A := A), ← sm_neg]
      refine sm_congr fun a _ => ?_
      have e1 : swp A p (p + 1) t = A t := by unfold swp; rw [if_neg e, if_neg (by omega)]
      rw [e1, lb_swap (k := k + 1) (t := t + 1) (by omega) (by omega) (by omega)]
      split <;> grind
theorem lb_id : ∀ {k t : Nat}, t + k = n → lb n idM k t (fun j => decide (j < t)) = 1
  | 0, _, _ => rfl
  | k + 1, t, h => by
    rw [lb, sm_congr (g := fun a => (if t = a then 1 else 0) * (sg n (fun j => decide (j < t)) a * lb n idM k (t + 1) (us (fun j => decide (j < t)) a))) fun a _ => by
      unfold idM
      by_cases h1 : t = a
      · subst h1
        rw [if_neg (by simp)]
        grind
      · rw [if_neg h1]
        split <;> grind, sm_delta (f := fun a => sg n (fun j => decide (j < t)) a * lb n idM k (t + 1) (us (fun j => decide (j < t)) a)) (by omega)]
    have e1 : us (fun j => decide (j < t)) t = fun j => decide (j < t + 1) := by
      funext j
      simp only [us]
      by_cases h1 : j = t
      · subst h1; simp
      · have : (j < t) = (j < t + 1) := by simp; omega
        simp [h1, this]
    have e2 : ∀ m, sg m (fun j => decide (j < t)) t = 1 := fun m => by
      induction m with
      | zero => rfl
      | succ m ih => rw [sg, ih, if_neg (by simp; omega)]; grind
    rw [e1, e2, lb_id (by omega)]
    grind
/-- the sum over all arrangements -/
def leib (n : Nat) (A : Mat) : Rat := lb n A n 0 fun _ => false
theorem leib_alt : Alt n (leib n) where
  congr := fun A B h => lb_congr fun i _ hi j hj => h i (by omega) j hj
  add := fun A i x y hi => lb_add (Nat.zero_le _) (by omega)
  smul := fun A i c x hi => lb_smul (Nat.zero_le _) (by omega)
  swap := fun A p hp => lb_swap (Nat.zero_le _) (by omega) (by omega)
theorem leib_id : leib n idM = 1 := by
  have h := lb_id (n := n) (k := n) (t := 0) (by omega)
  have e : (fun j : Nat => decide (j < 0)) = fun _ : Nat => false := by funext j; simp
  rw [e] at h
  exact h
theorem leib_det {A : Mat} : leib n A = detQ n A := by
  have := leib_alt.det (A := A) (n := n)
  rw [leib_id] at this
  rw [this]
  grind
/-! ### turned about -/
def colr (B : Mat) (c : Nat) (z : Nat → Rat) : Mat := fun r j => if j = c then z r else B r j
theorem lb_colu {B : Mat} {c : Nat} {z : Nat → Rat} : ∀ {k t : Nat} {u : Nat → Bool}, u c = true → lb n (colr B c z) k t u = lb n B k t u
  | 0, _, _, _ => rfl
  | k + 1, t, u, h => by
    rw [lb, lb]
    refine sm_congr fun a _ => ?_
    by_cases hu : u a = true
    · rw [if_pos hu, if_pos hu]
    · rw [if_neg hu, if_neg hu, lb_colu (us_keep h)]
      have : a ≠ c := fun e => hu (e ▸ h)
      unfold colr
      rw [if_neg this]
theorem lb_coladd {B : Mat} {c : Nat} {x y : Nat → Rat} (hc : c < n) : ∀ {k t : Nat} {u : Nat → Bool}, un n u = k → u c = false → lb n (colr B c fun j => x j + y j) k t u = lb n (colr B c x) k t u + lb n (colr B c y) k t u
  | 0, _, u, hn, h => by have := un_zero hn c hc; rw [h] at this; cases this
  | k + 1, t, u, hn, h => by
    rw [lb, lb, lb, ← sm_add]
    refine sm_congr fun a ha => ?_
    by_cases hu : u a = true
    · rw [if_pos hu, if_pos hu, if_pos hu]; grind
    · have hu' : u a = false := by simpa using hu
      rw [if_neg hu, if_neg hu, if_neg hu]
      by_cases e : a = c
      · subst e
        rw [lb_colu us_same, lb_colu us_same, lb_colu us_same]
        unfold colr
        rw [if_pos rfl, if_pos rfl, if_pos rfl]
        grind
      · rw [lb_coladd hc (by have := un_us hu' ha; omega) (by rw [us_ne (Ne.symm e)]; exact h)]
        unfold colr
        rw [if_neg e, if_neg e, if_neg e]
        grind
theorem lb_colsmul {B : Mat} {c : Nat} {d : Rat} {x : Nat → Rat} (hc : c < n) : ∀ {k t : Nat} {u : Nat → Bool}, un n u = k → u c = false → lb n (colr B c fun j => d * x j) k t u = d * lb n (colr B c x) k t u
  | 0, _, u, hn, h => by have := un_zero hn c hc; rw [h] at this; cases this
  | k + 1, t, u, hn, h => by
    rw [lb, lb, ← sm_mul]
    refine sm_congr fun a ha => ?_
    by_cases hu : u a = true
    · rw [if_pos hu, if_pos hu]; grind
    · have hu' : u a = false := by simpa using hu
      rw [if_neg hu, if_neg hu]
      by_cases e : a = c
      · subst e
        rw [lb_colu us_same, lb_colu us_same]
        unfold colr
        rw [if_pos rfl, if_pos rfl]
        grind
      · rw [lb_colsmul hc (by have := un_us hu' ha; omega) (by rw [us_ne (Ne.symm e)]; exact h)]
        unfold colr
        rw [if_neg e, if_neg e]
        grind
def ex2 (p j : Nat) : Nat := if j = p then p + 1 else if j = p + 1 then p else j
theorem ex2_l {p j : Nat} (h : j < p) : ex2 p j = j := by unfold ex2; rw [if_neg (by omega), if_neg (by omega)]
theorem ex2_g {p j : Nat} (h : p + 1 < j) : ex2 p j = j := by unfold ex2; rw [if_neg (by omega), if_neg (by omega)]
theorem ex2_0 {p : Nat} : ex2 p p = p + 1 := by unfold ex2; rw [if_pos rfl]
theorem ex2_1 {p : Nat} : ex2 p (p + 1) = p := by unfold ex2; rw [if_neg (by omega), if_pos rfl]
theorem ex2_ex2 {p j : Nat} : ex2 p (ex2 p j) = j := by
  by_cases h : j = p
  · rw [h, ex2_0, ex2_1]
  · by_cases h2 : j = p + 1
    · rw [h2, ex2_1, ex2_0]
    · have : ex2 p j = j := by unfold ex2; rw [if_neg h, if_neg h2]
      rw [this, this]
theorem sm_ex2 {p : Nat} {f : Nat → Rat} : ∀ (d : Nat), sm (p + 2 + d) (fun a => f (ex2 p a)) = sm (p + 2 + d) f
  | 0 => by
    show sm p (fun a => f (ex2 p a)) + f (ex2 p p) + f (ex2 p (p + 1)) = sm p f + f p + f (p + 1)
    rw [ex2_0, ex2_1, sm_congr (g := f) fun k hk => by rw [ex2_l hk]]
    grind
  | d + 1 => by
    show sm (p + 2 + d) (fun a => f (ex2 p a)) + f (ex2 p (p + 2 + d)) = sm (p + 2 + d) f + f (p + 2 + d)
    rw [sm_ex2 d, ex2_g (by omega)]
section
variable {u : Nat → Bool} {p : Nat}
theorem sg_ex {a : Nat} (h0 : a ≠ p) (h1 : a ≠ p + 1) : ∀ (d : Nat), sg (p + 2 + d) (fun j => u (ex2 p j)) a = sg (p + 2 + d) u a
  | 0 => by
    show sg p _ a * (if u (ex2 p p) = true ∧ a < p then -1 else 1) * (if u (ex2 p (p + 1)) = true ∧ a < p + 1 then -1 else 1) = sg p u a * (if u p = true ∧ a < p then -1 else 1) * (if u (p + 1) = true ∧ a < p + 1 then -1 else 1)
    rw [ex2_0, ex2_1, sg_congr (v := u) fun j hj => by rw [ex2_l hj]]
    have : (a < p + 1) = (a < p) := by simp; omega
    simp only [this]
    grind
  | d + 1 => by
    show sg (p + 2 + d) _ a * (if u (ex2 p (p + 2 + d)) = true ∧ a < p + 2 + d then -1 else 1) = sg (p + 2 + d) u a * (if u (p + 2 + d) = true ∧ a < p + 2 + d then -1 else 1)
    rw [sg_ex h0 h1 d, ex2_g (by omega)]
theorem sg_ex0 : ∀ (d : Nat), sg (p + 2 + d) u p = sg (p + 2 + d) (fun j => u (ex2 p j)) (p + 1) * if u (p + 1) = true then -1 else 1
  | 0 => by
    show sg p u p * (if u p = true ∧ p < p then -1 else 1) * (if u (p + 1) = true ∧ p < p + 1 then -1 else 1) = sg (p + 2) _ (p + 1) * _
    rw [sg_big (n := p + 2) (by omega), sg_big (n := p) (by omega), if_neg (show ¬(u p = true ∧ p < p) by omega)]
    have : (u (p + 1) = true ∧ p < p + 1) = (u (p + 1) = true) := by simp
    simp only [this]
    grind
  | d + 1 => by
    show sg (p + 2 + d) u p * (if u (p + 2 + d) = true ∧ p < p + 2 + d then -1 else 1) = sg (p + 2 + d) _ (p + 1) * (if u (ex2 p (p + 2 + d)) = true ∧ p + 1 < p + 2 + d then -1 else 1) * _
    rw [sg_ex0 d, ex2_g (by omega)]
    have e1 : (u (p + 2 + d) = true ∧ p < p + 2 + d) = (u (p + 2 + d) = true ∧ p + 1 < p + 2 + d) := by simp; omega
    simp only [e1]
    grind
theorem sg_ex1 : ∀ (d : Nat), sg (p + 2 + d) (fun j => u (ex2 p j)) p = sg (p + 2 + d) u (p + 1) * if u p = true then -1 else 1
  | 0 => by
    show sg p _ p * (if u (ex2 p p) = true ∧ p < p then -1 else 1) * (if u (ex2 p (p + 1)) = true ∧ p < p + 1 then -1 else 1) = sg (p + 2) _ (p + 1) * _
    rw [sg_big (n := p + 2) (by omega), sg_big (n := p) (by omega), if_neg (show ¬(u (ex2 p p) = true ∧ p < p) by omega), ex2_1]
    have : (u p = true ∧ p < p + 1) = (u p = true) := by simp
    simp only [this]
    grind
  | d + 1 => by
    show sg (p + 2 + d) _ p * (if u (ex2 p (p + 2 + d)) = true ∧ p < p + 2 + d then -1 else 1) = sg (p + 2 + d) _ (p + 1) * (if u (p + 2 + d) = true ∧ p + 1 < p + 2 + d then -1 else 1) * _
    rw [sg_ex1 d, ex2_g (by omega)]
    have e1 : (u (p + 2 + d) = true ∧ p < p + 2 + d) = (u (p + 2 + d) = true ∧ p + 1 < p + 2 + d) := by simp; omega
    simp only [e1]
    grind
end
section
variable {p : Nat} (hp : p + 1 < n)
include hp
theorem sm_exN {f : Nat → Rat} : sm n (fun a => f (ex2 p a)) = sm n f := by
  obtain ⟨d, rfl⟩ : ∃ d, n = p + 2 + d := ⟨n - p - 2, by omega⟩
  exact sm_ex2 d
theorem sg_exN {u : Nat → Bool} {a : Nat} (h0 : a ≠ p) (h1 : a ≠ p + 1) : sg n (fun j => u (ex2 p j)) a = sg n u a := by
  obtain ⟨d, rfl⟩ : ∃ d, n = p + 2 + d := ⟨n - p - 2, by omega⟩
  exact sg_ex h0 h1 d
theorem sg_exN0 {u : Nat → Bool} : sg n u p = sg n (fun j => u (ex2 p j)) (p + 1) * if u (p + 1) = true then -1 else 1 := by
  obtain ⟨d, rfl⟩ : ∃ d, n = p + 2 + d := ⟨n - p - 2, by omega⟩
  exact sg_ex0 d
theorem sg_exN1 {u : Nat → Bool} : sg n (fun j => u (ex2 p j)) p = sg n u (p + 1) * if u p = true then -1 else 1 := by
  obtain ⟨d, rfl⟩ : ∃ d, n = p + 2 + d := ⟨n - p - 2, by omega⟩
  exact sg_ex1 d
end
def bothR (u : Nat → Bool) (p : Nat) : Rat := if u p = true ∧ u (p + 1) = true then 1 else -1
theorem lb_colswap {B : Mat} {p : Nat} (hp : p + 1 < n) : ∀ {k t : Nat} {u : Nat → Bool}, un n u = k → lb n (fun r j => B r (ex2 p j)) k t u = bothR u p * lb n B k t fun j => u (ex2 p j)
  | 0, _, u, hn => by
    have h1 := un_zero hn p (by omega)
    have h2 := un_zero hn (p + 1) hp
    rw [lb, lb]
    unfold bothR
    rw [if_pos ⟨h1, h2⟩]
    grind
  | k + 1, t, u, hn => by
    rw [lb, lb, ← sm_mul]
    refine Eq.trans ?_ (sm_exN hp)
    refine sm_congr fun a ha => ?_
    rw [ex2_ex2]
    by_cases hu : u a = true
    · rw [if_pos hu, if_pos hu]; grind
    · have hu' : u a = false := by simpa using hu
      rw [if_neg hu, if_neg hu]
      have e1 : us (fun j => u (ex2 p j)) (ex2 p a) = fun j => us u a (ex2 p j) := by
        funext j
        simp only [us]
        have : (j = ex2 p a) = (ex2 p j = a) := by
          apply propext
          constructor
          · intro h; rw [h, ex2_ex2]
          · intro h; rw [← h, ex2_ex2]
        simp only [this]
      rw [e1, lb_colswap hp (by have := un_us hu' ha; omega)]
      by_cases h0 : a = p
      · subst h0
        have s0 := sg_exN0 (u := u) hp
        rw [ex2_0, s0]
        unfold bothR
        rw [us_same, us_ne (by omega), hu']
        by_cases h1 : u (a + 1) = true
        · simp only [h1]
          grind
        · simp only [h1]
          grind
      · by_cases h1 : a = p + 1
        · subst h1
          have s1 := sg_exN1 (u := u) hp
          rw [ex2_1, s1]
          unfold bothR
          rw [us_same, us_ne (by omega), hu']
          by_cases h2 : u p = true
          · simp only [h2]
            grind
          · simp only [h2]
            grind
        · have e2 : ex2 p a = a := by unfold ex2; rw [if_neg h0, if_neg h1]
          rw [e2, sg_exN hp h0 h1]
          have e3 : bothR (us u a) p = bothR u p := by
            unfold bothR
            rw [us_ne (Ne.symm h0), us_ne (Ne.symm h1)]
          rw [e3]
          grind
def tr (A : Mat) : Mat := fun i j => A j i
theorem leib_tr : Alt n fun A => leib n (tr A) where
  congr := fun A B h => leib_alt.congr _ _ fun i hi j hj => h j hj i hi
  add := fun A i x y hi => by
    have e : ∀ z, tr (upr A i z) = colr (tr A) i z := fun z => by
      funext r j
      unfold tr upr colr
      split <;> rfl
    rw [e, e, e]
    exact lb_coladd hi (un_none n) rfl
  smul := fun A i c x hi => by
    have e : ∀ z, tr (upr A i z) = colr (tr A) i z := fun z => by
      funext r j
      unfold tr upr colr
      split <;> rfl
    rw [e, e]
    exact lb_colsmul hi (un_none n) rfl
  swap := fun A p hp => by
    have e : tr (swp A p (p + 1)) = fun r j => tr A r (ex2 p j) := by
      funext r j
      unfold tr swp ex2
      split
      · rfl
      · split <;> rfl
    rw [e]
    have := lb_colswap (B := tr A) hp (t := 0) (un_none n)
    have e2 : bothR (fun _ => false) p = -1 := by unfold bothR; rw [if_neg (by simp)]
    rw [e2] at this
    show lb n _ n 0 _ = _
    rw [this]
    show -1 * leib n (tr A) = -leib n (tr A)
    grind
theorem det_tr {A : Mat} : detQ n (tr A) = detQ n A := by
  have h1 := leib_tr.det (A := A) (n := n)
  have h2 : leib n (tr idM) = 1 := by
    rw [← leib_id (n := n)]
    exact leib_alt.congr _ _ fun i _ j _ => by
      unfold tr idM
      by_cases h : i = j
      · rw [if_pos h, if_pos h.symm]
      · rw [if_neg h, if_neg (Ne.symm h)]
  have h1 : leib n (tr A) = detQ n A * leib n (tr idM) := h1
  rw [h2, leib_det] at h1
  rw [h1]
  grind
theorem det_swp {A : Mat} {p q : Nat} (hp : p < n) (hq : q < n) (h : p ≠ q) : detQ n (swp A p q) = -detQ n A := by
  rw [← leib_det, ← leib_det]
  exact leib_alt.swp' hp hq h
end
end DL
set_option Elab.async false
set_option linter.all false
set_option maxRecDepth 100000
set_option maxHeartbeats 1000000
/-! DL46: rows by bits, rows with noughts beneath the slant; the list of all arrangements. -/
namespace DL
open PySem L2
/-! ### bits of one row -/
def RowS (b m : Nat) (x : Nat → Rat) : Prop := ∃ s : Int, 0 < s ∧ Bd b s ∧ ∀ j, j < m → ∃ e : Int, Bd b e ∧ x j * (s : Rat) = (e : Rat)
theorem RowS.up {b c m : Nat} {x : Nat → Rat} (h : RowS b m x) (hc : b ≤ c) : RowS c m x := by
  obtain ⟨s, s0, s1, hs⟩ := h
  exact ⟨s, s0, s1.up hc, fun j hj => by
    obtain ⟨e, e1, e2⟩ := hs j hj
    exact ⟨e, e1.up hc, e2⟩⟩
theorem RowS.qb {b m : Nat} {x : Nat → Rat} (h : RowS b m x) {j : Nat} (hj : j < m) : QB b (x j) := by
  obtain ⟨s, h1, h2, h3⟩ := h
  obtain ⟨e, h4, h5⟩ := h3 j hj
  exact qb_of h1 h5 h2 h4
theorem RowS.congr {b m : Nat} {x y : Nat → Rat} (h : RowS b m x) (e : ∀ j, j < m → x j = y j) : RowS b m y := by
  obtain ⟨s, h1, h2, h3⟩ := h
  exact ⟨s, h1, h2, fun j hj => by rw [← e j hj]; exact h3 j hj⟩
theorem RowS.led {bt bi m t : Nat} {x y : Nat → Rat} (hm : t < m) (hx : RowS bt m x) (hA : x t ≠ 0) (hy : RowS bi m y) : RowS bt m (fun j => x j / x t) ∧ RowS (bi + bt + 1) m fun j => y j - y t * (x j / x t) := by
  obtain ⟨s, s0, s1, hs⟩ := hx
  obtain ⟨p, p1, p2⟩ := hs t hm
  have sne := icast_ne (s := s) (by omega)
  have pne : p ≠ 0 := fun z => by
    subst z
    have : x t * (s : Rat) = 0 := by rw [p2]; rfl
    grind
  have key : ∃ (a σ : Int), 0 < a ∧ Bd bt a ∧ (σ = 1 ∨ σ = -1) ∧ (a : Rat) = (σ : Rat) * (p : Rat) := by
    by_cases hp : 0 < p
    · exact ⟨p, 1, hp, p1, .inl rfl, by rw [Rat.intCast_one]; grind⟩
    · exact ⟨-p, -1, by omega, p1.neg, .inr rfl, by rw [Rat.intCast_neg, Rat.intCast_neg, Rat.intCast_one]; grind⟩
  obtain ⟨a, σ, a0, a1, hσ, ea⟩ := key
  have pr := icast_ne pne
  have bσ : ∀ {k : Nat} {e : Int}, Bd k e → Bd k (σ * e) := fun {k e} he => by
    rcases hσ with z | z <;> subst z
    · rw [Int.one_mul]; exact he
    · rw [Int.neg_one_mul]; exact he.neg
  refine ⟨⟨a, a0, a1, fun j hj => ?_⟩, ?_⟩
  · obtain ⟨e, e1, e2⟩ := hs j hj
    refine ⟨σ * e, bσ e1, ?_⟩
    dsimp only
    rw [ea, Rat.intCast_mul]
    grind
  · obtain ⟨u, u0, u1, hu⟩ := hy
    obtain ⟨v, v1, v2⟩ := hu t hm
    refine ⟨u * a, Int.mul_pos u0 a0, (u1.mul a1).up (by omega), fun j hj => ?_⟩
    obtain ⟨w, w1, w2⟩ := hs j hj
    obtain ⟨z, z1, z2⟩ := hu j hj
    refine ⟨z * a - v * (σ * w), (z1.mul a1).sub (v1.mul (bσ w1)), ?_⟩
    dsimp only
    rw [Rat.intCast_sub, Rat.intCast_mul, Rat.intCast_mul, Rat.intCast_mul, Rat.intCast_mul, ← z2, ← v2, ea]
    grind
/-! ### what the elimination needs to go on -/
structure Goes (n m : Nat) (I : Nat → Nat → Mat → Prop) : Prop where
  step : ∀ k t A r, t + (k + 1) = n → I (k + 1) t A → lead A n t = some r → (∀ i, i < n → ∀ j, j < m → QB 400 (swp A t r i j)) ∧ (∀ i, i < n → ∀ j, j < m → QB 400 (led (swp A t r) t i j)) ∧ I k (t + 1) (led (swp A t r) t)
def IB (n m : Nat) : Nat → Nat → Mat → Prop := fun k _ A => ∃ b, RowB b n m A ∧ (b + 1) * 2 ^ k ≤ 401
theorem goes_B {n m : Nat} (hm : n ≤ m) : Goes n m (IB n m) := ⟨fun k t A r ht hI hr => by
  obtain ⟨b, hB, hb⟩ := hI
  have hl := lead_some hr
  have h2 : (b + 1) * 2 * 2 ^ k ≤ 401 := by rw [Nat.pow_succ, Nat.mul_comm (2 ^ k), ← Nat.mul_assoc] at hb; exact hb
  have h3 : (b + 1) * 2 * 1 ≤ (b + 1) * 2 * 2 ^ k := Nat.mul_le_mul_left _ (Nat.pow_pos (by decide))
  have hS := hB.swp (n := n) (m := m) (t := t) (r := r) (by omega) hl.2.1
  have hL := hS.led (by omega) (by omega) (piv_ne hr)
  exact ⟨fun i hi j hj => (hS.qb hi hj).up (by omega), fun i hi j hj => (hL.qb hi hj).up (by omega), 2 * b + 1, hL, by rw [show 2 * b + 1 + 1 = (b + 1) * 2 by omega]; exact h2⟩⟩
/-! ### noughts beneath the slant -/
def IT (n : Nat) (R : Mat) : Nat → Nat → Mat → Prop := fun _ t A => (∀ i, i < n → t ≤ i → ∀ j, j < n → A i j = R i j) ∧ ∀ i, i < t → RowS (8 + 9 * t) n (A i)
theorem tri_lead {n t r : Nat} {R A : Mat} (hR : ∀ i, i < n → ∀ j, j < i → R i j = 0) (hA : ∀ i, i < n → t ≤ i → ∀ j, j < n → A i j = R i j) (h : lead A n t = some r) : r = t := by
  obtain ⟨h1, h2, h3⟩ := lead_some h
  by_cases e : r = t
  · exact e
  · rw [hA r h2 h1 t (by omega), hR r h2 t (by omega)] at h3
    exact absurd rfl h3
theorem swp_same {A : Mat} {t : Nat} : swp A t t = A := by
  funext i
  unfold swp
  by_cases e : i = t
  · rw [if_pos e, e]
  · rw [if_neg e, if_neg e]
theorem tri_led {n t : Nat} {R A : Mat} (hR : ∀ i, i < n → ∀ j, j < i → R i j = 0) (hA : ∀ i, i < n → t ≤ i → ∀ j, j < n → A i j = R i j) : ∀ i, i < n → t + 1 ≤ i → ∀ j, j < n → led A t i j = R i j := fun i hi h j hj => by
  unfold led
  rw [if_neg (by omega), hA i hi (by omega) t (by omega), hR i hi t (by omega), hA i hi (by omega) j hj]
  grind
theorem goes_T {n : Nat} {R : Mat} (hn : n ≤ 10) (hR : ∀ i, i < n → ∀ j, j < i → R i j = 0) (hB : ∀ i, i < n → RowS 8 n (R i)) : Goes n n (IT n R) := ⟨fun k t A r ht hI hr => by
  obtain ⟨hA, hT⟩ := hI
  have e := tri_lead hR hA hr
  subst e
  have hl := lead_some hr
  have hne : A r r ≠ 0 := hl.2.2
  rw [swp_same]
  have ht : RowS 8 n (A r) := (hB r hl.2.1).congr fun j hj => (hA r hl.2.1 (Nat.le_refl _) j hj).symm
  have all : ∀ i, i < n → RowS (8 + 9 * r) n (A i) := fun i hi => by
    by_cases h : i < r
    · exact hT i h
    · exact ((hB i hi).congr fun j hj => (hA i hi (by omega) j hj).symm).up (by omega)
  have new : ∀ i, i < r + 1 → RowS (8 + 9 * (r + 1)) n (led A r i) := fun i hi => by
    by_cases h : i = r
    · subst h
      exact ((RowS.led (by omega) ht hne ht).1.congr fun j hj => by unfold led; rw [if_pos rfl]).up (by omega)
    · exact ((RowS.led (by omega) ht hne (hT i (by omega))).2.congr fun j hj => by unfold led; rw [if_neg h]).up (by omega)
  have newR := tri_led hR hA
  refine ⟨fun i hi j hj => ((all i hi).qb hj).up (by omega), fun i hi j hj => ?_, newR, new⟩
  by_cases h : i < r + 1
  · exact ((new i h).qb hj).up (by omega)
  · rw [newR i hi (by omega) j hj]
    exact ((hB i hi).qb hj).up (by omega)⟩
/-- the slant's product from t on -/
def pf (R : Mat) : Nat → Nat → Rat
  | 0, _ => 1
  | k + 1, t => R t t * pf R k (t + 1)
theorem run_tri {n : Nat} {R : Mat} (hR : ∀ i, i < n → ∀ j, j < i → R i j = 0) : ∀ {k t : Nat} {d : Rat} {A : Mat}, t + k = n → (∀ i, i < n → t ≤ i → ∀ j, j < n → A i j = R i j) → (match run n k t d A with | none => 0 | some p => p.1) = d * pf R k t
  | 0, t, d, A, _, _ => by
    show d = d * 1
    grind
  | k + 1, t, d, A, ht, hA => by
    unfold run
    cases hr : lead A n t with
    | none =>
      have : R t t = 0 := by
        apply Classical.byContradiction
        intro h
        have e : lead A n t = some t := by
          unfold lead
          have : n - t = (n - t - 1) + 1 := by omega
          rw [this, leadN, if_neg (by rw [hA t (by omega) (Nat.le_refl _) t (by omega)]; exact h)]
        rw [e] at hr
        cases hr
      dsimp only
      rw [pf, this]
      grind
    | some r =>
      have e := tri_lead hR hA hr
      subst e
      dsimp only
      rw [swp_same, run_tri hR (by omega) (tri_led hR hA), pf, if_pos rfl, hA r (by omega) (Nat.le_refl _) r (by omega)]
      grind
theorem det_tri {n : Nat} {R : Mat} (hR : ∀ i, i < n → ∀ j, j < i → R i j = 0) : detQ n R = pf R n 0 := by
  have := run_tri hR (k := n) (t := 0) (d := 1) (A := R) (by omega) (fun _ _ _ _ _ => rfl)
  unfold detQ
  refine Eq.trans this ?_
  grind
def pd (R : Mat) : Nat → Rat
  | 0 => 1
  | n + 1 => pd R n * R n n
theorem pf_pd {R : Mat} : ∀ (k t : Nat), pd R t * pf R k t = pd R (t + k)
  | 0, t => by rw [pf]; show pd R t * 1 = pd R t; grind
  | k + 1, t => by
    rw [pf, show t + (k + 1) = (t + 1) + k by omega, ← pf_pd k (t + 1), pd]
    grind
theorem det_tri' {n : Nat} {R : Mat} (hR : ∀ i, i < n → ∀ j, j < i → R i j = 0) : detQ n R = pd R n := by
  rw [det_tri hR]
  have := pf_pd (R := R) n 0
  rw [Nat.zero_add] at this
  rw [← this, pd]
  grind
/-! ### all arrangements -/
def sI (o : List Nat) (a : Nat) : Int := 1 - 2 * (((o.filter fun b => decide (b > a)).length : Int) % 2)
def stepO (n : Nat) (p : List Nat × Int) (a : Nat) : List (List Nat × Int) := if a ∈ p.1 then [] else [(p.1 ++ [a], p.2 * sI p.1 a)]
def ords (n : Nat) : Nat → List (List Nat × Int)
  | 0 => [([], 1)]
  | t + 1 => (ords n t).flatMap fun p => (List.range n).flatMap (stepO n p)
def usd (o : List Nat) : Nat → Bool := fun j => decide (j ∈ o)
theorem usd_app {o : List Nat} {a : Nat} : usd (o ++ [a]) = us (usd o) a := by
  funext j
  simp only [usd, us]
  by_cases h : j = a
  · simp [h]
  · simp [h]
theorem sI_app {o : List Nat} {a b : Nat} : ((sI (o ++ [b]) a : Int) : Rat) = ((sI o a : Int) : Rat) * if a < b then -1 else 1 := by
  have key : ∀ m : Int, (1 - 2 * ((m + 1) % 2) : Int) = -(1 - 2 * (m % 2)) := fun m => by omega
  unfold sI
  rw [List.filter_append, List.length_append]
  by_cases h : a < b
  · have : ([b].filter fun b => decide (b > a)) = [b] := by simp [h]
    rw [this, if_pos h]
    show ((1 - 2 * ((((o.filter fun b => decide (b > a)).length + 1 : Nat) : Int) % 2) : Int) : Rat) = _
    rw [Int.natCast_add, show ((1 : Nat) : Int) = 1 from rfl, key, Rat.intCast_neg]
    grind
  · have : ([b].filter fun b => decide (b > a)) = [] := by simp; omega
    rw [this, if_neg h]
    show ((1 - 2 * ((((o.filter fun b => decide (b > a)).length + 0 : Nat) : Int) % 2) : Int) : Rat) = _
    rw [Nat.add_zero]
    grind
theorem sI_pm {o : List Nat} {a : Nat} : sI o a = 1 ∨ sI o a = -1 := by unfold sI; omega
theorem sg_none {a : Nat} : ∀ n, sg n (fun _ => false) a = 1
  | 0 => rfl
  | n + 1 => by rw [sg, sg_none n, if_neg (by simp)]; grind
structure OrdOk (n t : Nat) (p : List Nat × Int) : Prop where
  len : p.1.length = t
  pm : p.2 = 1 ∨ p.2 = -1
  lt : ∀ x ∈ p.1, x < n
  sg : ∀ a, ((sI p.1 a : Int) : Rat) = sg n (usd p.1) a
theorem ords_ok {n : Nat} : ∀ {t : Nat}, ∀ p ∈ ords n t, OrdOk n t p
  | 0, p, h => by
    have : p = ([], 1) := by simpa [ords] using h
    subst this
    exact ⟨rfl, .inl rfl, by simp, fun a => by
      have e : usd [] = fun _ => false := by funext j; simp [usd]
      rw [e, sg_none]
      rfl⟩
  | t + 1, p, h => by
    obtain ⟨q, hq, h1⟩ := List.mem_flatMap.mp h
    obtain ⟨a, ha, h2⟩ := List.mem_flatMap.mp h1
    have k := ords_ok (t := t) q hq
    have ha' := List.mem_range.mp ha
    unfold stepO at h2
    split at h2
    · simp at h2
    · rename_i hn
      have : p = (q.1 ++ [a], q.2 * sI q.1 a) := by simpa using h2
      subst this
      refine ⟨by simp [k.len], ?_, fun x hx => ?_, fun b => ?_⟩
      · rcases k.pm with z | z <;> rcases sI_pm (o := q.1) (a := a) with y | y <;> simp [z, y]
      · rcases List.mem_append.mp hx with z | z
        · exact k.lt x z
        · have : x = a := by simpa using z
          omega
      · rw [sI_app, usd_app, sg_us (by simpa [usd] using hn) ha', k.sg b]
def sumL {α : Type} (f : α → Rat) : List α → Rat
  | [] => 0
  | x :: xs => f x + sumL f xs
theorem sumL_app {α : Type} {f : α → Rat} : ∀ {xs ys : List α}, sumL f (xs ++ ys) = sumL f xs + sumL f ys
  | [], ys => by show sumL f ys = 0 + sumL f ys; grind
  | x :: xs, ys => by show f x + sumL f (xs ++ ys) = f x + sumL f xs + sumL f ys; rw [sumL_app]; grind
theorem sumL_flat {α β : Type} {f : β → Rat} {g : α → List β} : ∀ {xs : List α}, sumL f (xs.flatMap g) = sumL (fun x => sumL f (g x)) xs
  | [] => rfl
  | x :: xs => by rw [List.flatMap_cons, sumL_app, sumL_flat]; rfl
theorem sumL_congr {α : Type} {f g : α → Rat} : ∀ {xs : List α}, (∀ x ∈ xs, f x = g x) → sumL f xs = sumL g xs
  | [], _ => rfl
  | x :: xs, h => by
    show f x + sumL f xs = g x + sumL g xs
    rw [h x List.mem_cons_self, sumL_congr fun y hy => h y (List.mem_cons_of_mem _ hy)]
theorem sumL_range {f : Nat → Rat} : ∀ n, sumL f (List.range n) = sm n f
  | 0 => rfl
  | n + 1 => by rw [List.range_succ, sumL_app, sumL_range n, sm]; show _ + (f n + 0) = _; grind
theorem sm_shift {f : Nat → Rat} : ∀ n, sm (n + 1) f = f 0 + sm n fun k => f (k + 1)
  | 0 => by show 0 + f 0 = f 0 + 0; grind
  | n + 1 => by rw [sm, sm_shift n, sm]; grind
theorem sm_sumL {α : Type} {f : α → Rat} {d : α} : ∀ {xs : List α}, sm xs.length (fun k => f (xs.getD k d)) = sumL f xs
  | [] => rfl
  | x :: xs => by
    rw [List.length_cons, sm_shift]
    show f x + sm xs.length (fun k => f (xs.getD k d)) = f x + sumL f xs
    rw [sm_sumL]
def prT (A : Mat) (o : List Nat) : Nat → Rat
  | 0 => 1
  | i + 1 => prT A o i * A i (o.getD i 0)
theorem prT_app {A : Mat} {o : List Nat} {a : Nat} : ∀ {i : Nat}, i ≤ o.length → prT A (o ++ [a]) i = prT A o i
  | 0, _ => rfl
  | i + 1, h => by
    rw [prT, prT, prT_app (by omega)]
    have : (o ++ [a]).getD i 0 = o.getD i 0 := by
      rw [List.getD_eq_getElem?_getD, List.getD_eq_getElem?_getD, List.getElem?_append_left (by omega)]
    rw [this]
theorem prT_last {A : Mat} {o : List Nat} {a : Nat} : prT A (o ++ [a]) (o.length + 1) = prT A o o.length * A o.length a := by
  rw [prT, prT_app (Nat.le_refl _)]
  have : (o ++ [a]).getD o.length 0 = a := by simp [List.getD_eq_getElem?_getD]
  rw [this]
/-- what is left behind so many rows -/
theorem ords_leib {n : Nat} {A : Mat} : ∀ t, t ≤ n → sumL (fun p => (p.2 : Rat) * prT A p.1 t * lb n A (n - t) t (usd p.1)) (ords n t) = leib n A
  | 0, _ => by
    have e : usd [] = fun _ => false := by funext j; simp [usd]
    show ((1 : Int) : Rat) * 1 * lb n A (n - 0) 0 (usd []) + 0 = leib n A
    rw [e, Nat.sub_zero, Rat.intCast_one]
    unfold leib
    grind
  | t + 1, h => by
    rw [← ords_leib t (by omega), ords, sumL_flat]
    refine sumL_congr fun p hp => ?_
    have k := ords_ok p hp
    obtain ⟨m, hm⟩ : ∃ m, n - t = m + 1 := ⟨n - t - 1, by omega⟩
    have hm2 : n - (t + 1) = m := by omega
    rw [sumL_flat, sumL_range, hm, lb_succ, hm2, ← sm_mul]
    refine sm_congr fun a ha => ?_
    unfold stepO
    by_cases c : a ∈ p.1
    · rw [if_pos c, if_pos (by simp [usd, c])]
      show (0 : Rat) = _
      grind
    · rw [if_neg c, if_neg (by simp [usd, c])]
      show ((p.2 * sI p.1 a : Int) : Rat) * prT A (p.1 ++ [a]) (t + 1) * lb n A m (t + 1) (usd (p.1 ++ [a])) + 0 = _
      have e := prT_last (A := A) (o := p.1) (a := a)
      rw [k.len] at e
      rw [e, usd_app, Rat.intCast_mul, k.sg a]
      grind
def tmO (A : Mat) (n : Nat) (p : List Nat × Int) : Rat := (p.2 : Rat) * prT A p.1 n
theorem ords_sum {n : Nat} {A : Mat} : sumL (tmO A n) (ords n n) = detQ n A := by
  rw [← leib_det, ← ords_leib n (Nat.le_refl n)]
  refine sumL_congr fun p hp => ?_
  rw [Nat.sub_self, lb]
  unfold tmO
  grind
theorem ords_few : ∀ n, n < 6 → ∀ t, t < 6 → (ords n t).length ≤ 120 := by decide +kernel
end DL
set_option Elab.async false
set_option linter.all false
set_option maxRecDepth 100000
set_option maxHeartbeats 1000000
/-! DL47: numbers with the scale 24; rows exchanged, multiplied, with noughts beneath the slant. -/
namespace DL
open PySem L2
def Tq (x : Rat) : Prop := ∃ e : Int, Bd 10 e ∧ x * 24 = (e : Rat)
theorem Tq.qb {x : Rat} (h : Tq x) : QB 10 x := by
  obtain ⟨e, h1, h2⟩ := h
  exact qb_of (s := 24) (by decide) h2 (by decide) h1
theorem TwB.tq {x : Rat} (h : TwB 7 x) : Tq x := by
  obtain ⟨e, h1, h2⟩ := h
  refine ⟨e * 2, by unfold Bd at *; omega, ?_⟩
  rw [Rat.intCast_mul, show ((2 : Int) : Rat) = 2 from rfl, ← h2]
  grind
theorem TwB.tqf {x : Rat} {t b : Int} (h : TwB 7 x) (h1 : -3 ≤ t) (h2 : t ≤ 3) (h3 : 1 ≤ b) (h4 : b ≤ 2) : Tq (x * ((t : Rat) / (b : Rat))) := by
  obtain ⟨e, g1, g2⟩ := h
  have hb : b = 1 ∨ b = 2 := by omega
  have he : ∀ k : Int, (k = 2 ∨ k = 1) → Bd 10 (e * t * k) := fun k hk => by
    have ht : t = -3 ∨ t = -2 ∨ t = -1 ∨ t = 0 ∨ t = 1 ∨ t = 2 ∨ t = 3 := by omega
    unfold Bd at *
    rcases ht with rfl | rfl | rfl | rfl | rfl | rfl | rfl <;> rcases hk with rfl | rfl <;> omega
  rcases hb with rfl | rfl
  · refine ⟨e * t * 2, he 2 (.inl rfl), ?_⟩
    rw [Rat.intCast_mul, Rat.intCast_mul, show ((2 : Int) : Rat) = 2 from rfl, show ((1 : Int) : Rat) = 1 from rfl, ← g2]
    grind
  · refine ⟨e * t * 1, he 1 (.inr rfl), ?_⟩
    rw [Rat.intCast_mul, Rat.intCast_mul, show ((2 : Int) : Rat) = 2 from rfl, show ((1 : Int) : Rat) = 1 from rfl, ← g2]
    grind
theorem tq_IB {n : Nat} {R : Mat} (hn : n ≤ 5) (h : ∀ i, i < n → ∀ j, j < n → Tq (R i j)) : IB n n n 0 R := by
  refine ⟨10, fun i hi => ⟨24, by decide, by decide, fun j hj => h i hi j hj⟩, ?_⟩
  have : 2 ^ n ≤ 2 ^ 5 := Nat.pow_le_pow_right (by decide) hn
  omega
def depF (n : Nat) (f : Rat) (R : Mat) : Mat := fun i j => if i + 1 = n then R 0 j * f else R i j
theorem depF_row {n : Nat} {f : Rat} {R : Mat} (h : 1 ≤ n) : matT R (n - 1) n ++ [.tup (rowL (fun _ j => R 0 j * f) n 0)] = matT (depF n f R) n n := by
  obtain ⟨m, rfl⟩ : ∃ m, n = m + 1 := ⟨n - 1, by omega⟩
  unfold matT
  rw [List.range_succ, List.map_append]
  congr 1
  · exact List.map_congr_left fun i hi => by
      have hi' := List.mem_range.mp hi
      have hne : ¬ i + 1 = m + 1 := by omega
      unfold rowT rowL depF
      simp only [if_neg hne]
  · simp [rowT, rowL, depF]
theorem swp_row {n : Nat} {R : Mat} (h : 2 ≤ n) : [rowT R n 1, rowT R n 0] ++ (matT R n n).drop 2 = matT (swp R 0 1) n n := by
  obtain ⟨m, rfl⟩ : ∃ m, n = m + 2 := ⟨n - 2, by omega⟩
  refine List.ext_getElem (by simp [matT]) fun k h1 h2 => ?_
  have hk : k < m + 2 := by simpa [matT] using h2
  match k with
  | 0 => simp [matT, rowT, rowL, swp]
  | 1 => simp [matT, rowT, rowL, swp]
  | k + 2 =>
    rw [List.getElem_append_right (by simp)]
    simp [matT, rowT, rowL, swp, Nat.add_comm]
def triM (R : Mat) : Mat := fun i j => if i ≤ j then R i j else 0
theorem tri_0 {n : Nat} {R : Mat} : ∀ i, i < n → ∀ j, j < i → triM R i j = 0 := fun i _ j hj => by unfold triM; rw [if_neg (by omega)]
theorem tri_tw {n : Nat} {R : Mat} (h : ∀ i, i < n → ∀ j, j < n → TwB 7 (R i j)) : ∀ i, i < n → ∀ j, j < n → TwB 7 (triM R i j) := fun i hi j hj => by
  unfold triM
  split
  · exact h i hi j hj
  · exact twb_zero
theorem tri_rows {n : Nat} {R : Mat} (h : ∀ i, i < n → ∀ j, j < n → TwB 7 (R i j)) : ∀ i, i < n → RowS 8 n (R i) := fun i hi => ⟨12, by decide, by decide, fun j hj => by
  obtain ⟨e, h1, h2⟩ := h i hi j hj
  exact ⟨e, h1.up (by decide), h2⟩⟩
theorem encQ_neg {q : Rat} : encQ (-q) = .tup [.int (-q.num), .int (q.den : Int)] := by
  unfold encQ fq encF
  rw [Rat.neg_num, Rat.neg_den]
end DL
set_option Elab.async false
set_option linter.all false
set_option maxRecDepth 100000
set_option maxHeartbeats 4000000
namespace P52
open PySem PySem.Spec PyProof.Rows L2 DL
def top (i : Nat) : Stmt := PySem.Challenge.pw_unitgrids_k52_whole_determinants_of_numb.main.body.getD i (.Pass ⟨0, 0, 0, 0⟩)
def inner (i j : Nat) : Stmt := match top i with
  | .ClassDef _ _ _ body _ _ _ _ _ _ _ => body.getD j (.Pass ⟨0, 0, 0, 0⟩)
  | _ => .Pass ⟨0, 0, 0, 0⟩
abbrev s_is_integer : Stmt := top 4
abbrev s_divisor : Stmt := top 5
abbrev s_lowest : Stmt := top 6
abbrev s_is_fraction : Stmt := top 7
abbrev s_minus : Stmt := top 8
abbrev s_times : Stmt := top 9
abbrev s_over : Stmt := top 10
abbrev s_are_rows : Stmt := top 11
abbrev s_is_square : Stmt := top 14
abbrev s_check_square : Stmt := top 15
abbrev s_leading_row : Stmt := top 16
abbrev s_lead_by : Stmt := top 17
abbrev s_led_out : Stmt := top 18
abbrev s_determinant : Stmt := top 19
abbrev s__law_hand : Stmt := top 21
abbrev s__law_draw : Stmt := top 22
abbrev s__law_lowest : Stmt := top 23
abbrev s__law_plus : Stmt := top 24
abbrev s__law_times : Stmt := top 25
abbrev s__law_square : Stmt := top 26
abbrev s__law_orders : Stmt := top 27
abbrev s__law_due : Stmt := top 28
abbrev s_law : Stmt := top 29
def excs : List Str := ["NoSquare"]
def hdls : List Str := []
def subE (c h : Str) : Bool := decide ((c, h) ∈ ([] : List (Str × Str)))
/-! what each def does -/
noncomputable def F_is_integer (C : Str → Addr) : FS :=
  sRet (dAndV (dCB oIsi (aCons (dVar 0) (aCons (dC (.ty "int")) (aNil)))) (dNotV (dCB oIsi (aCons (dVar 0) (aCons (dC (.ty "bool")) (aNil))))))
noncomputable def g_is_integer (C : Str → Addr) : Fn := dDef giveS 1 1 (F_is_integer C)
noncomputable def F_divisor (C : Str → Addr) : FS :=
  sSeq (sPar 0 1 (dCB (b1 oAbs) (aCons (dVar 0) (aNil))) (dCB (b1 oAbs) (aCons (dVar 1) (aNil))))
    (sSeq (dWhile (dB (d2 oGt (dVar 1) (dC (.int 0)))) (sPar 0 1 (dVar 1) (d2 oMod (dVar 0) (dVar 1))))
    (sRet (dVar 0)))
noncomputable def g_divisor (C : Str → Addr) : Fn := dDef giveS 2 2 (F_divisor C)
noncomputable def F_lowest (C : Str → Addr) : FS :=
  sSeq (sSet 2 (dCall 2 (g_divisor C) (aCons (dVar 0) (aCons (dVar 1) (aNil)))))
    (sSeq (sIf (dB (d2 oLt (dVar 1) (dC (.int 0)))) (sSet 2 (d1 oNeg (dVar 2))) (sNx))
    (sRet (dTup (aCons (d2 oDivS (dVar 0) (dVar 2)) (aCons (d2 oDivS (dVar 1) (dVar 2)) (aNil))))))
noncomputable def g_lowest (C : Str → Addr) : Fn := dDef giveS 2 3 (F_lowest C)
noncomputable def F_is_fraction (C : Str → Addr) : FS :=
  sSeq (sIf (dOr (dNot (dTru (dCB oIsi (aCons (dVar 0) (aCons (dC (.ty "tuple")) (aNil)))))) (dOr (dB (d2 oNe (dCB (b1 oLen) (aCons (dVar 0) (aNil))) (dC (.int 2)))) (dOr (dNot (dTru (dCall 1 (g_is_integer C) (aCons (d2 oIx (dVar 0) (dC (.int 0))) (aNil))))) (dNot (dTru (dCall 1 (g_is_integer C) (aCons (d2 oIx (dVar 0) (dC (.int 1))) (aNil)))))))) (sRet (dC (.bl false))) (sNx))
    (sRet (dAndV (d2 oGe (d2 oIx (dVar 0) (dC (.int 1))) (dC (.int 1))) (d2 oEq (dCall 2 (g_divisor C) (aCons (d2 oIx (dVar 0) (dC (.int 0))) (aCons (d2 oIx (dVar 0) (dC (.int 1))) (aNil)))) (dC (.int 1)))))
noncomputable def g_is_fraction (C : Str → Addr) : Fn := dDef giveS 1 1 (F_is_fraction C)
noncomputable def F_minus (C : Str → Addr) : FS :=
  sRet (dCall 2 (g_lowest C) (aCons (d2 oSub (d2 oMul (d2 oIx (dVar 0) (dC (.int 0))) (d2 oIx (dVar 1) (dC (.int 1)))) (d2 oMul (d2 oIx (dVar 1) (dC (.int 0))) (d2 oIx (dVar 0) (dC (.int 1))))) (aCons (d2 oMul (d2 oIx (dVar 0) (dC (.int 1))) (d2 oIx (dVar 1) (dC (.int 1)))) (aNil))))
noncomputable def g_minus (C : Str → Addr) : Fn := dDef giveS 2 2 (F_minus C)
noncomputable def F_times (C : Str → Addr) : FS :=
  sRet (dCall 2 (g_lowest C) (aCons (d2 oMul (d2 oIx (dVar 0) (dC (.int 0))) (d2 oIx (dVar 1) (dC (.int 0)))) (aCons (d2 oMul (d2 oIx (dVar 0) (dC (.int 1))) (d2 oIx (dVar 1) (dC (.int 1)))) (aNil))))
noncomputable def g_times (C : Str → Addr) : Fn := dDef giveS 2 2 (F_times C)
noncomputable def F_over (C : Str → Addr) : FS :=
  sRet (dCall 2 (g_lowest C) (aCons (d2 oMul (d2 oIx (dVar 0) (dC (.int 0))) (d2 oIx (dVar 1) (dC (.int 1)))) (aCons (d2 oMul (d2 oIx (dVar 0) (dC (.int 1))) (d2 oIx (dVar 1) (dC (.int 0)))) (aNil))))
noncomputable def g_over (C : Str → Addr) : Fn := dDef giveS 2 2 (F_over C)
noncomputable def F_are_rows (C : Str → Addr) : FS :=
  sSeq (sIf (dOr (dNot (dTru (dCB oIsi (aCons (dVar 0) (aCons (dC (.ty "tuple")) (aNil)))))) (dB (d2 oNe (dCB (b1 oLen) (aCons (dVar 0) (aNil))) (dVar 1)))) (sRet (dC (.bl false))) (sNx))
    (sRet (dCB (b1 oAll) (aCons (dLc lcF (dSeq (dVar 0)) (tgN 3) (ftYes) (dAndV (dCB oIsi (aCons (dVar 3) (aCons (dC (.ty "tuple")) (aNil)))) (d2 oEq (dCB (b1 oLen) (aCons (dVar 3) (aNil))) (dVar 2))) [3]) (aNil))))
noncomputable def g_are_rows (C : Str → Addr) : Fn := dDef giveS 3 4 (F_are_rows C)
noncomputable def F_is_square (C : Str → Addr) : FS :=
  sSeq (sIf (dOr (dNot (dTru (dCB oIsi (aCons (dVar 0) (aCons (dC (.ty "tuple")) (aNil)))))) (dNot (dB (dChain oLe oLe (dC (.int 1)) (dCB (b1 oLen) (aCons (dVar 0) (aNil))) (dC (.int 10)))))) (sRet (dC (.bl false))) (sNx))
    (sSeq (sIf (dNot (dTru (dCall 3 (g_are_rows C) (aCons (dVar 0) (aCons (dCB (b1 oLen) (aCons (dVar 0) (aNil))) (aCons (dCB (b1 oLen) (aCons (dVar 0) (aNil))) (aNil))))))) (sRet (dC (.bl false))) (sNx))
    (sRet (dCB (b1 oAll) (aCons (dLc2 lcF (dSeq (dVar 0)) (tgN 1) (dSeq (dVar 1)) (tgN 2) (dCall 1 (g_is_fraction C) (aCons (dVar 2) (aNil))) [1, 2] [2]) (aNil)))))
noncomputable def g_is_square (C : Str → Addr) : Fn := dDef giveS 1 3 (F_is_square C)
noncomputable def F_check_square (C : Str → Addr) : FS :=
  sIf (dNot (dTru (dCall 1 (g_is_square C) (aCons (dVar 0) (aNil))))) (sRaise "NoSquare") (sNx)
noncomputable def g_check_square (C : Str → Addr) : Fn := dDef giveS 1 1 (F_check_square C)
noncomputable def F_leading_row (C : Str → Addr) : FS :=
  sSeq (dFor (dIt oRng2 (aCons (dVar 1) (aCons (dCB (b1 oLen) (aCons (dVar 0) (aNil))) (aNil)))) (tgN 2) (sIf (dB (d2 oNe (d2 oIx (d2 oIx (dVar 0) (dVar 2)) (dVar 1)) (dTup (aCons (dC (.int 0)) (aCons (dC (.int 1)) (aNil)))))) (sRet (dVar 2)) (sNx)))
    (sRet (dC .non))
noncomputable def g_leading_row (C : Str → Addr) : Fn := dDef giveS 2 3 (F_leading_row C)
noncomputable def F_lead_by (C : Str → Addr) : FS :=
  sSeq (sSet 2 (d2 oIx (d2 oIx (dVar 0) (dVar 1)) (dVar 1)))
    (sSeq (sAsg (dLc lcF (dSeq (d2 oIx (dVar 0) (dVar 1))) (tgN 5) (ftYes) (dCall 2 (g_over C) (aCons (dVar 5) (aCons (dVar 2) (aNil)))) [5]) (tgIx (dVar 0) (dVar 1)))
    (dFor (dIt oRng1 (aCons (dCB (b1 oLen) (aCons (dVar 0) (aNil))) (aNil))) (tgN 3) (sSeq (sSet 4 (d2 oIx (d2 oIx (dVar 0) (dVar 3)) (dVar 1)))
    (sIf (dAnd (dB (d2 oNe (dVar 3) (dVar 1))) (dB (d2 oNe (dVar 4) (dTup (aCons (dC (.int 0)) (aCons (dC (.int 1)) (aNil))))))) (sAsg (dLc lcF (dIt oZip (aCons (d2 oIx (dVar 0) (dVar 3)) (aCons (d2 oIx (dVar 0) (dVar 1)) (aNil)))) (tgT 2 (tgCons (tgN 5) (tgCons (tgN 6) (tgNil)))) (ftYes) (dCall 2 (g_minus C) (aCons (dVar 5) (aCons (dCall 2 (g_times C) (aCons (dVar 4) (aCons (dVar 6) (aNil)))) (aNil)))) [5, 6]) (tgIx (dVar 0) (dVar 3))) (sNx)))))
noncomputable def g_lead_by (C : Str → Addr) : Fn := dDef giveS 2 7 (F_lead_by C)
noncomputable def F_led_out (C : Str → Addr) : FS :=
  sSeq (sSet 1 (dLc lcM (dSeq (dVar 0)) (tgN 4) (ftYes) (dCB (b1 oList) (aCons (dVar 4) (aNil))) [4]))
    (sSeq (sSet 2 (dTup (aCons (dC (.int 1)) (aCons (dC (.int 1)) (aNil)))))
    (sSeq (dFor (dIt oRng1 (aCons (dCB (b1 oLen) (aCons (dVar 1) (aNil))) (aNil))) (tgN 3) (sSeq (sSet 4 (dCall 2 (g_leading_row C) (aCons (dVar 1) (aCons (dVar 3) (aNil)))))
    (sSeq (sIf (dB (d2 oIsN (dVar 4) (dC .non))) (sRet (dTup (aCons (dTup (aCons (dC (.int 0)) (aCons (dC (.int 1)) (aNil)))) (aCons (dLst (aNil)) (aNil))))) (sNx))
    (sSeq (sIf (dB (d2 oNe (dVar 4) (dVar 3))) (sSeq (sAsg (dTup (aCons (d2 oIx (dVar 1) (dVar 4)) (aCons (d2 oIx (dVar 1) (dVar 3)) (aNil)))) (tgT 2 (tgCons (tgIx (dVar 1) (dVar 3)) (tgCons (tgIx (dVar 1) (dVar 4)) (tgNil)))))
    (sSet 2 (dCall 2 (g_times C) (aCons (dVar 2) (aCons (dTup (aCons (d1 oNeg (dC (.int 1))) (aCons (dC (.int 1)) (aNil)))) (aNil)))))) (sNx))
    (sSeq (sSet 2 (dCall 2 (g_times C) (aCons (dVar 2) (aCons (d2 oIx (d2 oIx (dVar 1) (dVar 3)) (dVar 3)) (aNil)))))
    (sDrop (dCall 2 (g_lead_by C) (aCons (dVar 1) (aCons (dVar 3) (aNil))))))))))
    (sRet (dTupF (aCons (dVar 2) (aCons (dVar 1) (aNil)))))))
noncomputable def g_led_out (C : Str → Addr) : Fn := dDef giveS 1 5 (F_led_out C)
noncomputable def F_determinant (C : Str → Addr) : FS :=
  sSeq (sDrop (dCall 1 (g_check_square C) (aCons (dVar 0) (aNil))))
    (sRet (d2 oIx (dCall 1 (g_led_out C) (aCons (dVar 0) (aNil))) (dC (.int 0))))
noncomputable def g_determinant (C : Str → Addr) : Fn := dDef giveS 1 1 (F_determinant C)
noncomputable def F__law_hand (C : Str → Addr) : FS :=
  sSeq (sSet 1 (dLc lcF (dSeq (dSl oSlA (dVar 0) (dNoPt) (dPt (dC (.int 63))))) (tgN 2) (ftYes) (dCB (b1 oAbs) (aCons (dCB (b1 oInt) (aCons (dVar 2) (aNil))) (aNil))) [2]))
    (sRet (dLoc (aCons (dVar 1) (aCons (dC (.int 0)) (aCons (dC (.int 0)) (aCons (d2 oAdd (dC (.int 1)) (dCB (b1 oLen) (aCons (dVar 1) (aNil)))) (aCons (dC (.int 0)) (aNil))))))))
noncomputable def g__law_hand (C : Str → Addr) : Fn := dDef giveM 1 3 (F__law_hand C)
noncomputable def F__law_draw (C : Str → Addr) : FS :=
  sSeq (sIf (dAnd (dB (d2 oEq (d2 oIx (dVar 0) (dC (.int 2))) (dC (.int 0)))) (dB (d2 oLt (d2 oIx (dVar 0) (dC (.int 1))) (dCB (b1 oLen) (aCons (d2 oIx (dVar 0) (dC (.int 0))) (aNil)))))) (sSeq (sSet 3 (d2 oIx (d2 oIx (dVar 0) (dC (.int 0))) (d2 oIx (dVar 0) (dC (.int 1)))))
    (sSeq (sAsg (d2 oAdd (d2 oIx (dVar 0) (dC (.int 1))) (dC (.int 1))) (tgIx (dVar 0) (dC (.int 1))))
    (sSeq (sAsg (d2 oMod (dCB (b1 oInt) (aCons (d2 oAdd (d2 oAdd (d2 oMul (d2 oIx (dVar 0) (dC (.int 3))) (dC (.int 69621))) (dVar 3)) (dC (.int 11))) (aNil))) (dC (.int 2147483629))) (tgIx (dVar 0) (dC (.int 3))))
    (sIf (dB (d2 oGe (dVar 3) (d2 oPow (dC (.int 10)) (dC (.int 18))))) (sAsg (dVar 3) (tgIx (dVar 0) (dC (.int 2)))) (sNx))))) (sNx))
    (sSeq (sIf (dB (d2 oGt (d2 oIx (dVar 0) (dC (.int 2))) (dC (.int 0)))) (sSeq (sSet 4 (d2 oMod (dCB (b1 oInt) (aCons (d2 oIx (dVar 0) (dC (.int 2))) (aNil))) (dVar 1)))
    (sSeq (sAsg (d2 oDiv (d2 oIx (dVar 0) (dC (.int 2))) (dVar 1)) (tgIx (dVar 0) (dC (.int 2))))
    (sRet (dVar 4)))) (sNx))
    (sSeq (sAsg (d2 oAdd (d2 oIx (dVar 0) (dC (.int 4))) (dC (.int 1))) (tgIx (dVar 0) (dC (.int 4))))
    (sSeq (sSet 2 (d2 oMod (dCB (b1 oInt) (aCons (d2 oMul (dCB (b1 oInt) (aCons (d2 oAdd (d2 oIx (dVar 0) (dC (.int 3))) (d2 oMul (dC (.int 7919)) (d2 oIx (dVar 0) (dC (.int 4))))) (aNil))) (dC (.int 48271))) (aNil))) (dC (.int 2147483647))))
    (sSeq (sSet 2 (d2 oMod (dCB (b1 oInt) (aCons (d2 oMul (dVar 2) (d2 oAdd (d2 oDiv (dVar 2) (dC (.int 1009))) (dC (.int 69621)))) (aNil))) (dC (.int 2147483647))))
    (sSeq (sSet 2 (d2 oMod (dCB (b1 oInt) (aCons (d2 oMul (dVar 2) (d2 oAdd (d2 oDiv (dVar 2) (dC (.int 2003))) (dC (.int 40692)))) (aNil))) (dC (.int 2147483399))))
    (sRet (d2 oMod (dCB (b1 oInt) (aCons (d2 oDiv (dVar 2) (dC (.int 16))) (aNil))) (dVar 1))))))))
noncomputable def g__law_draw (C : Str → Addr) : Fn := dDef giveS 2 5 (F__law_draw C)
noncomputable def F__law_lowest (C : Str → Addr) : FS :=
  sSeq (sPar 2 3 (dCB (b1 oAbs) (aCons (dVar 0) (aNil))) (dVar 1))
    (sSeq (dWhile (dB (d2 oGt (dVar 3) (dC (.int 0)))) (sPar 2 3 (dVar 3) (d2 oMod (dCB (b1 oInt) (aCons (dVar 2) (aNil))) (dVar 3))))
    (sRet (dTup (aCons (d2 oDiv (dVar 0) (dVar 2)) (aCons (d2 oDiv (dVar 1) (dVar 2)) (aNil))))))
noncomputable def g__law_lowest (C : Str → Addr) : Fn := dDef giveS 2 4 (F__law_lowest C)
noncomputable def F__law_plus (C : Str → Addr) : FS :=
  sRet (dCall 2 (g__law_lowest C) (aCons (d2 oAdd (d2 oMul (d2 oIx (dVar 0) (dC (.int 0))) (d2 oIx (dVar 1) (dC (.int 1)))) (d2 oMul (d2 oIx (dVar 1) (dC (.int 0))) (d2 oIx (dVar 0) (dC (.int 1))))) (aCons (d2 oMul (d2 oIx (dVar 0) (dC (.int 1))) (d2 oIx (dVar 1) (dC (.int 1)))) (aNil))))
noncomputable def g__law_plus (C : Str → Addr) : Fn := dDef giveS 2 2 (F__law_plus C)
noncomputable def F__law_times (C : Str → Addr) : FS :=
  sRet (dCall 2 (g__law_lowest C) (aCons (d2 oMul (d2 oIx (dVar 0) (dC (.int 0))) (d2 oIx (dVar 1) (dC (.int 0)))) (aCons (d2 oMul (d2 oIx (dVar 0) (dC (.int 1))) (d2 oIx (dVar 1) (dC (.int 1)))) (aNil))))
noncomputable def g__law_times (C : Str → Addr) : Fn := dDef giveS 2 2 (F__law_times C)
noncomputable def F__law_square (C : Str → Addr) : FS :=
  sSeq (sSet 2 (dLoc (aNil)))
    (sSeq (dFor (dIt oRng1 (aCons (dVar 1) (aNil))) (tgN 3) (sSeq (sSet 4 (dLoc (aNil)))
    (sSeq (dFor (dIt oRng1 (aCons (dVar 1) (aNil))) (tgN 5) (sSeq (sSet 6 (dCall 2 (g__law_lowest C) (aCons (d2 oSub (dCall 2 (g__law_draw C) (aCons (dVar 0) (aCons (dC (.int 19)) (aNil)))) (dC (.int 9))) (aCons (d2 oAdd (dC (.int 1)) (dCall 2 (g__law_draw C) (aCons (dVar 0) (aCons (dC (.int 4)) (aNil))))) (aNil)))))
    (sDrop (dApp (dVar 4) (dIf (dB (d2 oGt (dCall 2 (g__law_draw C) (aCons (dVar 0) (aCons (dC (.int 4)) (aNil)))) (dC (.int 0)))) (dVar 6) (dTup (aCons (dC (.int 0)) (aCons (dC (.int 1)) (aNil)))))))))
    (sDrop (dApp (dVar 2) (dCB (b1 oTuple) (aCons (dVar 4) (aNil))))))))
    (sRet (dCB (b1 oTuple) (aCons (dVar 2) (aNil)))))
noncomputable def g__law_square (C : Str → Addr) : Fn := dDef giveS 2 7 (F__law_square C)
noncomputable def F__law_orders (C : Str → Addr) : FS :=
  sSeq (sSet 1 (dLst (aCons (dTup (aCons (dTup (aNil)) (aCons (dC (.int 1)) (aNil)))) (aNil))))
    (sSeq (dFor (dIt oRng1 (aCons (dVar 0) (aNil))) (tgN 2) (sSeq (sSet 3 (dLoc (aNil)))
    (sSeq (dFor (dSeq (dVar 1)) (tgT 2 (tgCons (tgN 4) (tgCons (tgN 5) (tgNil)))) (dFor (dIt oRng1 (aCons (dVar 0) (aNil))) (tgN 6) (sIf (dB (d2 oNotInTp (dVar 6) (dVar 4))) (sSeq (sSet 7 (dCB (b1 oLen) (aCons (dLc lcF (dSeq (dVar 4)) (tgN 8) (dB (d2 oGt (dVar 8) (dVar 6))) (dVar 8) [8]) (aNil))))
    (sDrop (dApp (dVar 3) (dTup (aCons (d2 oCat (dVar 4) (dTup (aCons (dVar 6) (aNil)))) (aCons (d2 oMul (dVar 5) (d2 oSub (dC (.int 1)) (d2 oMul (dC (.int 2)) (d2 oMod (dCB (b1 oInt) (aCons (dVar 7) (aNil))) (dC (.int 2)))))) (aNil))))))) (sNx))))
    (sSet 1 (dVar 3)))))
    (sRet (dVar 1)))
noncomputable def g__law_orders (C : Str → Addr) : Fn := dDef giveS 1 9 (F__law_orders C)
noncomputable def F__law_due (C : Str → Addr) : FS :=
  sSeq (sSet 1 (dTup (aCons (dC (.int 0)) (aCons (dC (.int 1)) (aNil)))))
    (sSeq (dFor (dSeq (dCall 1 (g__law_orders C) (aCons (dCB (b1 oLen) (aCons (dVar 0) (aNil))) (aNil)))) (tgT 2 (tgCons (tgN 2) (tgCons (tgN 3) (tgNil)))) (sSeq (sSet 4 (dTup (aCons (dVar 3) (aCons (dC (.int 1)) (aNil)))))
    (sSeq (dFor (dIt oEnum (aCons (dVar 2) (aNil))) (tgT 2 (tgCons (tgN 5) (tgCons (tgN 6) (tgNil)))) (sSet 4 (dCall 2 (g__law_times C) (aCons (dVar 4) (aCons (d2 oIx (d2 oIx (dVar 0) (dVar 5)) (dVar 6)) (aNil))))))
    (sSet 1 (dCall 2 (g__law_plus C) (aCons (dVar 1) (aCons (dVar 4) (aNil))))))))
    (sRet (dVar 1)))
noncomputable def g__law_due (C : Str → Addr) : Fn := dDef giveS 1 7 (F__law_due C)
noncomputable def F_law (C : Str → Addr) : FS :=
  sSeq (sSet 1 (dCall 1 (g__law_hand C) (aCons (dVar 0) (aNil))))
    (sSeq (dFor (dIt oRng1 (aCons (dC (.int 2)) (aNil))) (tgN 2) (sSeq (sSet 3 (d2 oAdd (dC (.int 1)) (dCall 2 (g__law_draw C) (aCons (dVar 1) (aCons (d2 oIx (dLst (aCons (dC (.int 5)) (aCons (dC (.int 4)) (aNil)))) (dVar 2)) (aNil))))))
    (sSeq (sSet 4 (dCall 2 (g__law_square C) (aCons (dVar 1) (aCons (dVar 3) (aNil)))))
    (sSeq (sIf (dAnd (dB (d2 oGt (dVar 3) (dC (.int 1)))) (dB (d2 oEq (dCall 2 (g__law_draw C) (aCons (dVar 1) (aCons (dC (.int 4)) (aNil)))) (dC (.int 0))))) (sSeq (sSet 9 (dCall 2 (g__law_lowest C) (aCons (d2 oSub (dCall 2 (g__law_draw C) (aCons (dVar 1) (aCons (dC (.int 7)) (aNil)))) (dC (.int 3))) (aCons (d2 oAdd (dC (.int 1)) (dCall 2 (g__law_draw C) (aCons (dVar 1) (aCons (dC (.int 2)) (aNil))))) (aNil)))))
    (sSet 4 (d2 oCat (dSl oSlA (dVar 4) (dNoPt) (dPt (d1 oNeg (dC (.int 1))))) (dTup (aCons (dCB (b1 oTuple) (aCons (dLc lcF (dSeq (d2 oIx (dVar 4) (dC (.int 0)))) (tgN 12) (ftYes) (dCall 2 (g__law_times C) (aCons (dVar 12) (aCons (dVar 9) (aNil)))) [12]) (aNil))) (aNil)))))) (sNx))
    (sSeq (sSet 5 (dCall 1 (g__law_due C) (aCons (dVar 4) (aNil))))
    (sSeq (sSet 7 (dCall 1 (g_determinant C) (aCons (dVar 4) (aNil))))
    (sSeq (sIf (dOr (dNot (dTru (dCB oIsi (aCons (dVar 7) (aCons (dC (.ty "tuple")) (aNil)))))) (dOr (dB (d2 oNe (dVar 7) (dVar 5))) (dTru (dCB oIsi (aCons (d2 oIx (dVar 7) (dC (.int 0))) (aCons (dC (.ty "bool")) (aNil))))))) (sRet (dC (.bl false))) (sNx))
    (sSeq (sSet 8 (dCB (b1 oTuple) (aCons (dLc lcF (dIt oRng1 (aCons (dVar 3) (aNil))) (tgN 10) (ftYes) (dCB (b1 oTuple) (aCons (dLc lcF (dSeq (dVar 4)) (tgN 11) (ftYes) (d2 oIx (dVar 11) (dVar 10)) [11]) (aNil))) [10]) (aNil))))
    (sSeq (sIf (dB (d2 oNe (dCall 1 (g_determinant C) (aCons (dVar 8) (aNil))) (dVar 5))) (sRet (dC (.bl false))) (sNx))
    (sIf (dAnd (dB (d2 oGt (dVar 3) (dC (.int 1)))) (dB (d2 oNe (dCall 1 (g_determinant C) (aCons (d2 oCat (dTup (aCons (d2 oIx (dVar 4) (dC (.int 1))) (aCons (d2 oIx (dVar 4) (dC (.int 0))) (aNil)))) (dSl oSlA (dVar 4) (dPt (dC (.int 2))) (dNoPt))) (aNil))) (dTup (aCons (d1 oNeg (d2 oIx (dVar 5) (dC (.int 0)))) (aCons (d2 oIx (dVar 5) (dC (.int 1))) (aNil))))))) (sRet (dC (.bl false))) (sNx)))))))))))
    (sSeq (sSet 3 (d2 oAdd (dC (.int 2)) (dCall 2 (g__law_draw C) (aCons (dVar 1) (aCons (dC (.int 9)) (aNil))))))
    (sSeq (sSet 4 (dCall 2 (g__law_square C) (aCons (dVar 1) (aCons (dVar 3) (aNil)))))
    (sSeq (sSet 4 (dCB (b1 oTuple) (aCons (dLc lcF (dIt oRng1 (aCons (dVar 3) (aNil))) (tgN 6) (ftYes) (dCB (b1 oTuple) (aCons (dLc lcF (dIt oRng1 (aCons (dVar 3) (aNil))) (tgN 10) (ftYes) (dIf (dB (d2 oGe (dVar 10) (dVar 6))) (d2 oIx (d2 oIx (dVar 4) (dVar 6)) (dVar 10)) (dTup (aCons (dC (.int 0)) (aCons (dC (.int 1)) (aNil))))) [10]) (aNil))) [6]) (aNil))))
    (sSeq (sSet 5 (dTup (aCons (dC (.int 1)) (aCons (dC (.int 1)) (aNil)))))
    (sSeq (dFor (dIt oRng1 (aCons (dVar 3) (aNil))) (tgN 6) (sSet 5 (dCall 2 (g__law_times C) (aCons (dVar 5) (aCons (d2 oIx (d2 oIx (dVar 4) (dVar 6)) (dVar 6)) (aNil))))))
    (sRet (d2 oEq (dCall 1 (g_determinant C) (aCons (dVar 4) (aNil))) (dVar 5)))))))))
noncomputable def g_law (C : Str → Addr) : Fn := dDef giveS 1 13 (F_law C)
theorem q_is_integer (C : Str → Addr) (S : Store) (a0 : W) : g_is_integer C [a0] S = dEnd giveS S (F_is_integer C [some a0] S) := dDef_eq rfl
theorem q_divisor (C : Str → Addr) (S : Store) (a0 a1 : W) : g_divisor C [a0, a1] S = dEnd giveS S (F_divisor C [some a0, some a1] S) := dDef_eq rfl
theorem q_lowest (C : Str → Addr) (S : Store) (a0 a1 : W) : g_lowest C [a0, a1] S = dEnd giveS S (F_lowest C [some a0, some a1, none] S) := dDef_eq rfl
theorem q_is_fraction (C : Str → Addr) (S : Store) (a0 : W) : g_is_fraction C [a0] S = dEnd giveS S (F_is_fraction C [some a0] S) := dDef_eq rfl
theorem q_minus (C : Str → Addr) (S : Store) (a0 a1 : W) : g_minus C [a0, a1] S = dEnd giveS S (F_minus C [some a0, some a1] S) := dDef_eq rfl
theorem q_times (C : Str → Addr) (S : Store) (a0 a1 : W) : g_times C [a0, a1] S = dEnd giveS S (F_times C [some a0, some a1] S) := dDef_eq rfl
theorem q_over (C : Str → Addr) (S : Store) (a0 a1 : W) : g_over C [a0, a1] S = dEnd giveS S (F_over C [some a0, some a1] S) := dDef_eq rfl
theorem q_are_rows (C : Str → Addr) (S : Store) (a0 a1 a2 : W) : g_are_rows C [a0, a1, a2] S = dEnd giveS S (F_are_rows C [some a0, some a1, some a2, none] S) := dDef_eq rfl
theorem q_is_square (C : Str → Addr) (S : Store) (a0 : W) : g_is_square C [a0] S = dEnd giveS S (F_is_square C [some a0, none, none] S) := dDef_eq rfl
theorem q_check_square (C : Str → Addr) (S : Store) (a0 : W) : g_check_square C [a0] S = dEnd giveS S (F_check_square C [some a0] S) := dDef_eq rfl
theorem q_leading_row (C : Str → Addr) (S : Store) (a0 a1 : W) : g_leading_row C [a0, a1] S = dEnd giveS S (F_leading_row C [some a0, some a1, none] S) := dDef_eq rfl
theorem q_lead_by (C : Str → Addr) (S : Store) (a0 a1 : W) : g_lead_by C [a0, a1] S = dEnd giveS S (F_lead_by C [some a0, some a1, none, none, none, none, none] S) := dDef_eq rfl
theorem q_led_out (C : Str → Addr) (S : Store) (a0 : W) : g_led_out C [a0] S = dEnd giveS S (F_led_out C [some a0, none, none, none, none] S) := dDef_eq rfl
theorem q_determinant (C : Str → Addr) (S : Store) (a0 : W) : g_determinant C [a0] S = dEnd giveS S (F_determinant C [some a0] S) := dDef_eq rfl
theorem q__law_hand (C : Str → Addr) (S : Store) (a0 : W) : g__law_hand C [a0] S = dEnd giveM S (F__law_hand C [some a0, none, none] S) := dDef_eq rfl
theorem q__law_draw (C : Str → Addr) (S : Store) (a0 a1 : W) : g__law_draw C [a0, a1] S = dEnd giveS S (F__law_draw C [some a0, some a1, none, none, none] S) := dDef_eq rfl
theorem q__law_lowest (C : Str → Addr) (S : Store) (a0 a1 : W) : g__law_lowest C [a0, a1] S = dEnd giveS S (F__law_lowest C [some a0, some a1, none, none] S) := dDef_eq rfl
theorem q__law_plus (C : Str → Addr) (S : Store) (a0 a1 : W) : g__law_plus C [a0, a1] S = dEnd giveS S (F__law_plus C [some a0, some a1] S) := dDef_eq rfl
theorem q__law_times (C : Str → Addr) (S : Store) (a0 a1 : W) : g__law_times C [a0, a1] S = dEnd giveS S (F__law_times C [some a0, some a1] S) := dDef_eq rfl
theorem q__law_square (C : Str → Addr) (S : Store) (a0 a1 : W) : g__law_square C [a0, a1] S = dEnd giveS S (F__law_square C [some a0, some a1, none, none, none, none, none] S) := dDef_eq rfl
theorem q__law_orders (C : Str → Addr) (S : Store) (a0 : W) : g__law_orders C [a0] S = dEnd giveS S (F__law_orders C [some a0, none, none, none, none, none, none, none, none] S) := dDef_eq rfl
theorem q__law_due (C : Str → Addr) (S : Store) (a0 : W) : g__law_due C [a0] S = dEnd giveS S (F__law_due C [some a0, none, none, none, none, none, none] S) := dDef_eq rfl
theorem q_law (C : Str → Addr) (S : Store) (a0 : W) : g_law C [a0] S = dEnd giveS S (F_law C [some a0, none, none, none, none, none, none, none, none, none, none, none, none] S) := dDef_eq rfl
end P52
set_option Elab.async false
set_option linter.all false
set_option maxRecDepth 100000
set_option maxHeartbeats 4000000
namespace P52
open PySem PySem.Spec PyProof.Rows L2 DL
/-! ### the head -/
def dd_is_integer : He.DefD := ⟨("is_integer", none), "is_integer", "is_integer", defArgs s_is_integer, defBody s_is_integer, defScope s_is_integer, [], []⟩
def dd_divisor : He.DefD := ⟨("divisor", none), "divisor", "divisor", defArgs s_divisor, defBody s_divisor, defScope s_divisor, [], []⟩
def dd_lowest : He.DefD := ⟨("lowest", none), "lowest", "lowest", defArgs s_lowest, defBody s_lowest, defScope s_lowest, [], []⟩
def dd_is_fraction : He.DefD := ⟨("is_fraction", none), "is_fraction", "is_fraction", defArgs s_is_fraction, defBody s_is_fraction, defScope s_is_fraction, [], []⟩
def dd_minus : He.DefD := ⟨("minus", none), "minus", "minus", defArgs s_minus, defBody s_minus, defScope s_minus, [], []⟩
def dd_times : He.DefD := ⟨("times", none), "times", "times", defArgs s_times, defBody s_times, defScope s_times, [], []⟩
def dd_over : He.DefD := ⟨("over", none), "over", "over", defArgs s_over, defBody s_over, defScope s_over, [], []⟩
def dd_are_rows : He.DefD := ⟨("are_rows", none), "are_rows", "are_rows", defArgs s_are_rows, defBody s_are_rows, defScope s_are_rows, [], []⟩
def dd_is_square : He.DefD := ⟨("is_square", none), "is_square", "is_square", defArgs s_is_square, defBody s_is_square, defScope s_is_square, [], []⟩
def dd_check_square : He.DefD := ⟨("check_square", none), "check_square", "check_square", defArgs s_check_square, defBody s_check_square, defScope s_check_square, [], []⟩
def dd_leading_row : He.DefD := ⟨("leading_row", none), "leading_row", "leading_row", defArgs s_leading_row, defBody s_leading_row, defScope s_leading_row, [], []⟩
def dd_lead_by : He.DefD := ⟨("lead_by", none), "lead_by", "lead_by", defArgs s_lead_by, defBody s_lead_by, defScope s_lead_by, [], []⟩
def dd_led_out : He.DefD := ⟨("led_out", none), "led_out", "led_out", defArgs s_led_out, defBody s_led_out, defScope s_led_out, [], []⟩
def dd_determinant : He.DefD := ⟨("determinant", none), "determinant", "determinant", defArgs s_determinant, defBody s_determinant, defScope s_determinant, [], []⟩
def dd__law_hand : He.DefD := ⟨("_law_hand", none), "_law_hand", "_law_hand", defArgs s__law_hand, defBody s__law_hand, defScope s__law_hand, [], []⟩
def dd__law_draw : He.DefD := ⟨("_law_draw", none), "_law_draw", "_law_draw", defArgs s__law_draw, defBody s__law_draw, defScope s__law_draw, [], []⟩
def dd__law_lowest : He.DefD := ⟨("_law_lowest", none), "_law_lowest", "_law_lowest", defArgs s__law_lowest, defBody s__law_lowest, defScope s__law_lowest, [], []⟩
def dd__law_plus : He.DefD := ⟨("_law_plus", none), "_law_plus", "_law_plus", defArgs s__law_plus, defBody s__law_plus, defScope s__law_plus, [], []⟩
def dd__law_times : He.DefD := ⟨("_law_times", none), "_law_times", "_law_times", defArgs s__law_times, defBody s__law_times, defScope s__law_times, [], []⟩
def dd__law_square : He.DefD := ⟨("_law_square", none), "_law_square", "_law_square", defArgs s__law_square, defBody s__law_square, defScope s__law_square, [], []⟩
def dd__law_orders : He.DefD := ⟨("_law_orders", none), "_law_orders", "_law_orders", defArgs s__law_orders, defBody s__law_orders, defScope s__law_orders, [], []⟩
def dd__law_due : He.DefD := ⟨("_law_due", none), "_law_due", "_law_due", defArgs s__law_due, defBody s__law_due, defScope s__law_due, [], []⟩
def dd_law : He.DefD := ⟨("law", none), "law", "law", defArgs s_law, defBody s_law, defScope s_law, [], []⟩
def fn : List He.DefD := [dd_is_integer, dd_divisor, dd_lowest, dd_is_fraction, dd_minus, dd_times, dd_over, dd_are_rows, dd_is_square, dd_check_square, dd_leading_row, dd_lead_by, dd_led_out, dd_determinant, dd__law_hand, dd__law_draw, dd__law_lowest, dd__law_plus, dd__law_times, dd__law_square, dd__law_orders, dd__law_due, dd_law]
def fa : List He.Fa := [.glo "is_integer", .glo "divisor", .glo "lowest", .glo "is_fraction", .glo "minus", .glo "times", .glo "over", .glo "are_rows", .glo "is_square", .glo "check_square", .glo "leading_row", .glo "lead_by", .glo "led_out", .glo "determinant", .glo "_law_hand", .glo "_law_draw", .glo "_law_lowest", .glo "_law_plus", .glo "_law_times", .glo "_law_square", .glo "_law_orders", .glo "_law_due", .glo "law", .free "abs", .free "all", .free "bool", .free "enumerate", .free "int", .free "isinstance", .free "len", .free "list", .free "range", .free "tuple", .free "zip", .int "MOST_ROWS" 10, .glo "NoSquare", .exc "NoSquare"]
def own : List Str := []
def exB1 (K : PySem.W.Frag) : Bool := own.all fun C => ownB K (He.ga K C)
def exB2 (K : PySem.W.Frag) : Bool := excs.all fun c => hdls.all fun h => decide (PySem.W.exmOne K (.ref (He.ga K c)) (.ref (He.ga K h)) = some (subE c h))
def tabs : List (Str × List (Str × Int)) := []
def exB3 (K : PySem.W.Frag) : Bool := tabs.all fun t => He.valsB K (He.ga K t.1) (t.2.map fun q => (q.1, He.Dv.int q.2))
def exB (K : PySem.W.Frag) : Bool := (exB1 K && exB2 K) && exB3 K
def ts : List He.Tab := []
def loose : List Str := (["GridError", "NoSquare", "is_integer", "divisor", "lowest", "is_fraction", "minus", "times", "over", "are_rows", "MOST_ROWS", "is_square", "check_square", "leading_row", "lead_by", "led_out", "determinant", "_law_hand", "_law_draw", "_law_lowest", "_law_plus", "_law_times", "_law_square", "_law_orders", "_law_due", "__name__"] : List Str)
abbrev R : PySem.W.OpenRow := PySem.W.OpenLaw.row PySem.Challenge.rw_unitgrids_k52_whole_determinants_of_numb
abbrev hk : PySem.W.Hook := hookMT 4 fa fn ts exB
def ob (s : PySem.W.SharedT) : AlMT := obsMT 4 fa fn ts exB (HandSHeadRun.getT s)
theorem ob_eq (s : PySem.W.SharedT) : ob s = hk.obs s.abs := obsMT_eq (HandSHeadRun.getT_eq s)
theorem run (w : World) : HandSHeadRun.RunEq R (PySem.W.view R.prog [29]) hk ob 6000 loose w := by
  intro os
  kernel_rfl
end P52
set_option Elab.async false
set_option linter.all false
set_option maxRecDepth 100000
set_option maxHeartbeats 1000000
namespace P52
open PySem L2 DL
local macro_rules | `(tactic| walk_at "ev") => `(tactic| simp (config := { decide := false, implicitDefEqProofs := false }) only [bind_ok, bind_err, sE_ok, sE_err, bnd_nx, bnd_rt, bnd_bk, bnd_ct, bnd_err, sSeq_eq, dEnd_rt, dEnd_nx, dEnd_err, giveS_d, giveS_dA, giveS_nil,
  dVar, dC, d2, d1, dB, dChain, dAnd, dOr, dNot, dTru, dAndV, dOrV, dNotV, dIf, aNil, aCons, dTup, dLst, dLoc, dCall, dCB, b1, dIt, sNx, sBk, sCt, sRet, sRetN, sDrop, sSet, sIf, sPar, truth_bl, asB_bl, oI0_eq, oIsi, ty_int, ty_bl, ty_str, ty_non, ty_tup, ty_lst, isi_ii, isi_ib, isi_it, isi_tt, isi_ti, isi_tb,
  oAbs, oInt, oNeg, oEq_int, oNe_int, dFld, dSl, dPt, dNoPt, asPt_int, isN_non, isN_tup, isN_U, notN_non, notN_tup, notN_U, dMake, sFldPut,
  List.map_cons, List.map_nil, List.length_cons, List.length_nil, List.getElem?_cons_zero, List.getElem?_cons_succ, List.set_cons_zero, List.set_cons_succ, List.cons_append, List.nil_append, List.append_nil, Nat.reduceAdd, Nat.reduceSub, Nat.zero_add, if_true, if_false, Bool.not_true, Bool.not_false, Bool.false_eq_true, reduceIte, List.replicate_zero, List.replicate_succ, Nat.sub_self, beq_self_eq_true, Int.reduceLT, Int.reduceLE, Int.reduceAdd, Int.reduceSub, Int.reduceMul, Int.reduceNeg, Int.reducePow, Int.reduceToNat, Int.reduceEq, Int.reduceBEq, decide_true, decide_false, mkTup1, mkTup2, mkTup3, mkLst2, mkLst5, ix20, ix21, ixF0, ixF1, len_tup, len_lst, lenF, tyF, lenU, tyU, oEqF, oEqU, oNeU, zipU, tgN, tgT, tgCons, tgNil, wipeE, Option.bind_some, tuple_lst, list_lst, st0, st1, st2, st3, se1, se2, se3, giveS_st, tgIx, sAsg, Option.map_some, oMod_eq, isi_int', isi_bl', isi_str', isi_non', isi_tup', isi_lst', isi_dct', isi_U', isi_F', isi_ins', tc_int, tc_bool, tc_tuple, ty_dct, isi_bi, isi_bb, isi_bt, isi_si, isi_sb, isi_st, isi_ni, isi_nb, isi_nt, isi_li, isi_lb, isi_lt, isi_di, isi_db, isi_dt, sRaise, dDct, mkLoc2, mkLoc7, mkLoc8, mkLoc9, mkLoc11, mkLoc17, mkLoc25, mkLoc32, oCatL, mkTup4, mkLst4, eqs_plus_plus, eqs_plus_times, eqs_plus_turned, eqs_plus_beside, eqs_plus_above, eqs_plus_piece, eqs_plus_star, nes_plus, eqs_times_plus, eqs_times_times, eqs_times_turned, eqs_times_beside, eqs_times_above, eqs_times_piece, eqs_times_star, nes_times, eqs_turned_plus, eqs_turned_times, eqs_turned_turned, eqs_turned_beside, eqs_turned_above, eqs_turned_piece, eqs_turned_star, nes_turned, eqs_beside_plus, eqs_beside_times, eqs_beside_turned, eqs_beside_beside, eqs_beside_above, eqs_beside_piece, eqs_beside_star, nes_beside, eqs_above_plus, eqs_above_times, eqs_above_turned, eqs_above_beside, eqs_above_above, eqs_above_piece, eqs_above_star, nes_above, eqs_piece_plus, eqs_piece_times, eqs_piece_turned, eqs_piece_beside, eqs_piece_above, eqs_piece_piece, eqs_piece_star, nes_piece, sh_0, sh_1, tg_sh, max_sh, isN_sh, notN_sh, sAugIx, isi_N', isi_Row', isi_R', hd0, hd1, hd2, hd3, hd4, hs1, hs2, hs3, hs4, giveS_hnd, dTupF, giveS_dA])
local macro_rules | `(tactic| walk_at "evh") => `(tactic| simp (config := { decide := false, implicitDefEqProofs := false }) only [bind_ok, bind_err, sE_ok, sE_err, bnd_nx, bnd_rt, bnd_bk, bnd_ct, bnd_err, sSeq_eq, dEnd_rt, dEnd_nx, dEnd_err, giveS_d, giveS_dA, giveS_nil,
  dVar, dC, d2, d1, dB, dChain, dAnd, dOr, dNot, dTru, dAndV, dOrV, dNotV, dIf, aNil, aCons, dTup, dLst, dLoc, dCall, dCB, b1, dIt, sNx, sBk, sCt, sRet, sRetN, sDrop, sSet, sIf, sPar, truth_bl, asB_bl, oI0_eq, oIsi, ty_int, ty_bl, ty_str, ty_non, ty_tup, ty_lst, isi_ii, isi_ib, isi_it, isi_tt, isi_ti, isi_tb,
  oAbs, oInt, oNeg, oEq_int, oNe_int, dFld, dSl, dPt, dNoPt, asPt_int, isN_non, isN_tup, isN_U, notN_non, notN_tup, notN_U, dMake, sFldPut,
  List.map_cons, List.map_nil, List.length_cons, List.length_nil, List.getElem?_cons_zero, List.getElem?_cons_succ, List.set_cons_zero, List.set_cons_succ, List.cons_append, List.nil_append, List.append_nil, Nat.reduceAdd, Nat.reduceSub, Nat.zero_add, if_true, if_false, Bool.not_true, Bool.not_false, Bool.false_eq_true, reduceIte, List.replicate_zero, List.replicate_succ, Nat.sub_self, beq_self_eq_true, Int.reduceLT, Int.reduceLE, Int.reduceAdd, Int.reduceSub, Int.reduceMul, Int.reduceNeg, Int.reducePow, Int.reduceToNat, Int.reduceEq, Int.reduceBEq, decide_true, decide_false, mkTup1, mkTup2, mkTup3, mkLst2, mkLst5, ix20, ix21, ixF0, ixF1, len_tup, len_lst, lenF, tyF, lenU, tyU, oEqF, oEqU, oNeU, zipU, tgN, tgT, tgCons, tgNil, wipeE, Option.bind_some, tuple_lst, list_lst, st0, st1, st2, st3, se1, se2, se3, giveS_st, tgIx, sAsg, Option.map_some, oMod_eq, isi_int', isi_bl', isi_str', isi_non', isi_tup', isi_lst', isi_dct', isi_U', isi_F', isi_ins', tc_int, tc_bool, tc_tuple, ty_dct, isi_bi, isi_bb, isi_bt, isi_si, isi_sb, isi_st, isi_ni, isi_nb, isi_nt, isi_li, isi_lb, isi_lt, isi_di, isi_db, isi_dt, sRaise, dDct, mkLoc2, mkLoc7, mkLoc8, mkLoc9, mkLoc11, mkLoc17, mkLoc25, mkLoc32, oCatL, mkTup4, mkLst4, eqs_plus_plus, eqs_plus_times, eqs_plus_turned, eqs_plus_beside, eqs_plus_above, eqs_plus_piece, eqs_plus_star, nes_plus, eqs_times_plus, eqs_times_times, eqs_times_turned, eqs_times_beside, eqs_times_above, eqs_times_piece, eqs_times_star, nes_times, eqs_turned_plus, eqs_turned_times, eqs_turned_turned, eqs_turned_beside, eqs_turned_above, eqs_turned_piece, eqs_turned_star, nes_turned, eqs_beside_plus, eqs_beside_times, eqs_beside_turned, eqs_beside_beside, eqs_beside_above, eqs_beside_piece, eqs_beside_star, nes_beside, eqs_above_plus, eqs_above_times, eqs_above_turned, eqs_above_beside, eqs_above_above, eqs_above_piece, eqs_above_star, nes_above, eqs_piece_plus, eqs_piece_times, eqs_piece_turned, eqs_piece_beside, eqs_piece_above, eqs_piece_piece, eqs_piece_star, nes_piece, sh_0, sh_1, tg_sh, max_sh, isN_sh, notN_sh, sAugIx, isi_N', isi_Row', isi_R', hd0, hd1, hd2, hd3, hd4, hs1, hs2, hs3, hs4, giveS_hnd, dTupF, giveS_dA, oMul_eq, oDiv_eq, oPow_eq, *])
theorem e_is_integer (C : Str → Addr) (S : Store) (i : Int) : g_is_integer C [.d (.int i)] S = some (.ok (.d (.bl true)), S) := by
  rw [q_is_integer, F_is_integer]
  walk_at "ev"
theorem e_divisor (C : Str → Addr) (S : Store) (a b : Int) : g_divisor C [.d (.int a), .d (.int b)] S = some (.ok (.d (.int (gcd a b))), S) := by
  rw [q_divisor, F_divisor]
  walk_at "ev"
  simp only [abs_nat, gcd_while]
  walk_at "ev"
  rfl
theorem fdiv_gcd {t : Int} {g : Int} (h : 0 < g) : t.fdiv g = t / g := Int.fdiv_eq_ediv_of_nonneg t (by omega)
theorem e_lowest (C : Str → Addr) (S : Store) {t b : Int} {n : Nat} (h : 0 < b) (hb : Bd n b) (h0 : 0 < n) (h9 : n ≤ 9000) : g_lowest C [.d (.int t), .d (.int b)] S = some (.ok (.d (encF (low t b))), S) := by
  rw [q_lowest, F_lowest]
  have hn : ¬ b < 0 := by omega
  have gp := gcd_pos (t := t) h
  have gl : Bd n (gcd t b) := hb.le (by have := gcd_le (t := t) h; omega)
  have c1 : ∀ S, oDivS (.d (.int t)) (.d (.int (gcd t b))) S = some (.ok (.d (.int (t / gcd t b))), S) := fun S => by rw [oDivS_eq (divS (by omega) gl h0 h9), fdiv_gcd gp]
  have c2 : ∀ S, oDivS (.d (.int b)) (.d (.int (gcd t b))) S = some (.ok (.d (.int (b / gcd t b))), S) := fun S => by rw [oDivS_eq (divS (by omega) gl h0 h9), fdiv_gcd gp]
  have e := e_divisor C
  have d1 := decide_eq_false hn
  clear gp gl
  walk_at "evh"
  rfl
theorem e_lowest_neg (C : Str → Addr) (S : Store) {t b : Int} {n : Nat} (h : b < 0) (hb : Bd n b) (h0 : 0 < n) (h9 : n ≤ 9000) : g_lowest C [.d (.int t), .d (.int b)] S = some (.ok (.d (encF (low (-t) (-b)))), S) := by
  rw [q_lowest, F_lowest]
  have eg : gcd (-t) (-b) = gcd t b := by unfold gcd; rw [Int.gcd_neg, Int.neg_gcd]
  have gp : 0 < gcd t b := by rw [← eg]; exact gcd_pos (by omega)
  have gl : Bd n (-gcd t b) := hb.le (by have := gcd_le (t := -t) (b := -b) (by omega); omega)
  have fd : ∀ i : Int, gcd t b ∣ i → i.fdiv (-gcd t b) = (-i) / gcd t b := fun i hi => by
    rw [← Int.neg_fdiv_neg, Int.neg_neg, fdiv_gcd gp]
  have c1 : ∀ S, oDivS (.d (.int t)) (.d (.int (-gcd t b))) S = some (.ok (.d (.int ((-t) / gcd t b))), S) := fun S => by rw [oDivS_eq (divS (by omega) gl h0 h9), fd _ (Int.gcd_dvd_left ..)]
  have c2 : ∀ S, oDivS (.d (.int b)) (.d (.int (-gcd t b))) S = some (.ok (.d (.int ((-b) / gcd t b))), S) := fun S => by rw [oDivS_eq (divS (by omega) gl h0 h9), fd _ (Int.gcd_dvd_right ..)]
  have e := e_divisor C
  have d1 := decide_eq_true h
  have fin : low (-t) (-b) = ((-t) / gcd t b, (-b) / gcd t b) := by unfold low; rw [eg]
  rw [fin]
  clear gp gl fd eg fin
  walk_at "evh"
  rfl
theorem e_minus (C : Str → Addr) (S : Store) {n m : Nat} {x y : Int × Int} (hx : FrB n x) (hy : FrB m y) (h0 : 0 < n := by decide) (h1 : 0 < m := by decide) (h9 : n + m ≤ 8000 := by decide) : g_minus C [.d (encF x), .d (encF y)] S = some (.ok (.d (encF (fminus x y))), S) := by
  rw [q_minus, F_minus]
  have c1 := hx.b1.mulOk hy.b2 h0 h1 (by omega)
  have c2 := hy.b1.mulOk hx.b2 h1 h0 (by omega)
  have c3 := hx.b2.mulOk hy.b2 h0 h1 (by omega)
  have e := fun S => e_lowest C S (t := x.1 * y.2 - y.1 * x.2) (pos2 hx.fr hy.fr) (hx.b2.mul hy.b2) (by omega) (by omega)
  walk_at "evh"
  rfl
theorem e_times (C : Str → Addr) (S : Store) {n m : Nat} {x y : Int × Int} (hx : FrB n x) (hy : FrB m y) (h0 : 0 < n := by decide) (h1 : 0 < m := by decide) (h9 : n + m ≤ 8000 := by decide) : g_times C [.d (encF x), .d (encF y)] S = some (.ok (.d (encF (ftimes x y))), S) := by
  rw [q_times, F_times]
  have c1 := hx.b1.mulOk hy.b1 h0 h1 (by omega)
  have c3 := hx.b2.mulOk hy.b2 h0 h1 (by omega)
  have e := fun S => e_lowest C S (t := x.1 * y.1) (pos2 hx.fr hy.fr) (hx.b2.mul hy.b2) (by omega) (by omega)
  walk_at "evh"
  rfl
theorem e_is_fraction (C : Str → Addr) (S : Store) {p : Int × Int} (h : Fr p) : g_is_fraction C [.d (encF p)] S = some (.ok (.d (.bl true)), S) := by
  rw [q_is_fraction, F_is_fraction]
  have e1 := e_is_integer C
  have e2 := e_divisor C
  have d1 : decide ((1 : Int) ≤ p.2) = true := by have := h.1; simp; omega
  have g1 : gcd p.1 p.2 = 1 := by unfold gcd; rw [h.2]; rfl
  clear h
  walk_at "evh"
/-! ### over rational numbers -/
section
variable (C : Str → Addr) (S : Store) {n m : Nat} {x y : Rat}
theorem q_minus' (hx : QB n x) (hy : QB m y) (h0 : 0 < n := by decide) (h1 : 0 < m := by decide) (h9 : n + m ≤ 8000 := by decide) : g_minus C [.d (encQ x), .d (encQ y)] S = some (.ok (.d (encQ (x - y))), S) := by
  rw [encQ, encQ, e_minus C S hx.fr hy.fr h0 h1 h9, fminus_fq, encQ]
theorem q_times' (hx : QB n x) (hy : QB m y) (h0 : 0 < n := by decide) (h1 : 0 < m := by decide) (h9 : n + m ≤ 8000 := by decide) : g_times C [.d (encQ x), .d (encQ y)] S = some (.ok (.d (encQ (x * y))), S) := by
  rw [encQ, encQ, e_times C S hx.fr hy.fr h0 h1 h9, ftimes_fq, encQ]
theorem q_over' (hx : QB n x) (hy : QB m y) (hne : y ≠ 0) (h0 : 0 < n := by decide) (h1 : 0 < m := by decide) (h9 : n + m ≤ 8000 := by decide) : g_over C [.d (encQ x), .d (encQ y)] S = some (.ok (.d (encQ (x / y))), S) := by
  have hb : (x.den : Int) * y.num ≠ 0 := by
    have h1 : (x.den : Int) ≠ 0 := by have := x.den_nz; omega
    have h2 : y.num ≠ 0 := by rw [Ne, Rat.num_eq_zero]; exact hne
    exact Int.mul_ne_zero h1 h2
  have c1 := hx.1.mulOk hy.2 h0 h1 (by omega)
  have c2 := hx.2.mulOk hy.1 h0 h1 (by omega)
  have key := low_any (t := x.num * (y.den : Int)) (b := (x.den : Int) * y.num) hb
  rw [over_fq x y hne] at key
  have bb := hx.2.mul hy.1
  have e : ∀ S, g_lowest C [.d (.int (x.num * (y.den : Int))), .d (.int ((x.den : Int) * y.num))] S = some (.ok (.d (encQ (x / y))), S) := fun S => by
    unfold encQ
    rw [← key]
    by_cases hn : (x.den : Int) * y.num < 0
    · rw [if_pos hn, if_pos hn]
      exact e_lowest_neg C S hn bb (by omega) (by omega)
    · rw [if_neg hn, if_neg hn]
      exact e_lowest C S (by omega) bb (by omega) (by omega)
  have i0 : ∀ q S, oIx (.d (encQ q)) (.d (.int 0)) S = some (.ok (.d (.int q.num)), S) := fun _ _ => rfl
  have i1 : ∀ q S, oIx (.d (encQ q)) (.d (.int 1)) S = some (.ok (.d (.int (q.den : Int))), S) := fun _ _ => rfl
  rw [q_over, F_over]
  clear hx hy hne h0 h1 h9 hb key bb
  walk_at "evh"
end
/-! ### the law's hand -/
theorem e_hand (C : Str → Addr) (ns : List Int) (hl : ns.length ≤ 63) : ∃ m, g__law_hand C [.d (.lst (ns.map D.int))] [] = some (.ok (.loc 0), [m]) ∧ HdSt 900000000 m := by
  have sl : oSlA (.d (.lst (ns.map D.int))) none (some 63) [] = some (.ok (.d (.lst (ns.map D.int))), []) := by
    show some (Except.ok (W.d (.lst (cutD (ns.map D.int) none (some 63)))), ([] : Store)) = _
    have e : cutD (ns.map D.int) none (some ((63 : Nat) : Int)) = ns.map D.int := by
      unfold cutD
      have e1 : HT.sIx (ns.map D.int).length 0 none = 0 := rfl
      rw [e1]
      have e2 : (ns.map D.int).length ≤ HT.sIx (ns.map D.int).length (ns.map D.int).length (some ((63 : Nat) : Int)) := by
        unfold HT.sIx
        simp
        omega
      rw [List.drop_zero, List.take_of_length_le (by omega)]
    have e' : cutD (ns.map D.int) none (some 63) = ns.map D.int := e
    rw [e']
  have a : dLc lcF (dSeq (dSl oSlA (dVar 0) (dNoPt) (dPt (dC (.int 63))))) (tgN 2) (ftYes) (dCB (b1 oAbs) (aCons (dCB (b1 oInt) (aCons (dVar 2) (aNil))) (aNil))) [2] [some (.d (.lst (ns.map D.int))), none, none] [] = lcF ((ns.filter fun _ => true).map fun i => W.d (.int (i.natAbs : Int))) [] :=
    dLc_filter (q := fun _ => true) (wf := fun i => W.d (.int i)) (f := fun i => W.d (.int (i.natAbs : Int))) (by
      rw [dSeq_lst (ds := ns.map D.int) (S1 := []) (by walk_at "evh")]
      simp) (by omega) fun i hi => by
      have a1 := abs_nat i
      refine ⟨_, rfl, rfl, fun _ => ?_⟩
      clear sl hi
      walk_at "evh"
  have ef : (ns.filter fun _ => true) = ns := List.filter_eq_self.mpr (by simp)
  rw [ef] at a
  have am : lcF (ns.map fun i => W.d (.int (i.natAbs : Int))) [] = some (.ok (.d (.lst ((ns.map fun i => (i.natAbs : Int)).map D.int))), []) := by
    unfold lcF
    have e : (ns.map fun i => W.d (.int (i.natAbs : Int))) = ((ns.map fun i => (i.natAbs : Int)).map D.int).map W.d := by simp [List.map_map]
    rw [e, pure?_map]
  rw [am] at a
  have gk : ∀ (ds : List W), (∀ w ∈ ds, wBelow 0 w) → giveM [] (.loc 0) [.lst ds] = some (.ok (.loc 0), [.lst ds]) := fun ds hd => by
    unfold giveM
    rw [if_pos ⟨by simp, fun i m hi e => absurd hi (by simp)⟩]
    dsimp only
    rw [if_neg (by simp)]
    simp only [List.getElem?_cons_zero]
    rw [if_pos (show ∀ w ∈ ds, wBelow ([] : Store).length w from hd)]
    rfl
  refine ⟨encHd (ns.map fun i => (i.natAbs : Int)) 0 0 (1 + (ns.length : Int)) 0, ?_, _, 0, 0, 1 + (ns.length : Int), 0, rfl, fun x hx => by
    obtain ⟨i, _, rfl⟩ := List.mem_map.mp hx
    omega, Nat.zero_le _, by omega, by omega, by omega, by omega, by omega⟩
  have l0 : oLen (.d (.lst ((ns.map fun i => (i.natAbs : Int)).map D.int))) [] = some (.ok (.d (.int (ns.length : Int))), []) := by rw [len_lst]; simp
  have gv := gk [.d (.lst ((ns.map fun i => (i.natAbs : Int)).map D.int)), .d (.int 0), .d (.int 0), .d (.int (1 + (ns.length : Int))), .d (.int 0)] (by
    intro w hw
    simp only [List.mem_cons, List.not_mem_nil, or_false] at hw
    rcases hw with rfl | rfl | rfl | rfl | rfl <;> trivial)
  have hX : (((ns.map fun i => (i.natAbs : Int)).map D.int).length : Int) = (ns.length : Int) := by simp
  have ml : ∀ a b c d e : D, mkLoc [.d a, .d b, .d c, .d d, .d e] [] = some (.ok (.loc 0), [.lst [.d a, .d b, .d c, .d d, .d e]]) := fun _ _ _ _ _ => rfl
  rw [q__law_hand, F__law_hand, encHd]
  generalize ((ns.map fun i => (i.natAbs : Int)).map D.int) = X at *
  clear hl sl am ef gk
  walk_at "evh"
theorem e_draw (C : Str → Addr) (T : Store) {f : Nat} {m : M} (hm : HdSt (f + 1) m) {k : Int} (hk : 0 < k) (hkb : Bd 200 k) : ∃ r m', g__law_draw C [.loc 0, .d (.int k)] (m :: T) = some (.ok (.d (.int r)), m' :: T) ∧ 0 ≤ r ∧ r < k ∧ HdSt f m' := by
  obtain ⟨cs, a, b, c, d, rfl, hcs, ha, hb, hc0, hc1, hd, hf⟩ := hm
  have ck : ∀ i : Int, CDivW i k := fun i => wide_div hk hkb (by decide) (by decide)
  have p18 : CPow 10 18 := by decide
  have fin : ∀ i : Int, 0 ≤ i % k ∧ i % k < k := fun i => ⟨Int.emod_nonneg i (by omega), Int.emod_lt_of_pos i hk⟩
  have c0 : CMulW c 69621 := (bd_nn (n := 32) hc0 hc1).mulOk (bd_nn (n := 17) (by decide) (by decide))
  have c7 : CMulW 7919 (d + 1) := (bd_nn (n := 13) (by decide) (by decide)).mulOk (bd_nn (n := 31) (by omega) (by omega))
  rw [q__law_draw, F__law_draw]
  by_cases h1 : b = 0 ∧ a < cs.length
  · obtain ⟨rfl, h2⟩ := h1
    have l0 : ∀ S, oLen (.d (.lst (cs.map D.int))) S = some (.ok (.d (.int (cs.length : Int))), S) := fun S => by rw [len_lst]; simp
    have d2 : decide ((a : Int) < (cs.length : Int)) = true := by simp [h2]
    have ix := fun S => ix_ints (S := S) h2
    have ht0 := hcs _ (List.getElem_mem h2)
    generalize ht : cs[a] = t at ix ht0
    have e1 : ((a + 1 : Nat) : Int) = (a : Int) + 1 := by simp
    have n0 : 0 ≤ (c * 69621 + t + 11) % 2147483629 := Int.emod_nonneg _ (by decide)
    have n1 : (c * 69621 + t + 11) % 2147483629 < 2147483629 := Int.emod_lt_of_pos _ (by decide)
    by_cases h3 : t ≥ 1000000000000000000
    · have d3 : decide ((1000000000000000000 : Int) ≤ t) = true := by simpa using h3
      have d3' : decide (t ≥ (1000000000000000000 : Int)) = true := by simpa using h3
      have d4 : decide ((0 : Int) < t) = true := by simp; omega
      have d4' : decide (t > (0 : Int)) = true := by simp; omega
      refine ⟨t % k, encHd cs ((a + 1 : Nat) : Int) (t / k) ((c * 69621 + t + 11) % 2147483629) d, ?_, (fin t).1, (fin t).2, cs, a + 1, t / k, _, d, rfl, hcs, h2, Int.ediv_nonneg (by omega) (by omega), n0, by omega, hd, by omega⟩
      rw [e1]
      clear fin ht hb hc0 hc1 hd hf h2 h3 n0 n1 e1 ht0 hcs ha c7
      walk_at "evh"
    · have d3 : decide ((1000000000000000000 : Int) ≤ t) = false := by simp; omega
      have d3' : decide (t ≥ (1000000000000000000 : Int)) = false := by simp; omega
      generalize hz : (c * 69621 + t + 11) % 2147483629 = z at n0 n1
      obtain ⟨x, y, v, m1, m2, m3, g1, g2, g3, g4, g5, g6⟩ := hd_mix (n := z + 7919 * (d + 1)) (by omega) (by omega)
      refine ⟨(v / 16) % k, encHd cs ((a + 1 : Nat) : Int) 0 z (d + 1), ?_, (fin _).1, (fin _).2, cs, a + 1, 0, z, d + 1, rfl, hcs, h2, by omega, n0, by omega, by omega, by omega⟩
      rw [e1]
      clear fin ht hb hc0 hc1 hd hf h2 h3 n0 n1 e1 ht0 hcs ha
      walk_at "evh"
  · have l0 : ∀ S, oLen (.d (.lst (cs.map D.int))) S = some (.ok (.d (.int (cs.length : Int))), S) := fun S => by rw [len_lst]; simp
    by_cases h4 : 0 < b
    · have d4 : decide ((0 : Int) < b) = true := by simpa using h4
      have d4' : decide (b > (0 : Int)) = true := by simpa using h4
      refine ⟨b % k, encHd cs a (b / k) c d, ?_, (fin _).1, (fin _).2, cs, a, b / k, c, d, rfl, hcs, ha, Int.ediv_nonneg (by omega) (by omega), hc0, hc1, hd, by omega⟩
      have d5 : (b == 0) = false := by simp; omega
      clear fin hb hc0 hc1 hd hf h1 h4 hcs ha c7 c0
      walk_at "evh"
    · have hz : b = 0 := by omega
      subst hz
      have d5 : decide ((a : Int) < (cs.length : Int)) = false := by simp; omega
      obtain ⟨x, y, v, m1, m2, m3, g1, g2, g3, g4, g5, g6⟩ := hd_mix (n := c + 7919 * (d + 1)) (by omega) (by omega)
      refine ⟨(v / 16) % k, encHd cs a 0 c (d + 1), ?_, (fin _).1, (fin _).2, cs, a, 0, c, d + 1, rfl, hcs, ha, by omega, hc0, hc1, by omega, by omega⟩
      clear fin hb hc0 hc1 hd hf h1 h4 hcs ha c0
      walk_at "evh"
theorem lowest_loop {S : Store} {t b : Option W} : ∀ (n : Nat) (x y : Nat), y ≤ n → whileN (dB (d2 oGt (dVar 3) (dC (.int 0)))) (sPar 2 3 (dVar 3) (d2 oMod (dCB (b1 oInt) (aCons (dVar 2) (aNil))) (dVar 3))) (n + 1) [t, b, some (.d (.int x)), some (.d (.int y))] S = some (.ok (.nx [t, b, some (.d (.int (Nat.gcd x y : Nat))), some (.d (.int 0))]), S)
  | n, x, 0, _ => by simp [whileN, sE, dB, d2, dVar, dC, Rs.bind, oI0, asB]
  | 0, x, y + 1, h => by omega
  | n + 1, x, y + 1, h => by
    have hlt : x % (y + 1) < y + 1 := Nat.mod_lt x (by omega)
    have ih := lowest_loop (S := S) (t := t) (b := b) n (y + 1) (x % (y + 1)) (by omega)
    have hpos : (0 : Int) < ((y + 1 : Nat) : Int) := by omega
    rw [whileN]
    have e1 : (dB (d2 oGt (dVar 3) (dC (.int 0)))) [t, b, some (.d (.int (x : Int))), some (.d (.int ((y + 1 : Nat) : Int)))] S = some (.ok true, S) := by
      simp only [dB, d2, dVar, dC, Rs.bind, oI0, asB, List.getElem?_cons_succ, List.getElem?_cons_zero, decide_eq_true hpos]
    have e0 : ((x % (y + 1) : Nat) : Int) = (x : Int) % ((y + 1 : Nat) : Int) := rfl
    have e2 : (sPar 2 3 (dVar 3) (d2 oMod (dCB (b1 oInt) (aCons (dVar 2) (aNil))) (dVar 3))) [t, b, some (.d (.int (x : Int))), some (.d (.int ((y + 1 : Nat) : Int)))] S = some (.ok (.nx [t, b, some (.d (.int ((y + 1 : Nat) : Int))), some (.d (.int ((x % (y + 1) : Nat) : Int)))]), S) := by
      rw [e0]
      generalize ((y + 1 : Nat) : Int) = z at hpos
      walk_at "evh"
    rw [e1]
    simp only [sE, if_true, e2]
    rw [ih]
    have e3 : Nat.gcd (y + 1) (x % (y + 1)) = Nat.gcd x (y + 1) := by rw [Nat.gcd_comm, ← Nat.gcd_rec, Nat.gcd_comm]
    rw [e3]
theorem e_law_lowest (C : Str → Addr) (S : Store) {t b : Int} {n : Nat} (h : 0 < b) (hb : Bd n b) (h0 : 0 < n) (h9 : n ≤ 9000) : g__law_lowest C [.d (.int t), .d (.int b)] S = some (.ok (.d (encF (low t b))), S) := by
  have c1 := gcd_div (t := t) h hb h0 h9 t
  have c2 := gcd_div (t := t) h hb h0 h9 b
  obtain ⟨m, rfl⟩ : ∃ m : Nat, b = (m : Int) := ⟨b.toNat, by omega⟩
  have w : dWhile (dB (d2 oGt (dVar 3) (dC (.int 0)))) (sPar 2 3 (dVar 3) (d2 oMod (dCB (b1 oInt) (aCons (dVar 2) (aNil))) (dVar 3))) [some (.d (.int t)), some (.d (.int (m : Int))), some (.d (.int (t.natAbs : Int))), some (.d (.int (m : Int)))] S = some (.ok (.nx [some (.d (.int t)), some (.d (.int (m : Int))), some (.d (.int (Nat.gcd t.natAbs m : Nat))), some (.d (.int 0))]), S) := dWhile_of (lowest_loop m t.natAbs m (Nat.le_refl m))
  have eg : ((Nat.gcd t.natAbs m : Nat) : Int) = gcd t (m : Int) := rfl
  rw [eg] at w
  have a1 := abs_nat t
  rw [q__law_lowest, F__law_lowest]
  clear h hb
  walk_at "evh"
  rfl
theorem e_law_times' (C : Str → Addr) {S : Store} {n m : Nat} {x y : Int × Int} (hx : FrB n x) (hy : FrB m y) (h0 : 0 < n) (h1 : 0 < m) (h9 : n + m ≤ 8000) : g__law_times C [.d (encF x), .d (encF y)] S = some (.ok (.d (encF (ftimes x y))), S) := by
  rw [q__law_times, F__law_times]
  have c1 := hx.b1.mulOk hy.b1 h0 h1 (by omega)
  have c3 := hx.b2.mulOk hy.b2 h0 h1 (by omega)
  have e := fun S => e_law_lowest C S (t := x.1 * y.1) (pos2 hx.fr hy.fr) (hx.b2.mul hy.b2) (by omega) (by omega)
  walk_at "evh"
  rfl
theorem e_law_plus' (C : Str → Addr) {S : Store} {n m : Nat} {x y : Int × Int} (hx : FrB n x) (hy : FrB m y) (h0 : 0 < n) (h1 : 0 < m) (h9 : n + m ≤ 8000) : g__law_plus C [.d (encF x), .d (encF y)] S = some (.ok (.d (encF (fplus x y))), S) := by
  rw [q__law_plus, F__law_plus]
  have c1 := hx.b1.mulOk hy.b2 h0 h1 (by omega)
  have c2 := hy.b1.mulOk hx.b2 h1 h0 (by omega)
  have c3 := hx.b2.mulOk hy.b2 h0 h1 (by omega)
  have e := fun S => e_law_lowest C S (t := x.1 * y.2 + y.1 * x.2) (pos2 hx.fr hy.fr) (hx.b2.mul hy.b2) (by omega) (by omega)
  walk_at "evh"
  rfl
end P52
set_option Elab.async false
set_option linter.all false
set_option maxRecDepth 100000
set_option maxHeartbeats 1000000
namespace P52
open PySem L2 DL
local macro_rules | `(tactic| walk_at "ev") => `(tactic| simp (config := { decide := false, implicitDefEqProofs := false }) only [bind_ok, bind_err, sE_ok, sE_err, bnd_nx, bnd_rt, bnd_bk, bnd_ct, bnd_err, sSeq_eq, dEnd_rt, dEnd_nx, dEnd_err, giveS_d, giveS_dA, giveS_nil,
  dVar, dC, d2, d1, dB, dChain, dAnd, dOr, dNot, dTru, dAndV, dOrV, dNotV, dIf, aNil, aCons, dTup, dLst, dLoc, dCall, dCB, b1, dIt, sNx, sBk, sCt, sRet, sRetN, sDrop, sSet, sIf, sPar, truth_bl, asB_bl, oI0_eq, oIsi, ty_int, ty_bl, ty_str, ty_non, ty_tup, ty_lst, isi_ii, isi_ib, isi_it, isi_tt, isi_ti, isi_tb,
  oAbs, oInt, oNeg, oEq_int, oNe_int, dFld, dSl, dPt, dNoPt, asPt_int, isN_non, isN_tup, isN_U, notN_non, notN_tup, notN_U, dMake, sFldPut,
  List.map_cons, List.map_nil, List.length_cons, List.length_nil, List.getElem?_cons_zero, List.getElem?_cons_succ, List.set_cons_zero, List.set_cons_succ, List.cons_append, List.nil_append, List.append_nil, Nat.reduceAdd, Nat.reduceSub, Nat.zero_add, if_true, if_false, Bool.not_true, Bool.not_false, Bool.false_eq_true, reduceIte, List.replicate_zero, List.replicate_succ, Nat.sub_self, beq_self_eq_true, Int.reduceLT, Int.reduceLE, Int.reduceAdd, Int.reduceSub, Int.reduceMul, Int.reduceNeg, Int.reducePow, Int.reduceToNat, Int.reduceEq, Int.reduceBEq, decide_true, decide_false, mkTup1, mkTup2, mkTup3, mkLst2, mkLst5, ix20, ix21, ixF0, ixF1, len_tup, len_lst, lenF, tyF, lenU, tyU, oEqF, oEqU, oNeU, zipU, tgN, tgT, tgCons, tgNil, wipeE, Option.bind_some, tuple_lst, list_lst, st0, st1, st2, st3, se1, se2, se3, giveS_st, tgIx, sAsg, Option.map_some, oMod_eq, isi_int', isi_bl', isi_str', isi_non', isi_tup', isi_lst', isi_dct', isi_U', isi_F', isi_ins', tc_int, tc_bool, tc_tuple, ty_dct, isi_bi, isi_bb, isi_bt, isi_si, isi_sb, isi_st, isi_ni, isi_nb, isi_nt, isi_li, isi_lb, isi_lt, isi_di, isi_db, isi_dt, sRaise, dDct, mkLoc2, mkLoc7, mkLoc8, mkLoc9, mkLoc11, mkLoc17, mkLoc25, mkLoc32, oCatL, mkTup4, mkLst4, eqs_plus_plus, eqs_plus_times, eqs_plus_turned, eqs_plus_beside, eqs_plus_above, eqs_plus_piece, eqs_plus_star, nes_plus, eqs_times_plus, eqs_times_times, eqs_times_turned, eqs_times_beside, eqs_times_above, eqs_times_piece, eqs_times_star, nes_times, eqs_turned_plus, eqs_turned_times, eqs_turned_turned, eqs_turned_beside, eqs_turned_above, eqs_turned_piece, eqs_turned_star, nes_turned, eqs_beside_plus, eqs_beside_times, eqs_beside_turned, eqs_beside_beside, eqs_beside_above, eqs_beside_piece, eqs_beside_star, nes_beside, eqs_above_plus, eqs_above_times, eqs_above_turned, eqs_above_beside, eqs_above_above, eqs_above_piece, eqs_above_star, nes_above, eqs_piece_plus, eqs_piece_times, eqs_piece_turned, eqs_piece_beside, eqs_piece_above, eqs_piece_piece, eqs_piece_star, nes_piece, sh_0, sh_1, tg_sh, max_sh, isN_sh, notN_sh, sAugIx, isi_N', isi_Row', isi_R', hd0, hd1, hd2, hd3, hd4, hs1, hs2, hs3, hs4, giveS_hnd, dTupF, giveS_dA])
local macro_rules | `(tactic| walk_at "evh") => `(tactic| simp (config := { decide := false, implicitDefEqProofs := false }) only [bind_ok, bind_err, sE_ok, sE_err, bnd_nx, bnd_rt, bnd_bk, bnd_ct, bnd_err, sSeq_eq, dEnd_rt, dEnd_nx, dEnd_err, giveS_d, giveS_dA, giveS_nil,
  dVar, dC, d2, d1, dB, dChain, dAnd, dOr, dNot, dTru, dAndV, dOrV, dNotV, dIf, aNil, aCons, dTup, dLst, dLoc, dCall, dCB, b1, dIt, sNx, sBk, sCt, sRet, sRetN, sDrop, sSet, sIf, sPar, truth_bl, asB_bl, oI0_eq, oIsi, ty_int, ty_bl, ty_str, ty_non, ty_tup, ty_lst, isi_ii, isi_ib, isi_it, isi_tt, isi_ti, isi_tb,
  oAbs, oInt, oNeg, oEq_int, oNe_int, dFld, dSl, dPt, dNoPt, asPt_int, isN_non, isN_tup, isN_U, notN_non, notN_tup, notN_U, dMake, sFldPut,
  List.map_cons, List.map_nil, List.length_cons, List.length_nil, List.getElem?_cons_zero, List.getElem?_cons_succ, List.set_cons_zero, List.set_cons_succ, List.cons_append, List.nil_append, List.append_nil, Nat.reduceAdd, Nat.reduceSub, Nat.zero_add, if_true, if_false, Bool.not_true, Bool.not_false, Bool.false_eq_true, reduceIte, List.replicate_zero, List.replicate_succ, Nat.sub_self, beq_self_eq_true, Int.reduceLT, Int.reduceLE, Int.reduceAdd, Int.reduceSub, Int.reduceMul, Int.reduceNeg, Int.reducePow, Int.reduceToNat, Int.reduceEq, Int.reduceBEq, decide_true, decide_false, mkTup1, mkTup2, mkTup3, mkLst2, mkLst5, ix20, ix21, ixF0, ixF1, len_tup, len_lst, lenF, tyF, lenU, tyU, oEqF, oEqU, oNeU, zipU, tgN, tgT, tgCons, tgNil, wipeE, Option.bind_some, tuple_lst, list_lst, st0, st1, st2, st3, se1, se2, se3, giveS_st, tgIx, sAsg, Option.map_some, oMod_eq, isi_int', isi_bl', isi_str', isi_non', isi_tup', isi_lst', isi_dct', isi_U', isi_F', isi_ins', tc_int, tc_bool, tc_tuple, ty_dct, isi_bi, isi_bb, isi_bt, isi_si, isi_sb, isi_st, isi_ni, isi_nb, isi_nt, isi_li, isi_lb, isi_lt, isi_di, isi_db, isi_dt, sRaise, dDct, mkLoc2, mkLoc7, mkLoc8, mkLoc9, mkLoc11, mkLoc17, mkLoc25, mkLoc32, oCatL, mkTup4, mkLst4, eqs_plus_plus, eqs_plus_times, eqs_plus_turned, eqs_plus_beside, eqs_plus_above, eqs_plus_piece, eqs_plus_star, nes_plus, eqs_times_plus, eqs_times_times, eqs_times_turned, eqs_times_beside, eqs_times_above, eqs_times_piece, eqs_times_star, nes_times, eqs_turned_plus, eqs_turned_times, eqs_turned_turned, eqs_turned_beside, eqs_turned_above, eqs_turned_piece, eqs_turned_star, nes_turned, eqs_beside_plus, eqs_beside_times, eqs_beside_turned, eqs_beside_beside, eqs_beside_above, eqs_beside_piece, eqs_beside_star, nes_beside, eqs_above_plus, eqs_above_times, eqs_above_turned, eqs_above_beside, eqs_above_above, eqs_above_piece, eqs_above_star, nes_above, eqs_piece_plus, eqs_piece_times, eqs_piece_turned, eqs_piece_beside, eqs_piece_above, eqs_piece_piece, eqs_piece_star, nes_piece, sh_0, sh_1, tg_sh, max_sh, isN_sh, notN_sh, sAugIx, isi_N', isi_Row', isi_R', hd0, hd1, hd2, hd3, hd4, hs1, hs2, hs3, hs4, giveS_hnd, dTupF, giveS_dA, oMul_eq, oDiv_eq, oPow_eq, *])
theorem forL_find {α : Type} {tf : Tg} {fb : FS} {S : Store} {wf wr : α → W} {q : α → Bool} {P : DEnv → Prop} : ∀ {xs : List α} {δ : DEnv}, P δ →
    (∀ x ∈ xs, ∀ δ, P δ → ∃ δ1, tf (wf x) δ S = some (δ1, S) ∧ (q x = true → fb δ1 S = some (.ok (.rt (wr x)), S)) ∧ (q x = false → ∃ δ2, fb δ1 S = some (.ok (.nx δ2), S) ∧ P δ2)) →
    (∀ x, xs.find? q = some x → forL tf fb none (xs.map wf) δ S = some (.ok (.rt (wr x)), S)) ∧ (xs.find? q = none → ∃ δ', forL tf fb none (xs.map wf) δ S = some (.ok (.nx δ'), S) ∧ P δ')
  | [], δ, hP, _ => ⟨fun x h => (nomatch h), fun _ => ⟨δ, by
      show forL tf fb none [] δ S = _
      unfold forL
      rw [if_pos okG_no], hP⟩⟩
  | x :: xs, δ, hP, h => by
    obtain ⟨δ1, h1, h2, h3⟩ := h x List.mem_cons_self δ hP
    cases hq : q x with
    | true =>
      have step : forL tf fb none ((x :: xs).map wf) δ S = some (.ok (.rt (wr x)), S) := by
        show forL tf fb none (wf x :: xs.map wf) δ S = _
        unfold forL
        rw [if_pos okG_no]
        simp only [h1, h2 hq]
      refine ⟨fun y hy => ?_, fun hn => ?_⟩
      · rw [List.find?_cons, hq] at hy
        cases hy
        exact step
      · rw [List.find?_cons, hq] at hn
        exact nomatch hn
    | false =>
      obtain ⟨δ2, e2, hP2⟩ := h3 hq
      have z := forL_find (xs := xs) hP2 fun y hy => h y (List.mem_cons_of_mem _ hy)
      have step : forL tf fb none ((x :: xs).map wf) δ S = forL tf fb none (xs.map wf) δ2 S := by
        show forL tf fb none (wf x :: xs.map wf) δ S = _
        conv => lhs; unfold forL
        rw [if_pos okG_no]
        simp only [h1, e2]
      rw [step, List.find?_cons, hq]
      exact z
theorem dFor_find {α : Type} {fi : FI} {tf : Tg} {fb : FS} {S : Store} {wf wr : α → W} {q : α → Bool} {P : DEnv → Prop} {xs : List α} {δ : DEnv} (hi : fi δ S = some (.ok (xs.map wf, none), S)) (hP : P δ)
    (h : ∀ x ∈ xs, ∀ δ, P δ → ∃ δ1, tf (wf x) δ S = some (δ1, S) ∧ (q x = true → fb δ1 S = some (.ok (.rt (wr x)), S)) ∧ (q x = false → ∃ δ2, fb δ1 S = some (.ok (.nx δ2), S) ∧ P δ2)) :
    (∀ x, xs.find? q = some x → dFor fi tf fb δ S = some (.ok (.rt (wr x)), S)) ∧ (xs.find? q = none → ∃ δ', dFor fi tf fb δ S = some (.ok (.nx δ'), S) ∧ P δ') := by
  have e : dFor fi tf fb δ S = forL tf fb none (xs.map wf) δ S := by unfold dFor; rw [hi, sE_ok]
  rw [e]
  exact forL_find hP h
section
variable (C : Str → Addr) {n m : Nat} {S : Store}
/-! ### the leading row -/
def leadD : Option Nat → D
  | none => .non
  | some r => .int (r : Int)
theorem e_leading_row {A : Mat} {t : Nat} (ht : t < n) (hn : n ≤ 1000) (hm : n ≤ m) : g_leading_row C [.loc S.length, .d (.int (t : Int))] (S ++ [matM A n m]) = some (.ok (.d (leadD (lead A n t))), S ++ [matM A n m]) := by
  have ml := mat_len (A := A) (n := n) (m := m) (S := S)
  have rg := rng2 (n := n) (S := S ++ [matM A n m]) (a := t) (by omega) hn
  obtain ⟨f1, f2⟩ := dFor_find (fi := dIt oRng2 (aCons (dVar 1) (aCons (dCB (b1 oLen) (aCons (dVar 0) (aNil))) (aNil)))) (tf := tgN 2) (fb := sIf (dB (d2 oNe (d2 oIx (d2 oIx (dVar 0) (dVar 2)) (dVar 1)) (dTup (aCons (dC (.int 0)) (aCons (dC (.int 1)) (aNil)))))) (sRet (dVar 2)) (sNx)) (S := S ++ [matM A n m])
    (wf := fun k : Nat => W.d (.int (k : Int))) (wr := fun k : Nat => W.d (.int (k : Int))) (q := fun r => !decide (A r t = 0)) (P := fun δ => ∃ x, δ = [some (.loc S.length), some (.d (.int (t : Int))), x]) (xs := List.range' t (n - t)) (δ := [some (.loc S.length), some (.d (.int (t : Int))), none]) (by
      walk_at "evh") ⟨none, rfl⟩ (by
    rintro r hr δ ⟨x, rfl⟩
    have hr' : r < n := by have := List.mem_range'_1.mp hr; omega
    have x1 := mat_ix (A := A) (m := m) (S := S) hr'
    have x2 := row_ix (A := A) (m := m) (i := r) (j := t) (S := S ++ [matM A n m]) (by omega)
    have x3 := oNe_Q (q := A r t) (S := S ++ [matM A n m])
    refine ⟨[some (.loc S.length), some (.d (.int (t : Int))), some (.d (.int (r : Int)))], rfl, fun h => ?_, fun h => ⟨[some (.loc S.length), some (.d (.int (t : Int))), some (.d (.int (r : Int)))], ?_, some (.d (.int (r : Int))), rfl⟩⟩
    · rw [h] at x3
      clear rg hr
      walk_at "evh"
    · rw [h] at x3
      clear rg hr
      walk_at "evh")
  rw [q_leading_row, F_leading_row]
  have el : (List.range' t (n - t)).find? (fun r => !decide (A r t = 0)) = lead A n t := leadN_find
  rw [el] at f1 f2
  cases hl : lead A n t with
  | none =>
    obtain ⟨δ', f, x, rfl⟩ := f2 hl
    clear rg ml f1 f2 el hl
    unfold leadD
    walk_at "evh"
  | some r =>
    have f := f1 r hl
    clear rg ml f1 f2 el hl
    unfold leadD
    walk_at "evh"
/-! ### lead by a row -/
/-- the rows below i are led already -/
def ledTo (A : Mat) (t i : Nat) : Mat := fun k => if k = t ∨ k < i then led A t k else A k
theorem e_lead_by {A : Mat} {t : Nat} (ht : t < n) (hn : n ≤ 1000) (hm : n ≤ m) (m9 : m ≤ 1000) (hA : A t t ≠ 0) (hb1 : ∀ i, i < n → ∀ j, j < m → QB 400 (A i j)) (hb2 : ∀ i, i < n → ∀ j, j < m → QB 400 (led A t i j)) :
    g_lead_by C [.loc S.length, .d (.int (t : Int))] (S ++ [matM A n m]) = some (.ok (.d .non), S ++ [matM (led A t) n m]) := by
  have x1 := mat_ix (A := A) (m := m) (S := S) ht
  have x2 := row_ix (A := A) (m := m) (i := t) (j := t) (S := S ++ [matM A n m]) (by omega)
  have lc : dLc lcF (dSeq (d2 oIx (dVar 0) (dVar 1))) (tgN 5) (ftYes) (dCall 2 (g_over C) (aCons (dVar 5) (aCons (dVar 2) (aNil)))) [5] [some (.loc S.length), some (.d (.int (t : Int))), some (.d (encQ (A t t))), none, none, none, none] (S ++ [matM A n m]) = some (.ok (.d (.lst ((List.range m).map fun j => encQ (A t j / A t t)))), S ++ [matM A n m]) :=
    dLc_map (wf := fun j => W.d (encQ (A t j))) (by
      rw [dSeq_lst (ds := rowL A m t) (S1 := S ++ [matM A n m]) (by
        have e : D.lst (rowL A m t) = rowD A m t := rfl
        rw [e]
        walk_at "evh")]
      simp [rowL]) (by simp; exact m9) fun j hj => by
      have ov := q_over' C (S ++ [matM A n m]) (hb1 t ht j (List.mem_range.mp hj)) (hb1 t ht t (by omega)) hA
      refine ⟨_, rfl, ?_⟩
      clear x1 x2 hb1 hb2
      walk_at "evh"
  have er : D.lst ((List.range m).map fun j => encQ (A t j / A t t)) = rowD (led A t) m t := by
    unfold rowD rowL led
    simp
  rw [er] at lc
  have s0 : setAt (.loc S.length) (.d (.int (t : Int))) (.d (rowD (led A t) m t)) (S ++ [matM A n m]) = some (S ++ [matM (ledTo A t 0) n m]) := by
    have e1 : rowD (led A t) m t = rowD (ledTo A t 0) m t := by
      unfold rowD
      rw [rowL_congr (B := ledTo A t 0) fun j _ => by unfold ledTo; rw [if_pos (.inl rfl)]]
    rw [mat_set ht, e1, matD_set (B := ledTo A t 0) ht fun k hk hne j hj => by unfold ledTo; rw [if_neg (by omega)]]
    rfl
  have ml := mat_len (A := ledTo A t 0) (n := n) (m := m) (S := S)
  obtain ⟨δ', S', e, y, z, u, v, rfl, rfl⟩ := dFor_invS (wf := fun k : Nat => W.d (.int (k : Int))) (xs := List.range n) (fi := dIt oRng1 (aCons (dCB (b1 oLen) (aCons (dVar 0) (aNil))) (aNil))) (tf := tgN 3)
    (fb := sSeq (sSet 4 (d2 oIx (d2 oIx (dVar 0) (dVar 3)) (dVar 1)))
    (sIf (dAnd (dB (d2 oNe (dVar 3) (dVar 1))) (dB (d2 oNe (dVar 4) (dTup (aCons (dC (.int 0)) (aCons (dC (.int 1)) (aNil))))))) (sAsg (dLc lcF (dIt oZip (aCons (d2 oIx (dVar 0) (dVar 3)) (aCons (d2 oIx (dVar 0) (dVar 1)) (aNil)))) (tgT 2 (tgCons (tgN 5) (tgCons (tgN 6) (tgNil)))) (ftYes) (dCall 2 (g_minus C) (aCons (dVar 5) (aCons (dCall 2 (g_times C) (aCons (dVar 4) (aCons (dVar 6) (aNil)))) (aNil)))) [5, 6]) (tgIx (dVar 0) (dVar 3))) (sNx)))
    (P := fun i δ S' => ∃ x3 x4 x5 x6, δ = [some (.loc S.length), some (.d (.int (t : Int))), some (.d (encQ (A t t))), x3, x4, x5, x6] ∧ S' = S ++ [matM (ledTo A t i) n m])
    (δ := [some (.loc S.length), some (.d (.int (t : Int))), some (.d (encQ (A t t))), none, none, none, none]) (S := S ++ [matM (ledTo A t 0) n m]) (S0 := S ++ [matM (ledTo A t 0) n m]) (by
      have rr := oRng1_nat (S := S ++ [matM (ledTo A t 0) n m]) (n := n) (by omega)
      clear x1 x2 hb1 hb2 s0 lc
      walk_at "evh") (by
    rintro i hi δ S' ⟨x3, x4, x5, x6, rfl, rfl⟩
    have hi' : i < n := by simpa using hi
    have ei : (List.range n)[i] = i := by simp
    rw [ei]
    have y1 := mat_ix (A := ledTo A t i) (m := m) (S := S) hi'
    have y2 := row_ix (A := ledTo A t i) (m := m) (i := i) (j := t) (S := S ++ [matM (ledTo A t i) n m]) (by omega)
    have y3 := oNe_Q (q := ledTo A t i i t) (S := S ++ [matM (ledTo A t i) n m])
    have nx : ∀ (B : Mat), (∀ k, k < n → ∀ j, j < m → B k j = ledTo A t (i + 1) k j) → matM B n m = matM (ledTo A t (i + 1)) n m := fun B h => by unfold matM; rw [matD_congr h]
    refine ⟨[some (.loc S.length), some (.d (.int (t : Int))), some (.d (encQ (A t t))), some (.d (.int (i : Int))), x4, x5, x6], S ++ [matM (ledTo A t i) n m], ?_⟩
    by_cases h1 : i = t
    · subst h1
      have d1 : (!((i : Int) == (i : Int))) = false := by simp
      refine ⟨[some (.loc S.length), some (.d (.int (i : Int))), some (.d (encQ (A i i))), some (.d (.int (i : Int))), some (.d (encQ (ledTo A i i i i))), x5, x6], S ++ [matM (ledTo A i i) n m], rfl, ?_, _, _, _, _, rfl, ?_⟩
      · clear x1 x2 hb1 hb2 s0 lc ml nx ei
        walk_at "evh"
      · rw [nx (ledTo A i i) fun k hk j hj => by
          unfold ledTo
          by_cases z : k = i
          · rw [if_pos (.inl z), if_pos (.inl z)]
          · by_cases z2 : k < i
            · rw [if_pos (.inr z2), if_pos (.inr (by omega))]
            · rw [if_neg (by omega), if_neg (by omega)]]
    · have d1 : (!((i : Int) == (t : Int))) = true := by
        have : (i : Int) ≠ (t : Int) := by omega
        simp [this]
      have ea : ledTo A t i i = A i := by unfold ledTo; rw [if_neg (by omega)]
      rw [ea] at y2 y3
      by_cases h2 : A i t = 0
      · rw [h2, decide_eq_true rfl] at y3
        refine ⟨[some (.loc S.length), some (.d (.int (t : Int))), some (.d (encQ (A t t))), some (.d (.int (i : Int))), some (.d (encQ (A i t))), x5, x6], S ++ [matM (ledTo A t i) n m], rfl, ?_, _, _, _, _, rfl, ?_⟩
        · rw [h2]
          rw [h2] at y2
          clear x1 x2 hb1 hb2 s0 lc ml nx ei
          walk_at "evh"
        · rw [nx (ledTo A t i) fun k hk j hj => by
            unfold ledTo
            by_cases z : k = t
            · rw [if_pos (.inl z), if_pos (.inl z)]
            · by_cases z2 : k < i
              · rw [if_pos (.inr z2), if_pos (.inr (by omega))]
              · by_cases z3 : k = i
                · subst z3
                  rw [if_neg (by omega), if_pos (.inr (by omega))]
                  unfold led
                  rw [if_neg h1, h2]
                  grind
                · rw [if_neg (by omega), if_neg (by omega)]]
      · rw [decide_eq_false h2] at y3
        have y4 := mat_ix (A := ledTo A t i) (m := m) (S := S) ht
        have ez : rowL (ledTo A t i) m t = (List.range m).map fun j => encQ (led A t t j) := by unfold rowL ledTo; simp
        have lz : dLc lcF (dIt oZip (aCons (d2 oIx (dVar 0) (dVar 3)) (aCons (d2 oIx (dVar 0) (dVar 1)) (aNil)))) (tgT 2 (tgCons (tgN 5) (tgCons (tgN 6) (tgNil)))) (ftYes) (dCall 2 (g_minus C) (aCons (dVar 5) (aCons (dCall 2 (g_times C) (aCons (dVar 4) (aCons (dVar 6) (aNil)))) (aNil)))) [5, 6] [some (.loc S.length), some (.d (.int (t : Int))), some (.d (encQ (A t t))), some (.d (.int (i : Int))), some (.d (encQ (A i t))), x5, x6] (S ++ [matM (ledTo A t i) n m]) = some (.ok (.d (.lst ((List.range m).map fun j => encQ (A i j - A i t * led A t t j)))), S ++ [matM (ledTo A t i) n m]) :=
          dLc_map (wf := fun j => W.d (.tup [encQ (A i j), encQ (led A t t j)])) (by
            have zz : oZip [.d (rowD (ledTo A t i) m i), .d (rowD (ledTo A t i) m t)] (S ++ [matM (ledTo A t i) n m]) = some (.ok ((List.range m).map fun j => W.d (.tup [encQ (A i j), encQ (led A t t j)]), none), S ++ [matM (ledTo A t i) n m]) := by
              unfold rowD
              rw [ez]
              show some (Except.ok (zipD _ _, none), _) = _
              unfold zipD rowL
              rw [ea, List.zip_map, List.map_map, self_zip]
              rfl
            clear x1 x2 hb1 hb2 s0 lc ml nx ei y2 y3
            walk_at "evh") (by simp; exact m9) fun j hj => by
            have hj' := List.mem_range.mp hj
            have t1 := q_times' C (S ++ [matM (ledTo A t i) n m]) (hb1 i hi' t (by omega)) (hb2 t ht j hj')
            have t2 := q_minus' C (S ++ [matM (ledTo A t i) n m]) (hb1 i hi' j hj') ((hb1 i hi' t (by omega)).mul (hb2 t ht j hj'))
            refine ⟨[some (.loc S.length), some (.d (.int (t : Int))), some (.d (encQ (A t t))), some (.d (.int (i : Int))), some (.d (encQ (A i t))), some (.d (encQ (A i j))), some (.d (encQ (led A t t j)))], rfl, ?_⟩
            clear x1 x2 hb1 hb2 s0 lc ml nx ei y1 y2 y3 y4
            walk_at "evh"
        have er2 : D.lst ((List.range m).map fun j => encQ (A i j - A i t * led A t t j)) = rowD (ledTo A t (i + 1)) m i := by
          unfold rowD rowL ledTo
          rw [if_pos (.inr (by omega))]
          have : ∀ j, led A t i j = A i j - A i t * led A t t j := fun j => by unfold led; rw [if_neg h1, if_pos rfl]
          simp only [this]
        rw [er2] at lz
        have s1 : setAt (.loc S.length) (.d (.int (i : Int))) (.d (rowD (ledTo A t (i + 1)) m i)) (S ++ [matM (ledTo A t i) n m]) = some (S ++ [matM (ledTo A t (i + 1)) n m]) := by
          rw [mat_set hi', matD_set (B := ledTo A t (i + 1)) hi' fun k hk hne j hj => by
            unfold ledTo
            by_cases z : k = t
            · rw [if_pos (.inl z), if_pos (.inl z)]
            · by_cases z2 : k < i
              · rw [if_pos (.inr z2), if_pos (.inr (by omega))]
              · rw [if_neg (by omega), if_neg (by omega)]]
          rfl
        refine ⟨[some (.loc S.length), some (.d (.int (t : Int))), some (.d (encQ (A t t))), some (.d (.int (i : Int))), some (.d (encQ (A i t))), x5, x6], S ++ [matM (ledTo A t (i + 1)) n m], rfl, ?_, _, _, _, _, rfl, rfl⟩
        clear x1 x2 hb1 hb2 s0 lc ml nx ei y4 ez er2
        walk_at "evh") ⟨none, none, none, none, rfl, rfl⟩
  have ef : matM (ledTo A t (List.range n).length) n m = matM (led A t) n m := by
    unfold matM
    rw [matD_congr fun k hk j hj => by unfold ledTo; rw [if_pos (.inr (by simpa using hk))]]
  rw [ef] at e
  have gv := giveS_mat (S := S) (x := D.non) (a := matM A n m) (ds := matD (led A t) n m)
  have em : M.lst ((matD (led A t) n m).map W.d) = matM (led A t) n m := rfl
  rw [em] at gv
  rw [q_lead_by, F_lead_by]
  clear hb1 hb2 ml er ef em hA
  walk_at "evh"
end
end P52
set_option Elab.async false
set_option linter.all false
set_option maxRecDepth 100000
set_option maxHeartbeats 1000000
namespace P52
open PySem L2 DL
local macro_rules | `(tactic| walk_at "ev") => `(tactic| simp (config := { decide := false, implicitDefEqProofs := false }) only [bind_ok, bind_err, sE_ok, sE_err, bnd_nx, bnd_rt, bnd_bk, bnd_ct, bnd_err, sSeq_eq, dEnd_rt, dEnd_nx, dEnd_err, giveS_d, giveS_dA, giveS_nil,
  dVar, dC, d2, d1, dB, dChain, dAnd, dOr, dNot, dTru, dAndV, dOrV, dNotV, dIf, aNil, aCons, dTup, dLst, dLoc, dCall, dCB, b1, dIt, sNx, sBk, sCt, sRet, sRetN, sDrop, sSet, sIf, sPar, truth_bl, asB_bl, oI0_eq, oIsi, ty_int, ty_bl, ty_str, ty_non, ty_tup, ty_lst, isi_ii, isi_ib, isi_it, isi_tt, isi_ti, isi_tb,
  oAbs, oInt, oNeg, oEq_int, oNe_int, dFld, dSl, dPt, dNoPt, asPt_int, isN_non, isN_tup, isN_U, notN_non, notN_tup, notN_U, dMake, sFldPut,
  List.map_cons, List.map_nil, List.length_cons, List.length_nil, List.getElem?_cons_zero, List.getElem?_cons_succ, List.set_cons_zero, List.set_cons_succ, List.cons_append, List.nil_append, List.append_nil, Nat.reduceAdd, Nat.reduceSub, Nat.zero_add, if_true, if_false, Bool.not_true, Bool.not_false, Bool.false_eq_true, reduceIte, List.replicate_zero, List.replicate_succ, Nat.sub_self, beq_self_eq_true, Int.reduceLT, Int.reduceLE, Int.reduceAdd, Int.reduceSub, Int.reduceMul, Int.reduceNeg, Int.reducePow, Int.reduceToNat, Int.reduceEq, Int.reduceBEq, decide_true, decide_false, mkTup1, mkTup2, mkTup3, mkLst2, mkLst5, ix20, ix21, ixF0, ixF1, len_tup, len_lst, lenF, tyF, lenU, tyU, oEqF, oEqU, oNeU, zipU, tgN, tgT, tgCons, tgNil, wipeE, Option.bind_some, tuple_lst, list_lst, st0, st1, st2, st3, se1, se2, se3, giveS_st, tgIx, sAsg, Option.map_some, oMod_eq, isi_int', isi_bl', isi_str', isi_non', isi_tup', isi_lst', isi_dct', isi_U', isi_F', isi_ins', tc_int, tc_bool, tc_tuple, ty_dct, isi_bi, isi_bb, isi_bt, isi_si, isi_sb, isi_st, isi_ni, isi_nb, isi_nt, isi_li, isi_lb, isi_lt, isi_di, isi_db, isi_dt, sRaise, dDct, mkLoc2, mkLoc7, mkLoc8, mkLoc9, mkLoc11, mkLoc17, mkLoc25, mkLoc32, oCatL, mkTup4, mkLst4, eqs_plus_plus, eqs_plus_times, eqs_plus_turned, eqs_plus_beside, eqs_plus_above, eqs_plus_piece, eqs_plus_star, nes_plus, eqs_times_plus, eqs_times_times, eqs_times_turned, eqs_times_beside, eqs_times_above, eqs_times_piece, eqs_times_star, nes_times, eqs_turned_plus, eqs_turned_times, eqs_turned_turned, eqs_turned_beside, eqs_turned_above, eqs_turned_piece, eqs_turned_star, nes_turned, eqs_beside_plus, eqs_beside_times, eqs_beside_turned, eqs_beside_beside, eqs_beside_above, eqs_beside_piece, eqs_beside_star, nes_beside, eqs_above_plus, eqs_above_times, eqs_above_turned, eqs_above_beside, eqs_above_above, eqs_above_piece, eqs_above_star, nes_above, eqs_piece_plus, eqs_piece_times, eqs_piece_turned, eqs_piece_beside, eqs_piece_above, eqs_piece_piece, eqs_piece_star, nes_piece, sh_0, sh_1, tg_sh, max_sh, isN_sh, notN_sh, sAugIx, isi_N', isi_Row', isi_R', hd0, hd1, hd2, hd3, hd4, hs1, hs2, hs3, hs4, giveS_hnd, dTupF, giveS_dA])
local macro_rules | `(tactic| walk_at "evh") => `(tactic| simp (config := { decide := false, implicitDefEqProofs := false }) only [bind_ok, bind_err, sE_ok, sE_err, bnd_nx, bnd_rt, bnd_bk, bnd_ct, bnd_err, sSeq_eq, dEnd_rt, dEnd_nx, dEnd_err, giveS_d, giveS_dA, giveS_nil,
  dVar, dC, d2, d1, dB, dChain, dAnd, dOr, dNot, dTru, dAndV, dOrV, dNotV, dIf, aNil, aCons, dTup, dLst, dLoc, dCall, dCB, b1, dIt, sNx, sBk, sCt, sRet, sRetN, sDrop, sSet, sIf, sPar, truth_bl, asB_bl, oI0_eq, oIsi, ty_int, ty_bl, ty_str, ty_non, ty_tup, ty_lst, isi_ii, isi_ib, isi_it, isi_tt, isi_ti, isi_tb,
  oAbs, oInt, oNeg, oEq_int, oNe_int, dFld, dSl, dPt, dNoPt, asPt_int, isN_non, isN_tup, isN_U, notN_non, notN_tup, notN_U, dMake, sFldPut,
  List.map_cons, List.map_nil, List.length_cons, List.length_nil, List.getElem?_cons_zero, List.getElem?_cons_succ, List.set_cons_zero, List.set_cons_succ, List.cons_append, List.nil_append, List.append_nil, Nat.reduceAdd, Nat.reduceSub, Nat.zero_add, if_true, if_false, Bool.not_true, Bool.not_false, Bool.false_eq_true, reduceIte, List.replicate_zero, List.replicate_succ, Nat.sub_self, beq_self_eq_true, Int.reduceLT, Int.reduceLE, Int.reduceAdd, Int.reduceSub, Int.reduceMul, Int.reduceNeg, Int.reducePow, Int.reduceToNat, Int.reduceEq, Int.reduceBEq, decide_true, decide_false, mkTup1, mkTup2, mkTup3, mkLst2, mkLst5, ix20, ix21, ixF0, ixF1, len_tup, len_lst, lenF, tyF, lenU, tyU, oEqF, oEqU, oNeU, zipU, tgN, tgT, tgCons, tgNil, wipeE, Option.bind_some, tuple_lst, list_lst, st0, st1, st2, st3, se1, se2, se3, giveS_st, tgIx, sAsg, Option.map_some, oMod_eq, isi_int', isi_bl', isi_str', isi_non', isi_tup', isi_lst', isi_dct', isi_U', isi_F', isi_ins', tc_int, tc_bool, tc_tuple, ty_dct, isi_bi, isi_bb, isi_bt, isi_si, isi_sb, isi_st, isi_ni, isi_nb, isi_nt, isi_li, isi_lb, isi_lt, isi_di, isi_db, isi_dt, sRaise, dDct, mkLoc2, mkLoc7, mkLoc8, mkLoc9, mkLoc11, mkLoc17, mkLoc25, mkLoc32, oCatL, mkTup4, mkLst4, eqs_plus_plus, eqs_plus_times, eqs_plus_turned, eqs_plus_beside, eqs_plus_above, eqs_plus_piece, eqs_plus_star, nes_plus, eqs_times_plus, eqs_times_times, eqs_times_turned, eqs_times_beside, eqs_times_above, eqs_times_piece, eqs_times_star, nes_times, eqs_turned_plus, eqs_turned_times, eqs_turned_turned, eqs_turned_beside, eqs_turned_above, eqs_turned_piece, eqs_turned_star, nes_turned, eqs_beside_plus, eqs_beside_times, eqs_beside_turned, eqs_beside_beside, eqs_beside_above, eqs_beside_piece, eqs_beside_star, nes_beside, eqs_above_plus, eqs_above_times, eqs_above_turned, eqs_above_beside, eqs_above_above, eqs_above_piece, eqs_above_star, nes_above, eqs_piece_plus, eqs_piece_times, eqs_piece_turned, eqs_piece_beside, eqs_piece_above, eqs_piece_piece, eqs_piece_star, nes_piece, sh_0, sh_1, tg_sh, max_sh, isN_sh, notN_sh, sAugIx, isi_N', isi_Row', isi_R', hd0, hd1, hd2, hd3, hd4, hs1, hs2, hs3, hs4, giveS_hnd, dTupF, giveS_dA, oMul_eq, oDiv_eq, oPow_eq, *])
noncomputable def b_led_out_2 (C : Str → Addr) : FS := sSeq (sSet 4 (dCall 2 (g_leading_row C) (aCons (dVar 1) (aCons (dVar 3) (aNil))))) (sSeq (sIf (dB (d2 oIsN (dVar 4) (dC .non))) (sRet (dTup (aCons (dTup (aCons (dC (.int 0)) (aCons (dC (.int 1)) (aNil)))) (aCons (dLst (aNil)) (aNil))))) (sNx)) (sSeq (sIf (dB (d2 oNe (dVar 4) (dVar 3))) (sSeq (sAsg (dTup (aCons (d2 oIx (dVar 1) (dVar 4)) (aCons (d2 oIx (dVar 1) (dVar 3)) (aNil)))) (tgT 2 (tgCons (tgIx (dVar 1) (dVar 3)) (tgCons (tgIx (dVar 1) (dVar 4)) (tgNil))))) (sSet 2 (dCall 2 (g_times C) (aCons (dVar 2) (aCons (dTup (aCons (d1 oNeg (dC (.int 1))) (aCons (dC (.int 1)) (aNil)))) (aNil)))))) (sNx)) (sSeq (sSet 2 (dCall 2 (g_times C) (aCons (dVar 2) (aCons (d2 oIx (d2 oIx (dVar 1) (dVar 3)) (dVar 3)) (aNil))))) (sDrop (dCall 2 (g_lead_by C) (aCons (dVar 1) (aCons (dVar 3) (aNil))))))))
noncomputable def l_led_out_2 (C : Str → Addr) : FS := dFor (dIt oRng1 (aCons (dCB (b1 oLen) (aCons (dVar 1) (aNil))) (aNil))) (tgN 3) (b_led_out_2 C)
noncomputable def p_led_out_0 (C : Str → Addr) (rest : FS) : FS := sSeq (sSet 1 (dLc lcM (dSeq (dVar 0)) (tgN 4) (ftYes) (dCB (b1 oList) (aCons (dVar 4) (aNil))) [4])) (sSeq (sSet 2 (dTup (aCons (dC (.int 1)) (aCons (dC (.int 1)) (aNil))))) (rest))
noncomputable def p_led_out_1 (C : Str → Addr) (rest : FS) : FS := sSeq (l_led_out_2 C) (rest)
noncomputable def p_led_out_2 (C : Str → Addr) : FS := sRet (dTupF (aCons (dVar 2) (aCons (dVar 1) (aNil))))
theorem parts_led_out (C : Str → Addr) : F_led_out C = p_led_out_0 C (p_led_out_1 C (p_led_out_2 C)) := rfl
section
variable (C : Str → Addr) {n m : Nat} {S : Store}
theorem swp_self {A : Mat} {t : Nat} : swp A t t = A := by
  funext i
  unfold swp
  by_cases e : i = t
  · rw [if_pos e, e]
  · rw [if_neg e, if_neg e]
theorem set_swp {A : Mat} {t r : Nat} (ht : t < n) (hr : r < n) (hne : r ≠ t) : ((matD A n m).set t (rowD A m r)).set r (rowD A m t) = matD (swp A t r) n m := by
  have e1 : rowD A m r = rowD (fun k => if k = t then A r else A k) m t := by unfold rowD rowL; simp
  have e2 : rowD A m t = rowD (swp A t r) m r := by unfold rowD rowL swp; simp [hne]
  rw [e1, matD_set (B := fun k => if k = t then A r else A k) ht fun k _ hk j _ => by rw [if_neg hk], e2, matD_set (B := swp A t r) hr fun k _ hk j _ => by
    unfold swp
    by_cases z : k = t
    · rw [if_pos z, if_pos z]
    · rw [if_neg z, if_neg z, if_neg hk]]
theorem led_body {A : Mat} {t c : Nat} {w : W} {d : Rat} {x4 : Option W} (ht : t < n) (hn : n ≤ 1000) (hm : n ≤ m) (m9 : m ≤ 1000) (hG : ∀ r, lead A n t = some r → (∀ i, i < n → ∀ j, j < m → QB 400 (swp A t r i j)) ∧ (∀ i, i < n → ∀ j, j < m → QB 400 (led (swp A t r) t i j))) (hd : QB c d) (c0 : 0 < c) (hc : c + 401 ≤ 7000) :
    b_led_out_2 C [some w, some (.loc S.length), some (.d (encQ d)), some (.d (.int (t : Int))), x4] (S ++ [matM A n m]) = match lead A n t with
    | none => some (.ok (.rt (.d (.tup [encQ 0, .lst []]))), S ++ [matM A n m])
    | some r => some (.ok (.nx [some w, some (.loc S.length), some (.d (encQ ((if r = t then d else d * (-1)) * swp A t r t t))), some (.d (.int (t : Int))), some (.d (.int (r : Int)))]), S ++ [matM (led (swp A t r) t) n m]) := by
  have lr := e_leading_row C (A := A) (S := S) ht hn hm
  unfold b_led_out_2
  cases hl : lead A n t with
  | none =>
    rw [hl] at lr
    unfold leadD at lr
    have i0 : ∀ S, oIsN (.d .non) (.d .non) S = some (.ok (.d (.bl true)), S) := fun _ => rfl
    have em : mkLst [] (S ++ [matM A n m]) = some (.ok (.d (.lst [])), S ++ [matM A n m]) := rfl
    have eq : D.tup [.int 0, .int 1] = encQ 0 := rfl
    clear hG hd hl
    walk_at "evh"
  | some r =>
    obtain ⟨l1, l2, l3⟩ := lead_some hl
    have hp := piv_ne hl
    rw [hl] at lr
    unfold leadD at lr
    dsimp only at lr ⊢
    obtain ⟨hS, hL⟩ := hG r hl
    have lb := e_lead_by C (A := swp A t r) (S := S) ht hn hm m9 hp hS hL
    have z1 := mat_ix (A := swp A t r) (m := m) (S := S) ht
    have z2 := row_ix (A := swp A t r) (m := m) (i := t) (j := t) (S := S ++ [matM (swp A t r) n m]) (by omega)
    have i0 : ∀ S, oIsN (.d (.int (r : Int))) (.d .non) S = some (.ok (.d (.bl false)), S) := fun _ => rfl
    have qp : QB 400 (swp A t r t t) := hS t ht t (by omega)
    by_cases e : r = t
    · subst e
      rw [if_pos rfl]
      have d1 : (!((r : Int) == (r : Int))) = false := by simp
      have tm := q_times' C (S ++ [matM (swp A r r) n m]) hd qp c0 (by decide) (by omega)
      have es := swp_self (A := A) (t := r)
      rw [es] at lb z1 z2 tm ⊢
      clear hG hd hl hS hL qp l1 l2 l3 hp es
      walk_at "evh"
    · rw [if_neg e]
      have d1 : (!((r : Int) == (t : Int))) = true := by
        have : (r : Int) ≠ (t : Int) := by omega
        simp [this]
      have y1 := mat_ix (A := A) (m := m) (S := S) ht
      have y2 := mat_ix (A := A) (m := m) (S := S) l2
      have s1 := mat_set (A := A) (n := n) (m := m) (S := S) (i := t) (x := rowD A m r) ht
      have s2 : setAt (.loc S.length) (.d (.int (r : Int))) (.d (rowD A m t)) (S ++ [.lst (((matD A n m).set t (rowD A m r)).map W.d)]) = some (S ++ [matM (swp A t r) n m]) := by
        have e1 : rowD A m r = rowD (fun k => if k = t then A r else A k) m t := by unfold rowD rowL; simp
        have e3 : (matD A n m).set t (rowD A m r) = matD (fun k => if k = t then A r else A k) n m := by
          rw [e1, matD_set (B := fun k => if k = t then A r else A k) ht fun k _ hk j _ => by rw [if_neg hk]]
        have := mat_set (A := fun k => if k = t then A r else A k) (n := n) (m := m) (S := S) (i := r) (x := rowD A m t) l2
        rw [← e3, set_swp ht l2 e] at this
        unfold matM at this ⊢
        rw [← e3] at this
        exact this
      have q1 : QB 1 (-1 : Rat) := ⟨by decide, by decide⟩
      have t1 := q_times' C (S ++ [matM (swp A t r) n m]) hd q1 c0 (by decide) (by omega)
      have e1 : encQ (-1) = D.tup [.int (-1), .int 1] := rfl
      have t2 := q_times' C (S ++ [matM (swp A t r) n m]) (hd.mul q1) qp (by omega) (by decide) (by omega)
      rw [e1] at t1
      clear hG hd hl hS hL qp l1 l2 l3 hp q1 e1
      walk_at "evh"
theorem led_loop {w : W} {I : Nat → Nat → Mat → Prop} (hI : Goes n m I) : ∀ (k t c : Nat) (d : Rat) (A : Mat) (x3 x4 : Option W), t + k = n → n ≤ 1000 → n ≤ m → m ≤ 1000 → I k t A → QB c d → 0 < c → c + 401 * k ≤ 7000 →
    (DL.run n k t d A = none → ∃ a, forL (tgN 3) (b_led_out_2 C) none ((List.range' t k).map fun (k : Nat) => W.d (.int (k : Int))) [some w, some (.loc S.length), some (.d (encQ d)), x3, x4] (S ++ [matM A n m]) = some (.ok (.rt (.d (.tup [encQ 0, .lst []]))), S ++ [a])) ∧
    (∀ p, DL.run n k t d A = some p → ∃ y3 y4, forL (tgN 3) (b_led_out_2 C) none ((List.range' t k).map fun (k : Nat) => W.d (.int (k : Int))) [some w, some (.loc S.length), some (.d (encQ d)), x3, x4] (S ++ [matM A n m]) = some (.ok (.nx [some w, some (.loc S.length), some (.d (encQ p.1)), y3, y4]), S ++ [matM p.2 n m]))
  | 0, t, c, d, A, x3, x4, ht, _, _, _, _, _, _, _ => by
    refine ⟨fun h => by simp [DL.run] at h, fun p h => ?_⟩
    cases h
    refine ⟨x3, x4, ?_⟩
    show forL (tgN 3) (b_led_out_2 C) none [] _ _ = _
    unfold forL
    rw [if_pos okG_no]
  | k + 1, t, c, d, A, x3, x4, ht, hn, hm, m9, hB, hd, c0, hc => by
    have bd := led_body C (S := S) (A := A) (w := w) (x4 := x4) (n := n) (m := m) (t := t) (by omega) hn hm m9 (fun r hr => ⟨(hI.step k t A r ht hB hr).1, (hI.step k t A r ht hB hr).2.1⟩) hd c0 (by omega)
    have st : forL (tgN 3) (b_led_out_2 C) none ((List.range' t (k + 1)).map fun (k : Nat) => W.d (.int (k : Int))) [some w, some (.loc S.length), some (.d (encQ d)), x3, x4] (S ++ [matM A n m]) = match b_led_out_2 C [some w, some (.loc S.length), some (.d (encQ d)), some (.d (.int (t : Int))), x4] (S ++ [matM A n m]) with
      | some (.ok (.nx δ2), S2) => forL (tgN 3) (b_led_out_2 C) none ((List.range' (t + 1) k).map fun (k : Nat) => W.d (.int (k : Int))) δ2 S2
      | some (.ok (.ct δ2), S2) => forL (tgN 3) (b_led_out_2 C) none ((List.range' (t + 1) k).map fun (k : Nat) => W.d (.int (k : Int))) δ2 S2
      | some (.ok (.bk δ2), S2) => some (.ok (.nx δ2), S2)
      | o => o := by
      rw [List.range'_succ, List.map_cons]
      conv => lhs; unfold forL
      rw [if_pos okG_no]
      rfl
    rw [st, bd]
    unfold DL.run
    cases hl : lead A n t with
    | none => exact ⟨fun _ => ⟨_, rfl⟩, fun p h => by cases h⟩
    | some r =>
      obtain ⟨l1, l2, l3⟩ := lead_some hl
      have hp := piv_ne hl
      obtain ⟨g1, g2, g3⟩ := hI.step k t A r ht hB hl
      have q1 : QB 1 (-1 : Rat) := ⟨by decide, by decide⟩
      have qd : QB (c + 1) (if r = t then d else d * (-1)) := by
        split
        · exact hd.up (by omega)
        · exact hd.mul q1
      have qp : QB 400 (swp A t r t t) := g1 t (by omega) t (by omega)
      exact led_loop hI k (t + 1) (c + 1 + 400) _ _ _ _ (by omega) hn hm m9 g3 (qd.mul qp) (by omega) (by omega)
def ledD (n m : Nat) : Option (Rat × Mat) → D
  | none => .tup [encQ 0, .lst []]
  | some p => .tup [encQ p.1, .lst (matD p.2 n m)]
theorem e_led_out {A : Mat} {w : W} {tt : Bool} {g : Grd} {I : Nat → Nat → Mat → Prop} (hI : Goes n m I) (hw : itW S w = some (tt, (matT A n m).map W.d, g)) (hg : okG g S) (hn : n ≤ 10) (hm : n ≤ m) (m9 : m ≤ 1000) (hB : I n 0 A) :
    g_led_out C [w] S = some (.ok (.d (ledD n m (DL.run n n 0 1 A))), S) := by
  have lc : dLc lcM (dSeq (dVar 0)) (tgN 4) (ftYes) (dCB (b1 oList) (aCons (dVar 4) (aNil))) [4] [some w, none, none, none, none] S = lcM ((List.range n).map fun i => W.d (rowD A m i)) S :=
    dLc_mapG (g := g) (wf := fun i => W.d (rowT A m i)) (by
      unfold dSeq
      have : dVar 0 [some w, none, none, none, none] S = some (.ok w, S) := rfl
      rw [this, bind_ok, hw]
      dsimp only
      unfold matT
      rw [List.map_map]
      rfl) hg (by simp; omega) fun i hi => by
      refine ⟨_, rfl, ?_⟩
      have ol : oList (.d (rowT A m i)) S = some (.ok (.d (rowD A m i)), S) := by
        unfold rowT rowD
        simp [oList, seqW, pure?_map]
      clear hw hg hB
      walk_at "evh"
  have el : lcM ((List.range n).map fun i => W.d (rowD A m i)) S = some (.ok (.loc S.length), S ++ [matM A n m]) := by
    unfold lcM matM matD
    rw [List.map_map]
    rfl
  rw [el] at lc
  have ml := mat_len (A := A) (n := n) (m := m) (S := S)
  have rr := oRng1_nat (S := S ++ [matM A n m]) (n := n) (by omega)
  obtain ⟨f1, f2⟩ := led_loop C (S := S) (w := w) hI n 0 1 1 A none none (by omega) (by omega) hm m9 hB ⟨by decide, by decide⟩ (by decide) (by omega)
  have e1 : D.tup [.int 1, .int 1] = encQ 1 := rfl
  have lo : l_led_out_2 C [some w, some (.loc S.length), some (.d (encQ 1)), none, none] (S ++ [matM A n m]) = forL (tgN 3) (b_led_out_2 C) none ((List.range' 0 n).map fun (k : Nat) => W.d (.int (k : Int))) [some w, some (.loc S.length), some (.d (encQ 1)), none, none] (S ++ [matM A n m]) := by
    have ri : dIt oRng1 (aCons (dCB (b1 oLen) (aCons (dVar 1) (aNil))) (aNil)) [some w, some (.loc S.length), some (.d (encQ 1)), none, none] (S ++ [matM A n m]) = some (.ok ((List.range n).map fun (k : Nat) => W.d (.int (k : Int)), none), S ++ [matM A n m]) := by
      clear lc el f1 f2 hw hg hB
      walk_at "evh"
    unfold l_led_out_2 dFor
    rw [ri, sE_ok, List.range_eq_range']
  rw [q_led_out, parts_led_out, p_led_out_0, p_led_out_1, p_led_out_2]
  cases hr : DL.run n n 0 1 A with
  | none =>
    obtain ⟨a, f⟩ := f1 hr
    rw [f] at lo
    clear f f1 f2 rr ml hB hw hg el hr
    unfold ledD
    walk_at "evh"
  | some p =>
    obtain ⟨y3, y4, f⟩ := f2 p hr
    rw [f] at lo
    have mt : mkTupF [.d (encQ p.1), .loc S.length] (S ++ [matM p.2 n m]) = some (.ok (.d (.tup [encQ p.1, .lst (matD p.2 n m)])), S ++ [.dead]) := by
      have e2 : (S ++ [matM p.2 n m]).set S.length .dead = S ++ [.dead] := by
        rw [List.set_append_right _ _ (Nat.le_refl _), Nat.sub_self]
        rfl
      unfold mkTupF
      rw [if_pos (show [W.d (encQ p.1), W.loc S.length].length ≤ sizeLine from (by decide : 2 ≤ sizeLine))]
      simp only [frzEl, loc_last]
      unfold matM at e2 ⊢
      simp only [loc_last, pure?_map, e2]
    clear f f1 f2 rr ml hB hw hg el hr
    unfold ledD
    walk_at "evh"
end
end P52
set_option Elab.async false
set_option linter.all false
set_option maxRecDepth 100000
set_option maxHeartbeats 1000000
namespace P52
open PySem L2 DL
local macro_rules | `(tactic| walk_at "ev") => `(tactic| simp (config := { decide := false, implicitDefEqProofs := false }) only [bind_ok, bind_err, sE_ok, sE_err, bnd_nx, bnd_rt, bnd_bk, bnd_ct, bnd_err, sSeq_eq, dEnd_rt, dEnd_nx, dEnd_err, giveS_d, giveS_dA, giveS_nil,
  dVar, dC, d2, d1, dB, dChain, dAnd, dOr, dNot, dTru, dAndV, dOrV, dNotV, dIf, aNil, aCons, dTup, dLst, dLoc, dCall, dCB, b1, dIt, sNx, sBk, sCt, sRet, sRetN, sDrop, sSet, sIf, sPar, truth_bl, asB_bl, oI0_eq, oIsi, ty_int, ty_bl, ty_str, ty_non, ty_tup, ty_lst, isi_ii, isi_ib, isi_it, isi_tt, isi_ti, isi_tb,
  oAbs, oInt, oNeg, oEq_int, oNe_int, dFld, dSl, dPt, dNoPt, asPt_int, isN_non, isN_tup, isN_U, notN_non, notN_tup, notN_U, dMake, sFldPut,
  List.map_cons, List.map_nil, List.length_cons, List.length_nil, List.getElem?_cons_zero, List.getElem?_cons_succ, List.set_cons_zero, List.set_cons_succ, List.cons_append, List.nil_append, List.append_nil, Nat.reduceAdd, Nat.reduceSub, Nat.zero_add, if_true, if_false, Bool.not_true, Bool.not_false, Bool.false_eq_true, reduceIte, List.replicate_zero, List.replicate_succ, Nat.sub_self, beq_self_eq_true, Int.reduceLT, Int.reduceLE, Int.reduceAdd, Int.reduceSub, Int.reduceMul, Int.reduceNeg, Int.reducePow, Int.reduceToNat, Int.reduceEq, Int.reduceBEq, decide_true, decide_false, mkTup1, mkTup2, mkTup3, mkLst2, mkLst5, ix20, ix21, ixF0, ixF1, len_tup, len_lst, lenF, tyF, lenU, tyU, oEqF, oEqU, oNeU, zipU, tgN, tgT, tgCons, tgNil, wipeE, Option.bind_some, tuple_lst, list_lst, st0, st1, st2, st3, se1, se2, se3, giveS_st, tgIx, sAsg, Option.map_some, oMod_eq, isi_int', isi_bl', isi_str', isi_non', isi_tup', isi_lst', isi_dct', isi_U', isi_F', isi_ins', tc_int, tc_bool, tc_tuple, ty_dct, isi_bi, isi_bb, isi_bt, isi_si, isi_sb, isi_st, isi_ni, isi_nb, isi_nt, isi_li, isi_lb, isi_lt, isi_di, isi_db, isi_dt, sRaise, dDct, mkLoc2, mkLoc7, mkLoc8, mkLoc9, mkLoc11, mkLoc17, mkLoc25, mkLoc32, oCatL, mkTup4, mkLst4, eqs_plus_plus, eqs_plus_times, eqs_plus_turned, eqs_plus_beside, eqs_plus_above, eqs_plus_piece, eqs_plus_star, nes_plus, eqs_times_plus, eqs_times_times, eqs_times_turned, eqs_times_beside, eqs_times_above, eqs_times_piece, eqs_times_star, nes_times, eqs_turned_plus, eqs_turned_times, eqs_turned_turned, eqs_turned_beside, eqs_turned_above, eqs_turned_piece, eqs_turned_star, nes_turned, eqs_beside_plus, eqs_beside_times, eqs_beside_turned, eqs_beside_beside, eqs_beside_above, eqs_beside_piece, eqs_beside_star, nes_beside, eqs_above_plus, eqs_above_times, eqs_above_turned, eqs_above_beside, eqs_above_above, eqs_above_piece, eqs_above_star, nes_above, eqs_piece_plus, eqs_piece_times, eqs_piece_turned, eqs_piece_beside, eqs_piece_above, eqs_piece_piece, eqs_piece_star, nes_piece, sh_0, sh_1, tg_sh, max_sh, isN_sh, notN_sh, sAugIx, isi_N', isi_Row', isi_R', hd0, hd1, hd2, hd3, hd4, hs1, hs2, hs3, hs4, giveS_hnd, dTupF, giveS_dA])
local macro_rules | `(tactic| walk_at "evh") => `(tactic| simp (config := { decide := false, implicitDefEqProofs := false }) only [bind_ok, bind_err, sE_ok, sE_err, bnd_nx, bnd_rt, bnd_bk, bnd_ct, bnd_err, sSeq_eq, dEnd_rt, dEnd_nx, dEnd_err, giveS_d, giveS_dA, giveS_nil,
  dVar, dC, d2, d1, dB, dChain, dAnd, dOr, dNot, dTru, dAndV, dOrV, dNotV, dIf, aNil, aCons, dTup, dLst, dLoc, dCall, dCB, b1, dIt, sNx, sBk, sCt, sRet, sRetN, sDrop, sSet, sIf, sPar, truth_bl, asB_bl, oI0_eq, oIsi, ty_int, ty_bl, ty_str, ty_non, ty_tup, ty_lst, isi_ii, isi_ib, isi_it, isi_tt, isi_ti, isi_tb,
  oAbs, oInt, oNeg, oEq_int, oNe_int, dFld, dSl, dPt, dNoPt, asPt_int, isN_non, isN_tup, isN_U, notN_non, notN_tup, notN_U, dMake, sFldPut,
  List.map_cons, List.map_nil, List.length_cons, List.length_nil, List.getElem?_cons_zero, List.getElem?_cons_succ, List.set_cons_zero, List.set_cons_succ, List.cons_append, List.nil_append, List.append_nil, Nat.reduceAdd, Nat.reduceSub, Nat.zero_add, if_true, if_false, Bool.not_true, Bool.not_false, Bool.false_eq_true, reduceIte, List.replicate_zero, List.replicate_succ, Nat.sub_self, beq_self_eq_true, Int.reduceLT, Int.reduceLE, Int.reduceAdd, Int.reduceSub, Int.reduceMul, Int.reduceNeg, Int.reducePow, Int.reduceToNat, Int.reduceEq, Int.reduceBEq, decide_true, decide_false, mkTup1, mkTup2, mkTup3, mkLst2, mkLst5, ix20, ix21, ixF0, ixF1, len_tup, len_lst, lenF, tyF, lenU, tyU, oEqF, oEqU, oNeU, zipU, tgN, tgT, tgCons, tgNil, wipeE, Option.bind_some, tuple_lst, list_lst, st0, st1, st2, st3, se1, se2, se3, giveS_st, tgIx, sAsg, Option.map_some, oMod_eq, isi_int', isi_bl', isi_str', isi_non', isi_tup', isi_lst', isi_dct', isi_U', isi_F', isi_ins', tc_int, tc_bool, tc_tuple, ty_dct, isi_bi, isi_bb, isi_bt, isi_si, isi_sb, isi_st, isi_ni, isi_nb, isi_nt, isi_li, isi_lb, isi_lt, isi_di, isi_db, isi_dt, sRaise, dDct, mkLoc2, mkLoc7, mkLoc8, mkLoc9, mkLoc11, mkLoc17, mkLoc25, mkLoc32, oCatL, mkTup4, mkLst4, eqs_plus_plus, eqs_plus_times, eqs_plus_turned, eqs_plus_beside, eqs_plus_above, eqs_plus_piece, eqs_plus_star, nes_plus, eqs_times_plus, eqs_times_times, eqs_times_turned, eqs_times_beside, eqs_times_above, eqs_times_piece, eqs_times_star, nes_times, eqs_turned_plus, eqs_turned_times, eqs_turned_turned, eqs_turned_beside, eqs_turned_above, eqs_turned_piece, eqs_turned_star, nes_turned, eqs_beside_plus, eqs_beside_times, eqs_beside_turned, eqs_beside_beside, eqs_beside_above, eqs_beside_piece, eqs_beside_star, nes_beside, eqs_above_plus, eqs_above_times, eqs_above_turned, eqs_above_beside, eqs_above_above, eqs_above_piece, eqs_above_star, nes_above, eqs_piece_plus, eqs_piece_times, eqs_piece_turned, eqs_piece_beside, eqs_piece_above, eqs_piece_piece, eqs_piece_star, nes_piece, sh_0, sh_1, tg_sh, max_sh, isN_sh, notN_sh, sAugIx, isi_N', isi_Row', isi_R', hd0, hd1, hd2, hd3, hd4, hs1, hs2, hs3, hs4, giveS_hnd, dTupF, giveS_dA, oMul_eq, oDiv_eq, oPow_eq, *])
section
variable (C : Str → Addr) {n : Nat} {S : Store} {R : Mat}
theorem matT_len : ((matT R n n).length : Int) = (n : Int) := by simp [matT]
theorem rowL_len {m i : Nat} : ((rowL R m i).length : Int) = (m : Int) := by simp [rowL]
theorem matT_map {m : Nat} : (matT R n m).map W.d = (List.range n).map fun i => W.d (.tup (rowL R m i)) := by
  unfold matT
  rw [List.map_map]
  rfl
theorem e_are_rows (hn : n ≤ 1000) : g_are_rows C [.d (.tup (matT R n n)), .d (.int (n : Int)), .d (.int (n : Int))] S = some (.ok (.d (.bl true)), S) := by
  have hl := matT_len (R := R) (n := n)
  have lc : dLc lcF (dSeq (dVar 0)) (tgN 3) (ftYes) (dAndV (dCB oIsi (aCons (dVar 3) (aCons (dC (.ty "tuple")) (aNil)))) (d2 oEq (dCB (b1 oLen) (aCons (dVar 3) (aNil))) (dVar 2))) [3] [some (.d (.tup (matT R n n))), some (.d (.int (n : Int))), some (.d (.int (n : Int))), none] S = some (.ok (.d (.lst ((List.range n).map fun _ => D.bl true))), S) :=
    dLc_map (wf := fun i => W.d (.tup (rowL R n i))) (by
      rw [dSeq_tup (ds := matT R n n) (S1 := S) (by walk_at "evh"), matT_map]) (by simpa using hn) fun i hi => by
      have h2 := rowL_len (R := R) (m := n) (i := i)
      have h3 : ((n : Int) == (n : Int)) = true := by simp
      refine ⟨_, rfl, ?_⟩
      clear hl
      walk_at "evh"
  have al := all_lst (S := S) (fun _ => true) (List.range n)
  have at' : (List.range n).all (fun _ => true) = true := by simp
  rw [at'] at al
  have h3 : (!((n : Int) == (n : Int))) = false := by simp
  rw [q_are_rows, F_are_rows]
  clear hn at'
  walk_at "evh"
theorem e_is_square (n1 : 1 ≤ n) (hn : n ≤ 10) : g_is_square C [.d (.tup (matT R n n))] S = some (.ok (.d (.bl true)), S) := by
  have hl := matT_len (R := R) (n := n)
  have ar := e_are_rows C (n := n) (S := S) (R := R) (by omega)
  have lc : dLc2 lcF (dSeq (dVar 0)) (tgN 1) (dSeq (dVar 1)) (tgN 2) (dCall 1 (g_is_fraction C) (aCons (dVar 2) (aNil))) [1, 2] [2] [some (.d (.tup (matT R n n))), none, none] S = some (.ok (.d (.lst (((List.range n).flatMap fun i => rowL R n i).map fun _ => D.bl true))), S) :=
    dLc2_map (wf := fun i => W.d (.tup (rowL R n i))) (wg := W.d) (ys := fun i => rowL R n i) (f := fun _ => D.bl true) (by
      rw [dSeq_tup (ds := matT R n n) (S1 := S) (by walk_at "evh"), matT_map]) (by
      rw [List.length_flatMap]
      have : ((List.range n).map fun i => (rowL R n i).length) = List.replicate n n := by
        refine List.ext_getElem (by simp) fun k h1 h2 => by simp [rowL]
      rw [this, List.sum_replicate_nat]
      have : n * n ≤ 10 * 10 := Nat.mul_le_mul hn hn
      omega) fun i hi => by
      refine ⟨[some (.d (.tup (matT R n n))), some (.d (.tup (rowL R n i))), none], rfl, ?_, fun y hy => ?_⟩
      · rw [dSeq_tup (ds := rowL R n i) (S1 := S) (by walk_at "evh")]
      · obtain ⟨j, _, rfl⟩ := List.mem_map.mp hy
        have isf := e_is_fraction C S (fq_fr (R i j))
        refine ⟨[some (.d (.tup (matT R n n))), some (.d (.tup (rowL R n i))), some (.d (encQ (R i j)))], rfl, ?_⟩
        have isf' : g_is_fraction C [.d (encQ (R i j))] S = some (.ok (.d (.bl true)), S) := isf
        clear hl ar isf
        walk_at "evh"
  have al := all_lst (S := S) (fun _ => true) ((List.range n).flatMap fun i => rowL R n i)
  have at' : ((List.range n).flatMap fun i => rowL R n i).all (fun _ => true) = true := by simp
  rw [at'] at al
  have d1 : decide ((1 : Int) ≤ (n : Int)) = true := by simp; omega
  have d2 : decide ((n : Int) ≤ 10) = true := by simp; omega
  rw [q_is_square, F_is_square]
  clear hn at' n1
  walk_at "evh"
theorem e_check_square (n1 : 1 ≤ n) (hn : n ≤ 10) : g_check_square C [.d (.tup (matT R n n))] S = some (.ok (.d .non), S) := by
  have is := e_is_square C (S := S) (R := R) n1 hn
  rw [q_check_square, F_check_square]
  clear n1 hn
  walk_at "evh"
/-! ### the determinant -/
theorem led_0 {m : Nat} {o : Option (Rat × Mat)} : oIx (.d (ledD n m o)) (.d (.int 0)) S = some (.ok (.d (encQ (match o with | none => 0 | some p => p.1))), S) := by
  cases o with
  | none => rfl
  | some p => rfl
def ledL (n m : Nat) : Option (Rat × Mat) → List D
  | none => []
  | some p => matD p.2 n m
theorem led_1 {m : Nat} {o : Option (Rat × Mat)} : oIx (.d (ledD n m o)) (.d (.int 1)) S = some (.ok (.d (.lst (ledL n m o))), S) := by
  cases o with
  | none => rfl
  | some p => rfl
theorem e_determinant {I : Nat → Nat → Mat → Prop} (hI : Goes n n I) (n1 : 1 ≤ n) (hn : n ≤ 10) (hB : I n 0 R) : g_determinant C [.d (.tup (matT R n n))] S = some (.ok (.d (encQ (detQ n R))), S) := by
  have ck := e_check_square C (S := S) (R := R) n1 hn
  have lo := e_led_out C (A := R) (n := n) (m := n) (w := .d (.tup (matT R n n))) (S := S) hI rfl okG_no hn (Nat.le_refl _) (by omega) hB
  have l0 := led_0 (n := n) (m := n) (o := DL.run n n 0 1 R) (S := S)
  rw [q_determinant, F_determinant]
  unfold detQ
  clear n1 hn hB hI
  walk_at "evh" <;> rfl
end
end P52
set_option Elab.async false
set_option linter.all false
set_option maxRecDepth 100000
set_option maxHeartbeats 1000000
namespace P52
open PySem L2 DL
local macro_rules | `(tactic| walk_at "ev") => `(tactic| simp (config := { decide := false, implicitDefEqProofs := false }) only [bind_ok, bind_err, sE_ok, sE_err, bnd_nx, bnd_rt, bnd_bk, bnd_ct, bnd_err, sSeq_eq, dEnd_rt, dEnd_nx, dEnd_err, giveS_d, giveS_dA, giveS_nil,
  dVar, dC, d2, d1, dB, dChain, dAnd, dOr, dNot, dTru, dAndV, dOrV, dNotV, dIf, aNil, aCons, dTup, dLst, dLoc, dCall, dCB, b1, dIt, sNx, sBk, sCt, sRet, sRetN, sDrop, sSet, sIf, sPar, truth_bl, asB_bl, oI0_eq, oIsi, ty_int, ty_bl, ty_str, ty_non, ty_tup, ty_lst, isi_ii, isi_ib, isi_it, isi_tt, isi_ti, isi_tb,
  oAbs, oInt, oNeg, oEq_int, oNe_int, dFld, dSl, dPt, dNoPt, asPt_int, isN_non, isN_tup, isN_U, notN_non, notN_tup, notN_U, dMake, sFldPut,
  List.map_cons, List.map_nil, List.length_cons, List.length_nil, List.getElem?_cons_zero, List.getElem?_cons_succ, List.set_cons_zero, List.set_cons_succ, List.cons_append, List.nil_append, List.append_nil, Nat.reduceAdd, Nat.reduceSub, Nat.zero_add, if_true, if_false, Bool.not_true, Bool.not_false, Bool.false_eq_true, reduceIte, List.replicate_zero, List.replicate_succ, Nat.sub_self, beq_self_eq_true, Int.reduceLT, Int.reduceLE, Int.reduceAdd, Int.reduceSub, Int.reduceMul, Int.reduceNeg, Int.reducePow, Int.reduceToNat, Int.reduceEq, Int.reduceBEq, decide_true, decide_false, mkTup1, mkTup2, mkTup3, mkLst2, mkLst5, ix20, ix21, ixF0, ixF1, len_tup, len_lst, lenF, tyF, lenU, tyU, oEqF, oEqU, oNeU, zipU, tgN, tgT, tgCons, tgNil, wipeE, Option.bind_some, tuple_lst, list_lst, st0, st1, st2, st3, se1, se2, se3, giveS_st, tgIx, sAsg, Option.map_some, oMod_eq, isi_int', isi_bl', isi_str', isi_non', isi_tup', isi_lst', isi_dct', isi_U', isi_F', isi_ins', tc_int, tc_bool, tc_tuple, ty_dct, isi_bi, isi_bb, isi_bt, isi_si, isi_sb, isi_st, isi_ni, isi_nb, isi_nt, isi_li, isi_lb, isi_lt, isi_di, isi_db, isi_dt, sRaise, dDct, mkLoc2, mkLoc7, mkLoc8, mkLoc9, mkLoc11, mkLoc17, mkLoc25, mkLoc32, oCatL, mkTup4, mkLst4, eqs_plus_plus, eqs_plus_times, eqs_plus_turned, eqs_plus_beside, eqs_plus_above, eqs_plus_piece, eqs_plus_star, nes_plus, eqs_times_plus, eqs_times_times, eqs_times_turned, eqs_times_beside, eqs_times_above, eqs_times_piece, eqs_times_star, nes_times, eqs_turned_plus, eqs_turned_times, eqs_turned_turned, eqs_turned_beside, eqs_turned_above, eqs_turned_piece, eqs_turned_star, nes_turned, eqs_beside_plus, eqs_beside_times, eqs_beside_turned, eqs_beside_beside, eqs_beside_above, eqs_beside_piece, eqs_beside_star, nes_beside, eqs_above_plus, eqs_above_times, eqs_above_turned, eqs_above_beside, eqs_above_above, eqs_above_piece, eqs_above_star, nes_above, eqs_piece_plus, eqs_piece_times, eqs_piece_turned, eqs_piece_beside, eqs_piece_above, eqs_piece_piece, eqs_piece_star, nes_piece, sh_0, sh_1, tg_sh, max_sh, isN_sh, notN_sh, sAugIx, isi_N', isi_Row', isi_R', hd0, hd1, hd2, hd3, hd4, hs1, hs2, hs3, hs4, giveS_hnd, dTupF, giveS_dA])
local macro_rules | `(tactic| walk_at "evh") => `(tactic| simp (config := { decide := false, implicitDefEqProofs := false }) only [bind_ok, bind_err, sE_ok, sE_err, bnd_nx, bnd_rt, bnd_bk, bnd_ct, bnd_err, sSeq_eq, dEnd_rt, dEnd_nx, dEnd_err, giveS_d, giveS_dA, giveS_nil,
  dVar, dC, d2, d1, dB, dChain, dAnd, dOr, dNot, dTru, dAndV, dOrV, dNotV, dIf, aNil, aCons, dTup, dLst, dLoc, dCall, dCB, b1, dIt, sNx, sBk, sCt, sRet, sRetN, sDrop, sSet, sIf, sPar, truth_bl, asB_bl, oI0_eq, oIsi, ty_int, ty_bl, ty_str, ty_non, ty_tup, ty_lst, isi_ii, isi_ib, isi_it, isi_tt, isi_ti, isi_tb,
  oAbs, oInt, oNeg, oEq_int, oNe_int, dFld, dSl, dPt, dNoPt, asPt_int, isN_non, isN_tup, isN_U, notN_non, notN_tup, notN_U, dMake, sFldPut,
  List.map_cons, List.map_nil, List.length_cons, List.length_nil, List.getElem?_cons_zero, List.getElem?_cons_succ, List.set_cons_zero, List.set_cons_succ, List.cons_append, List.nil_append, List.append_nil, Nat.reduceAdd, Nat.reduceSub, Nat.zero_add, if_true, if_false, Bool.not_true, Bool.not_false, Bool.false_eq_true, reduceIte, List.replicate_zero, List.replicate_succ, Nat.sub_self, beq_self_eq_true, Int.reduceLT, Int.reduceLE, Int.reduceAdd, Int.reduceSub, Int.reduceMul, Int.reduceNeg, Int.reducePow, Int.reduceToNat, Int.reduceEq, Int.reduceBEq, decide_true, decide_false, mkTup1, mkTup2, mkTup3, mkLst2, mkLst5, ix20, ix21, ixF0, ixF1, len_tup, len_lst, lenF, tyF, lenU, tyU, oEqF, oEqU, oNeU, zipU, tgN, tgT, tgCons, tgNil, wipeE, Option.bind_some, tuple_lst, list_lst, st0, st1, st2, st3, se1, se2, se3, giveS_st, tgIx, sAsg, Option.map_some, oMod_eq, isi_int', isi_bl', isi_str', isi_non', isi_tup', isi_lst', isi_dct', isi_U', isi_F', isi_ins', tc_int, tc_bool, tc_tuple, ty_dct, isi_bi, isi_bb, isi_bt, isi_si, isi_sb, isi_st, isi_ni, isi_nb, isi_nt, isi_li, isi_lb, isi_lt, isi_di, isi_db, isi_dt, sRaise, dDct, mkLoc2, mkLoc7, mkLoc8, mkLoc9, mkLoc11, mkLoc17, mkLoc25, mkLoc32, oCatL, mkTup4, mkLst4, eqs_plus_plus, eqs_plus_times, eqs_plus_turned, eqs_plus_beside, eqs_plus_above, eqs_plus_piece, eqs_plus_star, nes_plus, eqs_times_plus, eqs_times_times, eqs_times_turned, eqs_times_beside, eqs_times_above, eqs_times_piece, eqs_times_star, nes_times, eqs_turned_plus, eqs_turned_times, eqs_turned_turned, eqs_turned_beside, eqs_turned_above, eqs_turned_piece, eqs_turned_star, nes_turned, eqs_beside_plus, eqs_beside_times, eqs_beside_turned, eqs_beside_beside, eqs_beside_above, eqs_beside_piece, eqs_beside_star, nes_beside, eqs_above_plus, eqs_above_times, eqs_above_turned, eqs_above_beside, eqs_above_above, eqs_above_piece, eqs_above_star, nes_above, eqs_piece_plus, eqs_piece_times, eqs_piece_turned, eqs_piece_beside, eqs_piece_above, eqs_piece_piece, eqs_piece_star, nes_piece, sh_0, sh_1, tg_sh, max_sh, isN_sh, notN_sh, sAugIx, isi_N', isi_Row', isi_R', hd0, hd1, hd2, hd3, hd4, hs1, hs2, hs3, hs4, giveS_hnd, dTupF, giveS_dA, oMul_eq, oDiv_eq, oPow_eq, *])
section
variable (C : Str → Addr) {n : Nat} {S : Store}
/-! ### drawn numbers -/
theorem set_step {f : FE} {δ : DEnv} {S S1 : Store} {w : W} {i : Nat} (h : f δ S = some (.ok w, S1)) : sSet i f δ S = some (.ok (.nx (δ.set i (some w))), S1) := by
  unfold sSet
  rw [h, sE_ok]
theorem drop_step {f : FE} {δ : DEnv} {S S1 : Store} {w : W} (h : f δ S = some (.ok w, S1)) : sDrop f δ S = some (.ok (.nx δ), S1) := by
  unfold sDrop
  rw [h, sE_ok]
theorem e_drawn (T : Store) {f : Nat} {m : M} (hm : HdSt (f + 2) m) {δ : DEnv} {i : Nat} (h0 : δ[i]? = some (some (.loc 0))) :
    ∃ (q : Rat) (m' : M), dCall 2 (g__law_lowest C) (aCons (d2 oSub (dCall 2 (g__law_draw C) (aCons (dVar i) (aCons (dC (.int 19)) (aNil)))) (dC (.int 9))) (aCons (d2 oAdd (dC (.int 1)) (dCall 2 (g__law_draw C) (aCons (dVar i) (aCons (dC (.int 4)) (aNil))))) (aNil))) δ (m :: T) = some (.ok (.d (encQ q)), m' :: T) ∧ HdSt f m' ∧ TwB 7 q := by
  obtain ⟨r, m1, e1, r0, r1, h1⟩ := e_draw C T (f := f + 1) hm (k := 19) (by decide) (by unfold Bd; decide)
  obtain ⟨s, m2, e2, s0, s1, h2⟩ := e_draw C T (f := f) h1 (k := 4) (by decide) (by unfold Bd; decide)
  have lo := e_law_lowest C (m2 :: T) (t := r - 9) (b := 1 + s) (n := 3) (by omega) (by unfold Bd; omega) (by decide) (by decide)
  rw [low_fq (by omega)] at lo
  refine ⟨((r - 9 : Int) : Rat) / ((1 + s : Int) : Rat), m2, ?_, h2, tw_drawn (by omega) (by omega) (by omega) (by omega)⟩
  unfold encQ
  clear hm h1 h2 r0 r1 s0 s1
  walk_at "evh"
theorem e_law_square {f : Nat} {m : M} (hm : HdSt (f + 300) m) (hn : n ≤ 10) :
    ∃ (rs : List (List Rat)) (m' : M), g__law_square C [.loc 0, .d (.int (n : Int))] [m] = some (.ok (.d (.tup (rs.map fun r => D.tup (r.map encQ)))), [m']) ∧ HdSt f m' ∧ rs.length = n ∧ ∀ r ∈ rs, r.length = n ∧ ∀ q ∈ r, TwB 7 q := by
  obtain ⟨δ', S', e, x3, x4, x5, x6, rs, m', G, rfl, rfl, hm', hl, hr⟩ := dFor_invS (wf := fun k : Nat => W.d (.int (k : Int))) (xs := List.range n) (fi := dIt oRng1 (aCons (dVar 1) (aNil))) (tf := tgN 3)
    (fb := sSeq (sSet 4 (dLoc (aNil)))
    (sSeq (dFor (dIt oRng1 (aCons (dVar 1) (aNil))) (tgN 5) (sSeq (sSet 6 (dCall 2 (g__law_lowest C) (aCons (d2 oSub (dCall 2 (g__law_draw C) (aCons (dVar 0) (aCons (dC (.int 19)) (aNil)))) (dC (.int 9))) (aCons (d2 oAdd (dC (.int 1)) (dCall 2 (g__law_draw C) (aCons (dVar 0) (aCons (dC (.int 4)) (aNil))))) (aNil)))))
    (sDrop (dApp (dVar 4) (dIf (dB (d2 oGt (dCall 2 (g__law_draw C) (aCons (dVar 0) (aCons (dC (.int 4)) (aNil)))) (dC (.int 0)))) (dVar 6) (dTup (aCons (dC (.int 0)) (aCons (dC (.int 1)) (aNil)))))))))
    (sDrop (dApp (dVar 2) (dCB (b1 oTuple) (aCons (dVar 4) (aNil)))))))
    (P := fun i δ S' => ∃ x3 x4 x5 x6 rs m' G, δ = [some (.loc 0), some (.d (.int (n : Int))), some (.loc 1), x3, x4, x5, x6] ∧ S' = m' :: .lst (rs.map fun r : List Rat => W.d (.tup (r.map encQ))) :: G ∧ HdSt (f + (n - i) * (3 * n)) m' ∧ rs.length = i ∧ ∀ r ∈ rs, r.length = n ∧ ∀ q ∈ r, TwB 7 q)
    (δ := [some (.loc 0), some (.d (.int (n : Int))), some (.loc 1), none, none, none, none]) (S := [m, .lst []]) (S0 := [m, .lst []]) (by
      have rr := oRng1_nat (S := [m, .lst []]) (n := n) (by omega)
      clear hm
      walk_at "evh") (by
    rintro i hi δ S' ⟨x3, x4, x5, x6, rs, m', G, rfl, rfl, hm', hl, hr⟩
    have hi' : i < n := by simpa using hi
    have ei : (List.range n)[i] = i := by simp
    rw [ei]
    obtain ⟨δ2, S2, e2, y5, y6, qs, m2, rfl, rfl, hm2, hl2, hq2⟩ := dFor_invS (wf := fun k : Nat => W.d (.int (k : Int))) (xs := List.range n) (fi := dIt oRng1 (aCons (dVar 1) (aNil))) (tf := tgN 5)
      (fb := sSeq (sSet 6 (dCall 2 (g__law_lowest C) (aCons (d2 oSub (dCall 2 (g__law_draw C) (aCons (dVar 0) (aCons (dC (.int 19)) (aNil)))) (dC (.int 9))) (aCons (d2 oAdd (dC (.int 1)) (dCall 2 (g__law_draw C) (aCons (dVar 0) (aCons (dC (.int 4)) (aNil))))) (aNil)))))
    (sDrop (dApp (dVar 4) (dIf (dB (d2 oGt (dCall 2 (g__law_draw C) (aCons (dVar 0) (aCons (dC (.int 4)) (aNil)))) (dC (.int 0)))) (dVar 6) (dTup (aCons (dC (.int 0)) (aCons (dC (.int 1)) (aNil))))))))
      (P := fun j δ S' => ∃ y5 y6 qs m2, δ = [some (.loc 0), some (.d (.int (n : Int))), some (.loc 1), some (.d (.int (i : Int))), some (.loc (m' :: .lst (rs.map fun r : List Rat => W.d (.tup (r.map encQ))) :: G).length), y5, y6] ∧ S' = m2 :: .lst (rs.map fun r : List Rat => W.d (.tup (r.map encQ))) :: (G ++ [.lst (qs.map fun q => W.d (encQ q))]) ∧ HdSt (f + (n - (i + 1)) * (3 * n) + (n - j) * 3) m2 ∧ qs.length = j ∧ ∀ q ∈ qs, TwB 7 q)
      (δ := [some (.loc 0), some (.d (.int (n : Int))), some (.loc 1), some (.d (.int (i : Int))), some (.loc (m' :: .lst (rs.map fun r : List Rat => W.d (.tup (r.map encQ))) :: G).length), x5, x6]) (S := m' :: .lst (rs.map fun r : List Rat => W.d (.tup (r.map encQ))) :: (G ++ [.lst []])) (S0 := m' :: .lst (rs.map fun r : List Rat => W.d (.tup (r.map encQ))) :: (G ++ [.lst []])) (by
        have rr := oRng1_nat (S := m' :: .lst (rs.map fun r : List Rat => W.d (.tup (r.map encQ))) :: (G ++ [.lst []])) (n := n) (by omega)
        clear hm hm' hr
        walk_at "evh") (by
      rintro j hj δ S' ⟨y5, y6, qs, m2, rfl, rfl, hm2, hl2, hq2⟩
      have hj' : j < n := by simpa using hj
      have ej : (List.range n)[j] = j := by simp
      rw [ej]
      have hm2' : HdSt ((f + (n - (i + 1)) * (3 * n) + (n - (j + 1)) * 3) + 1 + 2) m2 := hm2.weak (by
        have : n - j = (n - (j + 1)) + 1 := by omega
        rw [this, Nat.add_mul]
        omega)
      obtain ⟨q, m3, e3, hm3, hq3⟩ := e_drawn C (.lst (rs.map fun r : List Rat => W.d (.tup (r.map encQ))) :: (G ++ [.lst (qs.map fun q => W.d (encQ q))])) hm2' (δ := [some (.loc 0), some (.d (.int (n : Int))), some (.loc 1), some (.d (.int (i : Int))), some (.loc (m' :: .lst (rs.map fun r : List Rat => W.d (.tup (r.map encQ))) :: G).length), some (.d (.int (j : Int))), y6]) (i := 0) rfl
      obtain ⟨r, m4, e4, r0, r1, hm4⟩ := e_draw C (.lst (rs.map fun r : List Rat => W.d (.tup (r.map encQ))) :: (G ++ [.lst (qs.map fun q => W.d (encQ q))])) hm3 (k := 4) (by decide) (by unfold Bd; decide)
      have key : ∃ q', TwB 7 q' ∧ (dIf (dB (d2 oGt (dCall 2 (g__law_draw C) (aCons (dVar 0) (aCons (dC (.int 4)) (aNil)))) (dC (.int 0)))) (dVar 6) (dTup (aCons (dC (.int 0)) (aCons (dC (.int 1)) (aNil))))) [some (.loc 0), some (.d (.int (n : Int))), some (.loc 1), some (.d (.int (i : Int))), some (.loc (m' :: .lst (rs.map fun r : List Rat => W.d (.tup (r.map encQ))) :: G).length), some (.d (.int (j : Int))), some (.d (encQ q))] (m3 :: .lst (rs.map fun r : List Rat => W.d (.tup (r.map encQ))) :: (G ++ [.lst (qs.map fun q => W.d (encQ q))])) = some (.ok (.d (encQ q')), m4 :: .lst (rs.map fun r : List Rat => W.d (.tup (r.map encQ))) :: (G ++ [.lst (qs.map fun q => W.d (encQ q))])) := by
        by_cases h : 0 < r
        · refine ⟨q, hq3, ?_⟩
          have d1 : decide ((0 : Int) < r) = true := decide_eq_true h
          have d2 : decide (r > (0 : Int)) = true := decide_eq_true h
          clear hm hm' hr hm2 hm2' hq2 hm3 hm4 e3
          walk_at "evh"
        · refine ⟨0, twb_zero, ?_⟩
          have d1 : decide ((0 : Int) < r) = false := decide_eq_false h
          have d2 : decide (r > (0 : Int)) = false := decide_eq_false h
          have z0 : D.tup [.int 0, .int 1] = encQ 0 := rfl
          clear hm hm' hr hm2 hm2' hq2 hm3 hm4 e3
          walk_at "evh"
      obtain ⟨q', hq', e5⟩ := key
      have il : isLst (m3 :: .lst (rs.map fun r : List Rat => W.d (.tup (r.map encQ))) :: (G ++ [.lst (qs.map fun q => W.d (encQ q))])) (m' :: .lst (rs.map fun r : List Rat => W.d (.tup (r.map encQ))) :: G).length = true := by simp [isLst]
      have ap := app_last (T := m4 :: .lst (rs.map fun r : List Rat => W.d (.tup (r.map encQ))) :: G) (ws := qs.map fun q => W.d (encQ q)) (w := W.d (encQ q')) (by simp; omega)
      have da := (dApp_loc (fo := dVar 4) (n := (m' :: .lst (rs.map fun r : List Rat => W.d (.tup (r.map encQ))) :: G).length) rfl il e5).trans ap
      refine ⟨[some (.loc 0), some (.d (.int (n : Int))), some (.loc 1), some (.d (.int (i : Int))), some (.loc (m' :: .lst (rs.map fun r : List Rat => W.d (.tup (r.map encQ))) :: G).length), some (.d (.int (j : Int))), y6], m2 :: .lst (rs.map fun r : List Rat => W.d (.tup (r.map encQ))) :: (G ++ [.lst (qs.map fun q => W.d (encQ q))]), [some (.loc 0), some (.d (.int (n : Int))), some (.loc 1), some (.d (.int (i : Int))), some (.loc (m' :: .lst (rs.map fun r : List Rat => W.d (.tup (r.map encQ))) :: G).length), some (.d (.int (j : Int))), some (.d (encQ q))], m4 :: .lst (rs.map fun r : List Rat => W.d (.tup (r.map encQ))) :: (G ++ [.lst ((qs ++ [q']).map fun q => W.d (encQ q))]), rfl, ?_, _, _, qs ++ [q'], m4, rfl, rfl, hm4, by simp [hl2], fun x hx => by
        rcases List.mem_append.mp hx with hx | hx
        · exact hq2 x hx
        · have : x = q' := by simpa using hx
          rw [this]; exact hq'⟩
      rw [List.map_append]
      have da' : dApp (dVar 4) (dIf (dB (d2 oGt (dCall 2 (g__law_draw C) (aCons (dVar 0) (aCons (dC (.int 4)) (aNil)))) (dC (.int 0)))) (dVar 6) (dTup (aCons (dC (.int 0)) (aCons (dC (.int 1)) (aNil))))) [some (.loc 0), some (.d (.int (n : Int))), some (.loc 1), some (.d (.int (i : Int))), some (.loc (m' :: .lst (rs.map fun r : List Rat => W.d (.tup (r.map encQ))) :: G).length), some (.d (.int (j : Int))), some (.d (encQ q))] (m3 :: .lst (rs.map fun r : List Rat => W.d (.tup (r.map encQ))) :: (G ++ [.lst (qs.map fun q => W.d (encQ q))])) = some (.ok (.d .non), m4 :: .lst (rs.map fun r : List Rat => W.d (.tup (r.map encQ))) :: (G ++ [.lst ((qs.map fun q => W.d (encQ q)) ++ [W.d (encQ q')])])) := da
      have e3' := set_step (i := 6) e3
      have da2 := drop_step da'
      rw [sSeq_eq, e3', bnd_nx]
      exact da2) ⟨x5, x6, [], m', rfl, rfl, hm'.weak (by
        have : n - i = (n - (i + 1)) + 1 := by omega
        rw [this, Nat.add_mul, Nat.one_mul]
        omega), rfl, by simp⟩
    rw [List.length_range] at hl2 hm2
    have hlen : (m' :: M.lst (rs.map fun r : List Rat => W.d (.tup (r.map encQ))) :: G).length = G.length + 2 := by simp
    have ml : mkLoc [] (m' :: M.lst (rs.map fun r : List Rat => W.d (.tup (r.map encQ))) :: G) = some (.ok (.loc (m' :: M.lst (rs.map fun r : List Rat => W.d (.tup (r.map encQ))) :: G).length), m' :: M.lst (rs.map fun r : List Rat => W.d (.tup (r.map encQ))) :: (G ++ [.lst []])) := rfl
    have ot : oTuple (.loc (m' :: M.lst (rs.map fun r : List Rat => W.d (.tup (r.map encQ))) :: G).length) (m2 :: M.lst (rs.map fun r : List Rat => W.d (.tup (r.map encQ))) :: (G ++ [.lst (qs.map fun q => W.d (encQ q))])) = some (.ok (.d (.tup (qs.map encQ))), m2 :: M.lst (rs.map fun r : List Rat => W.d (.tup (r.map encQ))) :: (G ++ [.lst (qs.map fun q => W.d (encQ q))])) := by
      have e6 : (m2 :: M.lst (rs.map fun r : List Rat => W.d (.tup (r.map encQ))) :: (G ++ [.lst (qs.map fun q => W.d (encQ q))]))[(m' :: M.lst (rs.map fun r : List Rat => W.d (.tup (r.map encQ))) :: G).length]? = some (.lst (qs.map fun q => W.d (encQ q))) := by simp
      have e7 : (qs.map fun q => W.d (encQ q)) = (qs.map encQ).map W.d := by rw [List.map_map]; rfl
      unfold oTuple
      simp only [seqW, e6]
      rw [e7, pure?_map]
    have ap : appAt 1 (W.d (.tup (qs.map encQ))) (m2 :: M.lst (rs.map fun r : List Rat => W.d (.tup (r.map encQ))) :: (G ++ [.lst (qs.map fun q => W.d (encQ q))])) = some (.ok (.d .non), m2 :: M.lst ((rs ++ [qs]).map fun r : List Rat => W.d (.tup (r.map encQ))) :: (G ++ [.lst (qs.map fun q => W.d (encQ q))])) := by
      have := app_mid (S := [m2]) (G := G ++ [.lst (qs.map fun q => W.d (encQ q))]) (ws := rs.map fun r : List Rat => W.d (.tup (r.map encQ))) (w := W.d (.tup (qs.map encQ))) (by simp; omega)
      rw [List.map_append]
      exact this
    have fe : (dCB (b1 oTuple) (aCons (dVar 4) (aNil))) [some (.loc 0), some (.d (.int (n : Int))), some (.loc 1), some (.d (.int (i : Int))), some (.loc (m' :: M.lst (rs.map fun r : List Rat => W.d (.tup (r.map encQ))) :: G).length), y5, y6] (m2 :: M.lst (rs.map fun r : List Rat => W.d (.tup (r.map encQ))) :: (G ++ [.lst (qs.map fun q => W.d (encQ q))])) = some (.ok (.d (.tup (qs.map encQ))), m2 :: M.lst (rs.map fun r : List Rat => W.d (.tup (r.map encQ))) :: (G ++ [.lst (qs.map fun q => W.d (encQ q))])) := by
      clear hm hm' hr hm2 hq2 e2 hlen ml ap
      simp only [List.length_cons] at ot
      walk_at "evh"
    have da := (dApp_loc (fo := dVar 2) (n := 1) rfl (by rfl) fe).trans ap
    have s1 : sSet 4 (dLoc aNil) [some (.loc 0), some (.d (.int (n : Int))), some (.loc 1), some (.d (.int (i : Int))), x4, x5, x6] (m' :: M.lst (rs.map fun r : List Rat => W.d (.tup (r.map encQ))) :: G) = some (.ok (.nx [some (.loc 0), some (.d (.int (n : Int))), some (.loc 1), some (.d (.int (i : Int))), some (.loc (m' :: M.lst (rs.map fun r : List Rat => W.d (.tup (r.map encQ))) :: G).length), x5, x6]), m' :: M.lst (rs.map fun r : List Rat => W.d (.tup (r.map encQ))) :: (G ++ [.lst []])) := set_step (i := 4) ml
    refine ⟨[some (.loc 0), some (.d (.int (n : Int))), some (.loc 1), some (.d (.int (i : Int))), x4, x5, x6], m' :: M.lst (rs.map fun r : List Rat => W.d (.tup (r.map encQ))) :: G, [some (.loc 0), some (.d (.int (n : Int))), some (.loc 1), some (.d (.int (i : Int))), some (.loc (m' :: M.lst (rs.map fun r : List Rat => W.d (.tup (r.map encQ))) :: G).length), y5, y6], m2 :: M.lst ((rs ++ [qs]).map fun r : List Rat => W.d (.tup (r.map encQ))) :: (G ++ [.lst (qs.map fun q => W.d (encQ q))]), rfl, ?_, _, _, _, _, rs ++ [qs], m2, _, rfl, rfl, hm2.weak (by omega), by simp [hl], fun x hx => by
      rcases List.mem_append.mp hx with hx | hx
      · exact hr x hx
      · have : x = qs := by simpa using hx
        rw [this]; exact ⟨hl2, hq2⟩⟩
    rw [sSeq_eq, s1, bnd_nx, sSeq_eq, e2, bnd_nx]
    exact drop_step da) ⟨none, none, none, none, [], m, [], rfl, rfl, hm.weak (by
      have : (n - 0) * (3 * n) ≤ 10 * 30 := Nat.mul_le_mul (by omega) (by omega)
      omega), rfl, by simp⟩
  rw [List.length_range] at hl hm'
  have ot : oTuple (.loc 1) (m' :: M.lst (rs.map fun r : List Rat => W.d (.tup (r.map encQ))) :: G) = some (.ok (.d (.tup (rs.map fun r => D.tup (r.map encQ)))), m' :: M.lst (rs.map fun r : List Rat => W.d (.tup (r.map encQ))) :: G) := by
    have e7 : (rs.map fun r : List Rat => W.d (.tup (r.map encQ))) = (rs.map fun r => D.tup (r.map encQ)).map W.d := by rw [List.map_map]; rfl
    unfold oTuple
    simp only [seqW, List.getElem?_cons_succ, List.getElem?_cons_zero]
    rw [e7, pure?_map]
  have gv := giveS_hd (x := .tup (rs.map fun r => D.tup (r.map encQ))) (m := m) (m' := m') (T := []) (U := M.lst (rs.map fun r : List Rat => W.d (.tup (r.map encQ))) :: G) hm'.below
  rw [List.nil_append] at gv
  have ml : mkLoc [] [m] = some (.ok (.loc 1), [m, .lst []]) := rfl
  refine ⟨rs, m', ?_, hm'.weak (by omega), hl, hr⟩
  rw [q__law_square, F__law_square]
  clear hm hm' hr hl
  walk_at "evh"
end
end P52
set_option Elab.async false
set_option linter.all false
set_option maxRecDepth 100000
set_option maxHeartbeats 1000000
namespace P52
open PySem L2 DL
local macro_rules | `(tactic| walk_at "ev") => `(tactic| simp (config := { decide := false, implicitDefEqProofs := false }) only [bind_ok, bind_err, sE_ok, sE_err, bnd_nx, bnd_rt, bnd_bk, bnd_ct, bnd_err, sSeq_eq, dEnd_rt, dEnd_nx, dEnd_err, giveS_d, giveS_dA, giveS_nil,
  dVar, dC, d2, d1, dB, dChain, dAnd, dOr, dNot, dTru, dAndV, dOrV, dNotV, dIf, aNil, aCons, dTup, dLst, dLoc, dCall, dCB, b1, dIt, sNx, sBk, sCt, sRet, sRetN, sDrop, sSet, sIf, sPar, truth_bl, asB_bl, oI0_eq, oIsi, ty_int, ty_bl, ty_str, ty_non, ty_tup, ty_lst, isi_ii, isi_ib, isi_it, isi_tt, isi_ti, isi_tb,
  oAbs, oInt, oNeg, oEq_int, oNe_int, dFld, dSl, dPt, dNoPt, asPt_int, isN_non, isN_tup, isN_U, notN_non, notN_tup, notN_U, dMake, sFldPut,
  List.map_cons, List.map_nil, List.length_cons, List.length_nil, List.getElem?_cons_zero, List.getElem?_cons_succ, List.set_cons_zero, List.set_cons_succ, List.cons_append, List.nil_append, List.append_nil, Nat.reduceAdd, Nat.reduceSub, Nat.zero_add, if_true, if_false, Bool.not_true, Bool.not_false, Bool.false_eq_true, reduceIte, List.replicate_zero, List.replicate_succ, Nat.sub_self, beq_self_eq_true, Int.reduceLT, Int.reduceLE, Int.reduceAdd, Int.reduceSub, Int.reduceMul, Int.reduceNeg, Int.reducePow, Int.reduceToNat, Int.reduceEq, Int.reduceBEq, decide_true, decide_false, mkTup1, mkTup2, mkTup3, mkLst2, mkLst5, ix20, ix21, ixF0, ixF1, len_tup, len_lst, lenF, tyF, lenU, tyU, oEqF, oEqU, oNeU, zipU, tgN, tgT, tgCons, tgNil, wipeE, Option.bind_some, tuple_lst, list_lst, st0, st1, st2, st3, se1, se2, se3, giveS_st, tgIx, sAsg, Option.map_some, oMod_eq, isi_int', isi_bl', isi_str', isi_non', isi_tup', isi_lst', isi_dct', isi_U', isi_F', isi_ins', tc_int, tc_bool, tc_tuple, ty_dct, isi_bi, isi_bb, isi_bt, isi_si, isi_sb, isi_st, isi_ni, isi_nb, isi_nt, isi_li, isi_lb, isi_lt, isi_di, isi_db, isi_dt, sRaise, dDct, mkLoc2, mkLoc7, mkLoc8, mkLoc9, mkLoc11, mkLoc17, mkLoc25, mkLoc32, oCatL, mkTup4, mkLst4, eqs_plus_plus, eqs_plus_times, eqs_plus_turned, eqs_plus_beside, eqs_plus_above, eqs_plus_piece, eqs_plus_star, nes_plus, eqs_times_plus, eqs_times_times, eqs_times_turned, eqs_times_beside, eqs_times_above, eqs_times_piece, eqs_times_star, nes_times, eqs_turned_plus, eqs_turned_times, eqs_turned_turned, eqs_turned_beside, eqs_turned_above, eqs_turned_piece, eqs_turned_star, nes_turned, eqs_beside_plus, eqs_beside_times, eqs_beside_turned, eqs_beside_beside, eqs_beside_above, eqs_beside_piece, eqs_beside_star, nes_beside, eqs_above_plus, eqs_above_times, eqs_above_turned, eqs_above_beside, eqs_above_above, eqs_above_piece, eqs_above_star, nes_above, eqs_piece_plus, eqs_piece_times, eqs_piece_turned, eqs_piece_beside, eqs_piece_above, eqs_piece_piece, eqs_piece_star, nes_piece, sh_0, sh_1, tg_sh, max_sh, isN_sh, notN_sh, sAugIx, isi_N', isi_Row', isi_R', hd0, hd1, hd2, hd3, hd4, hs1, hs2, hs3, hs4, giveS_hnd, dTupF, giveS_dA])
local macro_rules | `(tactic| walk_at "evh") => `(tactic| simp (config := { decide := false, implicitDefEqProofs := false }) only [bind_ok, bind_err, sE_ok, sE_err, bnd_nx, bnd_rt, bnd_bk, bnd_ct, bnd_err, sSeq_eq, dEnd_rt, dEnd_nx, dEnd_err, giveS_d, giveS_dA, giveS_nil,
  dVar, dC, d2, d1, dB, dChain, dAnd, dOr, dNot, dTru, dAndV, dOrV, dNotV, dIf, aNil, aCons, dTup, dLst, dLoc, dCall, dCB, b1, dIt, sNx, sBk, sCt, sRet, sRetN, sDrop, sSet, sIf, sPar, truth_bl, asB_bl, oI0_eq, oIsi, ty_int, ty_bl, ty_str, ty_non, ty_tup, ty_lst, isi_ii, isi_ib, isi_it, isi_tt, isi_ti, isi_tb,
  oAbs, oInt, oNeg, oEq_int, oNe_int, dFld, dSl, dPt, dNoPt, asPt_int, isN_non, isN_tup, isN_U, notN_non, notN_tup, notN_U, dMake, sFldPut,
  List.map_cons, List.map_nil, List.length_cons, List.length_nil, List.getElem?_cons_zero, List.getElem?_cons_succ, List.set_cons_zero, List.set_cons_succ, List.cons_append, List.nil_append, List.append_nil, Nat.reduceAdd, Nat.reduceSub, Nat.zero_add, if_true, if_false, Bool.not_true, Bool.not_false, Bool.false_eq_true, reduceIte, List.replicate_zero, List.replicate_succ, Nat.sub_self, beq_self_eq_true, Int.reduceLT, Int.reduceLE, Int.reduceAdd, Int.reduceSub, Int.reduceMul, Int.reduceNeg, Int.reducePow, Int.reduceToNat, Int.reduceEq, Int.reduceBEq, decide_true, decide_false, mkTup1, mkTup2, mkTup3, mkLst2, mkLst5, ix20, ix21, ixF0, ixF1, len_tup, len_lst, lenF, tyF, lenU, tyU, oEqF, oEqU, oNeU, zipU, tgN, tgT, tgCons, tgNil, wipeE, Option.bind_some, tuple_lst, list_lst, st0, st1, st2, st3, se1, se2, se3, giveS_st, tgIx, sAsg, Option.map_some, oMod_eq, isi_int', isi_bl', isi_str', isi_non', isi_tup', isi_lst', isi_dct', isi_U', isi_F', isi_ins', tc_int, tc_bool, tc_tuple, ty_dct, isi_bi, isi_bb, isi_bt, isi_si, isi_sb, isi_st, isi_ni, isi_nb, isi_nt, isi_li, isi_lb, isi_lt, isi_di, isi_db, isi_dt, sRaise, dDct, mkLoc2, mkLoc7, mkLoc8, mkLoc9, mkLoc11, mkLoc17, mkLoc25, mkLoc32, oCatL, mkTup4, mkLst4, eqs_plus_plus, eqs_plus_times, eqs_plus_turned, eqs_plus_beside, eqs_plus_above, eqs_plus_piece, eqs_plus_star, nes_plus, eqs_times_plus, eqs_times_times, eqs_times_turned, eqs_times_beside, eqs_times_above, eqs_times_piece, eqs_times_star, nes_times, eqs_turned_plus, eqs_turned_times, eqs_turned_turned, eqs_turned_beside, eqs_turned_above, eqs_turned_piece, eqs_turned_star, nes_turned, eqs_beside_plus, eqs_beside_times, eqs_beside_turned, eqs_beside_beside, eqs_beside_above, eqs_beside_piece, eqs_beside_star, nes_beside, eqs_above_plus, eqs_above_times, eqs_above_turned, eqs_above_beside, eqs_above_above, eqs_above_piece, eqs_above_star, nes_above, eqs_piece_plus, eqs_piece_times, eqs_piece_turned, eqs_piece_beside, eqs_piece_above, eqs_piece_piece, eqs_piece_star, nes_piece, sh_0, sh_1, tg_sh, max_sh, isN_sh, notN_sh, sAugIx, isi_N', isi_Row', isi_R', hd0, hd1, hd2, hd3, hd4, hs1, hs2, hs3, hs4, giveS_hnd, dTupF, giveS_dA, oMul_eq, oDiv_eq, oPow_eq, *])
noncomputable def b__law_orders_1 (C : Str → Addr) : FS := sSeq (sSet 3 (dLoc (aNil))) (sSeq (dFor (dSeq (dVar 1)) (tgT 2 (tgCons (tgN 4) (tgCons (tgN 5) (tgNil)))) (dFor (dIt oRng1 (aCons (dVar 0) (aNil))) (tgN 6) (sIf (dB (d2 oNotInTp (dVar 6) (dVar 4))) (sSeq (sSet 7 (dCB (b1 oLen) (aCons (dLc lcF (dSeq (dVar 4)) (tgN 8) (dB (d2 oGt (dVar 8) (dVar 6))) (dVar 8) [8]) (aNil)))) (sDrop (dApp (dVar 3) (dTup (aCons (d2 oCat (dVar 4) (dTup (aCons (dVar 6) (aNil)))) (aCons (d2 oMul (dVar 5) (d2 oSub (dC (.int 1)) (d2 oMul (dC (.int 2)) (d2 oMod (dCB (b1 oInt) (aCons (dVar 7) (aNil))) (dC (.int 2)))))) (aNil))))))) (sNx)))) (sSet 1 (dVar 3)))
noncomputable def l__law_orders_1 (C : Str → Addr) : FS := dFor (dIt oRng1 (aCons (dVar 0) (aNil))) (tgN 2) (b__law_orders_1 C)
noncomputable def p__law_orders_0 (C : Str → Addr) (rest : FS) : FS := sSeq (sSet 1 (dLst (aCons (dTup (aCons (dTup (aNil)) (aCons (dC (.int 1)) (aNil)))) (aNil)))) (rest)
noncomputable def p__law_orders_1 (C : Str → Addr) (rest : FS) : FS := sSeq (l__law_orders_1 C) (rest)
noncomputable def p__law_orders_2 (C : Str → Addr) : FS := sRet (dVar 1)
theorem parts__law_orders (C : Str → Addr) : F__law_orders C = p__law_orders_0 C (p__law_orders_1 C (p__law_orders_2 C)) := rfl
noncomputable def b_b__law_orders_1_1 (C : Str → Addr) : FS := dFor (dIt oRng1 (aCons (dVar 0) (aNil))) (tgN 6) (sIf (dB (d2 oNotInTp (dVar 6) (dVar 4))) (sSeq (sSet 7 (dCB (b1 oLen) (aCons (dLc lcF (dSeq (dVar 4)) (tgN 8) (dB (d2 oGt (dVar 8) (dVar 6))) (dVar 8) [8]) (aNil)))) (sDrop (dApp (dVar 3) (dTup (aCons (d2 oCat (dVar 4) (dTup (aCons (dVar 6) (aNil)))) (aCons (d2 oMul (dVar 5) (d2 oSub (dC (.int 1)) (d2 oMul (dC (.int 2)) (d2 oMod (dCB (b1 oInt) (aCons (dVar 7) (aNil))) (dC (.int 2)))))) (aNil))))))) (sNx))
noncomputable def l_b__law_orders_1_1 (C : Str → Addr) : FS := dFor (dSeq (dVar 1)) (tgT 2 (tgCons (tgN 4) (tgCons (tgN 5) (tgNil)))) (b_b__law_orders_1_1 C)
noncomputable def p_b__law_orders_1_0 (C : Str → Addr) (rest : FS) : FS := sSeq (sSet 3 (dLoc (aNil))) (rest)
noncomputable def p_b__law_orders_1_1 (C : Str → Addr) (rest : FS) : FS := sSeq (l_b__law_orders_1_1 C) (rest)
noncomputable def p_b__law_orders_1_2 (C : Str → Addr) : FS := sSet 1 (dVar 3)
theorem parts_b__law_orders_1 (C : Str → Addr) : b__law_orders_1 C = p_b__law_orders_1_0 C (p_b__law_orders_1_1 C (p_b__law_orders_1_2 C)) := rfl
def oD (o : List Nat) : D := .tup (o.map fun a : Nat => .int (a : Int))
def encO (p : List Nat × Int) : D := .tup [oD p.1, .int p.2]
abbrev osW (xs : List (List Nat × Int)) : List W := xs.map fun p => W.d (encO p)
theorem forL_invG {α : Type} {tf : Tg} {fb : FS} {g : Grd} {wf : α → W} {P : Nat → DEnv → Store → Prop} {xs : List α} (hg : ∀ i δ S, P i δ S → okG g S)
    (h : ∀ (i : Nat) (hi : i < xs.length) (δ : DEnv) (S : Store), P i δ S → ∃ δ1 S1 δ2 S2, tf (wf xs[i]) δ S = some (δ1, S1) ∧ fb δ1 S1 = some (.ok (.nx δ2), S2) ∧ P (i + 1) δ2 S2) :
    ∀ (k i : Nat) (δ : DEnv) (S : Store), i + k = xs.length → P i δ S → ∃ δ' S', forL tf fb g ((xs.drop i).map wf) δ S = some (.ok (.nx δ'), S') ∧ P xs.length δ' S' := by
  intro k
  induction k with
  | zero =>
    intro i δ S hi hp
    have e : xs.drop i = [] := List.drop_eq_nil_of_le (by omega)
    refine ⟨δ, S, ?_, by have : i = xs.length := by omega
                         rwa [this] at hp⟩
    rw [e]
    show forL tf fb g [] δ S = _
    unfold forL
    rw [if_pos (hg _ _ _ hp)]
  | succ k ih =>
    intro i δ S hi hp
    have hlt : i < xs.length := by omega
    obtain ⟨δ1, S1, δ2, S2, h1, h2, h3⟩ := h i hlt δ S hp
    obtain ⟨δ', S', e, hf⟩ := ih (i + 1) δ2 S2 (by omega) h3
    refine ⟨δ', S', ?_, hf⟩
    rw [List.drop_eq_getElem_cons hlt]
    show forL tf fb g (wf xs[i] :: (xs.drop (i + 1)).map wf) δ S = _
    unfold forL
    rw [if_pos (hg _ _ _ hp)]
    simp only [h1, h2]
    exact e
theorem dFor_invG {α : Type} {fi : FI} {tf : Tg} {fb : FS} {g : Grd} {wf : α → W} {P : Nat → DEnv → Store → Prop} {xs : List α} {δ : DEnv} {S S0 : Store} (hi : fi δ S = some (.ok (xs.map wf, g), S0)) (hg : ∀ i δ S, P i δ S → okG g S)
    (h : ∀ (i : Nat) (hi : i < xs.length) (δ : DEnv) (S : Store), P i δ S → ∃ δ1 S1 δ2 S2, tf (wf xs[i]) δ S = some (δ1, S1) ∧ fb δ1 S1 = some (.ok (.nx δ2), S2) ∧ P (i + 1) δ2 S2) (h0 : P 0 δ S0) :
    ∃ δ' S', dFor fi tf fb δ S = some (.ok (.nx δ'), S') ∧ P xs.length δ' S' := by
  obtain ⟨δ', S', e, hp⟩ := forL_invG (tf := tf) (fb := fb) (wf := wf) hg h xs.length 0 δ S0 (by omega) h0
  refine ⟨δ', S', ?_, hp⟩
  unfold dFor
  rw [hi, sE_ok]
  exact e
section
variable (C : Str → Addr) {n : Nat} {T : Store}
theorem notIn_o {a : Nat} {o : List Nat} (S : Store) : oNotInTp (.d (.int (a : Int))) (.d (oD o)) S = some (.ok (.d (.bl (!decide (a ∈ o)))), S) := by
  have e1 : toPs (o.map fun a : Nat => D.int (a : Int)) = some (o.map fun a : Nat => PyData.int (a : Int)) := by
    induction o with
    | nil => rfl
    | cons x xs ih => rw [List.map_cons, toPs, ih]; rfl
  have e2 : toP (.int (a : Int)) = some (.int (a : Int)) := by rw [toP]
  have e3 : SeqAt.shaped (.int (a : Int)) = true := by simp [SeqAt.shaped, PyData.canLay0, PyData.depth]
  have e4 : SeqAt.shaped (.tuple (o.map fun a : Nat => PyData.int (a : Int))) = true := by
    obtain ⟨p, h1, h2, h3, h4⟩ := pl_tup (n := 0) (ds := o.map fun a : Nat => D.int (a : Int)) fun d hd => by
      obtain ⟨k, _, rfl⟩ := List.mem_map.mp hd
      exact pl_int _
    rw [toP, e1] at h1
    have h1 : PyData.tuple (o.map fun a : Nat => PyData.int (a : Int)) = p := by simpa using h1
    subst h1
    unfold SeqAt.shaped
    rw [h2]
    simp
    omega
  have e5 : ((o.map fun a : Nat => PyData.int (a : Int)).any fun z => PyData.eqv z (.int (a : Int))) = decide (a ∈ o) := by
    apply Bool.eq_iff_iff.mpr
    rw [List.any_eq_true, decide_eq_true_iff]
    constructor
    · rintro ⟨z, hz, he⟩
      obtain ⟨k, hk, rfl⟩ := List.mem_map.mp hz
      have : (k : Int) = (a : Int) := by simpa [PyData.eqv] using he
      have : k = a := by omega
      rw [← this]; exact hk
    · intro h
      exact ⟨_, List.mem_map.mpr ⟨a, h, rfl⟩, by simp [PyData.eqv]⟩
  unfold oNotInTp oD
  simp only [e1, e2, e5]
  rw [if_pos ⟨e3, e4⟩]
theorem take_flat {α β : Type} {g : α → List β} {xs : List α} {i : Nat} (h : i < xs.length) : (xs.take (i + 1)).flatMap g = (xs.take i).flatMap g ++ g xs[i] := by
  rw [List.take_succ_eq_append_getElem h, List.flatMap_append]
  simp
theorem take_few {α β : Type} {g : α → List β} {xs : List α} {i : Nat} : ((xs.take i).flatMap g).length ≤ (xs.flatMap g).length := by
  conv => rhs; rw [← List.take_append_drop i xs, List.flatMap_append, List.length_append]
  omega
theorem orders_in {p : List Nat × Int} {pre : List (List Nat × Int)} {w1 : W} {x2 x6 x7 x8 : Option W} (hn : n ≤ 10) (hp : p.1.length ≤ 10) (hs : p.2 = 1 ∨ p.2 = -1) (hl : pre.length + ((List.range n).flatMap (stepO n p)).length ≤ 1000) :
    ∃ y6 y7 y8, b_b__law_orders_1_1 C [some (.d (.int (n : Int))), some w1, x2, some (.loc T.length), some (.d (oD p.1)), some (.d (.int p.2)), x6, x7, x8] (T ++ [.lst (osW pre)]) = some (.ok (.nx [some (.d (.int (n : Int))), some w1, x2, some (.loc T.length), some (.d (oD p.1)), some (.d (.int p.2)), y6, y7, y8]), T ++ [.lst (osW (pre ++ (List.range n).flatMap (stepO n p)))]) := by
  obtain ⟨δ', S', e, y6, y7, y8, rfl, rfl⟩ := dFor_invS (wf := fun k : Nat => W.d (.int (k : Int))) (xs := List.range n) (fi := dIt oRng1 (aCons (dVar 0) (aNil))) (tf := tgN 6)
    (fb := sIf (dB (d2 oNotInTp (dVar 6) (dVar 4))) (sSeq (sSet 7 (dCB (b1 oLen) (aCons (dLc lcF (dSeq (dVar 4)) (tgN 8) (dB (d2 oGt (dVar 8) (dVar 6))) (dVar 8) [8]) (aNil))))
    (sDrop (dApp (dVar 3) (dTup (aCons (d2 oCat (dVar 4) (dTup (aCons (dVar 6) (aNil)))) (aCons (d2 oMul (dVar 5) (d2 oSub (dC (.int 1)) (d2 oMul (dC (.int 2)) (d2 oMod (dCB (b1 oInt) (aCons (dVar 7) (aNil))) (dC (.int 2)))))) (aNil))))))) (sNx))
    (P := fun a δ S' => ∃ y6 y7 y8, δ = [some (.d (.int (n : Int))), some w1, x2, some (.loc T.length), some (.d (oD p.1)), some (.d (.int p.2)), y6, y7, y8] ∧ S' = T ++ [.lst (osW (pre ++ ((List.range n).take a).flatMap (stepO n p)))])
    (δ := [some (.d (.int (n : Int))), some w1, x2, some (.loc T.length), some (.d (oD p.1)), some (.d (.int p.2)), x6, x7, x8]) (S := T ++ [.lst (osW pre)]) (S0 := T ++ [.lst (osW pre)]) (by
      have rr := oRng1_nat (S := T ++ [.lst (osW pre)]) (n := n) (by omega)
      walk_at "evh") (by
    rintro i hi δ S' ⟨y6, y7, y8, rfl, rfl⟩
    have ei : (List.range n)[i] = i := by simp
    have hle := take_few (g := stepO n p) (xs := List.range n) (i := i)
    rw [take_flat hi, ei, ← List.append_assoc]
    generalize hq : pre ++ ((List.range n).take i).flatMap (stepO n p) = q
    have ql : q.length ≤ 1000 := by rw [← hq, List.length_append]; omega
    have ni := notIn_o (a := i) (o := p.1) (T ++ [.lst (osW q)])
    by_cases hm : i ∈ p.1
    · rw [decide_eq_true hm] at ni
      have es : stepO n p i = [] := by unfold stepO; rw [if_pos hm]
      rw [es, List.append_nil]
      refine ⟨[some (.d (.int (n : Int))), some w1, x2, some (.loc T.length), some (.d (oD p.1)), some (.d (.int p.2)), some (.d (.int (i : Int))), y7, y8], T ++ [.lst (osW q)], [some (.d (.int (n : Int))), some w1, x2, some (.loc T.length), some (.d (oD p.1)), some (.d (.int p.2)), some (.d (.int (i : Int))), y7, y8], T ++ [.lst (osW q)], rfl, ?_, _, _, _, rfl, rfl⟩
      clear hs hl hq hle ql es
      walk_at "evh"
    · rw [decide_eq_false hm] at ni
      have es : stepO n p i = [(p.1 ++ [i], p.2 * sI p.1 i)] := by unfold stepO; rw [if_neg hm]
      rw [es]
      have lc : dLc lcF (dSeq (dVar 4)) (tgN 8) (dB (d2 oGt (dVar 8) (dVar 6))) (dVar 8) [8] [some (.d (.int (n : Int))), some w1, x2, some (.loc T.length), some (.d (oD p.1)), some (.d (.int p.2)), some (.d (.int (i : Int))), y7, y8] (T ++ [.lst (osW q)]) = some (.ok (.d (.lst ((p.1.filter fun b => decide (b > i)).map fun a : Nat => .int (a : Int)))), T ++ [.lst (osW q)]) := by
        have := dLc_filter (fin := lcF) (q := fun b : Nat => decide (b > i)) (wf := fun b : Nat => W.d (.int (b : Int))) (f := fun b : Nat => W.d (.int (b : Int))) (xs := p.1) (fi := dSeq (dVar 4)) (tf := tgN 8) (ft := dB (d2 oGt (dVar 8) (dVar 6))) (fe := dVar 8) (vs := [8]) (δ := [some (.d (.int (n : Int))), some w1, x2, some (.loc T.length), some (.d (oD p.1)), some (.d (.int p.2)), some (.d (.int (i : Int))), y7, y8]) (S := T ++ [.lst (osW q)]) (by
          rw [dSeq_tup (ds := p.1.map fun a : Nat => .int (a : Int)) (S1 := T ++ [.lst (osW q)]) rfl, List.map_map]
          rfl) (by omega) fun b hb => by
          have d1 : decide ((b : Int) > (i : Int)) = decide (b > i) := decide_eq_decide.mpr (by omega)
          have d2 : decide ((i : Int) < (b : Int)) = decide (b > i) := decide_eq_decide.mpr (by omega)
          refine ⟨[some (.d (.int (n : Int))), some w1, x2, some (.loc T.length), some (.d (oD p.1)), some (.d (.int p.2)), some (.d (.int (i : Int))), y7, some (.d (.int (b : Int)))], rfl, ?_, fun _ => ?_⟩
          · clear hs hl hq hle ql es ni
            walk_at "evh"
          · clear hs hl hq hle ql es ni
            walk_at "evh"
        rw [this]
        unfold lcF
        have e : ((p.1.filter fun b => decide (b > i)).map fun b : Nat => W.d (.int (b : Int))) = ((p.1.filter fun b => decide (b > i)).map fun a : Nat => D.int (a : Int)).map W.d := by rw [List.map_map]; rfl
        rw [e, pure?_map]
      have ln : oLen (.d (.lst ((p.1.filter fun b => decide (b > i)).map fun a : Nat => .int (a : Int)))) (T ++ [.lst (osW q)]) = some (.ok (.d (.int ((p.1.filter fun b => decide (b > i)).length : Int))), T ++ [.lst (osW q)]) := by rw [len_lst]; simp
      have fl : ((p.1.filter fun b => decide (b > i)).length : Int) ≤ 10 := by have := List.length_filter_le (fun b => decide (b > i)) p.1; omega
      have sv : p.2 * (1 - 2 * (((p.1.filter fun b => decide (b > i)).length : Int) % 2)) = p.2 * sI p.1 i := rfl
      generalize hz : ((p.1.filter fun b => decide (b > i)).length : Int) = z at *
      generalize ((p.1.filter fun b => decide (b > i)).map fun a : Nat => D.int (a : Int)) = zs at *
      have c1 : CMulW 2 (z % 2) := (show Bd 2 2 by decide).mulOk (bd_nn (n := 2) (by omega) (by omega))
      have c2 : CMulW p.2 (1 - 2 * (z % 2)) := by
        have h1 : Bd 2 p.2 := by unfold Bd; omega
        have h2 : Bd 2 (1 - 2 * (z % 2)) := by unfold Bd; omega
        exact h1.mulOk h2
      have cc : ∀ S, oCat (.d (oD p.1)) (.d (.tup [.int (i : Int)])) S = some (.ok (.d (oD (p.1 ++ [i]))), S) := fun S => by
        unfold oCat oD
        dsimp only
        rw [if_pos (Nat.le_trans (show _ ≤ 1000 by simp; omega) (by decide)), List.map_append]
        rfl
      have ap := app_last (T := T) (ws := osW q) (w := W.d (encO (p.1 ++ [i], p.2 * sI p.1 i))) (by simp [osW]; omega)
      have e3 : osW q ++ [W.d (encO (p.1 ++ [i], p.2 * sI p.1 i))] = osW (q ++ [(p.1 ++ [i], p.2 * sI p.1 i)]) := by simp [osW]
      rw [e3] at ap
      have il : isLst (T ++ [.lst (osW q)]) T.length = true := by simp [isLst]
      have fe : (dTup (aCons (d2 oCat (dVar 4) (dTup (aCons (dVar 6) (aNil)))) (aCons (d2 oMul (dVar 5) (d2 oSub (dC (.int 1)) (d2 oMul (dC (.int 2)) (d2 oMod (dCB (b1 oInt) (aCons (dVar 7) (aNil))) (dC (.int 2)))))) (aNil)))) [some (.d (.int (n : Int))), some w1, x2, some (.loc T.length), some (.d (oD p.1)), some (.d (.int p.2)), some (.d (.int (i : Int))), some (.d (.int z)), y8] (T ++ [.lst (osW q)]) = some (.ok (.d (encO (p.1 ++ [i], p.2 * sI p.1 i))), T ++ [.lst (osW q)]) := by
        unfold encO
        rw [← sv]
        clear hs hl hq hle ql es ni lc ap il e3 sv hz fl
        walk_at "evh"
      have da := (dApp_loc (fo := dVar 3) (n := T.length) rfl il fe).trans ap
      refine ⟨[some (.d (.int (n : Int))), some w1, x2, some (.loc T.length), some (.d (oD p.1)), some (.d (.int p.2)), some (.d (.int (i : Int))), y7, y8], T ++ [.lst (osW q)], [some (.d (.int (n : Int))), some w1, x2, some (.loc T.length), some (.d (oD p.1)), some (.d (.int p.2)), some (.d (.int (i : Int))), some (.d (.int z)), y8], T ++ [.lst (osW (q ++ [(p.1 ++ [i], p.2 * sI p.1 i)]))], rfl, ?_, _, _, _, rfl, rfl⟩
      clear hs hl hq hle ql es fe ap il e3 sv hz fl c1 c2 cc
      walk_at "evh") ⟨x6, x7, x8, rfl, by simp⟩
  rw [List.length_range, show (List.range n).take n = List.range n from List.take_of_length_le (by simp)] at e
  exact ⟨y6, y7, y8, e⟩
theorem osW_len {xs : List (List Nat × Int)} : osW xs = (xs.map encO).map W.d := by rw [List.map_map]; rfl
theorem orders_mid {os : List (List Nat × Int)} {w1 : W} {tt : Bool} {g : Grd} {x2 x4 x5 x6 x7 x8 : Option W} (hn : n ≤ 10) (ho : ∀ p ∈ os, p.1.length ≤ 10 ∧ (p.2 = 1 ∨ p.2 = -1)) (hl : (os.flatMap fun p => (List.range n).flatMap (stepO n p)).length ≤ 1000)
    (hw : itW (T ++ [.lst []]) w1 = some (tt, osW os, g)) (hg : ∀ X, okG g (T ++ X)) :
    ∃ y4 y5 y6 y7 y8, l_b__law_orders_1_1 C [some (.d (.int (n : Int))), some w1, x2, some (.loc T.length), x4, x5, x6, x7, x8] (T ++ [.lst []]) = some (.ok (.nx [some (.d (.int (n : Int))), some w1, x2, some (.loc T.length), y4, y5, y6, y7, y8]), T ++ [.lst (osW (os.flatMap fun p => (List.range n).flatMap (stepO n p)))]) := by
  obtain ⟨δ', S', e, y4, y5, y6, y7, y8, rfl, rfl⟩ := dFor_invG (g := g) (wf := fun p => W.d (encO p)) (xs := os) (fi := dSeq (dVar 1)) (tf := tgT 2 (tgCons (tgN 4) (tgCons (tgN 5) (tgNil)))) (fb := b_b__law_orders_1_1 C)
    (P := fun i δ S' => ∃ y4 y5 y6 y7 y8, δ = [some (.d (.int (n : Int))), some w1, x2, some (.loc T.length), y4, y5, y6, y7, y8] ∧ S' = T ++ [.lst (osW ((os.take i).flatMap fun p => (List.range n).flatMap (stepO n p)))])
    (δ := [some (.d (.int (n : Int))), some w1, x2, some (.loc T.length), x4, x5, x6, x7, x8]) (S := T ++ [.lst []]) (S0 := T ++ [.lst []]) (by
      unfold dSeq
      have : dVar 1 [some (.d (.int (n : Int))), some w1, x2, some (.loc T.length), x4, x5, x6, x7, x8] (T ++ [.lst []]) = some (.ok w1, T ++ [.lst []]) := rfl
      rw [this, bind_ok, hw]) (by
    rintro i δ S' ⟨y4, y5, y6, y7, y8, rfl, rfl⟩
    exact hg _) (by
    rintro i hi δ S' ⟨y4, y5, y6, y7, y8, rfl, rfl⟩
    have hle := take_few (g := fun p => (List.range n).flatMap (stepO n p)) (xs := os) (i := i + 1)
    rw [take_flat hi] at hle ⊢
    rw [List.length_append] at hle
    obtain ⟨z6, z7, z8, e⟩ := orders_in C (T := T) (n := n) (p := os[i]) (pre := (os.take i).flatMap fun p => (List.range n).flatMap (stepO n p)) (w1 := w1) (x2 := x2) (x6 := y6) (x7 := y7) (x8 := y8) hn (ho _ (List.getElem_mem hi)).1 (ho _ (List.getElem_mem hi)).2 (by omega)
    exact ⟨_, _, _, _, rfl, e, _, _, _, _, _, rfl, rfl⟩) ⟨x4, x5, x6, x7, x8, rfl, by simp⟩
  rw [List.take_length] at e
  exact ⟨y4, y5, y6, y7, y8, e⟩
theorem giveS_at {S S1 : Store} {ds : List D} {k : Nat} (hk : S.length ≤ k) (e : S1[k]? = some (.lst (ds.map W.d))) (hkeep : keepOk S S1) : giveS S (.loc k) S1 = some (.ok (.d (.lst ds)), S1.take S.length) := by
  unfold giveS
  rw [if_pos hkeep]
  unfold giveW
  dsimp only
  rw [if_neg (by omega), e]
  dsimp only
  rw [frz2_map]
  rfl
theorem e_law_orders {S : Store} (n1 : 1 ≤ n) (hn : n ≤ 5) : g__law_orders C [.d (.int (n : Int))] S = some (.ok (.d (.lst ((ords n n).map encO))), S) := by
  obtain ⟨δ', S', e, w, x2, x3, x4, x5, x6, x7, x8, G, rfl, rfl, ⟨tt, g, h1, h2⟩, h3⟩ := dFor_invS (wf := fun k : Nat => W.d (.int (k : Int))) (xs := List.range n) (fi := dIt oRng1 (aCons (dVar 0) (aNil))) (tf := tgN 2) (fb := b__law_orders_1 C)
    (P := fun t δ S' => ∃ w x2 x3 x4 x5 x6 x7 x8 G, δ = [some (.d (.int (n : Int))), some w, x2, x3, x4, x5, x6, x7, x8] ∧ S' = S ++ G ∧ (∃ tt g, (∀ X, itW (S ++ G ++ X) w = some (tt, osW (ords n t), g)) ∧ ∀ X, okG g (S ++ G ++ X)) ∧ (0 < t → ∃ k, w = .loc k ∧ S.length ≤ k ∧ (S ++ G)[k]? = some (.lst (osW (ords n t)))))
    (δ := [some (.d (.int (n : Int))), some (.d (.lst [encO ([], 1)])), none, none, none, none, none, none, none]) (S := S) (S0 := S) (by
      have rr := oRng1_nat (S := S) (n := n) (by omega)
      walk_at "evh") (by
    rintro t ht δ S' ⟨w, x2, x3, x4, x5, x6, x7, x8, G, rfl, rfl, ⟨tt, g, h1, h2⟩, _⟩
    have ht' : t < n := by simpa using ht
    have et : (List.range n)[t] = t := by simp
    rw [et]
    have few := ords_few n (by omega) (t + 1) (by omega)
    obtain ⟨y4, y5, y6, y7, y8, e⟩ := orders_mid C (n := n) (T := S ++ G) (os := ords n t) (w1 := w) (tt := tt) (g := g) (x2 := some (.d (.int (t : Int)))) (x4 := x4) (x5 := x5) (x6 := x6) (x7 := x7) (x8 := x8) (by omega) (fun p hp => by
      have k := ords_ok p hp
      exact ⟨by rw [k.len]; omega, k.pm⟩) (by
      have : (ords n (t + 1)).length ≤ 120 := few
      rw [ords] at this
      omega) (h1 _) h2
    have e9 : ((ords n t).flatMap fun p => (List.range n).flatMap (stepO n p)) = ords n (t + 1) := rfl
    rw [e9] at e
    have ml : mkLoc [] (S ++ G) = some (.ok (.loc (S ++ G).length), S ++ G ++ [.lst []]) := rfl
    have s1 : sSet 3 (dLoc aNil) [some (.d (.int (n : Int))), some w, some (.d (.int (t : Int))), x3, x4, x5, x6, x7, x8] (S ++ G) = some (.ok (.nx [some (.d (.int (n : Int))), some w, some (.d (.int (t : Int))), some (.loc (S ++ G).length), x4, x5, x6, x7, x8]), S ++ G ++ [.lst []]) := set_step (i := 3) ml
    have hx : ∀ X : Store, (S ++ G ++ [M.lst (osW (ords n (t + 1)))] ++ X)[(S ++ G).length]? = some (.lst (osW (ords n (t + 1)))) := fun X => by
      rw [List.append_assoc, List.getElem?_append_right (Nat.le_refl _), Nat.sub_self]
      rfl
    have key : b__law_orders_1 C [some (.d (.int (n : Int))), some w, some (.d (.int (t : Int))), x3, x4, x5, x6, x7, x8] (S ++ G) = some (.ok (.nx [some (.d (.int (n : Int))), some (.loc (S ++ G).length), some (.d (.int (t : Int))), some (.loc (S ++ G).length), y4, y5, y6, y7, y8]), S ++ G ++ [.lst (osW (ords n (t + 1)))]) := by
      rw [parts_b__law_orders_1]
      unfold p_b__law_orders_1_0 p_b__law_orders_1_1 p_b__law_orders_1_2
      rw [sSeq_eq, s1, bnd_nx, sSeq_eq, e, bnd_nx]
      exact set_step (i := 1) rfl
    refine ⟨[some (.d (.int (n : Int))), some w, some (.d (.int (t : Int))), x3, x4, x5, x6, x7, x8], S ++ G, [some (.d (.int (n : Int))), some (.loc (S ++ G).length), some (.d (.int (t : Int))), some (.loc (S ++ G).length), y4, y5, y6, y7, y8], S ++ G ++ [.lst (osW (ords n (t + 1)))], rfl, key, .loc (S ++ G).length, _, _, _, _, _, _, _, G ++ [.lst (osW (ords n (t + 1)))], rfl, by rw [List.append_assoc], ⟨false, some ((S ++ G).length, .lst (osW (ords n (t + 1)))), fun X => ?_, fun X => ?_⟩, fun _ => ⟨_, rfl, by simp, ?_⟩⟩
    · rw [← List.append_assoc S G]
      unfold itW
      dsimp only
      rw [hx]
    · rw [← List.append_assoc S G]
      exact okG_some.mpr (hx X)
    · have := hx []
      rw [List.append_nil] at this
      rw [← List.append_assoc S G]
      exact this) ⟨.d (.lst [encO ([], 1)]), none, none, none, none, none, none, none, [], rfl, by simp, ⟨false, none, fun X => rfl, fun X => okG_no⟩, fun h => absurd h (by omega)⟩
  rw [List.length_range] at h3
  obtain ⟨k, rfl, hk, ek⟩ := h3 (by omega)
  rw [osW_len] at ek
  have gv := giveS_at hk ek keepOk_app
  rw [List.take_left] at gv
  have lo : l__law_orders_1 C [some (.d (.int (n : Int))), some (.d (.lst [encO ([], 1)])), none, none, none, none, none, none, none] S = _ := e
  have e0 : D.lst [.tup [.tup [], .int 1]] = D.lst [encO ([], 1)] := rfl
  have m0 : mkTup [] S = some (.ok (.d (.tup [])), S) := rfl
  have m1 : mkLst [.d (.tup [.tup [], .int 1])] S = some (.ok (.d (.lst [encO ([], 1)])), S) := rfl
  rw [q__law_orders, parts__law_orders]
  unfold p__law_orders_0 p__law_orders_1 p__law_orders_2
  clear h1 h2 h3 ek hk e
  walk_at "evh"
end
end P52
set_option Elab.async false
set_option linter.all false
set_option maxRecDepth 100000
set_option maxHeartbeats 1000000
namespace P52
open PySem L2 DL
local macro_rules | `(tactic| walk_at "ev") => `(tactic| simp (config := { decide := false, implicitDefEqProofs := false }) only [bind_ok, bind_err, sE_ok, sE_err, bnd_nx, bnd_rt, bnd_bk, bnd_ct, bnd_err, sSeq_eq, dEnd_rt, dEnd_nx, dEnd_err, giveS_d, giveS_dA, giveS_nil,
  dVar, dC, d2, d1, dB, dChain, dAnd, dOr, dNot, dTru, dAndV, dOrV, dNotV, dIf, aNil, aCons, dTup, dLst, dLoc, dCall, dCB, b1, dIt, sNx, sBk, sCt, sRet, sRetN, sDrop, sSet, sIf, sPar, truth_bl, asB_bl, oI0_eq, oIsi, ty_int, ty_bl, ty_str, ty_non, ty_tup, ty_lst, isi_ii, isi_ib, isi_it, isi_tt, isi_ti, isi_tb,
  oAbs, oInt, oNeg, oEq_int, oNe_int, dFld, dSl, dPt, dNoPt, asPt_int, isN_non, isN_tup, isN_U, notN_non, notN_tup, notN_U, dMake, sFldPut,
  List.map_cons, List.map_nil, List.length_cons, List.length_nil, List.getElem?_cons_zero, List.getElem?_cons_succ, List.set_cons_zero, List.set_cons_succ, List.cons_append, List.nil_append, List.append_nil, Nat.reduceAdd, Nat.reduceSub, Nat.zero_add, if_true, if_false, Bool.not_true, Bool.not_false, Bool.false_eq_true, reduceIte, List.replicate_zero, List.replicate_succ, Nat.sub_self, beq_self_eq_true, Int.reduceLT, Int.reduceLE, Int.reduceAdd, Int.reduceSub, Int.reduceMul, Int.reduceNeg, Int.reducePow, Int.reduceToNat, Int.reduceEq, Int.reduceBEq, decide_true, decide_false, mkTup1, mkTup2, mkTup3, mkLst2, mkLst5, ix20, ix21, ixF0, ixF1, len_tup, len_lst, lenF, tyF, lenU, tyU, oEqF, oEqU, oNeU, zipU, tgN, tgT, tgCons, tgNil, wipeE, Option.bind_some, tuple_lst, list_lst, st0, st1, st2, st3, se1, se2, se3, giveS_st, tgIx, sAsg, Option.map_some, oMod_eq, isi_int', isi_bl', isi_str', isi_non', isi_tup', isi_lst', isi_dct', isi_U', isi_F', isi_ins', tc_int, tc_bool, tc_tuple, ty_dct, isi_bi, isi_bb, isi_bt, isi_si, isi_sb, isi_st, isi_ni, isi_nb, isi_nt, isi_li, isi_lb, isi_lt, isi_di, isi_db, isi_dt, sRaise, dDct, mkLoc2, mkLoc7, mkLoc8, mkLoc9, mkLoc11, mkLoc17, mkLoc25, mkLoc32, oCatL, mkTup4, mkLst4, eqs_plus_plus, eqs_plus_times, eqs_plus_turned, eqs_plus_beside, eqs_plus_above, eqs_plus_piece, eqs_plus_star, nes_plus, eqs_times_plus, eqs_times_times, eqs_times_turned, eqs_times_beside, eqs_times_above, eqs_times_piece, eqs_times_star, nes_times, eqs_turned_plus, eqs_turned_times, eqs_turned_turned, eqs_turned_beside, eqs_turned_above, eqs_turned_piece, eqs_turned_star, nes_turned, eqs_beside_plus, eqs_beside_times, eqs_beside_turned, eqs_beside_beside, eqs_beside_above, eqs_beside_piece, eqs_beside_star, nes_beside, eqs_above_plus, eqs_above_times, eqs_above_turned, eqs_above_beside, eqs_above_above, eqs_above_piece, eqs_above_star, nes_above, eqs_piece_plus, eqs_piece_times, eqs_piece_turned, eqs_piece_beside, eqs_piece_above, eqs_piece_piece, eqs_piece_star, nes_piece, sh_0, sh_1, tg_sh, max_sh, isN_sh, notN_sh, sAugIx, isi_N', isi_Row', isi_R', hd0, hd1, hd2, hd3, hd4, hs1, hs2, hs3, hs4, giveS_hnd, dTupF, giveS_dA])
local macro_rules | `(tactic| walk_at "evh") => `(tactic| simp (config := { decide := false, implicitDefEqProofs := false }) only [bind_ok, bind_err, sE_ok, sE_err, bnd_nx, bnd_rt, bnd_bk, bnd_ct, bnd_err, sSeq_eq, dEnd_rt, dEnd_nx, dEnd_err, giveS_d, giveS_dA, giveS_nil,
  dVar, dC, d2, d1, dB, dChain, dAnd, dOr, dNot, dTru, dAndV, dOrV, dNotV, dIf, aNil, aCons, dTup, dLst, dLoc, dCall, dCB, b1, dIt, sNx, sBk, sCt, sRet, sRetN, sDrop, sSet, sIf, sPar, truth_bl, asB_bl, oI0_eq, oIsi, ty_int, ty_bl, ty_str, ty_non, ty_tup, ty_lst, isi_ii, isi_ib, isi_it, isi_tt, isi_ti, isi_tb,
  oAbs, oInt, oNeg, oEq_int, oNe_int, dFld, dSl, dPt, dNoPt, asPt_int, isN_non, isN_tup, isN_U, notN_non, notN_tup, notN_U, dMake, sFldPut,
  List.map_cons, List.map_nil, List.length_cons, List.length_nil, List.getElem?_cons_zero, List.getElem?_cons_succ, List.set_cons_zero, List.set_cons_succ, List.cons_append, List.nil_append, List.append_nil, Nat.reduceAdd, Nat.reduceSub, Nat.zero_add, if_true, if_false, Bool.not_true, Bool.not_false, Bool.false_eq_true, reduceIte, List.replicate_zero, List.replicate_succ, Nat.sub_self, beq_self_eq_true, Int.reduceLT, Int.reduceLE, Int.reduceAdd, Int.reduceSub, Int.reduceMul, Int.reduceNeg, Int.reducePow, Int.reduceToNat, Int.reduceEq, Int.reduceBEq, decide_true, decide_false, mkTup1, mkTup2, mkTup3, mkLst2, mkLst5, ix20, ix21, ixF0, ixF1, len_tup, len_lst, lenF, tyF, lenU, tyU, oEqF, oEqU, oNeU, zipU, tgN, tgT, tgCons, tgNil, wipeE, Option.bind_some, tuple_lst, list_lst, st0, st1, st2, st3, se1, se2, se3, giveS_st, tgIx, sAsg, Option.map_some, oMod_eq, isi_int', isi_bl', isi_str', isi_non', isi_tup', isi_lst', isi_dct', isi_U', isi_F', isi_ins', tc_int, tc_bool, tc_tuple, ty_dct, isi_bi, isi_bb, isi_bt, isi_si, isi_sb, isi_st, isi_ni, isi_nb, isi_nt, isi_li, isi_lb, isi_lt, isi_di, isi_db, isi_dt, sRaise, dDct, mkLoc2, mkLoc7, mkLoc8, mkLoc9, mkLoc11, mkLoc17, mkLoc25, mkLoc32, oCatL, mkTup4, mkLst4, eqs_plus_plus, eqs_plus_times, eqs_plus_turned, eqs_plus_beside, eqs_plus_above, eqs_plus_piece, eqs_plus_star, nes_plus, eqs_times_plus, eqs_times_times, eqs_times_turned, eqs_times_beside, eqs_times_above, eqs_times_piece, eqs_times_star, nes_times, eqs_turned_plus, eqs_turned_times, eqs_turned_turned, eqs_turned_beside, eqs_turned_above, eqs_turned_piece, eqs_turned_star, nes_turned, eqs_beside_plus, eqs_beside_times, eqs_beside_turned, eqs_beside_beside, eqs_beside_above, eqs_beside_piece, eqs_beside_star, nes_beside, eqs_above_plus, eqs_above_times, eqs_above_turned, eqs_above_beside, eqs_above_above, eqs_above_piece, eqs_above_star, nes_above, eqs_piece_plus, eqs_piece_times, eqs_piece_turned, eqs_piece_beside, eqs_piece_above, eqs_piece_piece, eqs_piece_star, nes_piece, sh_0, sh_1, tg_sh, max_sh, isN_sh, notN_sh, sAugIx, isi_N', isi_Row', isi_R', hd0, hd1, hd2, hd3, hd4, hs1, hs2, hs3, hs4, giveS_hnd, dTupF, giveS_dA, oMul_eq, oDiv_eq, oPow_eq, *])
section
variable (C : Str → Addr) {n : Nat} {S : Store} {A : Mat}
theorem encQ_int (s : Int) : encQ ((s : Int) : Rat) = .tup [.int s, .int 1] := by
  unfold encQ fq encF
  rw [Rat.num_intCast, Rat.den_intCast]
  rfl
theorem mat_row {m i : Nat} (hi : i < n) (T : Store) : oIx (.d (.tup (matT A n m))) (.d (.int (i : Int))) T = some (.ok (.d (rowT A m i)), T) := by
  have e : atI ((matT A n m).map W.d) (i : Int) = some (W.d (rowT A m i)) := atI_nat (by
    have h0 : (List.range n)[i]? = some i := List.getElem?_range hi
    simp [matT, h0])
  simp only [oIx, seqW, e]
theorem due_part {p : List Nat × Int} {x0 x1 x3 x5 x6 : Option W} (hn : n ≤ 5) (hA : ∀ i, i < n → ∀ j, j < n → QB 10 (A i j)) (hl : p.1.length = n) (hlt : ∀ x ∈ p.1, x < n) (hs : p.2 = 1 ∨ p.2 = -1) :
    ∃ y5 y6, dFor (dIt oEnum (aCons (dVar 2) (aNil))) (tgT 2 (tgCons (tgN 5) (tgCons (tgN 6) (tgNil)))) (sSet 4 (dCall 2 (g__law_times C) (aCons (dVar 4) (aCons (d2 oIx (d2 oIx (dVar 0) (dVar 5)) (dVar 6)) (aNil))))) [some (.d (.tup (matT A n n))), x1, some (.d (oD p.1)), x3, some (.d (.tup [.int p.2, .int 1])), x5, x6] S = some (.ok (.nx [some (.d (.tup (matT A n n))), x1, some (.d (oD p.1)), x3, some (.d (encQ (tmO A n p))), y5, y6]), S) ∧ QB 51 (tmO A n p) := by
  have q0 : QB 1 ((p.2 : Int) : Rat) := by
    refine ⟨?_, ?_⟩
    · rw [Rat.num_intCast]; unfold Bd; omega
    · rw [Rat.den_intCast]; decide
  obtain ⟨δ', e, y5, y6, rfl, hq⟩ := dFor_inv (S := S) (wf := fun z : Nat × Nat => W.d (.tup [.int (z.2 : Int), .int (z.1 : Int)])) (xs := p.1.zipIdx) (fi := dIt oEnum (aCons (dVar 2) (aNil))) (tf := tgT 2 (tgCons (tgN 5) (tgCons (tgN 6) (tgNil))))
    (fb := sSet 4 (dCall 2 (g__law_times C) (aCons (dVar 4) (aCons (d2 oIx (d2 oIx (dVar 0) (dVar 5)) (dVar 6)) (aNil)))))
    (P := fun k δ => ∃ y5 y6, δ = [some (.d (.tup (matT A n n))), x1, some (.d (oD p.1)), x3, some (.d (encQ ((p.2 : Rat) * prT A p.1 k))), y5, y6] ∧ QB (1 + k * 10) ((p.2 : Rat) * prT A p.1 k))
    (δ := [some (.d (.tup (matT A n n))), x1, some (.d (oD p.1)), x3, some (.d (.tup [.int p.2, .int 1])), x5, x6]) (by
      have en := enum_enc (S := S) (fun a : Nat => D.int (a : Int)) p.1
      have en' : oEnum [.d (oD p.1)] S = some (.ok ((p.1.zipIdx).map fun z => W.d (.tup [.int (z.2 : Int), .int (z.1 : Int)]), none), S) := en
      clear en hA hlt hs q0
      walk_at "evh") (by
    rintro k hk δ ⟨y5, y6, rfl, hq⟩
    have hk' : k < p.1.length := by simpa using hk
    have ez : p.1.zipIdx[k] = (p.1[k], k) := by simp
    rw [ez]
    have i1 := mat_row (A := A) (n := n) (m := n) (i := k) (by omega) S
    have i2 := rowT_ix (A := A) (m := n) (i := k) (j := p.1[k]) (S := S) (hlt _ (List.getElem_mem hk'))
    have qa := hA k (by omega) p.1[k] (hlt _ (List.getElem_mem hk'))
    have tm := e_law_times' C (S := S) hq.fr qa.fr (by omega) (by decide) (by omega)
    rw [ftimes_fq] at tm
    have ev : (p.2 : Rat) * prT A p.1 k * A k p.1[k] = (p.2 : Rat) * prT A p.1 (k + 1) := by
      have : p.1.getD k 0 = p.1[k] := by simp [List.getD_eq_getElem?_getD, List.getElem?_eq_getElem hk']
      rw [prT, this]
      grind
    rw [ev] at tm
    have tm' : g__law_times C [.d (encQ ((p.2 : Rat) * prT A p.1 k)), .d (encQ (A k p.1[k]))] S = some (.ok (.d (encQ ((p.2 : Rat) * prT A p.1 (k + 1)))), S) := tm
    have qn := hq.mul qa
    rw [ev] at qn
    refine ⟨[some (.d (.tup (matT A n n))), x1, some (.d (oD p.1)), x3, some (.d (encQ ((p.2 : Rat) * prT A p.1 k))), some (.d (.int (k : Int))), some (.d (.int (p.1[k] : Int)))], [some (.d (.tup (matT A n n))), x1, some (.d (oD p.1)), x3, some (.d (encQ ((p.2 : Rat) * prT A p.1 (k + 1)))), some (.d (.int (k : Int))), some (.d (.int (p.1[k] : Int)))], rfl, ?_, _, _, rfl, qn.up (by omega)⟩
    clear hA hlt hs q0 hq qa tm ev qn ez
    walk_at "evh") ⟨x5, x6, by
      have e1 : (p.2 : Rat) * prT A p.1 0 = (p.2 : Rat) := by rw [prT]; grind
      rw [e1, encQ_int], by
      have e1 : (p.2 : Rat) * prT A p.1 0 = (p.2 : Rat) := by rw [prT]; grind
      rw [e1]; exact q0.up (by omega)⟩
  rw [List.length_zipIdx, hl] at hq e
  exact ⟨y5, y6, e, hq.up (by omega)⟩
theorem e_law_due (n1 : 1 ≤ n) (hn : n ≤ 5) (hA : ∀ i, i < n → ∀ j, j < n → QB 10 (A i j)) : g__law_due C [.d (.tup (matT A n n))] S = some (.ok (.d (encQ (detQ n A))), S) := by
  have hl := matT_len (R := A) (n := n)
  have or := e_law_orders C (S := S) n1 hn
  have few : (ords n n).length ≤ 120 := ords_few n (by omega) n (by omega)
  obtain ⟨δ', e, y2, y3, y4, y5, y6, rfl, _⟩ := dFor_inv (S := S) (wf := fun p => W.d (encO p)) (xs := ords n n) (fi := dSeq (dCall 1 (g__law_orders C) (aCons (dCB (b1 oLen) (aCons (dVar 0) (aNil))) (aNil)))) (tf := tgT 2 (tgCons (tgN 2) (tgCons (tgN 3) (tgNil))))
    (fb := sSeq (sSet 4 (dTup (aCons (dVar 3) (aCons (dC (.int 1)) (aNil)))))
    (sSeq (dFor (dIt oEnum (aCons (dVar 2) (aNil))) (tgT 2 (tgCons (tgN 5) (tgCons (tgN 6) (tgNil)))) (sSet 4 (dCall 2 (g__law_times C) (aCons (dVar 4) (aCons (d2 oIx (d2 oIx (dVar 0) (dVar 5)) (dVar 6)) (aNil))))))
    (sSet 1 (dCall 2 (g__law_plus C) (aCons (dVar 1) (aCons (dVar 4) (aNil)))))))
    (P := fun i δ => ∃ y2 y3 y4 y5 y6, δ = [some (.d (.tup (matT A n n))), some (.d (encQ (sm i fun k => tmO A n ((ords n n).getD k ([], 1))))), y2, y3, y4, y5, y6] ∧ QB (1 + i * 52) (sm i fun k => tmO A n ((ords n n).getD k ([], 1))))
    (δ := [some (.d (.tup (matT A n n))), some (.d (encQ 0)), none, none, none, none, none]) (by
      rw [dSeq_lst (ds := (ords n n).map encO) (S1 := S) (by
        clear hA few
        walk_at "evh"), List.map_map]
      rfl) (by
    rintro i hi δ ⟨y2, y3, y4, y5, y6, rfl, hq⟩
    have k := ords_ok _ (List.getElem_mem hi)
    have eg : (ords n n).getD i ([], 1) = (ords n n)[i] := by simp [List.getD_eq_getElem?_getD, List.getElem?_eq_getElem hi]
    generalize hp : (ords n n)[i] = p at *
    obtain ⟨z5, z6, e1, q1⟩ := due_part C (S := S) (A := A) (p := p) (x0 := none) (x1 := some (.d (encQ (sm i fun k => tmO A n ((ords n n).getD k ([], 1)))))) (x3 := some (.d (.int p.2))) (x5 := y5) (x6 := y6) hn hA k.len k.lt k.pm
    have pl := e_law_plus' C (S := S) hq.fr q1.fr (by omega) (by decide) (by omega)
    rw [fplus_fq] at pl
    have es : (sm (i + 1) fun k => tmO A n ((ords n n).getD k ([], 1))) = (sm i fun k => tmO A n ((ords n n).getD k ([], 1))) + tmO A n p := by rw [sm, eg]
    have pl' : g__law_plus C [.d (encQ (sm i fun k => tmO A n ((ords n n).getD k ([], 1)))), .d (encQ (tmO A n p))] S = some (.ok (.d (encQ (sm (i + 1) fun k => tmO A n ((ords n n).getD k ([], 1))))), S) := by rw [es]; exact pl
    have qn := hq.add q1
    rw [← es] at qn
    refine ⟨[some (.d (.tup (matT A n n))), some (.d (encQ (sm i fun k => tmO A n ((ords n n).getD k ([], 1))))), some (.d (oD p.1)), some (.d (.int p.2)), y4, y5, y6], [some (.d (.tup (matT A n n))), some (.d (encQ (sm (i + 1) fun k => tmO A n ((ords n n).getD k ([], 1))))), some (.d (oD p.1)), some (.d (.int p.2)), some (.d (encQ (tmO A n p))), z5, z6], rfl, ?_, _, _, _, _, _, rfl, qn.up (by omega)⟩
    clear hA few hq k eg hp q1 pl es qn hl or
    walk_at "evh") ⟨none, none, none, none, none, rfl, (show QB 1 0 from ⟨by decide, by decide⟩).up (by omega)⟩
  rw [sm_sumL, ords_sum] at e
  have z0 : D.tup [.int 0, .int 1] = encQ 0 := rfl
  rw [q__law_due, F__law_due]
  clear hA few hl or
  walk_at "evh"
end
end P52
set_option Elab.async false
set_option linter.all false
set_option maxRecDepth 100000
set_option maxHeartbeats 1000000
namespace P52
open PySem L2 DL
local macro_rules | `(tactic| walk_at "ev") => `(tactic| simp (config := { decide := false, implicitDefEqProofs := false }) only [bind_ok, bind_err, sE_ok, sE_err, bnd_nx, bnd_rt, bnd_bk, bnd_ct, bnd_err, sSeq_eq, dEnd_rt, dEnd_nx, dEnd_err, giveS_d, giveS_dA, giveS_nil,
  dVar, dC, d2, d1, dB, dChain, dAnd, dOr, dNot, dTru, dAndV, dOrV, dNotV, dIf, aNil, aCons, dTup, dLst, dLoc, dCall, dCB, b1, dIt, sNx, sBk, sCt, sRet, sRetN, sDrop, sSet, sIf, sPar, truth_bl, asB_bl, oI0_eq, oIsi, ty_int, ty_bl, ty_str, ty_non, ty_tup, ty_lst, isi_ii, isi_ib, isi_it, isi_tt, isi_ti, isi_tb,
  oAbs, oInt, oNeg, oEq_int, oNe_int, dFld, dSl, dPt, dNoPt, asPt_int, isN_non, isN_tup, isN_U, notN_non, notN_tup, notN_U, dMake, sFldPut,
  List.map_cons, List.map_nil, List.length_cons, List.length_nil, List.getElem?_cons_zero, List.getElem?_cons_succ, List.set_cons_zero, List.set_cons_succ, List.cons_append, List.nil_append, List.append_nil, Nat.reduceAdd, Nat.reduceSub, Nat.zero_add, if_true, if_false, Bool.not_true, Bool.not_false, Bool.false_eq_true, reduceIte, List.replicate_zero, List.replicate_succ, Nat.sub_self, beq_self_eq_true, Int.reduceLT, Int.reduceLE, Int.reduceAdd, Int.reduceSub, Int.reduceMul, Int.reduceNeg, Int.reducePow, Int.reduceToNat, Int.reduceEq, Int.reduceBEq, decide_true, decide_false, mkTup1, mkTup2, mkTup3, mkLst2, mkLst5, ix20, ix21, ixF0, ixF1, len_tup, len_lst, lenF, tyF, lenU, tyU, oEqF, oEqU, oNeU, zipU, tgN, tgT, tgCons, tgNil, wipeE, Option.bind_some, tuple_lst, list_lst, st0, st1, st2, st3, se1, se2, se3, giveS_st, tgIx, sAsg, Option.map_some, oMod_eq, isi_int', isi_bl', isi_str', isi_non', isi_tup', isi_lst', isi_dct', isi_U', isi_F', isi_ins', tc_int, tc_bool, tc_tuple, ty_dct, isi_bi, isi_bb, isi_bt, isi_si, isi_sb, isi_st, isi_ni, isi_nb, isi_nt, isi_li, isi_lb, isi_lt, isi_di, isi_db, isi_dt, sRaise, dDct, mkLoc2, mkLoc7, mkLoc8, mkLoc9, mkLoc11, mkLoc17, mkLoc25, mkLoc32, oCatL, mkTup4, mkLst4, eqs_plus_plus, eqs_plus_times, eqs_plus_turned, eqs_plus_beside, eqs_plus_above, eqs_plus_piece, eqs_plus_star, nes_plus, eqs_times_plus, eqs_times_times, eqs_times_turned, eqs_times_beside, eqs_times_above, eqs_times_piece, eqs_times_star, nes_times, eqs_turned_plus, eqs_turned_times, eqs_turned_turned, eqs_turned_beside, eqs_turned_above, eqs_turned_piece, eqs_turned_star, nes_turned, eqs_beside_plus, eqs_beside_times, eqs_beside_turned, eqs_beside_beside, eqs_beside_above, eqs_beside_piece, eqs_beside_star, nes_beside, eqs_above_plus, eqs_above_times, eqs_above_turned, eqs_above_beside, eqs_above_above, eqs_above_piece, eqs_above_star, nes_above, eqs_piece_plus, eqs_piece_times, eqs_piece_turned, eqs_piece_beside, eqs_piece_above, eqs_piece_piece, eqs_piece_star, nes_piece, sh_0, sh_1, tg_sh, max_sh, isN_sh, notN_sh, sAugIx, isi_N', isi_Row', isi_R', hd0, hd1, hd2, hd3, hd4, hs1, hs2, hs3, hs4, giveS_hnd, dTupF, giveS_dA])
local macro_rules | `(tactic| walk_at "evh") => `(tactic| simp (config := { decide := false, implicitDefEqProofs := false }) only [bind_ok, bind_err, sE_ok, sE_err, bnd_nx, bnd_rt, bnd_bk, bnd_ct, bnd_err, sSeq_eq, dEnd_rt, dEnd_nx, dEnd_err, giveS_d, giveS_dA, giveS_nil,
  dVar, dC, d2, d1, dB, dChain, dAnd, dOr, dNot, dTru, dAndV, dOrV, dNotV, dIf, aNil, aCons, dTup, dLst, dLoc, dCall, dCB, b1, dIt, sNx, sBk, sCt, sRet, sRetN, sDrop, sSet, sIf, sPar, truth_bl, asB_bl, oI0_eq, oIsi, ty_int, ty_bl, ty_str, ty_non, ty_tup, ty_lst, isi_ii, isi_ib, isi_it, isi_tt, isi_ti, isi_tb,
  oAbs, oInt, oNeg, oEq_int, oNe_int, dFld, dSl, dPt, dNoPt, asPt_int, isN_non, isN_tup, isN_U, notN_non, notN_tup, notN_U, dMake, sFldPut,
  List.map_cons, List.map_nil, List.length_cons, List.length_nil, List.getElem?_cons_zero, List.getElem?_cons_succ, List.set_cons_zero, List.set_cons_succ, List.cons_append, List.nil_append, List.append_nil, Nat.reduceAdd, Nat.reduceSub, Nat.zero_add, if_true, if_false, Bool.not_true, Bool.not_false, Bool.false_eq_true, reduceIte, List.replicate_zero, List.replicate_succ, Nat.sub_self, beq_self_eq_true, Int.reduceLT, Int.reduceLE, Int.reduceAdd, Int.reduceSub, Int.reduceMul, Int.reduceNeg, Int.reducePow, Int.reduceToNat, Int.reduceEq, Int.reduceBEq, decide_true, decide_false, mkTup1, mkTup2, mkTup3, mkLst2, mkLst5, ix20, ix21, ixF0, ixF1, len_tup, len_lst, lenF, tyF, lenU, tyU, oEqF, oEqU, oNeU, zipU, tgN, tgT, tgCons, tgNil, wipeE, Option.bind_some, tuple_lst, list_lst, st0, st1, st2, st3, se1, se2, se3, giveS_st, tgIx, sAsg, Option.map_some, oMod_eq, isi_int', isi_bl', isi_str', isi_non', isi_tup', isi_lst', isi_dct', isi_U', isi_F', isi_ins', tc_int, tc_bool, tc_tuple, ty_dct, isi_bi, isi_bb, isi_bt, isi_si, isi_sb, isi_st, isi_ni, isi_nb, isi_nt, isi_li, isi_lb, isi_lt, isi_di, isi_db, isi_dt, sRaise, dDct, mkLoc2, mkLoc7, mkLoc8, mkLoc9, mkLoc11, mkLoc17, mkLoc25, mkLoc32, oCatL, mkTup4, mkLst4, eqs_plus_plus, eqs_plus_times, eqs_plus_turned, eqs_plus_beside, eqs_plus_above, eqs_plus_piece, eqs_plus_star, nes_plus, eqs_times_plus, eqs_times_times, eqs_times_turned, eqs_times_beside, eqs_times_above, eqs_times_piece, eqs_times_star, nes_times, eqs_turned_plus, eqs_turned_times, eqs_turned_turned, eqs_turned_beside, eqs_turned_above, eqs_turned_piece, eqs_turned_star, nes_turned, eqs_beside_plus, eqs_beside_times, eqs_beside_turned, eqs_beside_beside, eqs_beside_above, eqs_beside_piece, eqs_beside_star, nes_beside, eqs_above_plus, eqs_above_times, eqs_above_turned, eqs_above_beside, eqs_above_above, eqs_above_piece, eqs_above_star, nes_above, eqs_piece_plus, eqs_piece_times, eqs_piece_turned, eqs_piece_beside, eqs_piece_above, eqs_piece_piece, eqs_piece_star, nes_piece, sh_0, sh_1, tg_sh, max_sh, isN_sh, notN_sh, sAugIx, isi_N', isi_Row', isi_R', hd0, hd1, hd2, hd3, hd4, hs1, hs2, hs3, hs4, giveS_hnd, dTupF, giveS_dA, oMul_eq, oDiv_eq, oPow_eq, *])
noncomputable def b_law_1 (C : Str → Addr) : FS := sSeq (sSet 3 (d2 oAdd (dC (.int 1)) (dCall 2 (g__law_draw C) (aCons (dVar 1) (aCons (d2 oIx (dLst (aCons (dC (.int 5)) (aCons (dC (.int 4)) (aNil)))) (dVar 2)) (aNil)))))) (sSeq (sSet 4 (dCall 2 (g__law_square C) (aCons (dVar 1) (aCons (dVar 3) (aNil))))) (sSeq (sIf (dAnd (dB (d2 oGt (dVar 3) (dC (.int 1)))) (dB (d2 oEq (dCall 2 (g__law_draw C) (aCons (dVar 1) (aCons (dC (.int 4)) (aNil)))) (dC (.int 0))))) (sSeq (sSet 9 (dCall 2 (g__law_lowest C) (aCons (d2 oSub (dCall 2 (g__law_draw C) (aCons (dVar 1) (aCons (dC (.int 7)) (aNil)))) (dC (.int 3))) (aCons (d2 oAdd (dC (.int 1)) (dCall 2 (g__law_draw C) (aCons (dVar 1) (aCons (dC (.int 2)) (aNil))))) (aNil))))) (sSet 4 (d2 oCat (dSl oSlA (dVar 4) (dNoPt) (dPt (d1 oNeg (dC (.int 1))))) (dTup (aCons (dCB (b1 oTuple) (aCons (dLc lcF (dSeq (d2 oIx (dVar 4) (dC (.int 0)))) (tgN 12) (ftYes) (dCall 2 (g__law_times C) (aCons (dVar 12) (aCons (dVar 9) (aNil)))) [12]) (aNil))) (aNil)))))) (sNx)) (sSeq (sSet 5 (dCall 1 (g__law_due C) (aCons (dVar 4) (aNil)))) (sSeq (sSet 7 (dCall 1 (g_determinant C) (aCons (dVar 4) (aNil)))) (sSeq (sIf (dOr (dNot (dTru (dCB oIsi (aCons (dVar 7) (aCons (dC (.ty "tuple")) (aNil)))))) (dOr (dB (d2 oNe (dVar 7) (dVar 5))) (dTru (dCB oIsi (aCons (d2 oIx (dVar 7) (dC (.int 0))) (aCons (dC (.ty "bool")) (aNil))))))) (sRet (dC (.bl false))) (sNx)) (sSeq (sSet 8 (dCB (b1 oTuple) (aCons (dLc lcF (dIt oRng1 (aCons (dVar 3) (aNil))) (tgN 10) (ftYes) (dCB (b1 oTuple) (aCons (dLc lcF (dSeq (dVar 4)) (tgN 11) (ftYes) (d2 oIx (dVar 11) (dVar 10)) [11]) (aNil))) [10]) (aNil)))) (sSeq (sIf (dB (d2 oNe (dCall 1 (g_determinant C) (aCons (dVar 8) (aNil))) (dVar 5))) (sRet (dC (.bl false))) (sNx)) (sIf (dAnd (dB (d2 oGt (dVar 3) (dC (.int 1)))) (dB (d2 oNe (dCall 1 (g_determinant C) (aCons (d2 oCat (dTup (aCons (d2 oIx (dVar 4) (dC (.int 1))) (aCons (d2 oIx (dVar 4) (dC (.int 0))) (aNil)))) (dSl oSlA (dVar 4) (dPt (dC (.int 2))) (dNoPt))) (aNil))) (dTup (aCons (d1 oNeg (d2 oIx (dVar 5) (dC (.int 0)))) (aCons (d2 oIx (dVar 5) (dC (.int 1))) (aNil))))))) (sRet (dC (.bl false))) (sNx)))))))))
noncomputable def l_law_1 (C : Str → Addr) : FS := dFor (dIt oRng1 (aCons (dC (.int 2)) (aNil))) (tgN 2) (b_law_1 C)
noncomputable def b_law_6 (C : Str → Addr) : FS := sSet 5 (dCall 2 (g__law_times C) (aCons (dVar 5) (aCons (d2 oIx (d2 oIx (dVar 4) (dVar 6)) (dVar 6)) (aNil))))
noncomputable def l_law_6 (C : Str → Addr) : FS := dFor (dIt oRng1 (aCons (dVar 3) (aNil))) (tgN 6) (b_law_6 C)
noncomputable def p_law_0 (C : Str → Addr) (rest : FS) : FS := sSeq (sSet 1 (dCall 1 (g__law_hand C) (aCons (dVar 0) (aNil)))) (rest)
noncomputable def p_law_1 (C : Str → Addr) (rest : FS) : FS := sSeq (l_law_1 C) (rest)
noncomputable def p_law_2 (C : Str → Addr) (rest : FS) : FS := sSeq (sSet 3 (d2 oAdd (dC (.int 2)) (dCall 2 (g__law_draw C) (aCons (dVar 1) (aCons (dC (.int 9)) (aNil)))))) (sSeq (sSet 4 (dCall 2 (g__law_square C) (aCons (dVar 1) (aCons (dVar 3) (aNil))))) (rest))
noncomputable def p_law_3 (C : Str → Addr) (rest : FS) : FS := sSeq (sSet 4 (dCB (b1 oTuple) (aCons (dLc lcF (dIt oRng1 (aCons (dVar 3) (aNil))) (tgN 6) (ftYes) (dCB (b1 oTuple) (aCons (dLc lcF (dIt oRng1 (aCons (dVar 3) (aNil))) (tgN 10) (ftYes) (dIf (dB (d2 oGe (dVar 10) (dVar 6))) (d2 oIx (d2 oIx (dVar 4) (dVar 6)) (dVar 10)) (dTup (aCons (dC (.int 0)) (aCons (dC (.int 1)) (aNil))))) [10]) (aNil))) [6]) (aNil)))) (rest)
noncomputable def p_law_4 (C : Str → Addr) (rest : FS) : FS := sSeq (sSet 5 (dTup (aCons (dC (.int 1)) (aCons (dC (.int 1)) (aNil))))) (rest)
noncomputable def p_law_5 (C : Str → Addr) (rest : FS) : FS := sSeq (l_law_6 C) (rest)
noncomputable def p_law_6 (C : Str → Addr) : FS := sRet (d2 oEq (dCall 1 (g_determinant C) (aCons (dVar 4) (aNil))) (dVar 5))
theorem parts_law (C : Str → Addr) : F_law C = p_law_0 C (p_law_1 C (p_law_2 C (p_law_3 C (p_law_4 C (p_law_5 C (p_law_6 C)))))) := rfl
noncomputable def p_b_law_1_0 (C : Str → Addr) (rest : FS) : FS := sSeq (sSet 3 (d2 oAdd (dC (.int 1)) (dCall 2 (g__law_draw C) (aCons (dVar 1) (aCons (d2 oIx (dLst (aCons (dC (.int 5)) (aCons (dC (.int 4)) (aNil)))) (dVar 2)) (aNil)))))) (sSeq (sSet 4 (dCall 2 (g__law_square C) (aCons (dVar 1) (aCons (dVar 3) (aNil))))) (rest))
noncomputable def p_b_law_1_1 (C : Str → Addr) (rest : FS) : FS := sSeq (sIf (dAnd (dB (d2 oGt (dVar 3) (dC (.int 1)))) (dB (d2 oEq (dCall 2 (g__law_draw C) (aCons (dVar 1) (aCons (dC (.int 4)) (aNil)))) (dC (.int 0))))) (sSeq (sSet 9 (dCall 2 (g__law_lowest C) (aCons (d2 oSub (dCall 2 (g__law_draw C) (aCons (dVar 1) (aCons (dC (.int 7)) (aNil)))) (dC (.int 3))) (aCons (d2 oAdd (dC (.int 1)) (dCall 2 (g__law_draw C) (aCons (dVar 1) (aCons (dC (.int 2)) (aNil))))) (aNil))))) (sSet 4 (d2 oCat (dSl oSlA (dVar 4) (dNoPt) (dPt (d1 oNeg (dC (.int 1))))) (dTup (aCons (dCB (b1 oTuple) (aCons (dLc lcF (dSeq (d2 oIx (dVar 4) (dC (.int 0)))) (tgN 12) (ftYes) (dCall 2 (g__law_times C) (aCons (dVar 12) (aCons (dVar 9) (aNil)))) [12]) (aNil))) (aNil)))))) (sNx)) (rest)
noncomputable def p_b_law_1_2 (C : Str → Addr) (rest : FS) : FS := sSeq (sSet 5 (dCall 1 (g__law_due C) (aCons (dVar 4) (aNil)))) (sSeq (sSet 7 (dCall 1 (g_determinant C) (aCons (dVar 4) (aNil)))) (rest))
noncomputable def p_b_law_1_3 (C : Str → Addr) (rest : FS) : FS := sSeq (sIf (dOr (dNot (dTru (dCB oIsi (aCons (dVar 7) (aCons (dC (.ty "tuple")) (aNil)))))) (dOr (dB (d2 oNe (dVar 7) (dVar 5))) (dTru (dCB oIsi (aCons (d2 oIx (dVar 7) (dC (.int 0))) (aCons (dC (.ty "bool")) (aNil))))))) (sRet (dC (.bl false))) (sNx)) (rest)
noncomputable def p_b_law_1_4 (C : Str → Addr) (rest : FS) : FS := sSeq (sSet 8 (dCB (b1 oTuple) (aCons (dLc lcF (dIt oRng1 (aCons (dVar 3) (aNil))) (tgN 10) (ftYes) (dCB (b1 oTuple) (aCons (dLc lcF (dSeq (dVar 4)) (tgN 11) (ftYes) (d2 oIx (dVar 11) (dVar 10)) [11]) (aNil))) [10]) (aNil)))) (rest)
noncomputable def p_b_law_1_5 (C : Str → Addr) (rest : FS) : FS := sSeq (sIf (dB (d2 oNe (dCall 1 (g_determinant C) (aCons (dVar 8) (aNil))) (dVar 5))) (sRet (dC (.bl false))) (sNx)) (rest)
noncomputable def p_b_law_1_6 (C : Str → Addr) : FS := sIf (dAnd (dB (d2 oGt (dVar 3) (dC (.int 1)))) (dB (d2 oNe (dCall 1 (g_determinant C) (aCons (d2 oCat (dTup (aCons (d2 oIx (dVar 4) (dC (.int 1))) (aCons (d2 oIx (dVar 4) (dC (.int 0))) (aNil)))) (dSl oSlA (dVar 4) (dPt (dC (.int 2))) (dNoPt))) (aNil))) (dTup (aCons (d1 oNeg (d2 oIx (dVar 5) (dC (.int 0)))) (aCons (d2 oIx (dVar 5) (dC (.int 1))) (aNil))))))) (sRet (dC (.bl false))) (sNx)
theorem parts_b_law_1 (C : Str → Addr) : b_law_1 C = p_b_law_1_0 C (p_b_law_1_1 C (p_b_law_1_2 C (p_b_law_1_3 C (p_b_law_1_4 C (p_b_law_1_5 C (p_b_law_1_6 C)))))) := rfl
section
variable (C : Str → Addr) {n f : Nat} {m : M} {R : Mat} {sc : W}
theorem b_dep (rest : FS) {x2 x5 x6 x7 x8 x9 x10 x11 x12 : Option W} (n1 : 1 ≤ n) (hn : n ≤ 5) (hR : ∀ i, i < n → ∀ j, j < n → TwB 7 (R i j)) (hm : HdSt (f + 3) m) :
    ∃ (R' : Mat) (m' : M) (y9 : Option W), p_b_law_1_1 C rest [some sc, some (.loc 0), x2, some (.d (.int (n : Int))), some (.d (.tup (matT R n n))), x5, x6, x7, x8, x9, x10, x11, x12] [m] = rest [some sc, some (.loc 0), x2, some (.d (.int (n : Int))), some (.d (.tup (matT R' n n))), x5, x6, x7, x8, y9, x10, x11, x12] [m'] ∧ HdSt f m' ∧ ∀ i, i < n → ∀ j, j < n → Tq (R' i j) := by
  unfold p_b_law_1_1
  by_cases h1 : 1 < n
  · obtain ⟨s, m1, e1, s0, s1, hm1⟩ := e_draw C [] (f := f + 2) hm (k := 4) (by decide) (by unfold Bd; decide)
    have d1 : decide ((n : Int) > 1) = true := by simp; omega
    have d1' : decide ((1 : Int) < (n : Int)) = true := by simp; omega
    by_cases h2 : s = 0
    · subst h2
      obtain ⟨r, m2, e2, r0, r1, hm2⟩ := e_draw C [] (f := f + 1) hm1 (k := 7) (by decide) (by unfold Bd; decide)
      obtain ⟨q, m3, e3, q0, q1, hm3⟩ := e_draw C [] (f := f) hm2 (k := 2) (by decide) (by unfold Bd; decide)
      have lo := e_law_lowest C [m3] (t := r - 3) (b := 1 + q) (n := 3) (by omega) (by unfold Bd; omega) (by decide) (by decide)
      rw [low_fq (by omega)] at lo
      have lo' : g__law_lowest C [.d (.int (r - 3)), .d (.int (1 + q))] [m3] = some (.ok (.d (encQ (((r - 3 : Int) : Rat) / ((1 + q : Int) : Rat)))), [m3]) := lo
      have tq : ∀ x, TwB 7 x → Tq (x * (((r - 3 : Int) : Rat) / ((1 + q : Int) : Rat))) := fun x hx => hx.tqf (by omega) (by omega) (by omega) (by omega)
      have qf : QB 5 (((r - 3 : Int) : Rat) / ((1 + q : Int) : Rat)) := by
        have hb := low_bd (t := r - 3) (b := 1 + q) (n := 5) (m := 5) (by unfold Bd; omega) (by unfold Bd; omega)
        rw [low_fq (by omega)] at hb
        exact hb
      generalize hg : (((r - 3 : Int) : Rat) / ((1 + q : Int) : Rat)) = g at lo' tq qf
      refine ⟨depF n g R, m3, some (.d (encQ g)), ?_, hm3, fun i hi j hj => ?_⟩
      · have sl : ∀ T, oSlA (.d (.tup (matT R n n))) none (some (-1)) T = some (.ok (.d (.tup (matT R (n - 1) n))), T) := fun T => by
          show some (Except.ok (W.d (.tup (cutD (matT R n n) none (some (-1))))), T) = _
          have : cutD (matT R n n) none (some (-1)) = matT R (n - 1) n := by
            unfold cutD HT.sIx
            have hl : (matT R n n).length = n := by simp [matT]
            rw [hl]
            dsimp only
            rw [if_pos (by decide), List.drop_zero, show ((-1 : Int) + (n : Int)).toNat = n - 1 by omega, Nat.sub_zero]
            refine List.ext_getElem (by simp [matT]) fun k h1 h2 => by simp [matT]
          rw [this]
        have i0 : ∀ T, oIx (.d (.tup (matT R n n))) (.d (.int 0)) T = some (.ok (.d (.tup (rowL R n 0))), T) := fun T => mat_row (A := R) (m := n) (i := 0) (by omega) T
        have lc : dLc lcF (dSeq (d2 oIx (dVar 4) (dC (.int 0)))) (tgN 12) (ftYes) (dCall 2 (g__law_times C) (aCons (dVar 12) (aCons (dVar 9) (aNil)))) [12] [some sc, some (.loc 0), x2, some (.d (.int (n : Int))), some (.d (.tup (matT R n n))), x5, x6, x7, x8, some (.d (encQ g)), x10, x11, x12] [m3] = some (.ok (.d (.lst (rowL (fun _ j => R 0 j * g) n 0))), [m3]) :=
          dLc_map (wf := fun j => W.d (encQ (R 0 j))) (f := fun j => encQ (R 0 j * g)) (by
            rw [dSeq_tup (ds := rowL R n 0) (S1 := [m3]) (by
              clear hm hm1 hm2 hm3 hR d1 d1' e1 lo tq qf
              walk_at "evh")]
            unfold rowL
            rw [List.map_map]
            rfl) (by simp; omega) fun j hj => by
            have hj' := List.mem_range.mp hj
            have tm := e_law_times' C (S := [m3]) ((hR 0 (by omega) j hj').tw (by decide)).qb.fr qf.fr (by decide) (by decide) (by decide)
            rw [ftimes_fq] at tm
            have tm' : g__law_times C [.d (encQ (R 0 j)), .d (encQ g)] [m3] = some (.ok (.d (encQ (R 0 j * g))), [m3]) := tm
            refine ⟨[some sc, some (.loc 0), x2, some (.d (.int (n : Int))), some (.d (.tup (matT R n n))), x5, x6, x7, x8, some (.d (encQ g)), x10, x11, some (.d (encQ (R 0 j)))], rfl, ?_⟩
            clear hm hm1 hm2 hm3 hR d1 d1' e1 lo tq qf tm
            walk_at "evh"
        have tl : ∀ T, oTuple (.d (.lst (rowL (fun _ j => R 0 j * g) n 0))) T = some (.ok (.d (.tup (rowL (fun _ j => R 0 j * g) n 0))), T) := fun T => tuple_lst
        have cc : ∀ T, oCat (.d (.tup (matT R (n - 1) n))) (.d (.tup [.tup (rowL (fun _ j => R 0 j * g) n 0)])) T = some (.ok (.d (.tup (matT (depF n g R) n n))), T) := fun T => by
          unfold oCat
          dsimp only
          rw [if_pos (Nat.le_trans (show _ ≤ 1000 by simp [matT]; omega) (by decide)), depF_row n1]
        have z0 : ((0 : Int) == 0) = true := rfl
        clear hm hm1 hm2 hm3 hR n1 hn h1 i0 lo tq qf s0 s1 r0 r1 q0 q1 hg
        walk_at "evh"
      · unfold depF
        split
        · exact tq _ (hR 0 (by omega) j hj)
        · exact (hR i hi j hj).tq
    · refine ⟨R, m1, x9, ?_, hm1.weak (by omega), fun i hi j hj => (hR i hi j hj).tq⟩
      have z0 : (s == 0) = false := by simp [h2]
      clear hm hm1 hR n1 hn h1 h2 s0 s1
      walk_at "evh"
  · refine ⟨R, m, x9, ?_, hm.weak (by omega), fun i hi j hj => (hR i hi j hj).tq⟩
    have d1 : decide ((n : Int) > 1) = false := by simp; omega
    have d1' : decide ((1 : Int) < (n : Int)) = false := by simp; omega
    clear hm hR n1 hn h1
    walk_at "evh"
theorem b_turn {x2 x5 x6 x7 x8 x9 x10 x11 x12 : Option W} (n1 : 1 ≤ n) (hn : n ≤ 5) (hR : ∀ i, i < n → ∀ j, j < n → Tq (R i j)) :
    ∃ y5 y7 y8, p_b_law_1_2 C (p_b_law_1_3 C (p_b_law_1_4 C (p_b_law_1_5 C (p_b_law_1_6 C)))) [some sc, some (.loc 0), x2, some (.d (.int (n : Int))), some (.d (.tup (matT R n n))), x5, x6, x7, x8, x9, x10, x11, x12] [m] = some (.ok (.nx [some sc, some (.loc 0), x2, some (.d (.int (n : Int))), some (.d (.tup (matT R n n))), y5, x6, y7, y8, x9, x10, x11, x12]), [m]) := by
  have du := e_law_due C (S := [m]) n1 hn fun i hi j hj => (hR i hi j hj).qb
  have dt := e_determinant C (S := [m]) (goes_B (Nat.le_refl n)) n1 (by omega) (tq_IB hn hR)
  have dr := e_determinant C (S := [m]) (goes_B (Nat.le_refl n)) n1 (by omega) (tq_IB (R := tr R) hn fun i hi j hj => hR j hj i hi)
  rw [det_tr] at dr
  have rr := oRng1_nat (S := [m]) (n := n) (by omega)
  have lt : dLc lcF (dIt oRng1 (aCons (dVar 3) (aNil))) (tgN 10) (ftYes) (dCB (b1 oTuple) (aCons (dLc lcF (dSeq (dVar 4)) (tgN 11) (ftYes) (d2 oIx (dVar 11) (dVar 10)) [11]) (aNil))) [10] [some sc, some (.loc 0), x2, some (.d (.int (n : Int))), some (.d (.tup (matT R n n))), some (.d (encQ (detQ n R))), x6, some (.d (encQ (detQ n R))), x8, x9, x10, x11, x12] [m] = some (.ok (.d (.lst (matT (tr R) n n))), [m]) :=
    dLc_map (wf := fun j : Nat => W.d (.int (j : Int))) (f := rowT (tr R) n) (by
      clear du dt dr
      walk_at "evh") (by simp; omega) fun j hj => by
      have hj' := List.mem_range.mp hj
      have l2 : dLc lcF (dSeq (dVar 4)) (tgN 11) (ftYes) (d2 oIx (dVar 11) (dVar 10)) [11] [some sc, some (.loc 0), x2, some (.d (.int (n : Int))), some (.d (.tup (matT R n n))), some (.d (encQ (detQ n R))), x6, some (.d (encQ (detQ n R))), x8, x9, some (.d (.int (j : Int))), x11, x12] [m] = some (.ok (.d (.lst (rowL (tr R) n j))), [m]) :=
        dLc_map (wf := fun i => W.d (.tup (rowL R n i))) (f := fun k => encQ (tr R j k)) (by
          rw [dSeq_tup (ds := matT R n n) (S1 := [m]) rfl, matT_map]) (by simp; omega) fun k hk => by
          have ix := rowT_ix (A := R) (m := n) (i := k) (S := [m]) hj'
          have ix' : oIx (.d (.tup (rowL R n k))) (.d (.int (j : Int))) [m] = some (.ok (.d (encQ (tr R j k))), [m]) := ix
          refine ⟨[some sc, some (.loc 0), x2, some (.d (.int (n : Int))), some (.d (.tup (matT R n n))), some (.d (encQ (detQ n R))), x6, some (.d (encQ (detQ n R))), x8, x9, some (.d (.int (j : Int))), some (.d (.tup (rowL R n k))), x12], rfl, ?_⟩
          clear du dt dr rr ix
          walk_at "evh"
      have tl : ∀ T, oTuple (.d (.lst (rowL (tr R) n j))) T = some (.ok (.d (rowT (tr R) n j)), T) := fun T => tuple_lst
      refine ⟨[some sc, some (.loc 0), x2, some (.d (.int (n : Int))), some (.d (.tup (matT R n n))), some (.d (encQ (detQ n R))), x6, some (.d (encQ (detQ n R))), x8, x9, some (.d (.int (j : Int))), x11, x12], rfl, ?_⟩
      clear du dt dr rr
      walk_at "evh"
  have tl : ∀ T, oTuple (.d (.lst (matT (tr R) n n))) T = some (.ok (.d (.tup (matT (tr R) n n))), T) := fun T => tuple_lst
  have ty : ∀ (q : Rat) T, tyN T (.d (encQ q)) = some "tuple" := fun _ _ => rfl
  have i0 : ∀ (q : Rat) T, oIx (.d (encQ q)) (.d (.int 0)) T = some (.ok (.d (.int q.num)), T) := fun _ _ => rfl
  have i1 : ∀ (q : Rat) T, oIx (.d (encQ q)) (.d (.int 1)) T = some (.ok (.d (.int (q.den : Int))), T) := fun _ _ => rfl
  have ne : ∀ (q : Rat) T, oNe (.d (encQ q)) (.d (encQ q)) T = some (.ok (.d (.bl false)), T) := fun q T => oNe_refl (pl_encF _) (by decide)
  unfold p_b_law_1_2 p_b_law_1_3 p_b_law_1_4 p_b_law_1_5 p_b_law_1_6
  refine ⟨some (.d (encQ (detQ n R))), some (.d (encQ (detQ n R))), some (.d (.tup (matT (tr R) n n))), ?_⟩
  by_cases h1 : 1 < n
  · have d1 : decide ((n : Int) > 1) = true := by simp; omega
    have d1' : decide ((1 : Int) < (n : Int)) = true := by simp; omega
    have hS : ∀ i, i < n → ∀ j, j < n → Tq (swp R 0 1 i j) := fun i hi j hj => by
      unfold swp
      split
      · exact hR 1 h1 j hj
      · split
        · exact hR 0 (by omega) j hj
        · exact hR i hi j hj
    have ds := e_determinant C (S := [m]) (goes_B (Nat.le_refl n)) n1 (by omega) (tq_IB (R := swp R 0 1) hn hS)
    rw [det_swp (by omega) h1 (by decide)] at ds
    have r1 : ∀ T, oIx (.d (.tup (matT R n n))) (.d (.int 1)) T = some (.ok (.d (.tup (rowL R n 1))), T) := fun T => mat_row (A := R) (m := n) (i := 1) h1 T
    have r0 : ∀ T, oIx (.d (.tup (matT R n n))) (.d (.int 0)) T = some (.ok (.d (.tup (rowL R n 0))), T) := fun T => mat_row (A := R) (m := n) (i := 0) (by omega) T
    have sl : ∀ T, oSlA (.d (.tup (matT R n n))) (some 2) none T = some (.ok (.d (.tup ((matT R n n).drop 2))), T) := fun T => by
      show some (Except.ok (W.d (.tup (cutD (matT R n n) (some ((2 : Nat) : Int)) none))), T) = _
      rw [cut_lo (by simp [matT]; omega)]
    have cc : ∀ T, oCat (.d (.tup [.tup (rowL R n 1), .tup (rowL R n 0)])) (.d (.tup ((matT R n n).drop 2))) T = some (.ok (.d (.tup (matT (swp R 0 1) n n))), T) := fun T => by
      unfold oCat
      dsimp only
      rw [if_pos (Nat.le_trans (show _ ≤ 1000 by simp [matT]; omega) (by decide))]
      have := swp_row (R := R) (n := n) h1
      unfold rowT at this
      rw [this]
    have nq : D.tup [.int (-(detQ n R).num), .int ((detQ n R).den : Int)] = encQ (-detQ n R) := encQ_neg.symm
    clear hR hS n1 hn h1
    generalize detQ n R = q at *
    walk_at "evh"
  · have d1 : decide ((n : Int) > 1) = false := by simp; omega
    have d1' : decide ((1 : Int) < (n : Int)) = false := by simp; omega
    clear hR n1 hn h1
    generalize detQ n R = q at *
    walk_at "evh"
end
end P52
set_option Elab.async false
set_option linter.all false
set_option maxRecDepth 100000
set_option maxHeartbeats 1000000
namespace P52
open PySem L2 DL
local macro_rules | `(tactic| walk_at "ev") => `(tactic| simp (config := { decide := false, implicitDefEqProofs := false }) only [bind_ok, bind_err, sE_ok, sE_err, bnd_nx, bnd_rt, bnd_bk, bnd_ct, bnd_err, sSeq_eq, dEnd_rt, dEnd_nx, dEnd_err, giveS_d, giveS_dA, giveS_nil,
  dVar, dC, d2, d1, dB, dChain, dAnd, dOr, dNot, dTru, dAndV, dOrV, dNotV, dIf, aNil, aCons, dTup, dLst, dLoc, dCall, dCB, b1, dIt, sNx, sBk, sCt, sRet, sRetN, sDrop, sSet, sIf, sPar, truth_bl, asB_bl, oI0_eq, oIsi, ty_int, ty_bl, ty_str, ty_non, ty_tup, ty_lst, isi_ii, isi_ib, isi_it, isi_tt, isi_ti, isi_tb,
  oAbs, oInt, oNeg, oEq_int, oNe_int, dFld, dSl, dPt, dNoPt, asPt_int, isN_non, isN_tup, isN_U, notN_non, notN_tup, notN_U, dMake, sFldPut,
  List.map_cons, List.map_nil, List.length_cons, List.length_nil, List.getElem?_cons_zero, List.getElem?_cons_succ, List.set_cons_zero, List.set_cons_succ, List.cons_append, List.nil_append, List.append_nil, Nat.reduceAdd, Nat.reduceSub, Nat.zero_add, if_true, if_false, Bool.not_true, Bool.not_false, Bool.false_eq_true, reduceIte, List.replicate_zero, List.replicate_succ, Nat.sub_self, beq_self_eq_true, Int.reduceLT, Int.reduceLE, Int.reduceAdd, Int.reduceSub, Int.reduceMul, Int.reduceNeg, Int.reducePow, Int.reduceToNat, Int.reduceEq, Int.reduceBEq, decide_true, decide_false, mkTup1, mkTup2, mkTup3, mkLst2, mkLst5, ix20, ix21, ixF0, ixF1, len_tup, len_lst, lenF, tyF, lenU, tyU, oEqF, oEqU, oNeU, zipU, tgN, tgT, tgCons, tgNil, wipeE, Option.bind_some, tuple_lst, list_lst, st0, st1, st2, st3, se1, se2, se3, giveS_st, tgIx, sAsg, Option.map_some, oMod_eq, isi_int', isi_bl', isi_str', isi_non', isi_tup', isi_lst', isi_dct', isi_U', isi_F', isi_ins', tc_int, tc_bool, tc_tuple, ty_dct, isi_bi, isi_bb, isi_bt, isi_si, isi_sb, isi_st, isi_ni, isi_nb, isi_nt, isi_li, isi_lb, isi_lt, isi_di, isi_db, isi_dt, sRaise, dDct, mkLoc2, mkLoc7, mkLoc8, mkLoc9, mkLoc11, mkLoc17, mkLoc25, mkLoc32, oCatL, mkTup4, mkLst4, eqs_plus_plus, eqs_plus_times, eqs_plus_turned, eqs_plus_beside, eqs_plus_above, eqs_plus_piece, eqs_plus_star, nes_plus, eqs_times_plus, eqs_times_times, eqs_times_turned, eqs_times_beside, eqs_times_above, eqs_times_piece, eqs_times_star, nes_times, eqs_turned_plus, eqs_turned_times, eqs_turned_turned, eqs_turned_beside, eqs_turned_above, eqs_turned_piece, eqs_turned_star, nes_turned, eqs_beside_plus, eqs_beside_times, eqs_beside_turned, eqs_beside_beside, eqs_beside_above, eqs_beside_piece, eqs_beside_star, nes_beside, eqs_above_plus, eqs_above_times, eqs_above_turned, eqs_above_beside, eqs_above_above, eqs_above_piece, eqs_above_star, nes_above, eqs_piece_plus, eqs_piece_times, eqs_piece_turned, eqs_piece_beside, eqs_piece_above, eqs_piece_piece, eqs_piece_star, nes_piece, sh_0, sh_1, tg_sh, max_sh, isN_sh, notN_sh, sAugIx, isi_N', isi_Row', isi_R', hd0, hd1, hd2, hd3, hd4, hs1, hs2, hs3, hs4, giveS_hnd, dTupF, giveS_dA])
local macro_rules | `(tactic| walk_at "evh") => `(tactic| simp (config := { decide := false, implicitDefEqProofs := false }) only [bind_ok, bind_err, sE_ok, sE_err, bnd_nx, bnd_rt, bnd_bk, bnd_ct, bnd_err, sSeq_eq, dEnd_rt, dEnd_nx, dEnd_err, giveS_d, giveS_dA, giveS_nil,
  dVar, dC, d2, d1, dB, dChain, dAnd, dOr, dNot, dTru, dAndV, dOrV, dNotV, dIf, aNil, aCons, dTup, dLst, dLoc, dCall, dCB, b1, dIt, sNx, sBk, sCt, sRet, sRetN, sDrop, sSet, sIf, sPar, truth_bl, asB_bl, oI0_eq, oIsi, ty_int, ty_bl, ty_str, ty_non, ty_tup, ty_lst, isi_ii, isi_ib, isi_it, isi_tt, isi_ti, isi_tb,
  oAbs, oInt, oNeg, oEq_int, oNe_int, dFld, dSl, dPt, dNoPt, asPt_int, isN_non, isN_tup, isN_U, notN_non, notN_tup, notN_U, dMake, sFldPut,
  List.map_cons, List.map_nil, List.length_cons, List.length_nil, List.getElem?_cons_zero, List.getElem?_cons_succ, List.set_cons_zero, List.set_cons_succ, List.cons_append, List.nil_append, List.append_nil, Nat.reduceAdd, Nat.reduceSub, Nat.zero_add, if_true, if_false, Bool.not_true, Bool.not_false, Bool.false_eq_true, reduceIte, List.replicate_zero, List.replicate_succ, Nat.sub_self, beq_self_eq_true, Int.reduceLT, Int.reduceLE, Int.reduceAdd, Int.reduceSub, Int.reduceMul, Int.reduceNeg, Int.reducePow, Int.reduceToNat, Int.reduceEq, Int.reduceBEq, decide_true, decide_false, mkTup1, mkTup2, mkTup3, mkLst2, mkLst5, ix20, ix21, ixF0, ixF1, len_tup, len_lst, lenF, tyF, lenU, tyU, oEqF, oEqU, oNeU, zipU, tgN, tgT, tgCons, tgNil, wipeE, Option.bind_some, tuple_lst, list_lst, st0, st1, st2, st3, se1, se2, se3, giveS_st, tgIx, sAsg, Option.map_some, oMod_eq, isi_int', isi_bl', isi_str', isi_non', isi_tup', isi_lst', isi_dct', isi_U', isi_F', isi_ins', tc_int, tc_bool, tc_tuple, ty_dct, isi_bi, isi_bb, isi_bt, isi_si, isi_sb, isi_st, isi_ni, isi_nb, isi_nt, isi_li, isi_lb, isi_lt, isi_di, isi_db, isi_dt, sRaise, dDct, mkLoc2, mkLoc7, mkLoc8, mkLoc9, mkLoc11, mkLoc17, mkLoc25, mkLoc32, oCatL, mkTup4, mkLst4, eqs_plus_plus, eqs_plus_times, eqs_plus_turned, eqs_plus_beside, eqs_plus_above, eqs_plus_piece, eqs_plus_star, nes_plus, eqs_times_plus, eqs_times_times, eqs_times_turned, eqs_times_beside, eqs_times_above, eqs_times_piece, eqs_times_star, nes_times, eqs_turned_plus, eqs_turned_times, eqs_turned_turned, eqs_turned_beside, eqs_turned_above, eqs_turned_piece, eqs_turned_star, nes_turned, eqs_beside_plus, eqs_beside_times, eqs_beside_turned, eqs_beside_beside, eqs_beside_above, eqs_beside_piece, eqs_beside_star, nes_beside, eqs_above_plus, eqs_above_times, eqs_above_turned, eqs_above_beside, eqs_above_above, eqs_above_piece, eqs_above_star, nes_above, eqs_piece_plus, eqs_piece_times, eqs_piece_turned, eqs_piece_beside, eqs_piece_above, eqs_piece_piece, eqs_piece_star, nes_piece, sh_0, sh_1, tg_sh, max_sh, isN_sh, notN_sh, sAugIx, isi_N', isi_Row', isi_R', hd0, hd1, hd2, hd3, hd4, hs1, hs2, hs3, hs4, giveS_hnd, dTupF, giveS_dA, oMul_eq, oDiv_eq, oPow_eq, *])
section
variable (C : Str → Addr) {n f : Nat} {m : M} {R : Mat} {sc : W}
theorem b_tri (rest : FS) {x2 x5 x6 x7 x8 x9 x10 x11 x12 : Option W} (hn : n ≤ 10) :
    p_law_3 C rest [some sc, some (.loc 0), x2, some (.d (.int (n : Int))), some (.d (.tup (matT R n n))), x5, x6, x7, x8, x9, x10, x11, x12] [m] = rest [some sc, some (.loc 0), x2, some (.d (.int (n : Int))), some (.d (.tup (matT (triM R) n n))), x5, x6, x7, x8, x9, x10, x11, x12] [m] := by
  have rr := oRng1_nat (S := [m]) (n := n) (by omega)
  have lc : dLc lcF (dIt oRng1 (aCons (dVar 3) (aNil))) (tgN 6) (ftYes) (dCB (b1 oTuple) (aCons (dLc lcF (dIt oRng1 (aCons (dVar 3) (aNil))) (tgN 10) (ftYes) (dIf (dB (d2 oGe (dVar 10) (dVar 6))) (d2 oIx (d2 oIx (dVar 4) (dVar 6)) (dVar 10)) (dTup (aCons (dC (.int 0)) (aCons (dC (.int 1)) (aNil))))) [10]) (aNil))) [6] [some sc, some (.loc 0), x2, some (.d (.int (n : Int))), some (.d (.tup (matT R n n))), x5, x6, x7, x8, x9, x10, x11, x12] [m] = some (.ok (.d (.lst (matT (triM R) n n))), [m]) :=
    dLc_map (wf := fun i : Nat => W.d (.int (i : Int))) (f := rowT (triM R) n) (by
      walk_at "evh") (by simp; omega) fun i hi => by
      have hi' := List.mem_range.mp hi
      have l2 : dLc lcF (dIt oRng1 (aCons (dVar 3) (aNil))) (tgN 10) (ftYes) (dIf (dB (d2 oGe (dVar 10) (dVar 6))) (d2 oIx (d2 oIx (dVar 4) (dVar 6)) (dVar 10)) (dTup (aCons (dC (.int 0)) (aCons (dC (.int 1)) (aNil))))) [10] [some sc, some (.loc 0), x2, some (.d (.int (n : Int))), some (.d (.tup (matT R n n))), x5, some (.d (.int (i : Int))), x7, x8, x9, x10, x11, x12] [m] = some (.ok (.d (.lst (rowL (triM R) n i))), [m]) :=
        dLc_map (wf := fun j : Nat => W.d (.int (j : Int))) (f := fun j => encQ (triM R i j)) (by
          walk_at "evh") (by simp; omega) fun j hj => by
          have hj' := List.mem_range.mp hj
          have i1 := mat_row (A := R) (m := n) hi' [m]
          have i2 := rowT_ix (A := R) (m := n) (i := i) (S := [m]) hj'
          refine ⟨[some sc, some (.loc 0), x2, some (.d (.int (n : Int))), some (.d (.tup (matT R n n))), x5, some (.d (.int (i : Int))), x7, x8, x9, some (.d (.int (j : Int))), x11, x12], rfl, ?_⟩
          unfold triM
          by_cases h : i ≤ j
          · have d1 : decide ((j : Int) ≥ (i : Int)) = true := by simp; omega
            have d1' : decide ((i : Int) ≤ (j : Int)) = true := by simp; omega
            rw [if_pos h]
            clear rr hi hj hi' hj' h
            walk_at "evh"
          · have d1 : decide ((j : Int) ≥ (i : Int)) = false := by simp; omega
            have d1' : decide ((i : Int) ≤ (j : Int)) = false := by simp; omega
            have z0 : D.tup [.int 0, .int 1] = encQ 0 := rfl
            rw [if_neg h]
            clear rr hi hj hi' hj' h i1 i2
            walk_at "evh"
      have tl : ∀ T, oTuple (.d (.lst (rowL (triM R) n i))) T = some (.ok (.d (rowT (triM R) n i)), T) := fun T => tuple_lst
      refine ⟨[some sc, some (.loc 0), x2, some (.d (.int (n : Int))), some (.d (.tup (matT R n n))), x5, some (.d (.int (i : Int))), x7, x8, x9, x10, x11, x12], rfl, ?_⟩
      clear rr hi hi'
      walk_at "evh"
  have tl : ∀ T, oTuple (.d (.lst (matT (triM R) n n))) T = some (.ok (.d (.tup (matT (triM R) n n))), T) := fun T => tuple_lst
  unfold p_law_3
  clear rr
  walk_at "evh"
theorem b_slant {x2 x6 x7 x8 x9 x10 x11 x12 : Option W} (hn : n ≤ 10) (hR : ∀ i, i < n → ∀ j, j < n → TwB 7 (R i j)) :
    ∃ y6, l_law_6 C [some sc, some (.loc 0), x2, some (.d (.int (n : Int))), some (.d (.tup (matT R n n))), some (.d (encQ 1)), x6, x7, x8, x9, x10, x11, x12] [m] = some (.ok (.nx [some sc, some (.loc 0), x2, some (.d (.int (n : Int))), some (.d (.tup (matT R n n))), some (.d (encQ (pd R n))), y6, x7, x8, x9, x10, x11, x12]), [m]) := by
  obtain ⟨δ', e, y6, rfl, _⟩ := dFor_inv (S := [m]) (wf := fun k : Nat => W.d (.int (k : Int))) (xs := List.range n) (fi := dIt oRng1 (aCons (dVar 3) (aNil))) (tf := tgN 6) (fb := b_law_6 C)
    (P := fun k δ => ∃ y6, δ = [some sc, some (.loc 0), x2, some (.d (.int (n : Int))), some (.d (.tup (matT R n n))), some (.d (encQ (pd R k))), y6, x7, x8, x9, x10, x11, x12] ∧ QB (1 + k * 8) (pd R k))
    (δ := [some sc, some (.loc 0), x2, some (.d (.int (n : Int))), some (.d (.tup (matT R n n))), some (.d (encQ 1)), x6, x7, x8, x9, x10, x11, x12]) (by
      have rr := oRng1_nat (S := [m]) (n := n) (by omega)
      clear hR
      walk_at "evh") (by
    rintro k hk δ ⟨y6, rfl, hq⟩
    have hk' : k < n := by simpa using hk
    have ek : (List.range n)[k] = k := by simp
    rw [ek]
    have i1 := mat_row (A := R) (m := n) hk' [m]
    have i2 := rowT_ix (A := R) (m := n) (i := k) (S := [m]) hk'
    have qa := ((hR k hk' k hk').tw (by decide)).qb
    have tm := e_law_times' C (S := [m]) hq.fr qa.fr (by omega) (by decide) (by omega)
    rw [ftimes_fq] at tm
    have tm' : g__law_times C [.d (encQ (pd R k)), .d (encQ (R k k))] [m] = some (.ok (.d (encQ (pd R (k + 1)))), [m]) := tm
    have qn : QB (1 + k * 8 + 8) (pd R (k + 1)) := hq.mul qa
    refine ⟨[some sc, some (.loc 0), x2, some (.d (.int (n : Int))), some (.d (.tup (matT R n n))), some (.d (encQ (pd R k))), some (.d (.int (k : Int))), x7, x8, x9, x10, x11, x12], [some sc, some (.loc 0), x2, some (.d (.int (n : Int))), some (.d (.tup (matT R n n))), some (.d (encQ (pd R (k + 1)))), some (.d (.int (k : Int))), x7, x8, x9, x10, x11, x12], rfl, ?_, _, rfl, qn.up (by omega)⟩
    unfold b_law_6
    clear hR hq qa tm qn ek
    walk_at "evh") ⟨x6, rfl, (show QB 1 1 from ⟨by decide, by decide⟩).up (by omega)⟩
  rw [List.length_range] at e
  exact ⟨y6, e⟩
end
theorem pure_law (C : Str → Addr) (ns : List Int) (hl : ns.length ≤ 63) : ∃ S', g_law C [.d (.lst (ns.map D.int))] [] = some (.ok (.d (.bl true)), S') := by
  obtain ⟨m0, e0, h0⟩ := e_hand C ns hl
  obtain ⟨δ', S', e, x2, x3, x4, x5, x6, x7, x8, x9, x10, x11, x12, m', rfl, rfl, hm'⟩ := dFor_invS (fi := dIt oRng1 (aCons (dC (.int 2)) (aNil))) (tf := tgN 2) (fb := b_law_1 C) (wf := fun k : Nat => W.d (.int (k : Int))) (xs := List.range 2)
    (P := fun i δ S' => ∃ x2 x3 x4 x5 x6 x7 x8 x9 x10 x11 x12 m', δ = [some (.d (.lst (ns.map D.int))), some (.loc 0), x2, x3, x4, x5, x6, x7, x8, x9, x10, x11, x12] ∧ S' = [m'] ∧ HdSt (400 + (2 - i) * 400) m')
    (δ := [some (.d (.lst (ns.map D.int))), some (.loc 0), none, none, none, none, none, none, none, none, none, none, none]) (S := [m0]) (S0 := [m0]) rfl (by
    rintro i hi δ S' ⟨x2, x3, x4, x5, x6, x7, x8, x9, x10, x11, x12, m, rfl, rfl, hm⟩
    have hi' : i < 2 := by simpa using hi
    simp only [List.getElem_range]
    have hm1 : HdSt ((((400 + (2 - (i + 1)) * 400) + 3) + 300) + 1) m := hm.weak (by omega)
    obtain ⟨k, k0, k5, ik⟩ : ∃ k : Int, 0 < k ∧ k ≤ 5 ∧ ∀ T, oIx (.d (.lst [.int 5, .int 4])) (.d (.int (i : Int))) T = some (.ok (.d (.int k)), T) := by
      have : i = 0 ∨ i = 1 := by omega
      rcases this with rfl | rfl
      · exact ⟨5, by decide, by decide, fun _ => rfl⟩
      · exact ⟨4, by decide, by decide, fun _ => rfl⟩
    obtain ⟨r, m1, e1, r0, r1, h1⟩ := e_draw C [] hm1 (k := k) k0 (by unfold Bd; omega)
    obtain ⟨n, hn⟩ : ∃ n : Nat, 1 + r = (n : Int) := ⟨(1 + r).toNat, by omega⟩
    have n1 : 1 ≤ n := by omega
    have n5 : n ≤ 5 := by omega
    obtain ⟨rs, m2, e2, h2, l2, q2⟩ := e_law_square C h1 (n := n) (by omega)
    rw [mat_of l2 fun r hr => (q2 r hr).1] at e2
    obtain ⟨R, m3, y9, e3, h3, hR⟩ := b_dep C (sc := .d (.lst (ns.map D.int))) (R := matOf rs) (p_b_law_1_2 C (p_b_law_1_3 C (p_b_law_1_4 C (p_b_law_1_5 C (p_b_law_1_6 C))))) (x2 := some (.d (.int (i : Int)))) (x5 := x5) (x6 := x6) (x7 := x7) (x8 := x8) (x9 := x9) (x10 := x10) (x11 := x11) (x12 := x12) n1 n5 (matOf_all l2 q2) h2
    obtain ⟨y5, y7, y8, e5⟩ := b_turn C (sc := .d (.lst (ns.map D.int))) (m := m3) (x2 := some (.d (.int (i : Int)))) (x5 := x5) (x6 := x6) (x7 := x7) (x8 := x8) (x9 := y9) (x10 := x10) (x11 := x11) (x12 := x12) n1 n5 hR
    have s1 : sSet 3 (d2 oAdd (dC (.int 1)) (dCall 2 (g__law_draw C) (aCons (dVar 1) (aCons (d2 oIx (dLst (aCons (dC (.int 5)) (aCons (dC (.int 4)) (aNil)))) (dVar 2)) (aNil))))) [some (.d (.lst (ns.map D.int))), some (.loc 0), some (.d (.int (i : Int))), x3, x4, x5, x6, x7, x8, x9, x10, x11, x12] [m] = some (.ok (.nx [some (.d (.lst (ns.map D.int))), some (.loc 0), some (.d (.int (i : Int))), some (.d (.int (n : Int))), x4, x5, x6, x7, x8, x9, x10, x11, x12]), [m1]) := by
      rw [← hn]
      clear e0 h0 hm hm1 h1 e2 q2 e3 e5 hR h2 h3 hn k0 k5 r0 r1
      walk_at "evh"
    have s2 : sSet 4 (dCall 2 (g__law_square C) (aCons (dVar 1) (aCons (dVar 3) (aNil)))) [some (.d (.lst (ns.map D.int))), some (.loc 0), some (.d (.int (i : Int))), some (.d (.int (n : Int))), x4, x5, x6, x7, x8, x9, x10, x11, x12] [m1] = some (.ok (.nx [some (.d (.lst (ns.map D.int))), some (.loc 0), some (.d (.int (i : Int))), some (.d (.int (n : Int))), some (.d (.tup (matT (matOf rs) n n))), x5, x6, x7, x8, x9, x10, x11, x12]), [m2]) := by
      clear e0 h0 hm hm1 h1 q2 e3 e5 hR h2 h3 s1 e1
      walk_at "evh"
    have key : b_law_1 C [some (.d (.lst (ns.map D.int))), some (.loc 0), some (.d (.int (i : Int))), x3, x4, x5, x6, x7, x8, x9, x10, x11, x12] [m] = some (.ok (.nx [some (.d (.lst (ns.map D.int))), some (.loc 0), some (.d (.int (i : Int))), some (.d (.int (n : Int))), some (.d (.tup (matT R n n))), y5, x6, y7, y8, y9, x10, x11, x12]), [m3]) := by
      rw [parts_b_law_1]
      unfold p_b_law_1_0
      rw [sSeq_eq, s1, bnd_nx, sSeq_eq, s2, bnd_nx, e3]
      exact e5
    exact ⟨[some (.d (.lst (ns.map D.int))), some (.loc 0), some (.d (.int (i : Int))), x3, x4, x5, x6, x7, x8, x9, x10, x11, x12], [m], [some (.d (.lst (ns.map D.int))), some (.loc 0), some (.d (.int (i : Int))), some (.d (.int (n : Int))), some (.d (.tup (matT R n n))), y5, x6, y7, y8, y9, x10, x11, x12], [m3], rfl, key, _, _, _, _, _, _, _, _, _, _, _, m3, rfl, rfl, h3⟩) ⟨none, none, none, none, none, none, none, none, none, none, none, m0, rfl, rfl, h0.weak (by decide)⟩
  refine ⟨[], ?_⟩
  have lo : l_law_1 C [some (.d (.lst (ns.map D.int))), some (.loc 0), none, none, none, none, none, none, none, none, none, none, none] [m0] = some (.ok (.nx [some (.d (.lst (ns.map D.int))), some (.loc 0), x2, x3, x4, x5, x6, x7, x8, x9, x10, x11, x12]), [m']) := e
  have hm1 : HdSt ((90 + 300) + 1) m' := hm'.weak (by simp)
  obtain ⟨r, m1, e1, r0, r1, h1⟩ := e_draw C [] hm1 (k := 9) (by decide) (by unfold Bd; decide)
  obtain ⟨n, hn⟩ : ∃ n : Nat, 2 + r = (n : Int) := ⟨(2 + r).toNat, by omega⟩
  have n10 : n ≤ 10 := by omega
  have n1 : 1 ≤ n := by omega
  obtain ⟨rs, m2, e2, h2, l2, q2⟩ := e_law_square C h1 (n := n) n10
  rw [mat_of l2 fun r hr => (q2 r hr).1] at e2
  have hR : ∀ i, i < n → ∀ j, j < n → TwB 7 (triM (matOf rs) i j) := tri_tw (matOf_all l2 q2)
  have s1 : sSet 3 (d2 oAdd (dC (.int 2)) (dCall 2 (g__law_draw C) (aCons (dVar 1) (aCons (dC (.int 9)) (aNil))))) [some (.d (.lst (ns.map D.int))), some (.loc 0), x2, x3, x4, x5, x6, x7, x8, x9, x10, x11, x12] [m'] = some (.ok (.nx [some (.d (.lst (ns.map D.int))), some (.loc 0), x2, some (.d (.int (n : Int))), x4, x5, x6, x7, x8, x9, x10, x11, x12]), [m1]) := by
    rw [← hn]
    clear e0 h0 hm' hm1 h1 e2 q2 hR h2 hn r0 r1 lo e
    walk_at "evh"
  have s2 : sSet 4 (dCall 2 (g__law_square C) (aCons (dVar 1) (aCons (dVar 3) (aNil)))) [some (.d (.lst (ns.map D.int))), some (.loc 0), x2, some (.d (.int (n : Int))), x4, x5, x6, x7, x8, x9, x10, x11, x12] [m1] = some (.ok (.nx [some (.d (.lst (ns.map D.int))), some (.loc 0), x2, some (.d (.int (n : Int))), some (.d (.tup (matT (matOf rs) n n))), x5, x6, x7, x8, x9, x10, x11, x12]), [m2]) := by
    clear e0 h0 hm' hm1 h1 q2 hR h2 s1 e1 lo e
    walk_at "evh"
  have e4 := b_tri C (sc := .d (.lst (ns.map D.int))) (R := matOf rs) (n := n) (m := m2) (p_law_4 C (p_law_5 C (p_law_6 C))) (x2 := x2) (x5 := x5) (x6 := x6) (x7 := x7) (x8 := x8) (x9 := x9) (x10 := x10) (x11 := x11) (x12 := x12) n10
  obtain ⟨y6, e6⟩ := b_slant C (sc := .d (.lst (ns.map D.int))) (R := triM (matOf rs)) (n := n) (m := m2) (x2 := x2) (x6 := x6) (x7 := x7) (x8 := x8) (x9 := x9) (x10 := x10) (x11 := x11) (x12 := x12) n10 hR
  have dt := e_determinant C (S := [m2]) (R := triM (matOf rs)) (goes_T n10 tri_0 (tri_rows hR)) n1 n10 ⟨fun i _ _ j _ => rfl, fun i hi => absurd hi (by omega)⟩
  rw [det_tri' tri_0] at dt
  have eq : ∀ T, oEq (.d (encQ (pd (triM (matOf rs)) n))) (.d (encQ (pd (triM (matOf rs)) n))) T = some (.ok (.d (.bl true)), T) := fun T => oEq_refl (pl_encF _) (by decide)
  have z1 : D.tup [.int 1, .int 1] = encQ 1 := rfl
  have gv : giveS [] (.d (.bl true)) [m2] = some (.ok (.d (.bl true)), []) := giveS_nil
  have s5 : sSet 5 (dTup (aCons (dC (.int 1)) (aCons (dC (.int 1)) (aNil)))) [some (.d (.lst (ns.map D.int))), some (.loc 0), x2, some (.d (.int (n : Int))), some (.d (.tup (matT (triM (matOf rs)) n n))), x5, x6, x7, x8, x9, x10, x11, x12] [m2] = some (.ok (.nx [some (.d (.lst (ns.map D.int))), some (.loc 0), x2, some (.d (.int (n : Int))), some (.d (.tup (matT (triM (matOf rs)) n n))), some (.d (encQ 1)), x6, x7, x8, x9, x10, x11, x12]), [m2]) := rfl
  have tail : p_law_2 C (p_law_3 C (p_law_4 C (p_law_5 C (p_law_6 C)))) [some (.d (.lst (ns.map D.int))), some (.loc 0), x2, x3, x4, x5, x6, x7, x8, x9, x10, x11, x12] [m'] = some (.ok (.rt (.d (.bl true))), [m2]) := by
    unfold p_law_2
    rw [sSeq_eq, s1, bnd_nx, sSeq_eq, s2, bnd_nx, e4]
    unfold p_law_4 p_law_5 p_law_6
    rw [sSeq_eq, s5, bnd_nx, sSeq_eq, e6, bnd_nx]
    clear e0 h0 hm' hm1 h1 q2 hR h2 s1 s2 e1 lo e e4 e6 s5
    walk_at "evh"
  rw [q_law, parts_law]
  unfold p_law_0 p_law_1
  clear h0 hm' e hl hm1 h1 q2 hR h2 s1 s2 e1 e4 e6 s5 dt eq
  walk_at "evh"
end P52
set_option Elab.async false
set_option linter.all false
set_option maxRecDepth 100000
set_option maxHeartbeats 4000000
namespace P52
open PySem PySem.Spec PyProof.Rows L2 DL
/-! what the top has left -/
structure Txt (w : World) (K : PySem.W.Frag) (mg : Str → Option Value) : Prop where
  x_NoSquare : KExc K mg "NoSquare"
  d_is_integer : ∃ fd, FunD K "is_integer" "is_integer" (defArgs s_is_integer) (defBody s_is_integer) (defScope s_is_integer) [] [] (He.ga K "is_integer") fd
  m_is_integer : mg "is_integer" = some (.ref (He.ga K "is_integer"))
  d_divisor : ∃ fd, FunD K "divisor" "divisor" (defArgs s_divisor) (defBody s_divisor) (defScope s_divisor) [] [] (He.ga K "divisor") fd
  m_divisor : mg "divisor" = some (.ref (He.ga K "divisor"))
  d_lowest : ∃ fd, FunD K "lowest" "lowest" (defArgs s_lowest) (defBody s_lowest) (defScope s_lowest) [] [] (He.ga K "lowest") fd
  m_lowest : mg "lowest" = some (.ref (He.ga K "lowest"))
  d_is_fraction : ∃ fd, FunD K "is_fraction" "is_fraction" (defArgs s_is_fraction) (defBody s_is_fraction) (defScope s_is_fraction) [] [] (He.ga K "is_fraction") fd
  m_is_fraction : mg "is_fraction" = some (.ref (He.ga K "is_fraction"))
  d_minus : ∃ fd, FunD K "minus" "minus" (defArgs s_minus) (defBody s_minus) (defScope s_minus) [] [] (He.ga K "minus") fd
  m_minus : mg "minus" = some (.ref (He.ga K "minus"))
  d_times : ∃ fd, FunD K "times" "times" (defArgs s_times) (defBody s_times) (defScope s_times) [] [] (He.ga K "times") fd
  m_times : mg "times" = some (.ref (He.ga K "times"))
  d_over : ∃ fd, FunD K "over" "over" (defArgs s_over) (defBody s_over) (defScope s_over) [] [] (He.ga K "over") fd
  m_over : mg "over" = some (.ref (He.ga K "over"))
  d_are_rows : ∃ fd, FunD K "are_rows" "are_rows" (defArgs s_are_rows) (defBody s_are_rows) (defScope s_are_rows) [] [] (He.ga K "are_rows") fd
  m_are_rows : mg "are_rows" = some (.ref (He.ga K "are_rows"))
  d_is_square : ∃ fd, FunD K "is_square" "is_square" (defArgs s_is_square) (defBody s_is_square) (defScope s_is_square) [] [] (He.ga K "is_square") fd
  m_is_square : mg "is_square" = some (.ref (He.ga K "is_square"))
  d_check_square : ∃ fd, FunD K "check_square" "check_square" (defArgs s_check_square) (defBody s_check_square) (defScope s_check_square) [] [] (He.ga K "check_square") fd
  m_check_square : mg "check_square" = some (.ref (He.ga K "check_square"))
  d_leading_row : ∃ fd, FunD K "leading_row" "leading_row" (defArgs s_leading_row) (defBody s_leading_row) (defScope s_leading_row) [] [] (He.ga K "leading_row") fd
  m_leading_row : mg "leading_row" = some (.ref (He.ga K "leading_row"))
  d_lead_by : ∃ fd, FunD K "lead_by" "lead_by" (defArgs s_lead_by) (defBody s_lead_by) (defScope s_lead_by) [] [] (He.ga K "lead_by") fd
  m_lead_by : mg "lead_by" = some (.ref (He.ga K "lead_by"))
  d_led_out : ∃ fd, FunD K "led_out" "led_out" (defArgs s_led_out) (defBody s_led_out) (defScope s_led_out) [] [] (He.ga K "led_out") fd
  m_led_out : mg "led_out" = some (.ref (He.ga K "led_out"))
  d_determinant : ∃ fd, FunD K "determinant" "determinant" (defArgs s_determinant) (defBody s_determinant) (defScope s_determinant) [] [] (He.ga K "determinant") fd
  m_determinant : mg "determinant" = some (.ref (He.ga K "determinant"))
  d__law_hand : ∃ fd, FunD K "_law_hand" "_law_hand" (defArgs s__law_hand) (defBody s__law_hand) (defScope s__law_hand) [] [] (He.ga K "_law_hand") fd
  m__law_hand : mg "_law_hand" = some (.ref (He.ga K "_law_hand"))
  d__law_draw : ∃ fd, FunD K "_law_draw" "_law_draw" (defArgs s__law_draw) (defBody s__law_draw) (defScope s__law_draw) [] [] (He.ga K "_law_draw") fd
  m__law_draw : mg "_law_draw" = some (.ref (He.ga K "_law_draw"))
  d__law_lowest : ∃ fd, FunD K "_law_lowest" "_law_lowest" (defArgs s__law_lowest) (defBody s__law_lowest) (defScope s__law_lowest) [] [] (He.ga K "_law_lowest") fd
  m__law_lowest : mg "_law_lowest" = some (.ref (He.ga K "_law_lowest"))
  d__law_plus : ∃ fd, FunD K "_law_plus" "_law_plus" (defArgs s__law_plus) (defBody s__law_plus) (defScope s__law_plus) [] [] (He.ga K "_law_plus") fd
  m__law_plus : mg "_law_plus" = some (.ref (He.ga K "_law_plus"))
  d__law_times : ∃ fd, FunD K "_law_times" "_law_times" (defArgs s__law_times) (defBody s__law_times) (defScope s__law_times) [] [] (He.ga K "_law_times") fd
  m__law_times : mg "_law_times" = some (.ref (He.ga K "_law_times"))
  d__law_square : ∃ fd, FunD K "_law_square" "_law_square" (defArgs s__law_square) (defBody s__law_square) (defScope s__law_square) [] [] (He.ga K "_law_square") fd
  m__law_square : mg "_law_square" = some (.ref (He.ga K "_law_square"))
  d__law_orders : ∃ fd, FunD K "_law_orders" "_law_orders" (defArgs s__law_orders) (defBody s__law_orders) (defScope s__law_orders) [] [] (He.ga K "_law_orders") fd
  m__law_orders : mg "_law_orders" = some (.ref (He.ga K "_law_orders"))
  d__law_due : ∃ fd, FunD K "_law_due" "_law_due" (defArgs s__law_due) (defBody s__law_due) (defScope s__law_due) [] [] (He.ga K "_law_due") fd
  m__law_due : mg "_law_due" = some (.ref (He.ga K "_law_due"))
  d_law : ∃ fd, FunD K "law" "law" (defArgs s_law) (defBody s_law) (defScope s_law) [] [] (He.ga K "law") fd
  m_law : mg "law" = some (.ref (He.ga K "law"))
  b_abs : mg "abs" = none
  b_all : mg "all" = none
  b_bool : mg "bool" = none
  b_enumerate : mg "enumerate" = none
  b_int : mg "int" = none
  b_isinstance : mg "isinstance" = none
  b_len : mg "len" = none
  b_list : mg "list" = none
  b_range : mg "range" = none
  b_tuple : mg "tuple" = none
  b_zip : mg "zip" = none
  i_MOST_ROWS : ∃ t, mg "MOST_ROWS" = some (.int 10 t)
section
variable {P : Program} {w : World} {K : PySem.W.Frag} {mg : Str → Option Value} {base : Heap}
theorem sc_is_integer : FnScope ["thing"] ["thing"] (defScope s_is_integer) := ⟨rfl, rfl, rfl, by decide +kernel, rfl, by decide +kernel, by decide +kernel⟩
theorem ok_is_integer (T : Txt w K mg) : FnD P w K mg base 1 "is_integer" 1 (g_is_integer (He.ga K)) := by
  obtain ⟨fd, F⟩ := T.d_is_integer
  have hb : ∀ (kV doc pm : Value) (an : Option Addr) (cdv ct : Value) (us : List Value), us.length = (["thing"] : List Str).length → bindArgs (PySem.W.fnOf "is_integer" "is_integer" (defArgs s_is_integer) (defBody s_is_integer) (defScope s_is_integer) .none kV doc pm an cdv ct) ⟨us, []⟩ = pure ((["thing"] : List Str).zip us) := (fun _ _ _ _ _ _ us hl => match us, hl with | [_], _ => rfl)
  refine FnD.as (g := dDef giveS 1 (["thing"] : List Str).length (F_is_integer (He.ga K))) ?_ rfl
  refine fnD_mk (k := 0) (fb := F_is_integer (He.ga K)) giveS_ok F T.m_is_integer sc_is_integer rfl hb ?_
  intro cdv A outer s H E c
  exact dss_one (ds_ret (de_and (de_callB call_isi oIsi_ok T.b_isinstance bt_isinstance (da_cons (de_var (pv 0)) (da_cons (de_ty T.b_int bt_int) (da_nil)))) (de_one (de_not (de_callB call_isi oIsi_ok T.b_isinstance bt_isinstance (da_cons (de_var (pv 0)) (da_cons (de_ty T.b_bool bt_bool) (da_nil))))))))
theorem sc_divisor : FnScope ["one", "other"] ["one", "other"] (defScope s_divisor) := ⟨rfl, rfl, rfl, by decide +kernel, rfl, by decide +kernel, by decide +kernel⟩
theorem ok_divisor (T : Txt w K mg) : FnD P w K mg base 1 "divisor" 2 (g_divisor (He.ga K)) := by
  obtain ⟨fd, F⟩ := T.d_divisor
  have hb : ∀ (kV doc pm : Value) (an : Option Addr) (cdv ct : Value) (us : List Value), us.length = (["one", "other"] : List Str).length → bindArgs (PySem.W.fnOf "divisor" "divisor" (defArgs s_divisor) (defBody s_divisor) (defScope s_divisor) .none kV doc pm an cdv ct) ⟨us, []⟩ = pure ((["one", "other"] : List Str).zip us) := (fun _ _ _ _ _ _ us hl => match us, hl with | [_, _], _ => rfl)
  refine FnD.as (g := dDef giveS 2 (["one", "other"] : List Str).length (F_divisor (He.ga K))) ?_ rfl
  refine fnD_mk (k := 0) (fb := F_divisor (He.ga K)) giveS_ok F T.m_divisor sc_divisor rfl hb ?_
  intro cdv A outer s H E c
  exact dss_cons (ds_par 0 1 rfl c.nd (de_callB call_abs oAbs_ok T.b_abs bt_abs (da_cons (de_var (pv 0)) (da_nil))) (de_callB call_abs oAbs_ok T.b_abs bt_abs (da_cons (de_var (pv 1)) (da_nil))))
    (dss_cons (ds_while c.po (dt_cmp op_gt oGt_ok (de_var (pv 1)) (de_int)) (dss_one (ds_par 0 1 rfl c.nd (de_var (pv 1)) (de_op op_mod oMod_ok (de_var (pv 0)) (de_var (pv 1))))))
    (dss_one (ds_ret (de_var (pv 0)))))
theorem sc_lowest : FnScope ["top", "bottom", "common"] ["top", "bottom"] (defScope s_lowest) := ⟨rfl, rfl, rfl, by decide +kernel, rfl, by decide +kernel, by decide +kernel⟩
theorem ok_lowest (T : Txt w K mg) : FnD P w K mg base 2 "lowest" 2 (g_lowest (He.ga K)) := by
  obtain ⟨fd, F⟩ := T.d_lowest
  have hb : ∀ (kV doc pm : Value) (an : Option Addr) (cdv ct : Value) (us : List Value), us.length = (["top", "bottom"] : List Str).length → bindArgs (PySem.W.fnOf "lowest" "lowest" (defArgs s_lowest) (defBody s_lowest) (defScope s_lowest) .none kV doc pm an cdv ct) ⟨us, []⟩ = pure ((["top", "bottom"] : List Str).zip us) := (fun _ _ _ _ _ _ us hl => match us, hl with | [_, _], _ => rfl)
  refine FnD.as (g := dDef giveS 2 (["top", "bottom", "common"] : List Str).length (F_lowest (He.ga K))) ?_ rfl
  refine fnD_mk (k := 1) (fb := F_lowest (He.ga K)) giveS_ok F T.m_lowest sc_lowest rfl hb ?_
  intro cdv A outer s H E c
  exact dss_cons (ds_set 2 c.nd (de_call (ok_divisor T) c.tk (c.room.mono (by decide)) (da_cons (de_var (pv 0)) (da_cons (de_var (pv 1)) (da_nil)))))
    (dss_cons (ds_if (dt_cmp op_lt oLt_ok (de_var (pv 1)) (de_int)) (dss_one (ds_set 2 c.nd (de_neg (de_var (pv 2))))) (dss_nil))
    (dss_one (ds_ret (de_tup (da_cons (de_op op_fdivS oDivS_ok (de_var (pv 0)) (de_var (pv 2))) (da_cons (de_op op_fdivS oDivS_ok (de_var (pv 1)) (de_var (pv 2))) (da_nil)))))))
theorem sc_is_fraction : FnScope ["thing"] ["thing"] (defScope s_is_fraction) := ⟨rfl, rfl, rfl, by decide +kernel, rfl, by decide +kernel, by decide +kernel⟩
theorem ok_is_fraction (T : Txt w K mg) : FnD P w K mg base 2 "is_fraction" 1 (g_is_fraction (He.ga K)) := by
  obtain ⟨fd, F⟩ := T.d_is_fraction
  have hb : ∀ (kV doc pm : Value) (an : Option Addr) (cdv ct : Value) (us : List Value), us.length = (["thing"] : List Str).length → bindArgs (PySem.W.fnOf "is_fraction" "is_fraction" (defArgs s_is_fraction) (defBody s_is_fraction) (defScope s_is_fraction) .none kV doc pm an cdv ct) ⟨us, []⟩ = pure ((["thing"] : List Str).zip us) := (fun _ _ _ _ _ _ us hl => match us, hl with | [_], _ => rfl)
  refine FnD.as (g := dDef giveS 1 (["thing"] : List Str).length (F_is_fraction (He.ga K))) ?_ rfl
  refine fnD_mk (k := 1) (fb := F_is_fraction (He.ga K)) giveS_ok F T.m_is_fraction sc_is_fraction rfl hb ?_
  intro cdv A outer s H E c
  exact dss_cons (ds_if (L2.PW.pt (dw_or (dt_not (dt_tru (de_callB call_isi oIsi_ok T.b_isinstance bt_isinstance (da_cons (de_var (pv 0)) (da_cons (de_ty T.b_tuple bt_tuple) (da_nil)))))) (dw_or (dt_cmp (op_neD c.room.units) oNe_ok (de_callB call_len_seq oLen_ok T.b_len bt_len (da_cons (de_var (pv 0)) (da_nil))) (de_int)) (dw_or (dt_not (dt_tru (de_call (ok_is_integer T) c.tk (c.room.mono (by decide)) (da_cons (de_ix ix_seq oIx_ok (de_var (pv 0)) (de_int)) (da_nil))))) (dw_or1 (dt_not (dt_tru (de_call (ok_is_integer T) c.tk (c.room.mono (by decide)) (da_cons (de_ix ix_seq oIx_ok (de_var (pv 0)) (de_int)) (da_nil)))))))))) (dss_one (ds_ret (de_bl))) (dss_nil))
    (dss_one (ds_ret (de_and (de_cmp op_ge oGe_ok (de_ix ix_seq oIx_ok (de_var (pv 0)) (de_int)) (de_int)) (de_one (de_cmp (op_eqD c.room.units) oEq_ok (de_call (ok_divisor T) c.tk (c.room.mono (by decide)) (da_cons (de_ix ix_seq oIx_ok (de_var (pv 0)) (de_int)) (da_cons (de_ix ix_seq oIx_ok (de_var (pv 0)) (de_int)) (da_nil)))) (de_int))))))
theorem sc_minus : FnScope ["one", "other"] ["one", "other"] (defScope s_minus) := ⟨rfl, rfl, rfl, by decide +kernel, rfl, by decide +kernel, by decide +kernel⟩
theorem ok_minus (T : Txt w K mg) : FnD P w K mg base 3 "minus" 2 (g_minus (He.ga K)) := by
  obtain ⟨fd, F⟩ := T.d_minus
  have hb : ∀ (kV doc pm : Value) (an : Option Addr) (cdv ct : Value) (us : List Value), us.length = (["one", "other"] : List Str).length → bindArgs (PySem.W.fnOf "minus" "minus" (defArgs s_minus) (defBody s_minus) (defScope s_minus) .none kV doc pm an cdv ct) ⟨us, []⟩ = pure ((["one", "other"] : List Str).zip us) := (fun _ _ _ _ _ _ us hl => match us, hl with | [_, _], _ => rfl)
  refine FnD.as (g := dDef giveS 2 (["one", "other"] : List Str).length (F_minus (He.ga K))) ?_ rfl
  refine fnD_mk (k := 2) (fb := F_minus (He.ga K)) giveS_ok F T.m_minus sc_minus rfl hb ?_
  intro cdv A outer s H E c
  exact dss_one (ds_ret (de_call (ok_lowest T) c.tk (c.room.mono (by decide)) (da_cons (de_op op_sub oSub_ok (de_op op_mulW oMul_ok (de_ix ix_seq oIx_ok (de_var (pv 0)) (de_int)) (de_ix ix_seq oIx_ok (de_var (pv 1)) (de_int))) (de_op op_mulW oMul_ok (de_ix ix_seq oIx_ok (de_var (pv 1)) (de_int)) (de_ix ix_seq oIx_ok (de_var (pv 0)) (de_int)))) (da_cons (de_op op_mulW oMul_ok (de_ix ix_seq oIx_ok (de_var (pv 0)) (de_int)) (de_ix ix_seq oIx_ok (de_var (pv 1)) (de_int))) (da_nil)))))
theorem sc_times : FnScope ["one", "other"] ["one", "other"] (defScope s_times) := ⟨rfl, rfl, rfl, by decide +kernel, rfl, by decide +kernel, by decide +kernel⟩
theorem ok_times (T : Txt w K mg) : FnD P w K mg base 3 "times" 2 (g_times (He.ga K)) := by
  obtain ⟨fd, F⟩ := T.d_times
  have hb : ∀ (kV doc pm : Value) (an : Option Addr) (cdv ct : Value) (us : List Value), us.length = (["one", "other"] : List Str).length → bindArgs (PySem.W.fnOf "times" "times" (defArgs s_times) (defBody s_times) (defScope s_times) .none kV doc pm an cdv ct) ⟨us, []⟩ = pure ((["one", "other"] : List Str).zip us) := (fun _ _ _ _ _ _ us hl => match us, hl with | [_, _], _ => rfl)
  refine FnD.as (g := dDef giveS 2 (["one", "other"] : List Str).length (F_times (He.ga K))) ?_ rfl
  refine fnD_mk (k := 2) (fb := F_times (He.ga K)) giveS_ok F T.m_times sc_times rfl hb ?_
  intro cdv A outer s H E c
  exact dss_one (ds_ret (de_call (ok_lowest T) c.tk (c.room.mono (by decide)) (da_cons (de_op op_mulW oMul_ok (de_ix ix_seq oIx_ok (de_var (pv 0)) (de_int)) (de_ix ix_seq oIx_ok (de_var (pv 1)) (de_int))) (da_cons (de_op op_mulW oMul_ok (de_ix ix_seq oIx_ok (de_var (pv 0)) (de_int)) (de_ix ix_seq oIx_ok (de_var (pv 1)) (de_int))) (da_nil)))))
theorem sc_over : FnScope ["one", "other"] ["one", "other"] (defScope s_over) := ⟨rfl, rfl, rfl, by decide +kernel, rfl, by decide +kernel, by decide +kernel⟩
theorem ok_over (T : Txt w K mg) : FnD P w K mg base 3 "over" 2 (g_over (He.ga K)) := by
  obtain ⟨fd, F⟩ := T.d_over
  have hb : ∀ (kV doc pm : Value) (an : Option Addr) (cdv ct : Value) (us : List Value), us.length = (["one", "other"] : List Str).length → bindArgs (PySem.W.fnOf "over" "over" (defArgs s_over) (defBody s_over) (defScope s_over) .none kV doc pm an cdv ct) ⟨us, []⟩ = pure ((["one", "other"] : List Str).zip us) := (fun _ _ _ _ _ _ us hl => match us, hl with | [_, _], _ => rfl)
  refine FnD.as (g := dDef giveS 2 (["one", "other"] : List Str).length (F_over (He.ga K))) ?_ rfl
  refine fnD_mk (k := 2) (fb := F_over (He.ga K)) giveS_ok F T.m_over sc_over rfl hb ?_
  intro cdv A outer s H E c
  exact dss_one (ds_ret (de_call (ok_lowest T) c.tk (c.room.mono (by decide)) (da_cons (de_op op_mulW oMul_ok (de_ix ix_seq oIx_ok (de_var (pv 0)) (de_int)) (de_ix ix_seq oIx_ok (de_var (pv 1)) (de_int))) (da_cons (de_op op_mulW oMul_ok (de_ix ix_seq oIx_ok (de_var (pv 0)) (de_int)) (de_ix ix_seq oIx_ok (de_var (pv 1)) (de_int))) (da_nil)))))
theorem sc_are_rows : FnScope ["thing", "rows", "columns", "row"] ["thing", "rows", "columns"] (defScope s_are_rows) := ⟨rfl, rfl, rfl, by decide +kernel, rfl, by decide +kernel, by decide +kernel⟩
theorem ok_are_rows (T : Txt w K mg) : FnD P w K mg base 1 "are_rows" 3 (g_are_rows (He.ga K)) := by
  obtain ⟨fd, F⟩ := T.d_are_rows
  have hb : ∀ (kV doc pm : Value) (an : Option Addr) (cdv ct : Value) (us : List Value), us.length = (["thing", "rows", "columns"] : List Str).length → bindArgs (PySem.W.fnOf "are_rows" "are_rows" (defArgs s_are_rows) (defBody s_are_rows) (defScope s_are_rows) .none kV doc pm an cdv ct) ⟨us, []⟩ = pure ((["thing", "rows", "columns"] : List Str).zip us) := (fun _ _ _ _ _ _ us hl => match us, hl with | [_, _, _], _ => rfl)
  refine FnD.as (g := dDef giveS 3 (["thing", "rows", "columns", "row"] : List Str).length (F_are_rows (He.ga K))) ?_ rfl
  refine fnD_mk (k := 0) (fb := F_are_rows (He.ga K)) giveS_ok F T.m_are_rows sc_are_rows rfl hb ?_
  intro cdv A outer s H E c
  exact dss_cons (ds_if (L2.PW.pt (dw_or (dt_not (dt_tru (de_callB call_isi oIsi_ok T.b_isinstance bt_isinstance (da_cons (de_var (pv 0)) (da_cons (de_ty T.b_tuple bt_tuple) (da_nil)))))) (dw_or1 (dt_cmp (op_neD c.room.units) oNe_ok (de_callB call_len_seq oLen_ok T.b_len bt_len (da_cons (de_var (pv 0)) (da_nil))) (de_var (pv 1)))))) (dss_one (ds_ret (de_bl))) (dss_nil))
    (dss_one (ds_ret (de_callB (cr_all rfl) oAll_ok T.b_all bt_all (da_cons (de_lc lcF_ok rfl c.nd (blkOk_by (own := [("row", 3)]) (N := ["thing", "rows", "columns", "row"]) (sc := defScope s_are_rows) (by decide +kernel)) (di_seq (de_var (pv 0))) (fun _ _ _ _ _ => dg_name 3 c.nd) (fun _ _ _ _ _ => dts_yes) (fun _ _ _ _ _ => de_and (de_callB call_isi oIsi_ok T.b_isinstance bt_isinstance (da_cons (de_var (pv 3)) (da_cons (de_ty T.b_tuple bt_tuple) (da_nil)))) (de_one (de_cmp (op_eqD c.room.units) oEq_ok (de_callB call_len_seq oLen_ok T.b_len bt_len (da_cons (de_var (pv 3)) (da_nil))) (de_var (pv 2)))))) (da_nil)))))
theorem sc_is_square : FnScope ["numbers", "row", "item"] ["numbers"] (defScope s_is_square) := ⟨rfl, rfl, rfl, by decide +kernel, rfl, by decide +kernel, by decide +kernel⟩
theorem ok_is_square (T : Txt w K mg) : FnD P w K mg base 3 "is_square" 1 (g_is_square (He.ga K)) := by
  obtain ⟨fd, F⟩ := T.d_is_square
  have hb : ∀ (kV doc pm : Value) (an : Option Addr) (cdv ct : Value) (us : List Value), us.length = (["numbers"] : List Str).length → bindArgs (PySem.W.fnOf "is_square" "is_square" (defArgs s_is_square) (defBody s_is_square) (defScope s_is_square) .none kV doc pm an cdv ct) ⟨us, []⟩ = pure ((["numbers"] : List Str).zip us) := (fun _ _ _ _ _ _ us hl => match us, hl with | [_], _ => rfl)
  refine FnD.as (g := dDef giveS 1 (["numbers", "row", "item"] : List Str).length (F_is_square (He.ga K))) ?_ rfl
  refine fnD_mk (k := 2) (fb := F_is_square (He.ga K)) giveS_ok F T.m_is_square sc_is_square rfl hb ?_
  intro cdv A outer s H E c
  exact dss_cons (ds_if (L2.PW.pt (dw_or (dt_not (dt_tru (de_callB call_isi oIsi_ok T.b_isinstance bt_isinstance (da_cons (de_var (pv 0)) (da_cons (de_ty T.b_tuple bt_tuple) (da_nil)))))) (dw_or1 (dt_not (dt_chain op_le op_le oLe_ok oLe_ok (de_int) (de_callB call_len_seq oLen_ok T.b_len bt_len (da_cons (de_var (pv 0)) (da_nil))) (de_gint (Exists.choose_spec T.i_MOST_ROWS))))))) (dss_one (ds_ret (de_bl))) (dss_nil))
    (dss_cons (ds_if (dt_not (dt_tru (de_call (ok_are_rows T) c.tk (c.room.mono (by decide)) (da_cons (de_var (pv 0)) (da_cons (de_callB call_len_seq oLen_ok T.b_len bt_len (da_cons (de_var (pv 0)) (da_nil))) (da_cons (de_callB call_len_seq oLen_ok T.b_len bt_len (da_cons (de_var (pv 0)) (da_nil))) (da_nil))))))) (dss_one (ds_ret (de_bl))) (dss_nil))
    (dss_one (ds_ret (de_callB (cr_all rfl) oAll_ok T.b_all bt_all (da_cons (de_lc2 (vs1 := [2]) lcF_ok rfl c.nd (blkOk_by (own := [("row", 1), ("item", 2)]) (N := ["numbers", "row", "item"]) (sc := defScope s_is_square) (by decide +kernel)) (by decide) (di_seq (de_var (pv 0))) (fun _ _ _ _ _ => dg_name 1 c.nd) (fun _ _ _ _ _ => di_seq (de_var (pv 1))) (fun _ _ _ _ _ => dg_name 2 c.nd) (fun _ _ _ _ _ => de_call (ok_is_fraction T) takes0 (c.room.mono (by decide)) (da_cons (de_var (pv 2)) (da_nil)))) (da_nil))))))
theorem sc_check_square : FnScope ["numbers"] ["numbers"] (defScope s_check_square) := ⟨rfl, rfl, rfl, by decide +kernel, rfl, by decide +kernel, by decide +kernel⟩
theorem ok_check_square (T : Txt w K mg) : FnD P w K mg base 4 "check_square" 1 (g_check_square (He.ga K)) := by
  obtain ⟨fd, F⟩ := T.d_check_square
  have hb : ∀ (kV doc pm : Value) (an : Option Addr) (cdv ct : Value) (us : List Value), us.length = (["numbers"] : List Str).length → bindArgs (PySem.W.fnOf "check_square" "check_square" (defArgs s_check_square) (defBody s_check_square) (defScope s_check_square) .none kV doc pm an cdv ct) ⟨us, []⟩ = pure ((["numbers"] : List Str).zip us) := (fun _ _ _ _ _ _ us hl => match us, hl with | [_], _ => rfl)
  refine FnD.as (g := dDef giveS 1 (["numbers"] : List Str).length (F_check_square (He.ga K))) ?_ rfl
  refine fnD_mk (k := 3) (fb := F_check_square (He.ga K)) giveS_ok F T.m_check_square sc_check_square rfl hb ?_
  intro cdv A outer s H E c
  exact dss_one (ds_if (dt_not (dt_tru (de_call (ok_is_square T) c.tk (c.room.mono (by decide)) (da_cons (de_var (pv 0)) (da_nil))))) (dss_one (ds_raise0 T.x_NoSquare rfl c.tk)) (dss_nil))
theorem sc_leading_row : FnScope ["rows", "at", "row"] ["rows", "at"] (defScope s_leading_row) := ⟨rfl, rfl, rfl, by decide +kernel, rfl, by decide +kernel, by decide +kernel⟩
theorem ok_leading_row (T : Txt w K mg) : FnD P w K mg base 1 "leading_row" 2 (g_leading_row (He.ga K)) := by
  obtain ⟨fd, F⟩ := T.d_leading_row
  have hb : ∀ (kV doc pm : Value) (an : Option Addr) (cdv ct : Value) (us : List Value), us.length = (["rows", "at"] : List Str).length → bindArgs (PySem.W.fnOf "leading_row" "leading_row" (defArgs s_leading_row) (defBody s_leading_row) (defScope s_leading_row) .none kV doc pm an cdv ct) ⟨us, []⟩ = pure ((["rows", "at"] : List Str).zip us) := (fun _ _ _ _ _ _ us hl => match us, hl with | [_, _], _ => rfl)
  refine FnD.as (g := dDef giveS 2 (["rows", "at", "row"] : List Str).length (F_leading_row (He.ga K))) ?_ rfl
  refine fnD_mk (k := 0) (fb := F_leading_row (He.ga K)) giveS_ok F T.m_leading_row sc_leading_row rfl hb ?_
  intro cdv A outer s H E c
  exact dss_cons (ds_for (vs := [2]) c.po rfl (di_rng2 T.b_range (da_cons (de_var (pv 1)) (da_cons (de_callB call_len_seq oLen_ok T.b_len bt_len (da_cons (de_var (pv 0)) (da_nil))) (da_nil)))) (dg_name 2 c.nd) (dss_one (ds_if (dt_cmp (op_neD c.room.units) oNe_ok (de_ix ix_seq oIx_ok (de_ix ix_seq oIx_ok (de_var (pv 0)) (de_var (pv 2))) (de_var (pv 1))) (de_tup (da_cons (de_int) (da_cons (de_int) (da_nil))))) (dss_one (ds_ret (de_var (pv 2)))) (dss_nil))))
    (dss_one (ds_ret (de_non)))
theorem sc_lead_by : FnScope ["rows", "at", "first", "row", "part", "item", "other"] ["rows", "at"] (defScope s_lead_by) := ⟨rfl, rfl, rfl, by decide +kernel, rfl, by decide +kernel, by decide +kernel⟩
theorem ok_lead_by (T : Txt w K mg) : FnD P w K mg base 4 "lead_by" 2 (g_lead_by (He.ga K)) := by
  obtain ⟨fd, F⟩ := T.d_lead_by
  have hb : ∀ (kV doc pm : Value) (an : Option Addr) (cdv ct : Value) (us : List Value), us.length = (["rows", "at"] : List Str).length → bindArgs (PySem.W.fnOf "lead_by" "lead_by" (defArgs s_lead_by) (defBody s_lead_by) (defScope s_lead_by) .none kV doc pm an cdv ct) ⟨us, []⟩ = pure ((["rows", "at"] : List Str).zip us) := (fun _ _ _ _ _ _ us hl => match us, hl with | [_, _], _ => rfl)
  refine FnD.as (g := dDef giveS 2 (["rows", "at", "first", "row", "part", "item", "other"] : List Str).length (F_lead_by (He.ga K))) ?_ rfl
  refine fnD_mk (k := 3) (fb := F_lead_by (He.ga K)) giveS_ok F T.m_lead_by sc_lead_by rfl hb ?_
  intro cdv A outer s H E c
  exact dss_cons (ds_set 2 c.nd (de_ix ix_seq oIx_ok (de_ix ix_seq oIx_ok (de_var (pv 0)) (de_var (pv 1))) (de_var (pv 1))))
    (dss_cons (ds_asg (vs := []) (de_lc lcF_ok rfl c.nd (blkOk_by (own := [("item", 5)]) (N := ["rows", "at", "first", "row", "part", "item", "other"]) (sc := defScope s_lead_by) (by decide +kernel)) (di_seq (de_ix ix_seq oIx_ok (de_var (pv 0)) (de_var (pv 1)))) (fun _ _ _ _ _ => dg_name 5 c.nd) (fun _ _ _ _ _ => dts_yes) (fun _ _ _ _ _ => de_call (ok_over T) takes0 (c.room.mono (by decide)) (da_cons (de_var (pv 5)) (da_cons (de_var (pv 2)) (da_nil))))) (dg_ix (Wx := WF) (de_var (pv 0)) (de_var (pv 1))))
    (dss_one (ds_for (vs := [3]) c.po rfl (di_rng1 T.b_range (da_cons (de_callB call_len_seq oLen_ok T.b_len bt_len (da_cons (de_var (pv 0)) (da_nil))) (da_nil))) (dg_name 3 c.nd) (dss_cons (ds_set 4 c.nd (de_ix ix_seq oIx_ok (de_ix ix_seq oIx_ok (de_var (pv 0)) (de_var (pv 3))) (de_var (pv 1))))
    (dss_one (ds_if (L2.PW.pt (dw_and (dt_cmp (op_neD c.room.units) oNe_ok (de_var (pv 3)) (de_var (pv 1))) (dw_and1 (dt_cmp (op_neD c.room.units) oNe_ok (de_var (pv 4)) (de_tup (da_cons (de_int) (da_cons (de_int) (da_nil)))))))) (dss_one (ds_asg (vs := []) (de_lc lcF_ok rfl c.nd (blkOk_by (own := [("item", 5), ("other", 6)]) (N := ["rows", "at", "first", "row", "part", "item", "other"]) (sc := defScope s_lead_by) (by decide +kernel)) (di_zip T.b_zip (da_cons (de_ix ix_seq oIx_ok (de_var (pv 0)) (de_var (pv 3))) (da_cons (de_ix ix_seq oIx_ok (de_var (pv 0)) (de_var (pv 1))) (da_nil)))) (fun _ _ _ _ _ => dg_tup rfl (dgs_cons (dg_name 5 c.nd) (dgs_cons (dg_name 6 c.nd) (dgs_nil)))) (fun _ _ _ _ _ => dts_yes) (fun _ _ _ _ _ => de_call (ok_minus T) takes0 (c.room.mono (by decide)) (da_cons (de_var (pv 5)) (da_cons (de_call (ok_times T) takes0 (c.room.mono (by decide)) (da_cons (de_var (pv 4)) (da_cons (de_var (pv 6)) (da_nil)))) (da_nil))))) (dg_ix (Wx := WF) (de_var (pv 0)) (de_var (pv 3))))) (dss_nil)))))))
theorem sc_led_out : FnScope ["rows", "kept", "found", "at", "row"] ["rows"] (defScope s_led_out) := ⟨rfl, rfl, rfl, by decide +kernel, rfl, by decide +kernel, by decide +kernel⟩
theorem ok_led_out (T : Txt w K mg) : FnD P w K mg base 5 "led_out" 1 (g_led_out (He.ga K)) := by
  obtain ⟨fd, F⟩ := T.d_led_out
  have hb : ∀ (kV doc pm : Value) (an : Option Addr) (cdv ct : Value) (us : List Value), us.length = (["rows"] : List Str).length → bindArgs (PySem.W.fnOf "led_out" "led_out" (defArgs s_led_out) (defBody s_led_out) (defScope s_led_out) .none kV doc pm an cdv ct) ⟨us, []⟩ = pure ((["rows"] : List Str).zip us) := (fun _ _ _ _ _ _ us hl => match us, hl with | [_], _ => rfl)
  refine FnD.as (g := dDef giveS 1 (["rows", "kept", "found", "at", "row"] : List Str).length (F_led_out (He.ga K))) ?_ rfl
  refine fnD_mk (k := 4) (fb := F_led_out (He.ga K)) giveS_ok F T.m_led_out sc_led_out rfl hb ?_
  intro cdv A outer s H E c
  exact dss_cons (ds_setLc 1 lcM_ok rfl c.nd (blkOk_by (own := [("row", 4)]) (N := ["rows", "kept", "found", "at", "row"]) (sc := defScope s_led_out) (by decide +kernel)) (di_seq (de_var (pv 0))) (fun _ _ _ _ _ => dg_name 4 c.nd) (fun _ _ _ _ _ => dts_yes) (fun _ _ _ _ _ => de_callTy call_list_of oList_ok T.b_list bt_list (da_cons (de_var (pv 4)) (da_nil))) (sw_true rfl rfl rfl (by decide +kernel)))
    (dss_cons (ds_set 2 c.nd (de_tup (da_cons (de_int) (da_cons (de_int) (da_nil)))))
    (dss_cons (ds_for (vs := [3]) c.po rfl (di_rng1 T.b_range (da_cons (de_callB call_len_seq oLen_ok T.b_len bt_len (da_cons (de_var (pv 1)) (da_nil))) (da_nil))) (dg_name 3 c.nd) (dss_cons (ds_set 4 c.nd (de_call (ok_leading_row T) c.tk (c.room.mono (by decide)) (da_cons (de_var (pv 1)) (da_cons (de_var (pv 3)) (da_nil)))))
    (dss_cons (ds_if (dt_cmp op_isN oIsN_ok (de_var (pv 4)) (de_non)) (dss_one (ds_ret (de_tup (da_cons (de_tup (da_cons (de_int) (da_cons (de_int) (da_nil)))) (da_cons (de_lst (da_nil)) (da_nil)))))) (dss_nil))
    (dss_cons (ds_if (dt_cmp (op_neD c.room.units) oNe_ok (de_var (pv 4)) (de_var (pv 3))) (dss_cons (ds_asg (vs := []) (de_tup (da_cons (de_ix ix_seq oIx_ok (de_var (pv 1)) (de_var (pv 4))) (da_cons (de_ix ix_seq oIx_ok (de_var (pv 1)) (de_var (pv 3))) (da_nil)))) (dg_tup rfl (dgs_cons (dg_ix (Wx := WF) (de_var (pv 1)) (de_var (pv 3))) (dgs_cons (dg_ix (Wx := WF) (de_var (pv 1)) (de_var (pv 4))) (dgs_nil)))))
    (dss_one (ds_set 2 c.nd (de_call (ok_times T) c.tk (c.room.mono (by decide)) (da_cons (de_var (pv 2)) (da_cons (de_tup (da_cons (de_neg (de_int)) (da_cons (de_int) (da_nil)))) (da_nil))))))) (dss_nil))
    (dss_cons (ds_set 2 c.nd (de_call (ok_times T) c.tk (c.room.mono (by decide)) (da_cons (de_var (pv 2)) (da_cons (de_ix ix_seq oIx_ok (de_ix ix_seq oIx_ok (de_var (pv 1)) (de_var (pv 3))) (de_var (pv 3))) (da_nil)))))
    (dss_one (ds_drop (de_call (ok_lead_by T) c.tk (c.room.mono (by decide)) (da_cons (de_var (pv 1)) (da_cons (de_var (pv 3)) (da_nil)))))))))))
    (dss_one (ds_ret (de_tupF (da_cons (de_var (pv 2)) (da_cons (de_var (pv 1)) (da_nil))))))))
theorem sc_determinant : FnScope ["numbers"] ["numbers"] (defScope s_determinant) := ⟨rfl, rfl, rfl, by decide +kernel, rfl, by decide +kernel, by decide +kernel⟩
theorem ok_determinant (T : Txt w K mg) : FnD P w K mg base 6 "determinant" 1 (g_determinant (He.ga K)) := by
  obtain ⟨fd, F⟩ := T.d_determinant
  have hb : ∀ (kV doc pm : Value) (an : Option Addr) (cdv ct : Value) (us : List Value), us.length = (["numbers"] : List Str).length → bindArgs (PySem.W.fnOf "determinant" "determinant" (defArgs s_determinant) (defBody s_determinant) (defScope s_determinant) .none kV doc pm an cdv ct) ⟨us, []⟩ = pure ((["numbers"] : List Str).zip us) := (fun _ _ _ _ _ _ us hl => match us, hl with | [_], _ => rfl)
  refine FnD.as (g := dDef giveS 1 (["numbers"] : List Str).length (F_determinant (He.ga K))) ?_ rfl
  refine fnD_mk (k := 5) (fb := F_determinant (He.ga K)) giveS_ok F T.m_determinant sc_determinant rfl hb ?_
  intro cdv A outer s H E c
  exact dss_cons (ds_drop (de_call (ok_check_square T) c.tk (c.room.mono (by decide)) (da_cons (de_var (pv 0)) (da_nil))))
    (dss_one (ds_ret (de_ix ix_seq oIx_ok (de_call (ok_led_out T) c.tk (c.room.mono (by decide)) (da_cons (de_var (pv 0)) (da_nil))) (de_int))))
theorem sc__law_hand : FnScope ["_law_script", "_law_cells", "_law_cell"] ["_law_script"] (defScope s__law_hand) := ⟨rfl, rfl, rfl, by decide +kernel, rfl, by decide +kernel, by decide +kernel⟩
theorem ok__law_hand (T : Txt w K mg) : FnD P w K mg base 1 "_law_hand" 1 (g__law_hand (He.ga K)) := by
  obtain ⟨fd, F⟩ := T.d__law_hand
  have hb : ∀ (kV doc pm : Value) (an : Option Addr) (cdv ct : Value) (us : List Value), us.length = (["_law_script"] : List Str).length → bindArgs (PySem.W.fnOf "_law_hand" "_law_hand" (defArgs s__law_hand) (defBody s__law_hand) (defScope s__law_hand) .none kV doc pm an cdv ct) ⟨us, []⟩ = pure ((["_law_script"] : List Str).zip us) := (fun _ _ _ _ _ _ us hl => match us, hl with | [_], _ => rfl)
  refine FnD.as (g := dDef giveM 1 (["_law_script", "_law_cells", "_law_cell"] : List Str).length (F__law_hand (He.ga K))) ?_ rfl
  refine fnD_mk (k := 0) (fb := F__law_hand (He.ga K)) giveM_ok F T.m__law_hand sc__law_hand rfl hb ?_
  intro cdv A outer s H E c
  exact dss_cons (ds_setLc 1 lcF_ok rfl c.nd (blkOk_by (own := [("_law_cell", 2)]) (N := ["_law_script", "_law_cells", "_law_cell"]) (sc := defScope s__law_hand) (by decide +kernel)) (di_seq (de_sl sl_A oSlA_ok (de_var (pv 0)) (do_none) (do_some (de_int)))) (fun _ _ _ _ _ => dg_name 2 c.nd) (fun _ _ _ _ _ => dts_yes) (fun _ _ _ _ _ => de_callB call_abs oAbs_ok T.b_abs bt_abs (da_cons (de_callTy call_int1 oInt_ok T.b_int bt_int (da_cons (de_var (pv 2)) (da_nil))) (da_nil))) (sw_true rfl rfl rfl (by decide +kernel)))
    (dss_one (ds_ret (de_loc (da_cons (de_var (pv 1)) (da_cons (de_int) (da_cons (de_int) (da_cons (de_op op_add oAdd_ok (de_int) (de_callB call_len_seq oLen_ok T.b_len bt_len (da_cons (de_var (pv 1)) (da_nil)))) (da_cons (de_int) (da_nil)))))))))
theorem sc__law_draw : FnScope ["_law_hand_here", "_law_many", "_law_number", "_law_cell", "_law_digit"] ["_law_hand_here", "_law_many"] (defScope s__law_draw) := ⟨rfl, rfl, rfl, by decide +kernel, rfl, by decide +kernel, by decide +kernel⟩
theorem ok__law_draw (T : Txt w K mg) : FnD P w K mg base 1 "_law_draw" 2 (g__law_draw (He.ga K)) := by
  obtain ⟨fd, F⟩ := T.d__law_draw
  have hb : ∀ (kV doc pm : Value) (an : Option Addr) (cdv ct : Value) (us : List Value), us.length = (["_law_hand_here", "_law_many"] : List Str).length → bindArgs (PySem.W.fnOf "_law_draw" "_law_draw" (defArgs s__law_draw) (defBody s__law_draw) (defScope s__law_draw) .none kV doc pm an cdv ct) ⟨us, []⟩ = pure ((["_law_hand_here", "_law_many"] : List Str).zip us) := (fun _ _ _ _ _ _ us hl => match us, hl with | [_, _], _ => rfl)
  refine FnD.as (g := dDef giveS 2 (["_law_hand_here", "_law_many", "_law_number", "_law_cell", "_law_digit"] : List Str).length (F__law_draw (He.ga K))) ?_ rfl
  refine fnD_mk (k := 0) (fb := F__law_draw (He.ga K)) giveS_ok F T.m__law_draw sc__law_draw rfl hb ?_
  intro cdv A outer s H E c
  exact dss_cons (ds_if (L2.PW.pt (dw_and (dt_cmp (op_eqD c.room.units) oEq_ok (de_ix ix_seq oIx_ok (de_var (pv 0)) (de_int)) (de_int)) (dw_and1 (dt_cmp op_lt oLt_ok (de_ix ix_seq oIx_ok (de_var (pv 0)) (de_int)) (de_callB call_len_seq oLen_ok T.b_len bt_len (da_cons (de_ix ix_seq oIx_ok (de_var (pv 0)) (de_int)) (da_nil))))))) (dss_cons (ds_set 3 c.nd (de_ix ix_seq oIx_ok (de_ix ix_seq oIx_ok (de_var (pv 0)) (de_int)) (de_ix ix_seq oIx_ok (de_var (pv 0)) (de_int))))
    (dss_cons (ds_asg (vs := []) (de_op op_add oAdd_ok (de_ix ix_seq oIx_ok (de_var (pv 0)) (de_int)) (de_int)) (dg_ix (Wx := WF) (de_var (pv 0)) (de_int)))
    (dss_cons (ds_asg (vs := []) (de_op op_mod oMod_ok (de_callTy call_int1 oInt_ok T.b_int bt_int (da_cons (de_op op_add oAdd_ok (de_op op_add oAdd_ok (de_op op_mulW oMul_ok (de_ix ix_seq oIx_ok (de_var (pv 0)) (de_int)) (de_int)) (de_var (pv 3))) (de_int)) (da_nil))) (de_int)) (dg_ix (Wx := WF) (de_var (pv 0)) (de_int)))
    (dss_one (ds_if (dt_cmp op_ge oGe_ok (de_var (pv 3)) (de_op op_pow oPow_ok (de_int) (de_int))) (dss_one (ds_asg (vs := []) (de_var (pv 3)) (dg_ix (Wx := WF) (de_var (pv 0)) (de_int)))) (dss_nil)))))) (dss_nil))
    (dss_cons (ds_if (dt_cmp op_gt oGt_ok (de_ix ix_seq oIx_ok (de_var (pv 0)) (de_int)) (de_int)) (dss_cons (ds_set 4 c.nd (de_op op_mod oMod_ok (de_callTy call_int1 oInt_ok T.b_int bt_int (da_cons (de_ix ix_seq oIx_ok (de_var (pv 0)) (de_int)) (da_nil))) (de_var (pv 1))))
    (dss_cons (ds_asg (vs := []) (de_op op_fdivW oDiv_ok (de_ix ix_seq oIx_ok (de_var (pv 0)) (de_int)) (de_var (pv 1))) (dg_ix (Wx := WF) (de_var (pv 0)) (de_int)))
    (dss_one (ds_ret (de_var (pv 4)))))) (dss_nil))
    (dss_cons (ds_asg (vs := []) (de_op op_add oAdd_ok (de_ix ix_seq oIx_ok (de_var (pv 0)) (de_int)) (de_int)) (dg_ix (Wx := WF) (de_var (pv 0)) (de_int)))
    (dss_cons (ds_set 2 c.nd (de_op op_mod oMod_ok (de_callTy call_int1 oInt_ok T.b_int bt_int (da_cons (de_op op_mulW oMul_ok (de_callTy call_int1 oInt_ok T.b_int bt_int (da_cons (de_op op_add oAdd_ok (de_ix ix_seq oIx_ok (de_var (pv 0)) (de_int)) (de_op op_mulW oMul_ok (de_int) (de_ix ix_seq oIx_ok (de_var (pv 0)) (de_int)))) (da_nil))) (de_int)) (da_nil))) (de_int)))
    (dss_cons (ds_set 2 c.nd (de_op op_mod oMod_ok (de_callTy call_int1 oInt_ok T.b_int bt_int (da_cons (de_op op_mulW oMul_ok (de_var (pv 2)) (de_op op_add oAdd_ok (de_op op_fdivW oDiv_ok (de_var (pv 2)) (de_int)) (de_int))) (da_nil))) (de_int)))
    (dss_cons (ds_set 2 c.nd (de_op op_mod oMod_ok (de_callTy call_int1 oInt_ok T.b_int bt_int (da_cons (de_op op_mulW oMul_ok (de_var (pv 2)) (de_op op_add oAdd_ok (de_op op_fdivW oDiv_ok (de_var (pv 2)) (de_int)) (de_int))) (da_nil))) (de_int)))
    (dss_one (ds_ret (de_op op_mod oMod_ok (de_callTy call_int1 oInt_ok T.b_int bt_int (da_cons (de_op op_fdivW oDiv_ok (de_var (pv 2)) (de_int)) (da_nil))) (de_var (pv 1))))))))))
theorem sc__law_lowest : FnScope ["_law_top", "_law_below", "_law_one", "_law_other"] ["_law_top", "_law_below"] (defScope s__law_lowest) := ⟨rfl, rfl, rfl, by decide +kernel, rfl, by decide +kernel, by decide +kernel⟩
theorem ok__law_lowest (T : Txt w K mg) : FnD P w K mg base 1 "_law_lowest" 2 (g__law_lowest (He.ga K)) := by
  obtain ⟨fd, F⟩ := T.d__law_lowest
  have hb : ∀ (kV doc pm : Value) (an : Option Addr) (cdv ct : Value) (us : List Value), us.length = (["_law_top", "_law_below"] : List Str).length → bindArgs (PySem.W.fnOf "_law_lowest" "_law_lowest" (defArgs s__law_lowest) (defBody s__law_lowest) (defScope s__law_lowest) .none kV doc pm an cdv ct) ⟨us, []⟩ = pure ((["_law_top", "_law_below"] : List Str).zip us) := (fun _ _ _ _ _ _ us hl => match us, hl with | [_, _], _ => rfl)
  refine FnD.as (g := dDef giveS 2 (["_law_top", "_law_below", "_law_one", "_law_other"] : List Str).length (F__law_lowest (He.ga K))) ?_ rfl
  refine fnD_mk (k := 0) (fb := F__law_lowest (He.ga K)) giveS_ok F T.m__law_lowest sc__law_lowest rfl hb ?_
  intro cdv A outer s H E c
  exact dss_cons (ds_par 2 3 rfl c.nd (de_callB call_abs oAbs_ok T.b_abs bt_abs (da_cons (de_var (pv 0)) (da_nil))) (de_var (pv 1)))
    (dss_cons (ds_while c.po (dt_cmp op_gt oGt_ok (de_var (pv 3)) (de_int)) (dss_one (ds_par 2 3 rfl c.nd (de_var (pv 3)) (de_op op_mod oMod_ok (de_callTy call_int1 oInt_ok T.b_int bt_int (da_cons (de_var (pv 2)) (da_nil))) (de_var (pv 3))))))
    (dss_one (ds_ret (de_tup (da_cons (de_op op_fdivW oDiv_ok (de_var (pv 0)) (de_var (pv 2))) (da_cons (de_op op_fdivW oDiv_ok (de_var (pv 1)) (de_var (pv 2))) (da_nil)))))))
theorem sc__law_plus : FnScope ["_law_one", "_law_other"] ["_law_one", "_law_other"] (defScope s__law_plus) := ⟨rfl, rfl, rfl, by decide +kernel, rfl, by decide +kernel, by decide +kernel⟩
theorem ok__law_plus (T : Txt w K mg) : FnD P w K mg base 2 "_law_plus" 2 (g__law_plus (He.ga K)) := by
  obtain ⟨fd, F⟩ := T.d__law_plus
  have hb : ∀ (kV doc pm : Value) (an : Option Addr) (cdv ct : Value) (us : List Value), us.length = (["_law_one", "_law_other"] : List Str).length → bindArgs (PySem.W.fnOf "_law_plus" "_law_plus" (defArgs s__law_plus) (defBody s__law_plus) (defScope s__law_plus) .none kV doc pm an cdv ct) ⟨us, []⟩ = pure ((["_law_one", "_law_other"] : List Str).zip us) := (fun _ _ _ _ _ _ us hl => match us, hl with | [_, _], _ => rfl)
  refine FnD.as (g := dDef giveS 2 (["_law_one", "_law_other"] : List Str).length (F__law_plus (He.ga K))) ?_ rfl
  refine fnD_mk (k := 1) (fb := F__law_plus (He.ga K)) giveS_ok F T.m__law_plus sc__law_plus rfl hb ?_
  intro cdv A outer s H E c
  exact dss_one (ds_ret (de_call (ok__law_lowest T) c.tk (c.room.mono (by decide)) (da_cons (de_op op_add oAdd_ok (de_op op_mulW oMul_ok (de_ix ix_seq oIx_ok (de_var (pv 0)) (de_int)) (de_ix ix_seq oIx_ok (de_var (pv 1)) (de_int))) (de_op op_mulW oMul_ok (de_ix ix_seq oIx_ok (de_var (pv 1)) (de_int)) (de_ix ix_seq oIx_ok (de_var (pv 0)) (de_int)))) (da_cons (de_op op_mulW oMul_ok (de_ix ix_seq oIx_ok (de_var (pv 0)) (de_int)) (de_ix ix_seq oIx_ok (de_var (pv 1)) (de_int))) (da_nil)))))
theorem sc__law_times : FnScope ["_law_one", "_law_other"] ["_law_one", "_law_other"] (defScope s__law_times) := ⟨rfl, rfl, rfl, by decide +kernel, rfl, by decide +kernel, by decide +kernel⟩
theorem ok__law_times (T : Txt w K mg) : FnD P w K mg base 2 "_law_times" 2 (g__law_times (He.ga K)) := by
  obtain ⟨fd, F⟩ := T.d__law_times
  have hb : ∀ (kV doc pm : Value) (an : Option Addr) (cdv ct : Value) (us : List Value), us.length = (["_law_one", "_law_other"] : List Str).length → bindArgs (PySem.W.fnOf "_law_times" "_law_times" (defArgs s__law_times) (defBody s__law_times) (defScope s__law_times) .none kV doc pm an cdv ct) ⟨us, []⟩ = pure ((["_law_one", "_law_other"] : List Str).zip us) := (fun _ _ _ _ _ _ us hl => match us, hl with | [_, _], _ => rfl)
  refine FnD.as (g := dDef giveS 2 (["_law_one", "_law_other"] : List Str).length (F__law_times (He.ga K))) ?_ rfl
  refine fnD_mk (k := 1) (fb := F__law_times (He.ga K)) giveS_ok F T.m__law_times sc__law_times rfl hb ?_
  intro cdv A outer s H E c
  exact dss_one (ds_ret (de_call (ok__law_lowest T) c.tk (c.room.mono (by decide)) (da_cons (de_op op_mulW oMul_ok (de_ix ix_seq oIx_ok (de_var (pv 0)) (de_int)) (de_ix ix_seq oIx_ok (de_var (pv 1)) (de_int))) (da_cons (de_op op_mulW oMul_ok (de_ix ix_seq oIx_ok (de_var (pv 0)) (de_int)) (de_ix ix_seq oIx_ok (de_var (pv 1)) (de_int))) (da_nil)))))
theorem sc__law_square : FnScope ["_law_hand_here", "_law_many", "_law_rows", "_law_i", "_law_row", "_law_j", "_law_number"] ["_law_hand_here", "_law_many"] (defScope s__law_square) := ⟨rfl, rfl, rfl, by decide +kernel, rfl, by decide +kernel, by decide +kernel⟩
theorem ok__law_square (T : Txt w K mg) : FnD P w K mg base 2 "_law_square" 2 (g__law_square (He.ga K)) := by
  obtain ⟨fd, F⟩ := T.d__law_square
  have hb : ∀ (kV doc pm : Value) (an : Option Addr) (cdv ct : Value) (us : List Value), us.length = (["_law_hand_here", "_law_many"] : List Str).length → bindArgs (PySem.W.fnOf "_law_square" "_law_square" (defArgs s__law_square) (defBody s__law_square) (defScope s__law_square) .none kV doc pm an cdv ct) ⟨us, []⟩ = pure ((["_law_hand_here", "_law_many"] : List Str).zip us) := (fun _ _ _ _ _ _ us hl => match us, hl with | [_, _], _ => rfl)
  refine FnD.as (g := dDef giveS 2 (["_law_hand_here", "_law_many", "_law_rows", "_law_i", "_law_row", "_law_j", "_law_number"] : List Str).length (F__law_square (He.ga K))) ?_ rfl
  refine fnD_mk (k := 1) (fb := F__law_square (He.ga K)) giveS_ok F T.m__law_square sc__law_square rfl hb ?_
  intro cdv A outer s H E c
  exact dss_cons (ds_set 2 c.nd (de_loc (da_nil)))
    (dss_cons (ds_for (vs := [3]) c.po rfl (di_rng1 T.b_range (da_cons (de_var (pv 1)) (da_nil))) (dg_name 3 c.nd) (dss_cons (ds_set 4 c.nd (de_loc (da_nil)))
    (dss_cons (ds_for (vs := [5]) c.po rfl (di_rng1 T.b_range (da_cons (de_var (pv 1)) (da_nil))) (dg_name 5 c.nd) (dss_cons (ds_set 6 c.nd (de_call (ok__law_lowest T) c.tk (c.room.mono (by decide)) (da_cons (de_op op_sub oSub_ok (de_call (ok__law_draw T) c.tk (c.room.mono (by decide)) (da_cons (de_var (pv 0)) (da_cons (de_int) (da_nil)))) (de_int)) (da_cons (de_op op_add oAdd_ok (de_int) (de_call (ok__law_draw T) c.tk (c.room.mono (by decide)) (da_cons (de_var (pv 0)) (da_cons (de_int) (da_nil))))) (da_nil)))))
    (dss_one (ds_drop (de_app (de_var (pv 4)) (de_if (dt_cmp op_gt oGt_ok (de_call (ok__law_draw T) c.tk (c.room.mono (by decide)) (da_cons (de_var (pv 0)) (da_cons (de_int) (da_nil)))) (de_int)) (de_var (pv 6)) (de_tup (da_cons (de_int) (da_cons (de_int) (da_nil))))))))))
    (dss_one (ds_drop (de_app (de_var (pv 2)) (de_callTy call_tuple_of oTuple_ok T.b_tuple bt_tuple (da_cons (de_var (pv 4)) (da_nil)))))))))
    (dss_one (ds_ret (de_callTy call_tuple_of oTuple_ok T.b_tuple bt_tuple (da_cons (de_var (pv 2)) (da_nil))))))
theorem sc__law_orders : FnScope ["_law_many", "_law_found", "_law_turn", "_law_longer", "_law_order", "_law_sign", "_law_item", "_law_more", "_law_other"] ["_law_many"] (defScope s__law_orders) := ⟨rfl, rfl, rfl, by decide +kernel, rfl, by decide +kernel, by decide +kernel⟩
theorem ok__law_orders (T : Txt w K mg) : FnD P w K mg base 1 "_law_orders" 1 (g__law_orders (He.ga K)) := by
  obtain ⟨fd, F⟩ := T.d__law_orders
  have hb : ∀ (kV doc pm : Value) (an : Option Addr) (cdv ct : Value) (us : List Value), us.length = (["_law_many"] : List Str).length → bindArgs (PySem.W.fnOf "_law_orders" "_law_orders" (defArgs s__law_orders) (defBody s__law_orders) (defScope s__law_orders) .none kV doc pm an cdv ct) ⟨us, []⟩ = pure ((["_law_many"] : List Str).zip us) := (fun _ _ _ _ _ _ us hl => match us, hl with | [_], _ => rfl)
  refine FnD.as (g := dDef giveS 1 (["_law_many", "_law_found", "_law_turn", "_law_longer", "_law_order", "_law_sign", "_law_item", "_law_more", "_law_other"] : List Str).length (F__law_orders (He.ga K))) ?_ rfl
  refine fnD_mk (k := 0) (fb := F__law_orders (He.ga K)) giveS_ok F T.m__law_orders sc__law_orders rfl hb ?_
  intro cdv A outer s H E c
  exact dss_cons (ds_set 1 c.nd (de_lst (da_cons (de_tup (da_cons (de_tup (da_nil)) (da_cons (de_int) (da_nil)))) (da_nil))))
    (dss_cons (ds_for (vs := [2]) c.po rfl (di_rng1 T.b_range (da_cons (de_var (pv 0)) (da_nil))) (dg_name 2 c.nd) (dss_cons (ds_set 3 c.nd (de_loc (da_nil)))
    (dss_cons (ds_for (vs := [4, 5]) c.po rfl (di_seq (de_var (pv 1))) (dg_tup rfl (dgs_cons (dg_name 4 c.nd) (dgs_cons (dg_name 5 c.nd) (dgs_nil)))) (dss_one (ds_for (vs := [6]) c.po rfl (di_rng1 T.b_range (da_cons (de_var (pv 0)) (da_nil))) (dg_name 6 c.nd) (dss_one (ds_if (dt_cmp (op_notInTp (Room.units65 c.room)) oNotInTp_ok (de_var (pv 6)) (de_var (pv 4))) (dss_cons (ds_set 7 c.nd (de_callB call_len_seq oLen_ok T.b_len bt_len (da_cons (de_lc lcF_ok rfl c.nd (blkOk_by (own := [("_law_other", 8)]) (N := ["_law_many", "_law_found", "_law_turn", "_law_longer", "_law_order", "_law_sign", "_law_item", "_law_more", "_law_other"]) (sc := defScope s__law_orders) (by decide +kernel)) (di_seq (de_var (pv 4))) (fun _ _ _ _ _ => dg_name 8 c.nd) (fun _ _ _ _ _ => dts_one (dt_cmp op_gt oGt_ok (de_var (pv 8)) (de_var (pv 6)))) (fun _ _ _ _ _ => de_var (pv 8))) (da_nil))))
    (dss_one (ds_drop (de_app (de_var (pv 3)) (de_tup (da_cons (de_op op_catA oCat_ok (de_var (pv 4)) (de_tup (da_cons (de_var (pv 6)) (da_nil)))) (da_cons (de_op op_mulW oMul_ok (de_var (pv 5)) (de_op op_sub oSub_ok (de_int) (de_op op_mulW oMul_ok (de_int) (de_op op_mod oMod_ok (de_callTy call_int1 oInt_ok T.b_int bt_int (da_cons (de_var (pv 7)) (da_nil))) (de_int))))) (da_nil)))))))) (dss_nil))))))
    (dss_one (ds_set 1 c.nd (de_var (pv 3)))))))
    (dss_one (ds_ret (de_var (pv 1)))))
theorem sc__law_due : FnScope ["_law_rows", "_law_total", "_law_order", "_law_sign", "_law_part", "_law_i", "_law_j"] ["_law_rows"] (defScope s__law_due) := ⟨rfl, rfl, rfl, by decide +kernel, rfl, by decide +kernel, by decide +kernel⟩
theorem ok__law_due (T : Txt w K mg) : FnD P w K mg base 3 "_law_due" 1 (g__law_due (He.ga K)) := by
  obtain ⟨fd, F⟩ := T.d__law_due
  have hb : ∀ (kV doc pm : Value) (an : Option Addr) (cdv ct : Value) (us : List Value), us.length = (["_law_rows"] : List Str).length → bindArgs (PySem.W.fnOf "_law_due" "_law_due" (defArgs s__law_due) (defBody s__law_due) (defScope s__law_due) .none kV doc pm an cdv ct) ⟨us, []⟩ = pure ((["_law_rows"] : List Str).zip us) := (fun _ _ _ _ _ _ us hl => match us, hl with | [_], _ => rfl)
  refine FnD.as (g := dDef giveS 1 (["_law_rows", "_law_total", "_law_order", "_law_sign", "_law_part", "_law_i", "_law_j"] : List Str).length (F__law_due (He.ga K))) ?_ rfl
  refine fnD_mk (k := 2) (fb := F__law_due (He.ga K)) giveS_ok F T.m__law_due sc__law_due rfl hb ?_
  intro cdv A outer s H E c
  exact dss_cons (ds_set 1 c.nd (de_tup (da_cons (de_int) (da_cons (de_int) (da_nil)))))
    (dss_cons (ds_for (vs := [2, 3]) c.po rfl (di_seq (de_call (ok__law_orders T) c.tk (c.room.mono (by decide)) (da_cons (de_callB call_len_seq oLen_ok T.b_len bt_len (da_cons (de_var (pv 0)) (da_nil))) (da_nil)))) (dg_tup rfl (dgs_cons (dg_name 2 c.nd) (dgs_cons (dg_name 3 c.nd) (dgs_nil)))) (dss_cons (ds_set 4 c.nd (de_tup (da_cons (de_var (pv 3)) (da_cons (de_int) (da_nil)))))
    (dss_cons (ds_for (vs := [5, 6]) c.po rfl (di_enum T.b_enumerate (da_cons (de_var (pv 2)) (da_nil))) (dg_tup rfl (dgs_cons (dg_name 5 c.nd) (dgs_cons (dg_name 6 c.nd) (dgs_nil)))) (dss_one (ds_set 4 c.nd (de_call (ok__law_times T) c.tk (c.room.mono (by decide)) (da_cons (de_var (pv 4)) (da_cons (de_ix ix_seq oIx_ok (de_ix ix_seq oIx_ok (de_var (pv 0)) (de_var (pv 5))) (de_var (pv 6))) (da_nil)))))))
    (dss_one (ds_set 1 c.nd (de_call (ok__law_plus T) c.tk (c.room.mono (by decide)) (da_cons (de_var (pv 1)) (da_cons (de_var (pv 4)) (da_nil)))))))))
    (dss_one (ds_ret (de_var (pv 1)))))
theorem sc_law : FnScope ["_law_script", "_law_hand_here", "_law_turn", "_law_many", "_law_rows", "_law_due_here", "_law_i", "_law_told", "_law_turned", "_law_factor_of_it", "_law_j", "_law_row", "_law_number"] ["_law_script"] (defScope s_law) := ⟨rfl, rfl, rfl, by decide +kernel, rfl, by decide +kernel, by decide +kernel⟩
theorem law_fn (T : Txt w K mg) : ∃ fd, (∀ (s : Shared) (us : List Value), us.length = 1 → BindsTo s fd ⟨us, []⟩ ((["_law_script"] : List Str).zip us)) ∧ ∀ base : Heap, FnOk P w K mg base (L2.CX P w) 7 (He.ga K "law") fd ["_law_script"] (spD K 1 (g_law (He.ga K))) := by
  obtain ⟨fd, F⟩ := T.d_law
  have hb : ∀ (kV doc pm : Value) (an : Option Addr) (cdv ct : Value) (us : List Value), us.length = (["_law_script"] : List Str).length → bindArgs (PySem.W.fnOf "law" "law" (defArgs s_law) (defBody s_law) (defScope s_law) .none kV doc pm an cdv ct) ⟨us, []⟩ = pure ((["_law_script"] : List Str).zip us) := (fun _ _ _ _ _ _ us hl => match us, hl with | [_], _ => rfl)
  refine ⟨fd, fun s us hl => F.bindsA hb s us hl, fun base => ?_⟩
  show FnOk P w K mg base (L2.CX P w) 7 (He.ga K "law") fd ["_law_script"] (spD K 1 (dDef giveS 1 (["_law_script", "_law_hand_here", "_law_turn", "_law_many", "_law_rows", "_law_due_here", "_law_i", "_law_told", "_law_turned", "_law_factor_of_it", "_law_j", "_law_row", "_law_number"] : List Str).length (F_law (He.ga K))))
  refine fn_mk (k := 6) (fb := F_law (He.ga K)) giveS_ok F sc_law rfl ?_
  intro cdv A outer s H E c
  exact dss_cons (ds_set 1 c.nd (de_call (ok__law_hand T) c.tk (c.room.mono (by decide)) (da_cons (de_var (pv 0)) (da_nil))))
    (dss_cons (ds_for (vs := [2]) c.po rfl (di_rng1 T.b_range (da_cons (de_int) (da_nil))) (dg_name 2 c.nd) (dss_cons (ds_set 3 c.nd (de_op op_add oAdd_ok (de_int) (de_call (ok__law_draw T) c.tk (c.room.mono (by decide)) (da_cons (de_var (pv 1)) (da_cons (de_ix ix_seq oIx_ok (de_lst (da_cons (de_int) (da_cons (de_int) (da_nil)))) (de_var (pv 2))) (da_nil))))))
    (dss_cons (ds_set 4 c.nd (de_call (ok__law_square T) c.tk (c.room.mono (by decide)) (da_cons (de_var (pv 1)) (da_cons (de_var (pv 3)) (da_nil)))))
    (dss_cons (ds_if (L2.PW.pt (dw_and (dt_cmp op_gt oGt_ok (de_var (pv 3)) (de_int)) (dw_and1 (dt_cmp (op_eqD c.room.units) oEq_ok (de_call (ok__law_draw T) c.tk (c.room.mono (by decide)) (da_cons (de_var (pv 1)) (da_cons (de_int) (da_nil)))) (de_int))))) (dss_cons (ds_set 9 c.nd (de_call (ok__law_lowest T) c.tk (c.room.mono (by decide)) (da_cons (de_op op_sub oSub_ok (de_call (ok__law_draw T) c.tk (c.room.mono (by decide)) (da_cons (de_var (pv 1)) (da_cons (de_int) (da_nil)))) (de_int)) (da_cons (de_op op_add oAdd_ok (de_int) (de_call (ok__law_draw T) c.tk (c.room.mono (by decide)) (da_cons (de_var (pv 1)) (da_cons (de_int) (da_nil))))) (da_nil)))))
    (dss_one (ds_set 4 c.nd (de_op op_catA oCat_ok (de_sl sl_A oSlA_ok (de_var (pv 4)) (do_none) (do_some (de_neg (de_int)))) (de_tup (da_cons (de_callTy call_tuple_of oTuple_ok T.b_tuple bt_tuple (da_cons (de_lc lcF_ok rfl c.nd (blkOk_by (own := [("_law_number", 12)]) (N := ["_law_script", "_law_hand_here", "_law_turn", "_law_many", "_law_rows", "_law_due_here", "_law_i", "_law_told", "_law_turned", "_law_factor_of_it", "_law_j", "_law_row", "_law_number"]) (sc := defScope s_law) (by decide +kernel)) (di_seq (de_ix ix_seq oIx_ok (de_var (pv 4)) (de_int))) (fun _ _ _ _ _ => dg_name 12 c.nd) (fun _ _ _ _ _ => dts_yes) (fun _ _ _ _ _ => de_call (ok__law_times T) takes0 (c.room.mono (by decide)) (da_cons (de_var (pv 12)) (da_cons (de_var (pv 9)) (da_nil))))) (da_nil))) (da_nil))))))) (dss_nil))
    (dss_cons (ds_set 5 c.nd (de_call (ok__law_due T) c.tk (c.room.mono (by decide)) (da_cons (de_var (pv 4)) (da_nil))))
    (dss_cons (ds_set 7 c.nd (de_call (ok_determinant T) c.tk (c.room.mono (by decide)) (da_cons (de_var (pv 4)) (da_nil))))
    (dss_cons (ds_if (L2.PW.pt (dw_or (dt_not (dt_tru (de_callB call_isi oIsi_ok T.b_isinstance bt_isinstance (da_cons (de_var (pv 7)) (da_cons (de_ty T.b_tuple bt_tuple) (da_nil)))))) (dw_or (dt_cmp (op_neD c.room.units) oNe_ok (de_var (pv 7)) (de_var (pv 5))) (dw_or1 (dt_tru (de_callB call_isi oIsi_ok T.b_isinstance bt_isinstance (da_cons (de_ix ix_seq oIx_ok (de_var (pv 7)) (de_int)) (da_cons (de_ty T.b_bool bt_bool) (da_nil))))))))) (dss_one (ds_ret (de_bl))) (dss_nil))
    (dss_cons (ds_set 8 c.nd (de_callTy call_tuple_of oTuple_ok T.b_tuple bt_tuple (da_cons (de_lc lcF_ok rfl c.nd (blkOk_by (own := [("_law_j", 10)]) (N := ["_law_script", "_law_hand_here", "_law_turn", "_law_many", "_law_rows", "_law_due_here", "_law_i", "_law_told", "_law_turned", "_law_factor_of_it", "_law_j", "_law_row", "_law_number"]) (sc := defScope s_law) (by decide +kernel)) (di_rng1 T.b_range (da_cons (de_var (pv 3)) (da_nil))) (fun _ _ _ _ _ => dg_name 10 c.nd) (fun _ _ _ _ _ => dts_yes) (fun _ _ _ _ _ => de_callTy call_tuple_of oTuple_ok T.b_tuple bt_tuple (da_cons (by refine de_lc (own := [("_law_row", 11)]) lcF_ok rfl c.nd (blkOk_by (by kernel_rfl)) ?_ ?_ ?_ ?_; exact di_seq (de_var (pv 4)); exact (fun _ _ _ _ _ => dg_name 11 c.nd); exact (fun _ _ _ _ _ => dts_yes); exact (fun _ _ _ _ _ => de_ix ix_seq oIx_ok (de_var (pv 11)) (de_var (pv 10)))) (da_nil)))) (da_nil))))
    (dss_cons (ds_if (dt_cmp (op_neD c.room.units) oNe_ok (de_call (ok_determinant T) c.tk (c.room.mono (by decide)) (da_cons (de_var (pv 8)) (da_nil))) (de_var (pv 5))) (dss_one (ds_ret (de_bl))) (dss_nil))
    (dss_one (ds_if (L2.PW.pt (dw_and (dt_cmp op_gt oGt_ok (de_var (pv 3)) (de_int)) (dw_and1 (dt_cmp (op_neD c.room.units) oNe_ok (de_call (ok_determinant T) c.tk (c.room.mono (by decide)) (da_cons (de_op op_catA oCat_ok (de_tup (da_cons (de_ix ix_seq oIx_ok (de_var (pv 4)) (de_int)) (da_cons (de_ix ix_seq oIx_ok (de_var (pv 4)) (de_int)) (da_nil)))) (de_sl sl_A oSlA_ok (de_var (pv 4)) (do_some (de_int)) (do_none))) (da_nil))) (de_tup (da_cons (de_neg (de_ix ix_seq oIx_ok (de_var (pv 5)) (de_int))) (da_cons (de_ix ix_seq oIx_ok (de_var (pv 5)) (de_int)) (da_nil)))))))) (dss_one (ds_ret (de_bl))) (dss_nil))))))))))))
    (dss_cons (ds_set 3 c.nd (de_op op_add oAdd_ok (de_int) (de_call (ok__law_draw T) c.tk (c.room.mono (by decide)) (da_cons (de_var (pv 1)) (da_cons (de_int) (da_nil))))))
    (dss_cons (ds_set 4 c.nd (de_call (ok__law_square T) c.tk (c.room.mono (by decide)) (da_cons (de_var (pv 1)) (da_cons (de_var (pv 3)) (da_nil)))))
    (dss_cons (ds_set 4 c.nd (de_callTy call_tuple_of oTuple_ok T.b_tuple bt_tuple (da_cons (de_lc lcF_ok rfl c.nd (blkOk_by (own := [("_law_i", 6)]) (N := ["_law_script", "_law_hand_here", "_law_turn", "_law_many", "_law_rows", "_law_due_here", "_law_i", "_law_told", "_law_turned", "_law_factor_of_it", "_law_j", "_law_row", "_law_number"]) (sc := defScope s_law) (by decide +kernel)) (di_rng1 T.b_range (da_cons (de_var (pv 3)) (da_nil))) (fun _ _ _ _ _ => dg_name 6 c.nd) (fun _ _ _ _ _ => dts_yes) (fun _ _ _ _ _ => de_callTy call_tuple_of oTuple_ok T.b_tuple bt_tuple (da_cons (by refine de_lc (own := [("_law_j", 10)]) lcF_ok rfl c.nd (blkOk_by (by kernel_rfl)) ?_ ?_ ?_ ?_; exact di_rng1 T.b_range (da_cons (de_var (pv 3)) (da_nil)); exact (fun _ _ _ _ _ => dg_name 10 c.nd); exact (fun _ _ _ _ _ => dts_yes); exact (fun _ _ _ _ _ => de_if (dt_cmp op_ge oGe_ok (de_var (pv 10)) (de_var (pv 6))) (de_ix ix_seq oIx_ok (de_ix ix_seq oIx_ok (de_var (pv 4)) (de_var (pv 6))) (de_var (pv 10))) (de_tup (da_cons (de_int) (da_cons (de_int) (da_nil)))))) (da_nil)))) (da_nil))))
    (dss_cons (ds_set 5 c.nd (de_tup (da_cons (de_int) (da_cons (de_int) (da_nil)))))
    (dss_cons (ds_for (vs := [6]) c.po rfl (di_rng1 T.b_range (da_cons (de_var (pv 3)) (da_nil))) (dg_name 6 c.nd) (dss_one (ds_set 5 c.nd (de_call (ok__law_times T) c.tk (c.room.mono (by decide)) (da_cons (de_var (pv 5)) (da_cons (de_ix ix_seq oIx_ok (de_ix ix_seq oIx_ok (de_var (pv 4)) (de_var (pv 6))) (de_var (pv 6))) (da_nil)))))))
    (dss_one (ds_ret (de_cmp (op_eqD c.room.units) oEq_ok (de_call (ok_determinant T) c.tk (c.room.mono (by decide)) (da_cons (de_var (pv 4)) (da_nil))) (de_var (pv 5)))))))))))
end
end P52
set_option Elab.async false
set_option linter.all false
set_option maxRecDepth 100000
set_option maxHeartbeats 4000000
namespace P52
open PySem PySem.Spec PyProof.Rows L2 DL
theorem txt {w : World} {K : PySem.W.Frag} {h : Heap} {mg : Str → Option Value} (X : K.In h) (G : h.Ns mainGlobals mg) (ct : He.SaysT fa fn ts w K) (cx : exB K = true) : Txt w K mg where
  d_is_integer := ct.d.def_ 0 (d := dd_is_integer) rfl
  m_is_integer := He.glo_ok X G (ct.d.fact 0 (f := .glo "is_integer") rfl)
  d_divisor := ct.d.def_ 1 (d := dd_divisor) rfl
  m_divisor := He.glo_ok X G (ct.d.fact 1 (f := .glo "divisor") rfl)
  d_lowest := ct.d.def_ 2 (d := dd_lowest) rfl
  m_lowest := He.glo_ok X G (ct.d.fact 2 (f := .glo "lowest") rfl)
  d_is_fraction := ct.d.def_ 3 (d := dd_is_fraction) rfl
  m_is_fraction := He.glo_ok X G (ct.d.fact 3 (f := .glo "is_fraction") rfl)
  d_minus := ct.d.def_ 4 (d := dd_minus) rfl
  m_minus := He.glo_ok X G (ct.d.fact 4 (f := .glo "minus") rfl)
  d_times := ct.d.def_ 5 (d := dd_times) rfl
  m_times := He.glo_ok X G (ct.d.fact 5 (f := .glo "times") rfl)
  d_over := ct.d.def_ 6 (d := dd_over) rfl
  m_over := He.glo_ok X G (ct.d.fact 6 (f := .glo "over") rfl)
  d_are_rows := ct.d.def_ 7 (d := dd_are_rows) rfl
  m_are_rows := He.glo_ok X G (ct.d.fact 7 (f := .glo "are_rows") rfl)
  d_is_square := ct.d.def_ 8 (d := dd_is_square) rfl
  m_is_square := He.glo_ok X G (ct.d.fact 8 (f := .glo "is_square") rfl)
  d_check_square := ct.d.def_ 9 (d := dd_check_square) rfl
  m_check_square := He.glo_ok X G (ct.d.fact 9 (f := .glo "check_square") rfl)
  d_leading_row := ct.d.def_ 10 (d := dd_leading_row) rfl
  m_leading_row := He.glo_ok X G (ct.d.fact 10 (f := .glo "leading_row") rfl)
  d_lead_by := ct.d.def_ 11 (d := dd_lead_by) rfl
  m_lead_by := He.glo_ok X G (ct.d.fact 11 (f := .glo "lead_by") rfl)
  d_led_out := ct.d.def_ 12 (d := dd_led_out) rfl
  m_led_out := He.glo_ok X G (ct.d.fact 12 (f := .glo "led_out") rfl)
  d_determinant := ct.d.def_ 13 (d := dd_determinant) rfl
  m_determinant := He.glo_ok X G (ct.d.fact 13 (f := .glo "determinant") rfl)
  d__law_hand := ct.d.def_ 14 (d := dd__law_hand) rfl
  m__law_hand := He.glo_ok X G (ct.d.fact 14 (f := .glo "_law_hand") rfl)
  d__law_draw := ct.d.def_ 15 (d := dd__law_draw) rfl
  m__law_draw := He.glo_ok X G (ct.d.fact 15 (f := .glo "_law_draw") rfl)
  d__law_lowest := ct.d.def_ 16 (d := dd__law_lowest) rfl
  m__law_lowest := He.glo_ok X G (ct.d.fact 16 (f := .glo "_law_lowest") rfl)
  d__law_plus := ct.d.def_ 17 (d := dd__law_plus) rfl
  m__law_plus := He.glo_ok X G (ct.d.fact 17 (f := .glo "_law_plus") rfl)
  d__law_times := ct.d.def_ 18 (d := dd__law_times) rfl
  m__law_times := He.glo_ok X G (ct.d.fact 18 (f := .glo "_law_times") rfl)
  d__law_square := ct.d.def_ 19 (d := dd__law_square) rfl
  m__law_square := He.glo_ok X G (ct.d.fact 19 (f := .glo "_law_square") rfl)
  d__law_orders := ct.d.def_ 20 (d := dd__law_orders) rfl
  m__law_orders := He.glo_ok X G (ct.d.fact 20 (f := .glo "_law_orders") rfl)
  d__law_due := ct.d.def_ 21 (d := dd__law_due) rfl
  m__law_due := He.glo_ok X G (ct.d.fact 21 (f := .glo "_law_due") rfl)
  d_law := ct.d.def_ 22 (d := dd_law) rfl
  m_law := He.glo_ok X G (ct.d.fact 22 (f := .glo "law") rfl)
  x_NoSquare := kexc_of (He.glo_ok X G (ct.d.fact 35 (f := .glo "NoSquare") rfl)) (ct.d.fact 36 (f := .exc "NoSquare") rfl)
  b_abs := He.free_ok X G (ct.d.fact 23 (f := .free "abs") rfl)
  b_all := He.free_ok X G (ct.d.fact 24 (f := .free "all") rfl)
  b_bool := He.free_ok X G (ct.d.fact 25 (f := .free "bool") rfl)
  b_enumerate := He.free_ok X G (ct.d.fact 26 (f := .free "enumerate") rfl)
  b_int := He.free_ok X G (ct.d.fact 27 (f := .free "int") rfl)
  b_isinstance := He.free_ok X G (ct.d.fact 28 (f := .free "isinstance") rfl)
  b_len := He.free_ok X G (ct.d.fact 29 (f := .free "len") rfl)
  b_list := He.free_ok X G (ct.d.fact 30 (f := .free "list") rfl)
  b_range := He.free_ok X G (ct.d.fact 31 (f := .free "range") rfl)
  b_tuple := He.free_ok X G (ct.d.fact 32 (f := .free "tuple") rfl)
  b_zip := He.free_ok X G (ct.d.fact 33 (f := .free "zip") rfl)
  i_MOST_ROWS := He.int_ok X G (ct.d.fact 34 (f := .int "MOST_ROWS" 10) rfl)
end P52
/-! the pure law: a text of its own gives NS.pure_law -/
open PySem PySem.W PySem.Calls PyProof.Rows in
theorem PySem.Challenge.cw_unitgrids_k52_whole_determinants_of_numb_holds : PySem.Challenge.rw_unitgrids_k52_whole_determinants_of_numb.Holds := by
  w_on; o_law
  refine HandSHeadRun.head_any (r := OpenLaw.row PySem.Challenge.rw_unitgrids_k52_whole_determinants_of_numb) (q := view (OpenLaw.row PySem.Challenge.rw_unitgrids_k52_whole_determinants_of_numb).prog [29]) (H := P52.hk) (ob := P52.ob) (M := 6000) (loose := P52.loose) (d := HandSHeadRun.topDef (OpenLaw.row PySem.Challenge.rw_unitgrids_k52_whole_determinants_of_numb).prog 29) (kwd := []) P52.ob_eq
    (by kernel_rfl) (fun s => by kernel_rfl) P52.run (by kernel_rfl) (by kernel_rfl) (by kernel_rfl) (by rfl) (by first | assumption | decide +kernel) (by decide +kernel) ⟨rfl, rfl, rfl, rfl, rfl, by decide +kernel⟩ ?hw ?hc
  case hw => w_witness2
  case hc =>
    refine L2.walk_ofE (l := PySem.Challenge.rw_unitgrids_k52_whole_determinants_of_numb) (n := 63) (k := 7) (x := "_law_script") (CX := L2.CX0) rfl (by decide) (by kernel_rfl) ⟨rfl, by decide, by decide⟩ ?F (fun _ _ _ _ z => z)
    intro w mg f h Y G hmg0
    obtain ⟨K, KX, c, cx⟩ := Y
    have hmg : mg ("law" : PySem.Str) = some (.ref f) := by
      have e : (HandSHeadRun.topDef (OpenLaw.row PySem.Challenge.rw_unitgrids_k52_whole_determinants_of_numb).prog 29).name = ("law" : PySem.Str) := by kernel_rfl
      rw [← e]
      exact hmg0
    have T := P52.txt KX G c cx
    obtain ⟨fd, hF⟩ := P52.law_fn (P := (PySem.Challenge.rw_unitgrids_k52_whole_determinants_of_numb).prog) (w := w) T
    have e := hmg.symm.trans T.m_law
    cases e
    exact ⟨K, fd, (fun vs H Q _ => DL.spD K 1 (P52.g_law (He.ga K)) vs H Q fun _ _ _ => False), KX, fun s v => hF.1 s [v] rfl, fun H a ns hl _ hS => DL.law_sp hS (P52.pure_law (He.ga K) ns hl).choose_spec, fun base _ _ => DL.fn_noex (hF.2 base)⟩
