import PyProof.Rows.All
import Wide.All
import OpenK.AllK
import Wide.FinOn
import HandS.ForMost
import HandS.Wide
import HandS.Exc
import HandS.ExcOwn
import HandS.TryOnly
import HandS.WordsExc
import HandS.Defaults
import HandS.IsInst
import HandS.Zip
import HandS.Flow
import HandS.HeadHook1
import HandS.HeadEnd
import HandS.Style
import KE.KStateDown
import HandS.Head0
import HandS.Head1
import HandS.Head2
import HandS.HeadHook2
import HandS.TupAny
import HandS.TupMul
import KE.GoesEnum
import HandS.SlotsOwn
import PyProof.Rows.EqNone
import HandS.Flt
import HandS.TryMany
import HandS.Small
import HandS.Dict
import PySem.Challenge.RW_unitgrids_k07_grids_refused
set_option Elab.async false
set_option linter.all false
set_option maxRecDepth 100000
set_option maxHeartbeats 1000000
/-! DL, the data layer: values as trees, mutable objects as places of a store, expressions and statements as functions of both. -/
namespace DL
open PySem PySem.Spec PyProof.Rows L2

/-- data: a value without addresses -/
inductive D where
  | non
  | bl (b : Bool)
  | int (i : Int)
  | str (x : Str)
  | tup (xs : List D)
  /-- a list that is only read from here on -/
  | lst (xs : List D)
  /-- an instance that is only read from here on -/
  | ins (C : Addr) (ns : List Str) (xs : List D)
  /-- a dict that is only read from here on -/
  | dct (ks : List Key) (xs : List D)
  /-- an object of the written part -/
  | ref (a : Addr)
  | ty (n : String)
/-- what a name holds: data, or a place of the store -/
inductive W where
  | d (x : D)
  | loc (n : Nat)
/-- what stands at a place -/
inductive M where
  | lst (ws : List W)
  | ins (C : Addr) (ns : List Str) (ws : List W)
  | dead
abbrev Store := List M
/-- where the places lie; addresses that are kept for themselves (a list while a comprehension fills it) -/
structure Ad where
  pl : List (Option Addr)
  rs : List Addr := []
/-- no place, not kept -/
def Off (ρ : Ad) (a : Addr) : Prop := some a ∉ ρ.pl ∧ a ∉ ρ.rs
def Ad.add (ρ : Ad) (p : Addr) : Ad := ⟨ρ.pl ++ [some p], ρ.rs⟩
abbrev DEnv := List (Option W)
/-- an exception: its class's name, the attributes of its own dict -/
structure Ex where
  cls : Str
  ns : List Str
  ds : List D

/-- its class -/
def Ex.cl (K : PySem.W.Frag) (x : Ex) : Value := .ref (He.ga K x.cls)
/-- a list, a tuple of the written part -/
def KL (K : PySem.W.Frag) (a : Addr) (xs : List V) : Prop :=
  ∃ (o : Obj) (its : Array Value) (n : Nat), K.lookup a = some o ∧ o.cls = .type "list" ∧ o.dict = none ∧ o.data = .seq its n ∧ its.size ≤ sizeLine ∧ Vals xs its.toList
def KT (K : PySem.W.Frag) (a : Addr) (xs : List V) : Prop :=
  ∃ (o : Obj) (its : Array Value) (n : Nat), K.lookup a = some o ∧ o.cls = .type "tuple" ∧ o.data = .seq its n ∧ its.size ≤ sizeLine ∧ Vals xs its.toList
/-- a list, a tuple, that no place of the store holds -/
def LstF (K : PySem.W.Frag) (ρ : Ad) (H : Hp) (a : Addr) (xs : List V) : Prop := (Rd H a (.lst xs) ∧ Off ρ a) ∨ KL K a xs
def TupF (K : PySem.W.Frag) (ρ : Ad) (H : Hp) (a : Addr) (xs : List V) : Prop := (Rd H a (.tup xs) ∧ Off ρ a) ∨ KT K a xs
theorem LstF.sq {K : PySem.W.Frag} {ρ : Ad} {H : Hp} {a : Addr} {xs : List V} (h : LstF K ρ H a xs) : SqL K H a xs := h.elim (fun z => .inl z.1) .inr
theorem TupF.sq {K : PySem.W.Frag} {ρ : Ad} {H : Hp} {a : Addr} {xs : List V} (h : TupF K ρ H a xs) : SqT K H a xs := h.elim (fun z => .inl z.1) .inr

section
variable (K : PySem.W.Frag) (ρ : Ad) (H : Hp)
mutual
def RelD : D → V → Prop
  | .non, v => v = .non
  | .bl b, v => v = .bl b
  | .int i, v => v = .int i
  | .str x, v => v = .str x
  | .tup ds, v => ∃ a vs, v = .ref a ∧ TupF K ρ H a vs ∧ RelDs ds vs
  | .lst ds, v => ∃ a vs, v = .ref a ∧ LstF K ρ H a vs ∧ RelDs ds vs
  | .ins C ns ds, v => ∃ a dx vs, v = .ref a ∧ H a = some (.ins C dx (ns.zip vs)) ∧ Off ρ a ∧ RelDs ds vs ∧ ns.length = ds.length
  | .dct ks ds, v => ∃ a vs, v = .ref a ∧ H a = some (.dK (ks.zip vs)) ∧ Off ρ a ∧ RelDs ds vs ∧ ks.length = ds.length
  | .ref a, v => v = .ref a
  | .ty n, v => v = .ty n
def RelDs : List D → List V → Prop
  | [], vs => vs = []
  | d :: ds, vs => ∃ v vr, vs = v :: vr ∧ RelD d v ∧ RelDs ds vr
end
def RelW : W → V → Prop
  | .d x, v => RelD K ρ H x v
  | .loc n, v => n < ρ.pl.length ∧ ∀ a, ρ.pl[n]? = some (some a) → v = .ref a
def RelWs : List W → List V → Prop
  | [], vs => vs = []
  | d :: ds, vs => ∃ v vr, vs = v :: vr ∧ RelW K ρ H d v ∧ RelWs ds vr
def ObjR : M → Addr → Prop
  | .lst ws, a => ∃ vs, H a = some (.lst vs) ∧ RelWs K ρ H ws vs
  | .ins C ns ws, a => ∃ dx vs, H a = some (.ins C dx (ns.zip vs)) ∧ RelWs K ρ H ws vs ∧ ns.length = ws.length
  | .dead, _ => False
end
/-- how the heap goes on: what no place holds, and is not kept, stays -/
structure Stw (ρ : Ad) (H : Hp) (ρ' : Ad) (H' : Hp) : Prop where
  keep : ∀ a o, H a = some o → Off ρ a → H' a = some o
  off : ∀ a o, H a = some o → Off ρ a → Off ρ' a
  len : ρ.pl.length ≤ ρ'.pl.length
  same : ∀ (n : Nat) (a : Addr), n < ρ.pl.length → ρ'.pl[n]? = some (some a) → ρ.pl[n]? = some (some a)
/-- .. and what is kept stays -/
structure Step (ρ : Ad) (H : Hp) (ρ' : Ad) (H' : Hp) : Prop extends Stw ρ H ρ' H' where
  rs : ρ'.rs = ρ.rs
  kr : ∀ a o, a ∈ ρ.rs → H a = some o → H' a = some o
theorem Step.refl (ρ : Ad) (H : Hp) : Step ρ H ρ H := ⟨⟨fun _ _ h _ => h, fun _ _ _ h => h, Nat.le_refl _, fun _ _ _ h => h⟩, rfl, fun _ _ _ h => h⟩
theorem Stw.trans {ρ ρ1 ρ2 : Ad} {H H1 H2 : Hp} (a : Stw ρ H ρ1 H1) (b : Stw ρ1 H1 ρ2 H2) : Stw ρ H ρ2 H2 where
  keep := fun x o h n => b.keep x o (a.keep x o h n) (a.off x o h n)
  off := fun x o h n => b.off x o (a.keep x o h n) (a.off x o h n)
  len := Nat.le_trans a.len b.len
  same := fun n x h e => a.same n x h (b.same n x (Nat.lt_of_lt_of_le h a.len) e)
theorem Step.trans {ρ ρ1 ρ2 : Ad} {H H1 H2 : Hp} (a : Step ρ H ρ1 H1) (b : Step ρ1 H1 ρ2 H2) : Step ρ H ρ2 H2 :=
  ⟨a.toStw.trans b.toStw, b.rs.trans a.rs, fun x o h e => b.kr x o (by rw [a.rs]; exact h) (a.kr x o h e)⟩
section
variable {K : PySem.W.Frag} {ρ ρ' : Ad} {H H' : Hp}
theorem Stw.rd (s : Stw ρ H ρ' H') {a : Addr} {o : HO} (h : Rd H a o) (n : Off ρ a) : Rd H' a o ∧ Off ρ' a := by
  rcases h with h | ⟨u, h⟩
  · exact ⟨.inl (s.keep a _ h n), s.off a _ h n⟩
  · exact ⟨.inr ⟨u, s.keep a _ h n⟩, s.off a _ h n⟩
theorem LstF.monoW (s : Stw ρ H ρ' H') {a : Addr} {xs : List V} (h : LstF K ρ H a xs) : LstF K ρ' H' a xs := h.elim (fun z => .inl (s.rd z.1 z.2)) .inr
theorem TupF.monoW (s : Stw ρ H ρ' H') {a : Addr} {xs : List V} (h : TupF K ρ H a xs) : TupF K ρ' H' a xs := h.elim (fun z => .inl (s.rd z.1 z.2)) .inr
mutual
theorem RelD.monoW (s : Stw ρ H ρ' H') : ∀ (d : D) (v : V), RelD K ρ H d v → RelD K ρ' H' d v
  | .non, v, h => by simpa [RelD] using h
  | .bl b, v, h => by simpa [RelD] using h
  | .int i, v, h => by simpa [RelD] using h
  | .str x, v, h => by simpa [RelD] using h
  | .ref x, v, h => by simpa [RelD] using h
  | .ty x, v, h => by simpa [RelD] using h
  | .tup ds, v, h => by
    rw [RelD] at h ⊢
    obtain ⟨a, vs, e, h1, h2⟩ := h
    exact ⟨a, vs, e, h1.monoW s, RelDs.monoW s ds vs h2⟩
  | .lst ds, v, h => by
    rw [RelD] at h ⊢
    obtain ⟨a, vs, e, h1, h2⟩ := h
    exact ⟨a, vs, e, h1.monoW s, RelDs.monoW s ds vs h2⟩
  | .ins C ns ds, v, h => by
    rw [RelD] at h ⊢
    obtain ⟨a, dx, vs, e, h1, hn, h2, h3⟩ := h
    exact ⟨a, dx, vs, e, s.keep _ _ h1 hn, s.off _ _ h1 hn, RelDs.monoW s ds vs h2, h3⟩
  | .dct ks ds, v, h => by
    rw [RelD] at h ⊢
    obtain ⟨a, vs, e, h1, hn, h2, h3⟩ := h
    exact ⟨a, vs, e, s.keep _ _ h1 hn, s.off _ _ h1 hn, RelDs.monoW s ds vs h2, h3⟩
theorem RelDs.monoW (s : Stw ρ H ρ' H') : ∀ (ds : List D) (vs : List V), RelDs K ρ H ds vs → RelDs K ρ' H' ds vs
  | [], vs, h => by simpa [RelDs] using h
  | d :: ds, vs, h => by
    rw [RelDs] at h ⊢
    obtain ⟨v, vr, e, h1, h2⟩ := h
    exact ⟨v, vr, e, RelD.monoW s d v h1, RelDs.monoW s ds vr h2⟩
end
theorem RelW.monoW (s : Stw ρ H ρ' H') {w : W} {v : V} (h : RelW K ρ H w v) : RelW K ρ' H' w v := by
  cases w with
  | d x => exact RelD.monoW s x v h
  | loc n => exact ⟨Nat.lt_of_lt_of_le h.1 s.len, fun a e => h.2 a (s.same n a h.1 e)⟩
theorem RelWs.monoW (s : Stw ρ H ρ' H') : ∀ {ws : List W} {vs : List V}, RelWs K ρ H ws vs → RelWs K ρ' H' ws vs
  | [], vs, h => h
  | w :: ws, vs, h => by
    obtain ⟨v, vr, e, h1, h2⟩ := h
    exact ⟨v, vr, e, h1.monoW s, RelWs.monoW s h2⟩
theorem LstF.mono (s : Step ρ H ρ' H') {a : Addr} {xs : List V} (h : LstF K ρ H a xs) : LstF K ρ' H' a xs := h.monoW s.toStw
theorem TupF.mono (s : Step ρ H ρ' H') {a : Addr} {xs : List V} (h : TupF K ρ H a xs) : TupF K ρ' H' a xs := h.monoW s.toStw
theorem RelD.mono (s : Step ρ H ρ' H') (d : D) (v : V) (h : RelD K ρ H d v) : RelD K ρ' H' d v := RelD.monoW s.toStw d v h
theorem RelDs.mono (s : Step ρ H ρ' H') (d : List D) (v : List V) (h : RelDs K ρ H d v) : RelDs K ρ' H' d v := RelDs.monoW s.toStw d v h
theorem RelW.mono (s : Step ρ H ρ' H') {w : W} {v : V} (h : RelW K ρ H w v) : RelW K ρ' H' w v := h.monoW s.toStw
theorem RelWs.mono (s : Step ρ H ρ' H') {w : List W} {v : List V} (h : RelWs K ρ H w v) : RelWs K ρ' H' w v := h.monoW s.toStw
theorem RelWs.length : ∀ {ws : List W} {vs : List V}, RelWs K ρ H ws vs → ws.length = vs.length
  | [], vs, h => by cases (show vs = [] from h); rfl
  | w :: ws, vs, h => by
    obtain ⟨v, vr, rfl, h1, h2⟩ := h
    simp [RelWs.length h2]
theorem RelDs.length : ∀ {ws : List D} {vs : List V}, RelDs K ρ H ws vs → ws.length = vs.length
  | [], vs, h => by rw [RelDs] at h; subst h; rfl
  | w :: ws, vs, h => by
    rw [RelDs] at h
    obtain ⟨v, vr, rfl, h1, h2⟩ := h
    simp [RelDs.length h2]
theorem RelDs.get : ∀ {ds : List D} {vs : List V} {i : Nat} {d : D}, RelDs K ρ H ds vs → ds[i]? = some d → ∃ v, vs[i]? = some v ∧ RelD K ρ H d v
  | [], vs, i, d, h, e => by simp at e
  | w :: ws, vs, i, d, h, e => by
    rw [RelDs] at h
    obtain ⟨v, vr, rfl, h1, h2⟩ := h
    cases i with
    | zero => simp at e; subst e; exact ⟨v, rfl, h1⟩
    | succ i => simpa using RelDs.get (i := i) h2 (by simpa using e)
theorem RelDs.get' : ∀ {ds : List D} {vs : List V} {i : Nat} {v : V}, RelDs K ρ H ds vs → vs[i]? = some v → ∃ d, ds[i]? = some d ∧ RelD K ρ H d v
  | [], vs, i, d, h, e => by rw [RelDs] at h; subst h; simp at e
  | w :: ws, vs, i, d, h, e => by
    rw [RelDs] at h
    obtain ⟨v, vr, rfl, h1, h2⟩ := h
    cases i with
    | zero => simp at e; subst e; exact ⟨w, rfl, h1⟩
    | succ i => simpa using RelDs.get' (i := i) h2 (by simpa using e)
theorem RelWs.get : ∀ {ds : List W} {vs : List V} {i : Nat} {d : W}, RelWs K ρ H ds vs → ds[i]? = some d → ∃ v, vs[i]? = some v ∧ RelW K ρ H d v
  | [], vs, i, d, h, e => by simp at e
  | w :: ws, vs, i, d, h, e => by
    obtain ⟨v, vr, rfl, h1, h2⟩ := h
    cases i with
    | zero => simp at e; subst e; exact ⟨v, rfl, h1⟩
    | succ i => simpa using RelWs.get (i := i) h2 (by simpa using e)
theorem RelWs.get' : ∀ {ds : List W} {vs : List V} {i : Nat} {v : V}, RelWs K ρ H ds vs → vs[i]? = some v → ∃ d, ds[i]? = some d ∧ RelW K ρ H d v
  | [], vs, i, d, h, e => by cases (show vs = [] from h); simp at e
  | w :: ws, vs, i, d, h, e => by
    obtain ⟨v, vr, rfl, h1, h2⟩ := h
    cases i with
    | zero => simp at e; subst e; exact ⟨w, rfl, h1⟩
    | succ i => simpa using RelWs.get' (i := i) h2 (by simpa using e)
theorem RelWs.set : ∀ {ds : List W} {vs : List V} (i : Nat) {d : W} {v : V}, RelWs K ρ H ds vs → RelW K ρ H d v → RelWs K ρ H (ds.set i d) (vs.set i v)
  | [], vs, i, d, v, h, e => by cases (show vs = [] from h); exact rfl
  | w :: ws, vs, i, d, v, h, e => by
    obtain ⟨v0, vr, rfl, h1, h2⟩ := h
    cases i with
    | zero => exact ⟨v, vr, rfl, e, h2⟩
    | succ i => exact ⟨v0, _, rfl, h1, RelWs.set i h2 e⟩
theorem RelWs.app : ∀ {ds es : List W} {vs us : List V}, RelWs K ρ H ds vs → RelWs K ρ H es us → RelWs K ρ H (ds ++ es) (vs ++ us)
  | [], es, vs, us, h, e => by cases (show vs = [] from h); exact e
  | w :: ws, es, vs, us, h, e => by
    obtain ⟨v0, vr, rfl, h1, h2⟩ := h
    exact ⟨v0, _, rfl, h1, RelWs.app h2 e⟩
theorem RelDs.app : ∀ {ds es : List D} {vs us : List V}, RelDs K ρ H ds vs → RelDs K ρ H es us → RelDs K ρ H (ds ++ es) (vs ++ us)
  | [], es, vs, us, h, e => by rw [RelDs] at h; subst h; exact e
  | w :: ws, es, vs, us, h, e => by
    rw [RelDs] at h
    obtain ⟨v0, vr, rfl, h1, h2⟩ := h
    show RelDs K ρ H (w :: (ws ++ es)) (v0 :: (vr ++ us))
    rw [RelDs]
    exact ⟨v0, _, rfl, h1, RelDs.app h2 e⟩
/-- data alone -/
def pure? : List W → Option (List D)
  | [] => some []
  | .d x :: ws => (pure? ws).map (x :: ·)
  | .loc _ :: _ => none
theorem pure?_rel : ∀ {ws : List W} {ds : List D} {vs : List V}, pure? ws = some ds → RelWs K ρ H ws vs → RelDs K ρ H ds vs
  | [], ds, vs, e, h => by
    cases (show vs = [] from h)
    cases (show some [] = some ds from e)
    rw [RelDs]
  | .d x :: ws, ds, vs, e, h => by
    obtain ⟨v, vr, rfl, h1, h2⟩ := h
    obtain ⟨es, e1, e2⟩ := Option.map_eq_some_iff.mp (show (pure? ws).map (x :: ·) = some ds from e)
    subst e2
    rw [RelDs]
    exact ⟨v, vr, rfl, h1, pure?_rel e1 h2⟩
  | .loc _ :: _, ds, vs, e, h => by cases (show (none : Option (List D)) = some ds from e)
theorem pure?_map (ds : List D) : pure? (ds.map W.d) = some ds := by
  induction ds with
  | nil => rfl
  | cons d ds ih => show (pure? (ds.map W.d)).map _ = _; rw [ih]; rfl
theorem relWs_map : ∀ {ds : List D} {vs : List V}, RelDs K ρ H ds vs → RelWs K ρ H (ds.map W.d) vs
  | [], vs, h => by rw [RelDs] at h; exact h
  | d :: ds, vs, h => by
    rw [RelDs] at h
    obtain ⟨v, vr, rfl, h1, h2⟩ := h
    exact ⟨v, vr, rfl, h1, relWs_map h2⟩
end
/-- the store is held -/
structure Ok (K : PySem.W.Frag) (ρ : Ad) (S : Store) (H : Hp) : Prop where
  len : ρ.pl.length = S.length
  inj : ∀ (i j : Nat) (a : Addr), ρ.pl[i]? = some (some a) → ρ.pl[j]? = some (some a) → i = j
  obj : ∀ (n : Nat) (a : Addr), ρ.pl[n]? = some (some a) → ∃ m, S[n]? = some m ∧ ObjR K ρ H m a
  live : ∀ (n : Nat) m, S[n]? = some m → m ≠ .dead → ∃ a, ρ.pl[n]? = some (some a)
  res : ∀ a, a ∈ ρ.rs → ∃ o, H a = some o
  dis : ∀ a, a ∈ ρ.rs → some a ∉ ρ.pl
section
variable {K : PySem.W.Frag} {ρ ρ' : Ad} {H H' : Hp} {S S' : Store}
theorem ObjR.there {m : M} {a : Addr} (h : ObjR K ρ H m a) : ∃ o, H a = some o := by
  cases m with
  | lst ws => obtain ⟨vs, h, _⟩ := h; exact ⟨_, h⟩
  | ins C ns ws => obtain ⟨dx, vs, h, _⟩ := h; exact ⟨_, h⟩
  | dead => exact h.elim
theorem Ok.there (ok : Ok K ρ S H) {a : Addr} (h : some a ∈ ρ.pl) : ∃ o, H a = some o := by
  obtain ⟨n, hn⟩ := List.getElem?_of_mem h
  obtain ⟨m, _, r⟩ := ok.obj n a hn
  exact r.there
theorem Ok.off (ok : Ok K ρ S H) {p : Addr} (h : H p = none) : Off ρ p := ⟨fun m => (by
  obtain ⟨o, e⟩ := ok.there m
  rw [h] at e
  cases e), fun m => (by
  obtain ⟨o, e⟩ := ok.res p m
  rw [h] at e
  cases e)⟩
/-- something new that no place holds -/
theorem step_new (ok : Ok K ρ S H) {p : Addr} (o : HO) (h : H p = none) : Step ρ H ρ (upd H p o) :=
  ⟨⟨fun a u e _ => by rw [upd_ne (ne_of_none e h)]; exact e, fun _ _ _ z => z, Nat.le_refl _, fun _ _ _ z => z⟩, rfl, fun a u _ e => by rw [upd_ne (ne_of_none e h)]; exact e⟩
theorem ObjR.monoW (s : Stw ρ H ρ' H') {m : M} {a : Addr} (k : ∀ o, H a = some o → H' a = some o) (h : ObjR K ρ H m a) : ObjR K ρ' H' m a := by
  cases m with
  | lst ws => obtain ⟨vs, h1, h2⟩ := h; exact ⟨vs, k _ h1, h2.monoW s⟩
  | ins C ns ws => obtain ⟨dx, vs, h1, h2, h3⟩ := h; exact ⟨dx, vs, k _ h1, h2.monoW s, h3⟩
  | dead => exact h.elim
/-- a heap that grows by what no place holds -/
theorem ok_grow (ok : Ok K ρ S H) (k : ∀ a o, H a = some o → H' a = some o) : Ok K ρ S H' ∧ Step ρ H ρ H' := by
  have st : Step ρ H ρ H' := ⟨⟨fun a u e _ => k a u e, fun _ _ _ z => z, Nat.le_refl _, fun _ _ _ z => z⟩, rfl, fun a u _ e => k a u e⟩
  exact ⟨⟨ok.len, ok.inj, fun n a e => by
    obtain ⟨m, e1, r⟩ := ok.obj n a e
    exact ⟨m, e1, r.monoW st.toStw fun u z => k _ u z⟩, ok.live, fun a h => by obtain ⟨o, e⟩ := ok.res a h; exact ⟨o, k a o e⟩, ok.dis⟩, st⟩
theorem ok_new (ok : Ok K ρ S H) {p : Addr} (o : HO) (h : H p = none) : Ok K ρ S (upd H p o) := (ok_grow ok fun a u e => by rw [upd_ne (ne_of_none e h)]; exact e).1
/-- an address that is kept is written: what else there is stays related -/
theorem stw_res {D : Addr} {o : HO} (hd : D ∈ ρ.rs) : Stw ρ H ρ (upd H D o) :=
  ⟨fun a u e n => by rw [upd_ne (fun z => by subst z; exact n.2 hd)]; exact e, fun _ _ _ z => z, Nat.le_refl _, fun _ _ _ z => z⟩
theorem ok_res (ok : Ok K ρ S H) {D : Addr} {o : HO} (hd : D ∈ ρ.rs) : Ok K ρ S (upd H D o) :=
  ⟨ok.len, ok.inj, fun n a e => by
    obtain ⟨m, e1, r⟩ := ok.obj n a e
    exact ⟨m, e1, r.monoW (stw_res hd) fun u z => by rw [upd_ne (fun q => by subst q; exact ok.dis _ hd (List.mem_of_getElem? e))]; exact z⟩, ok.live, fun a h => by
    by_cases hx : a = D
    · subst hx; exact ⟨o, upd_same⟩
    · obtain ⟨u, e⟩ := ok.res a h
      exact ⟨u, by rw [upd_ne hx]; exact e⟩, ok.dis⟩
/-- an address is kept from here on; it is let go -/
def Ad.keep (ρ : Ad) (D : Addr) : Ad := ⟨ρ.pl, D :: ρ.rs⟩
def Ad.let (ρ : Ad) : Ad := ⟨ρ.pl, ρ.rs.tail⟩
theorem ok_keep (ok : Ok K ρ S H) {D : Addr} {o : HO} (h : H D = none) : Ok K (ρ.keep D) S (upd H D o) ∧ Stw ρ H (ρ.keep D) (upd H D o) := by
  have off := ok.off h
  have st : Stw ρ H (ρ.keep D) (upd H D o) := ⟨fun a u e _ => by rw [upd_ne (ne_of_none e h)]; exact e, fun a u e z => ⟨z.1, fun m => by
    rcases List.mem_cons.mp (show a ∈ D :: ρ.rs from m) with q | q
    · subst q; rw [h] at e; cases e
    · exact z.2 q⟩, Nat.le_refl _, fun _ _ _ z => z⟩
  refine ⟨⟨ok.len, ok.inj, fun n a e => ?_, ok.live, fun a m => ?_, fun a m => ?_⟩, st⟩
  · obtain ⟨m, e1, r⟩ := ok.obj n a e
    exact ⟨m, e1, r.monoW st fun u z => by rw [upd_ne (ne_of_none z h)]; exact z⟩
  · rcases List.mem_cons.mp (show a ∈ D :: ρ.rs from m) with q | q
    · subst q; exact ⟨o, upd_same⟩
    · obtain ⟨u, e⟩ := ok.res a q
      exact ⟨u, by rw [upd_ne (ne_of_none e h)]; exact e⟩
  · rcases List.mem_cons.mp (show a ∈ D :: ρ.rs from m) with q | q
    · subst q; exact off.1
    · exact ok.dis a q
/-- a new place -/
theorem add_key {ρ : Ad} {p a : Addr} {i : Nat} (e : (ρ.add p).pl[i]? = some (some a)) : (ρ.pl[i]? = some (some a) ∧ i < ρ.pl.length) ∨ (i = ρ.pl.length ∧ a = p) := by
  unfold Ad.add at e
  by_cases hi : i < ρ.pl.length
  · simp only [List.getElem?_append_left hi] at e; exact .inl ⟨e, hi⟩
  · by_cases hi2 : i = ρ.pl.length
    · subst hi2; simp at e; exact .inr ⟨rfl, e.symm⟩
    · have : (ρ.pl ++ [some p])[i]? = none := List.getElem?_eq_none (by simp; omega)
      rw [this] at e; cases e
/-- the places' list with one more: what another one was stays -/
theorem stw_add {p : Addr} (k : ∀ a o, H a = some o → H' a = some o) (h : ∀ o, H p ≠ some o) : Stw ρ H (ρ.add p) H' :=
  ⟨fun a u e _ => k a u e, fun a u e z => ⟨fun m => by
    rcases List.mem_append.mp (show some a ∈ ρ.pl ++ [some p] from m) with m | m
    · exact z.1 m
    · have q : a = p := by simpa using m
      (subst q; exact h u e), z.2⟩, by simp [Ad.add], fun n a hn e => by
    unfold Ad.add at e
    simpa only [List.getElem?_append_left hn] using e⟩
theorem ok_alloc (ok : Ok K ρ S H) {p : Addr} {o : HO} {m : M} (h : H p = none) (r : ∀ ρ' H', Step ρ H ρ' H' → H' p = some o → ObjR K ρ' H' m p) :
    Ok K (ρ.add p) (S ++ [m]) (upd H p o) ∧ Step ρ H (ρ.add p) (upd H p o) := by
  have off := ok.off h
  have k : ∀ a u, H a = some u → upd H p o a = some u := fun a u e => by rw [upd_ne (ne_of_none e h)]; exact e
  have st : Step ρ H (ρ.add p) (upd H p o) := ⟨stw_add k (fun u z => by rw [h] at z; cases z), rfl, fun a u _ e => k a u e⟩
  refine ⟨⟨by simp [Ad.add, ok.len], fun i j a h1 h2 => ?_, fun n a e => ?_, fun n m' e hm => ?_, fun a ha => ?_, fun a ha => ?_⟩, st⟩
  · rcases add_key h1 with ⟨a1, _⟩ | ⟨a1, a2⟩ <;> rcases add_key h2 with ⟨b1, _⟩ | ⟨b1, b2⟩
    · exact ok.inj i j a a1 b1
    · subst b2; exact absurd (List.mem_of_getElem? a1) off.1
    · subst a2; exact absurd (List.mem_of_getElem? b1) off.1
    · omega
  · rcases add_key e with ⟨a1, hl⟩ | ⟨a1, a2⟩
    · obtain ⟨m', e1, r'⟩ := ok.obj n a a1
      exact ⟨m', by rw [List.getElem?_append_left (by rw [← ok.len]; exact hl)]; exact e1, r'.monoW st.toStw fun u z => k a u z⟩
    · subst a1 a2
      exact ⟨m, by rw [ok.len]; simp, r _ _ st upd_same⟩
  · by_cases hn : n < S.length
    · rw [List.getElem?_append_left hn] at e
      obtain ⟨a, e1⟩ := ok.live n m' e hm
      exact ⟨a, by unfold Ad.add; rw [List.getElem?_append_left (by rw [ok.len]; exact hn)]; exact e1⟩
    · by_cases hi2 : n = S.length
      · subst hi2
        exact ⟨p, by rw [← ok.len]; simp [Ad.add]⟩
      · have : (S ++ [m])[n]? = none := List.getElem?_eq_none (by simp; omega)
        rw [this] at e; cases e
  · obtain ⟨u, e⟩ := ok.res a ha
    exact ⟨u, k a u e⟩
  · intro z
    rcases List.mem_append.mp (show some a ∈ ρ.pl ++ [some p] from z) with z | z
    · exact ok.dis a ha z
    · have e : a = p := by simpa using z
      subst e; exact off.2 ha
/-- a place is written -/
theorem ok_write (ok : Ok K ρ S H) {n : Nat} {p : Addr} {o : HO} {m : M} (h : ρ.pl[n]? = some (some p)) (r : ∀ H', Step ρ H ρ H' → H' p = some o → ObjR K ρ H' m p) :
    Ok K ρ (S.set n m) (upd H p o) ∧ Step ρ H ρ (upd H p o) := by
  have hmem : some p ∈ ρ.pl := List.mem_of_getElem? h
  have st : Step ρ H ρ (upd H p o) := ⟨⟨fun a u e hn => by
    rw [upd_ne (fun z => by subst z; exact hn.1 hmem)]; exact e, fun _ _ _ z => z, Nat.le_refl _, fun _ _ _ z => z⟩, rfl, fun a u ha e => by
    rw [upd_ne (fun z => by subst z; exact ok.dis _ ha hmem)]; exact e⟩
  have hlt : n < S.length := by rw [← ok.len]; exact (List.getElem?_eq_some_iff.mp h).1
  refine ⟨⟨by simp [ok.len], ok.inj, fun k a e => ?_, fun k m' e hm => ?_, fun a ha => ?_, ok.dis⟩, st⟩
  · by_cases hk : k = n
    · subst hk
      rw [h] at e
      cases e
      exact ⟨m, List.getElem?_set_self hlt, r _ st upd_same⟩
    · obtain ⟨m', e1, r'⟩ := ok.obj k a e
      refine ⟨m', by rw [List.getElem?_set_ne (Ne.symm hk)]; exact e1, r'.monoW st.toStw fun u z => ?_⟩
      rw [upd_ne (fun z => by subst z; exact hk (ok.inj _ _ _ e h))]; exact z
  · by_cases hk : k = n
    · subst hk; exact ⟨p, h⟩
    · rw [List.getElem?_set_ne (Ne.symm hk)] at e
      exact ok.live k m' e hm
  · obtain ⟨u, e⟩ := ok.res a ha
    exact ⟨u, st.kr a u ha e⟩
/-- the slots hold what the names hold -/
structure EnvR (K : PySem.W.Frag) (ρ : Ad) (H : Hp) (δ : DEnv) (σ : L2.St) : Prop where
  len : δ.length = σ.length
  rel : ∀ (i : Nat) w, δ[i]? = some (some w) → ∃ v, σ[i]? = some (some v) ∧ RelW K ρ H w v
theorem EnvR.monoW (s : Stw ρ H ρ' H') {δ : DEnv} {σ : L2.St} (e : EnvR K ρ H δ σ) : EnvR K ρ' H' δ σ :=
  ⟨e.len, fun i w h => let ⟨v, h1, h2⟩ := e.rel i w h; ⟨v, h1, h2.monoW s⟩⟩
theorem EnvR.mono (s : Step ρ H ρ' H') {δ : DEnv} {σ : L2.St} (e : EnvR K ρ H δ σ) : EnvR K ρ' H' δ σ := e.monoW s.toStw
theorem EnvR.set {δ : DEnv} {σ : L2.St} {w : W} {v : V} (e : EnvR K ρ H δ σ) (i : Nat) (r : RelW K ρ H w v) : EnvR K ρ H (δ.set i (some w)) (σ.set i (some v)) := by
  refine ⟨by simp [e.len], fun j u h => ?_⟩
  by_cases hj : j = i
  · subst hj
    by_cases hl : j < δ.length
    · rw [List.getElem?_set_self hl] at h
      cases h
      exact ⟨v, List.getElem?_set_self (by rw [← e.len]; exact hl), r⟩
    · rw [List.getElem?_eq_none (by simpa using hl)] at h; cases h
  · rw [List.getElem?_set_ne (Ne.symm hj)] at h ⊢
    exact e.rel j u h
end
end DL
set_option Elab.async false
set_option linter.all false
set_option maxRecDepth 100000
set_option maxHeartbeats 1000000
/-! DL2: results, expressions, operators. -/
namespace DL
open PySem PySem.Spec PyProof.Rows L2

abbrev Rs (α : Type) := Option (Except Ex α × Store)
def Rs.bind {α β : Type} (m : Rs α) (k : α → Store → Rs β) : Rs β := match m with
  | none => none
  | some (.error x, S) => some (.error x, S)
  | some (.ok a, S) => k a S
abbrev Fn := List W → Store → Rs W
abbrev FE := DEnv → Store → Rs W
abbrev FT := DEnv → Store → Rs Bool
abbrev FA := DEnv → Store → Rs (List W)
abbrev WF : WX := fun _ _ _ _ => False
section
variable (K : PySem.W.Frag)
/-- an exception as it lies -/
def ExR (ρ : Ad) (H : Hp) (x : Ex) (d : Option Addr) : Prop := match d with
  | none => x.ns = [] ∧ x.ds = []
  | some a => ∃ vs, H a = some (.xd (x.ns.zip vs)) ∧ Off ρ a ∧ RelDs K ρ H x.ds vs ∧ x.ns.length = x.ds.length
def Go (Wx : WX) (σ : L2.St) (ρ : Ad) (H : Hp) {α β : Type} (rel : Ad → Hp → α → β → Prop) (m : Rs α) (Q : β → Hp → Prop) : Prop :=
  ∃ r S', m = some (r, S') ∧ ∀ ρ' H', Ok K ρ' S' H' → Step ρ H ρ' H' → match r with
    | .ok a => ∀ b, rel ρ' H' a b → Q b H'
    | .error x => ∀ d, ExR K ρ' H' x d → Wx (x.cl K) d σ H'
abbrev relB : Ad → Hp → Bool → Bool → Prop := fun _ _ a b => a = b
def tE (Wx : WX) (f : FE) : TE := fun σ H Q => ∃ δ S ρ, Ok K ρ S H ∧ EnvR K ρ H δ σ ∧ Go K Wx σ ρ H (RelW K) (f δ S) Q
def tT (Wx : WX) (f : FT) : TT := fun σ H Q => ∃ δ S ρ, Ok K ρ S H ∧ EnvR K ρ H δ σ ∧ Go K Wx σ ρ H relB (f δ S) Q
def tA (Wx : WX) (f : FA) : TA := fun σ H Q => ∃ δ S ρ, Ok K ρ S H ∧ EnvR K ρ H δ σ ∧ Go K Wx σ ρ H (RelWs K) (f δ S) Q
end
section
variable {K : PySem.W.Frag} {Wx : WX} {σ : L2.St} {ρ ρ1 : Ad} {H H1 : Hp} {S S1 : Store} {α β γ ε : Type} {rel : Ad → Hp → α → β → Prop} {rel2 : Ad → Hp → γ → ε → Prop}
theorem Go.mono {m : Rs α} {Q Q' : β → Hp → Prop} (h : Go K Wx σ ρ H rel m Q) (i : ∀ b H', Q b H' → Q' b H') : Go K Wx σ ρ H rel m Q' := by
  obtain ⟨r, S', e, c⟩ := h
  refine ⟨r, S', e, fun ρ' H' ok st => ?_⟩
  have c' := c ρ' H' ok st
  cases r with
  | ok a => exact fun b hb => i b H' (c' b hb)
  | error x => exact c'
theorem go_bind {m : Rs α} {k : α → Store → Rs γ} {Q : ε → Hp → Prop} (h : Go K Wx σ ρ H rel2 (m.bind k) Q) :
    Go K Wx σ ρ H rel m (fun b H1 => ∃ a S1 ρ1, Ok K ρ1 S1 H1 ∧ Step ρ H ρ1 H1 ∧ rel ρ1 H1 a b ∧ Go K Wx σ ρ1 H1 rel2 (k a S1) Q) := by
  obtain ⟨r, S', e, c⟩ := h
  cases m with
  | none => exact nomatch (show (none : Rs γ) = some (r, S') from e)
  | some p =>
    obtain ⟨z, S1⟩ := p
    cases z with
    | error x =>
      obtain ⟨rfl, rfl⟩ : (Except.error x : Except Ex γ) = r ∧ S1 = S' := by
        have e' : some (Except.error x, S1) = some (r, S') := e
        injection e' with e1
        injection e1 with e2 e3
        exact ⟨e2, e3⟩
      exact ⟨.error x, S1, rfl, fun ρ' H' ok st => c ρ' H' ok st⟩
    | ok a => exact ⟨.ok a, S1, rfl, fun ρ1 H1 ok st b hb => ⟨a, S1, ρ1, ok, st, hb, r, S', e, fun ρ' H' ok' st' => c ρ' H' ok' (st.trans st')⟩⟩
/-- a value comes at once -/
theorem go_val {a : α} {Q : β → Hp → Prop} (ok : Ok K ρ S H) (h : Go K Wx σ ρ H rel (some (.ok a, S)) Q) {b : β} (r : rel ρ H a b) : Q b H := by
  obtain ⟨r', S', e, c⟩ := h
  cases e
  exact c ρ H ok (Step.refl ρ H) b r
theorem go_err {x : Ex} {Q : β → Hp → Prop} (ok : Ok K ρ S H) (h : Go K Wx σ ρ H (α := α) rel (some (.error x, S)) Q) {d : Option Addr} (r : ExR K ρ H x d) : Wx (x.cl K) d σ H := by
  obtain ⟨r', S', e, c⟩ := h
  cases e
  exact c ρ H ok (Step.refl ρ H) d r
theorem go_none {Q : β → Hp → Prop} {P : Prop} (h : Go K Wx σ ρ H (α := α) rel none Q) : P := by
  obtain ⟨_, _, e, _⟩ := h
  exact nomatch e
/-- a value comes in a state that goes on -/
theorem go_at {a : α} {Q : β → Hp → Prop} (h : Go K Wx σ ρ H rel (some (.ok a, S1)) Q) (ok : Ok K ρ1 S1 H1) (st : Step ρ H ρ1 H1) {b : β} (r : rel ρ1 H1 a b) : Q b H1 := by
  obtain ⟨r', S', e, c⟩ := h
  cases e
  exact c ρ1 H1 ok st b r
theorem go_mk {a : α} {Q : β → Hp → Prop} (h : ∀ ρ' H', Ok K ρ' S1 H' → Step ρ H ρ' H' → ∀ b, rel ρ' H' a b → Q b H') : Go K Wx σ ρ H rel (some (.ok a, S1)) Q := ⟨_, _, rfl, h⟩
end
theorem _root_.L2.PE.imp {X : Cx} {e : Expr} {t t' : TE} (h : PE X e t) (i : ∀ σ H Q, t' σ H Q → t σ H Q) : PE X e t' := ⟨fun pins s σ H Q I q => h.run pins s σ H Q I (i σ H Q q)⟩
theorem _root_.L2.PT.imp {X : Cx} {e : Expr} {t t' : TT} (h : PT X e t) (i : ∀ σ H Q, t' σ H Q → t σ H Q) : PT X e t' := ⟨fun pins s σ H Q I q => h.run pins s σ H Q I (i σ H Q q)⟩
theorem _root_.L2.PW.imp {X : Cx} {e : Expr} {t t' : TT} (h : PW X e t) (i : ∀ σ H Q, t' σ H Q → t σ H Q) : PW X e t' := ⟨fun wh pins s σ H Q I q => h.run wh pins s σ H Q I (i σ H Q q)⟩
theorem _root_.L2.PA.imp {X : Cx} {e : List Expr} {t t' : TA} (h : PA X e t) (i : ∀ σ H Q, t' σ H Q → t σ H Q) : PA X e t' := ⟨fun pos pins s σ H Q I q => h.run pos pins s σ H Q I (i σ H Q q)⟩

/-! ### names, constants -/
section
variable {X : Cx} {Wx : WX} {e a b c : Expr} {es : List Expr} {f g h : FE} {pos : Pos}
def dVar (i : Nat) : FE := fun δ S => match δ[i]? with
  | some (some w) => some (.ok w, S)
  | _ => none
def dC (x : D) : FE := fun _ S => some (.ok (.d x), S)
theorem de_c {v : V} {x : D} (he : PE X e (tC v)) (r : ∀ ρ H, RelD X.K ρ H x v) : PE X e (tE X.K Wx (dC x)) :=
  he.imp fun σ H Q ⟨δ, S, ρ, ok, en, q⟩ => go_val ok q (show RelW X.K ρ H (.d x) v from r ρ H)
theorem de_var {i : Nat} (he : PE X e (tVar i)) : PE X e (tE X.K Wx (dVar i)) := he.imp fun σ H Q ⟨δ, S, ρ, ok, en, q⟩ => by
  unfold dVar at q
  split at q
  · rename_i w e
    obtain ⟨v, e1, r⟩ := en.rel i w e
    exact ⟨v, e1, go_val ok q r⟩
  · exact go_none q
theorem de_int {i : Int} {j : Nat} : PE X (.Constant (.int i) j pos) (tE X.K Wx (dC (.int i))) := de_c pe_int fun _ _ => by rw [RelD]
theorem de_bl {i : Bool} {j : Nat} : PE X (.Constant (.bool i) j pos) (tE X.K Wx (dC (.bl i))) := de_c pe_bl fun _ _ => by rw [RelD]
theorem de_non {j : Nat} : PE X (.Constant .none j pos) (tE X.K Wx (dC .non)) := de_c pe_non fun _ _ => by rw [RelD]
theorem de_str {i : Str} {j : Nat} : PE X (.Constant (.str i) j pos) (tE X.K Wx (dC (.str i))) := de_c pe_str fun _ _ => by rw [RelD]
/-- a module's int -/
theorem de_gint {x : Str} {i : Int} {t : Tok} (hm : X.mg x = some (.int i t)) (hg : Gl X x := by rfl) (hd : (x == ("__debug__" : Str)) = false := by decide) : PE X (.Name x pos) (tE X.K Wx (dC (.int i))) :=
  de_c (pe_glob hg hm (v := .int i) ⟨t, rfl⟩ hd) fun _ _ => by rw [RelD]
/-- a module's object: a class, a def -/
theorem de_gref {x : Str} {a : Addr} (hm : X.mg x = some (.ref a)) (hg : Gl X x := by rfl) (hd : (x == ("__debug__" : Str)) = false := by decide) : PE X (.Name x pos) (tE X.K Wx (dC (.ref a))) :=
  de_c (pe_glob hg hm (v := .ref a) rfl hd) fun _ _ => by rw [RelD]
/-- a built-in class -/
theorem de_ty {x : Str} {n : String} (hm : X.mg x = none) (hv : bootBuiltins x = some (.type n)) (hg : Gl X x := by rfl) (hn : x ≠ "__name__" := by decide) (hd : (x == ("__debug__" : Str)) = false := by decide) : PE X (.Name x pos) (tE X.K Wx (dC (.ty n))) :=
  de_c (pe_bltn hg hm hv (v := .ty n) rfl hn hd) fun _ _ => by rw [RelD]

/-! ### two, one -/
abbrev F2 := W → W → Store → Rs W
def OpF (K : PySem.W.Frag) (Wx : WX) (r : R2) (op : F2) : Prop := ∀ (σ : L2.St) (ρ : Ad) (S : Store) (H : Hp) (x y : W) (a b : V) (Q : VK), Ok K ρ S H → RelW K ρ H x a → RelW K ρ H y b → Go K Wx σ ρ H (RelW K) (op x y S) Q → r a b H Q
def d2 (op : F2) (f g : FE) : FE := fun δ S => (f δ S).bind fun x S1 => (g δ S1).bind fun y S2 => op x y S2
theorem imp2 {K : PySem.W.Frag} {r : R2} {op : F2} (o : OpF K Wx r op) (σ : L2.St) (H : Hp) (Q : VK) (q : tE K Wx (d2 op f g) σ H Q) : tOp r (tE K Wx f) (tE K Wx g) σ H Q := by
  obtain ⟨δ, S, ρ, ok, en, q⟩ := q
  refine ⟨δ, S, ρ, ok, en, (go_bind q).mono fun v H1 ⟨x, S1, ρ1, ok1, st1, r1, q1⟩ => ?_⟩
  exact ⟨δ, S1, ρ1, ok1, en.mono st1, (go_bind q1).mono fun u H2 ⟨y, S2, ρ2, ok2, st2, r2, q2⟩ => o σ ρ2 S2 H2 x y v u Q ok2 (r1.mono st2) r2 q2⟩
theorem de_op {op : Operator} {r : R2} {fo : F2} (ho : OpR X (binaryOp op) r) (o : OpF X.K Wx r fo) (ha : PE X a (tE X.K Wx f)) (hb : PE X b (tE X.K Wx g)) : PE X (.BinOp a op b pos) (tE X.K Wx (d2 fo f g)) :=
  (pe_op ho ha hb).imp (imp2 o)
theorem de_ix {r : R2} {fo : F2} (ho : IxR X r) (o : OpF X.K Wx r fo) (ha : PE X a (tE X.K Wx f)) (hb : PE X b (tE X.K Wx g)) (hs : PlainIx b := by exact fun _ _ => rfl) : PE X (.Subscript a b pos) (tE X.K Wx (d2 fo f g)) :=
  (pe_ix ho ha hb hs).imp (imp2 o)
theorem de_cmp {op : CmpOp} {r : R2} {fo : F2} (ho : OpR X (compareOp op) r) (o : OpF X.K Wx r fo) (ha : PE X a (tE X.K Wx f)) (hb : PE X b (tE X.K Wx g)) (hm : behindInMarks op b = false := by first | exact nomark _ | rfl) : PE X (.Compare a [op] [b] pos) (tE X.K Wx (d2 fo f g)) :=
  (pe_cmpR ho ha hb hm).imp (imp2 o)
/-- a value that is a truth value, as a test -/
def asB : W → Store → Rs Bool
  | .d (.bl b), S => some (.ok b, S)
  | _, _ => none
theorem asB_inv {K : PySem.W.Frag} {σ : L2.St} {ρ : Ad} {H : Hp} {S : Store} {x : W} {v : V} {P : Prop} {Q : Bool → Hp → Prop} (ok : Ok K ρ S H) (r : RelW K ρ H x v) (q : Go K Wx σ ρ H relB (asB x S) Q) (k : ∀ b, x = .d (.bl b) → v = .bl b → Q b H → P) : P := by
  cases x with
  | loc n => exact go_none q
  | d x => cases x with
    | bl b => exact k b rfl (by simpa [RelW, RelD] using r) (go_val ok q rfl)
    | _ => exact go_none q
def dB (f : FE) : FT := fun δ S => (f δ S).bind asB
theorem impB {K : PySem.W.Frag} (σ : L2.St) (H : Hp) (Q : Bool → Hp → Prop) (q : tT K Wx (dB f) σ H Q) : tTest (tE K Wx f) σ H Q := by
  obtain ⟨δ, S, ρ, ok, en, q⟩ := q
  refine ⟨δ, S, ρ, ok, en, (go_bind q).mono fun v H1 ⟨x, S1, ρ1, ok1, st1, r1, q1⟩ => ?_⟩
  exact asB_inv ok1 r1 q1 fun b _ e q => ⟨b, e, q⟩
theorem dt_cmp {op : CmpOp} {r : R2} {fo : F2} (ho : OpR X (compareOp op) r) (o : OpF X.K Wx r fo) (ha : PE X a (tE X.K Wx f)) (hb : PE X b (tE X.K Wx g)) (hm : behindInMarks op b = false := by first | exact nomark _ | rfl) : PT X (.Compare a [op] [b] pos) (tT X.K Wx (dB (d2 fo f g))) :=
  ((pt_cmpR ho ha hb hm).imp fun σ H Q q => q).imp fun σ H Q q => by
    have q' := impB σ H Q q
    exact (imp2 o σ H _ q')
/-- a < b < c -/
def dChain (op op' : F2) (f g h : FE) : FE := fun δ S => (f δ S).bind fun x S1 => (g δ S1).bind fun y S2 => (op x y S2).bind fun z S3 => (asB z S3).bind fun k S4 =>
  if k = true then (h δ S4).bind fun u S5 => op' y u S5 else some (.ok (.d (.bl false)), S4)
theorem impChain {K : PySem.W.Frag} {r r' : R2} {op op' : F2} (o : OpF K Wx r op) (o' : OpF K Wx r' op') (σ : L2.St) (H : Hp) (Q : VK) (q : tE K Wx (dChain op op' f g h) σ H Q) : tChain r r' (tE K Wx f) (tE K Wx g) (tE K Wx h) σ H Q := by
  obtain ⟨δ, S, ρ, ok, en, q⟩ := q
  refine ⟨δ, S, ρ, ok, en, (go_bind q).mono fun v H1 ⟨x, S1, ρ1, ok1, st1, r1, q1⟩ => ?_⟩
  refine ⟨δ, S1, ρ1, ok1, en.mono st1, (go_bind q1).mono fun u H2 ⟨y, S2, ρ2, ok2, st2, r2, q2⟩ => ?_⟩
  refine o σ ρ2 S2 H2 x y v u _ ok2 (r1.mono st2) r2 ((go_bind q2).mono fun zv H3 ⟨z, S3, ρ3, ok3, st3, r3, q3⟩ => ?_)
  cases z with
  | loc n => exact go_none q3
  | d z => cases z with
    | bl b =>
      refine ⟨b, (by simpa [RelW, RelD] using r3), ?_⟩
      change Go K Wx σ ρ3 H3 (RelW K) (if b = true then _ else _) Q at q3
      cases b with
      | true =>
        rw [if_pos rfl] at q3
        refine iteT ⟨δ, S3, ρ3, ok3, ((en.mono st1).mono st2).mono st3, (go_bind q3).mono fun cv H4 ⟨c1, S4, ρ4, ok4, st4, r4, q4⟩ => ?_⟩
        exact o' σ ρ4 S4 H4 y c1 u cv Q ok4 ((r2.mono st3).mono st4) r4 q4
      | false =>
        rw [if_neg Bool.false_ne_true] at q3
        exact iteF (go_val ok3 q3 (by simp [RelW, RelD]))
    | _ => exact go_none q3
theorem de_chain {op op' : CmpOp} {r r' : R2} {fo fo' : F2} (ho : OpR X (compareOp op) r) (ho' : OpR X (compareOp op') r') (o : OpF X.K Wx r fo) (o' : OpF X.K Wx r' fo') (ha : PE X a (tE X.K Wx f)) (hb : PE X b (tE X.K Wx g)) (hc : PE X c (tE X.K Wx h)) (hm : lastMarks [op, op'] [b, c] = false := by with_unfolding_all rfl) :
    PE X (.Compare a [op, op'] [b, c] pos) (tE X.K Wx (dChain fo fo' f g h)) := (pe_chain ho ho' ha hb hc hm).imp (impChain o o')
theorem dt_chain {op op' : CmpOp} {r r' : R2} {fo fo' : F2} (ho : OpR X (compareOp op) r) (ho' : OpR X (compareOp op') r') (o : OpF X.K Wx r fo) (o' : OpF X.K Wx r' fo') (ha : PE X a (tE X.K Wx f)) (hb : PE X b (tE X.K Wx g)) (hc : PE X c (tE X.K Wx h)) (hm : lastMarks [op, op'] [b, c] = false := by with_unfolding_all rfl) :
    PT X (.Compare a [op, op'] [b, c] pos) (tT X.K Wx (dB (dChain fo fo' f g h))) := (pt_chain ho ho' ha hb hc hm).imp fun σ H Q q => impChain o o' σ H _ (impB σ H Q q)
end
end DL
set_option Elab.async false
set_option linter.all false
set_option maxRecDepth 100000
set_option maxHeartbeats 1000000
/-! DL3: tests, arguments, displays, operators by values. -/
namespace DL
open PySem PySem.Spec PyProof.Rows L2

section
variable {X : Cx} {Wx : WX} {e a b c : Expr} {es rest : List Expr} {f g h : FE} {ft gt : FT} {fa : FA} {pos : Pos}
/-! ### tests -/
def dAnd (t u : FT) : FT := fun δ S => (t δ S).bind fun c S1 => if c = true then u δ S1 else some (.ok false, S1)
def dOr (t u : FT) : FT := fun δ S => (t δ S).bind fun c S1 => if c = true then some (.ok true, S1) else u δ S1
def dNot (t : FT) : FT := fun δ S => (t δ S).bind fun c S1 => some (.ok (!c), S1)
theorem impAnd {K : PySem.W.Frag} (σ : L2.St) (H : Hp) (Q : Bool → Hp → Prop) (q : tT K Wx (dAnd ft gt) σ H Q) : tAnd (tT K Wx ft) (tT K Wx gt) σ H Q := by
  obtain ⟨δ, S, ρ, ok, en, q⟩ := q
  refine ⟨δ, S, ρ, ok, en, (go_bind q).mono fun v H1 ⟨x, S1, ρ1, ok1, st1, r1, q1⟩ => ?_⟩
  obtain rfl : x = v := r1
  cases x with
  | true =>
    rw [if_pos rfl] at q1
    exact iteT ⟨δ, S1, ρ1, ok1, en.mono st1, q1⟩
  | false =>
    rw [if_neg Bool.false_ne_true] at q1
    exact iteF (go_val ok1 q1 rfl)
theorem impOr {K : PySem.W.Frag} (σ : L2.St) (H : Hp) (Q : Bool → Hp → Prop) (q : tT K Wx (dOr ft gt) σ H Q) : tOr (tT K Wx ft) (tT K Wx gt) σ H Q := by
  obtain ⟨δ, S, ρ, ok, en, q⟩ := q
  refine ⟨δ, S, ρ, ok, en, (go_bind q).mono fun v H1 ⟨x, S1, ρ1, ok1, st1, r1, q1⟩ => ?_⟩
  obtain rfl : x = v := r1
  cases x with
  | false =>
    rw [if_neg Bool.false_ne_true] at q1
    exact iteF ⟨δ, S1, ρ1, ok1, en.mono st1, q1⟩
  | true =>
    rw [if_pos rfl] at q1
    exact iteT (go_val ok1 q1 rfl)
theorem dw_and1 (ha : PT X a (tT X.K Wx ft)) : PW X (.BoolOp .And [a] pos) (tT X.K Wx ft) := pw_and1 ha
theorem dw_or1 (ha : PT X a (tT X.K Wx ft)) : PW X (.BoolOp .Or [a] pos) (tT X.K Wx ft) := pw_or1 ha
theorem dw_and (ha : PT X a (tT X.K Wx ft)) (hb : PW X (.BoolOp .And (b :: rest) pos) (tT X.K Wx gt)) : PW X (.BoolOp .And (a :: b :: rest) pos) (tT X.K Wx (dAnd ft gt)) := (pw_and ha hb).imp impAnd
theorem dw_or (ha : PT X a (tT X.K Wx ft)) (hb : PW X (.BoolOp .Or (b :: rest) pos) (tT X.K Wx gt)) : PW X (.BoolOp .Or (a :: b :: rest) pos) (tT X.K Wx (dOr ft gt)) := (pw_or ha hb).imp impOr
theorem dt_not (ha : PT X a (tT X.K Wx ft)) : PT X (.UnaryOp .Not a pos) (tT X.K Wx (dNot ft)) := (pt_not ha).imp fun σ H Q q => by
  obtain ⟨δ, S, ρ, ok, en, q⟩ := q
  refine ⟨δ, S, ρ, ok, en, (go_bind q).mono fun v H1 ⟨x, S1, ρ1, ok1, st1, r1, q1⟩ => ?_⟩
  obtain rfl : x = v := r1
  exact go_val ok1 q1 rfl
/-- the truth of a value -/
def truth : W → Store → Rs Bool
  | .d .non, S => some (.ok false, S)
  | .d (.bl b), S => some (.ok b, S)
  | .d (.int i), S => some (.ok (i != 0), S)
  | .d (.tup ds), S => some (.ok (!ds.isEmpty), S)
  | .d (.lst ds), S => some (.ok (!ds.isEmpty), S)
  | .loc n, S => match S[n]? with
    | some (.lst ws) => some (.ok (!ws.isEmpty), S)
    | _ => none
  | _, _ => none
def dTru (f : FE) : FT := fun δ S => (f δ S).bind truth
theorem isEmpty_len {α β : Type} {xs : List α} {ys : List β} (h : xs.length = ys.length) : xs.isEmpty = ys.isEmpty := by
  cases xs <;> cases ys <;> first | rfl | simp at h
theorem truth_ok {K : PySem.W.Frag} {σ : L2.St} {ρ : Ad} {H : Hp} {S : Store} {x : W} {v : V} {Q : Bool → Hp → Prop} (ok : Ok K ρ S H) (r : RelW K ρ H x v) (q : Go K Wx σ ρ H relB (truth x S) Q) : ∃ k, TruV K v H k ∧ Q k H := by
  cases x with
  | loc n =>
    cases e : S[n]? with
    | none => simp only [truth, e] at q; exact go_none q
    | some m =>
      simp only [truth, e] at q
      cases m with
      | lst ws =>
        obtain ⟨a, ha⟩ := ok.live n _ e (by simp)
        obtain ⟨m', e1, o⟩ := ok.obj n a ha
        rw [e] at e1
        cases e1
        obtain ⟨vs, h1, h2⟩ := o
        obtain rfl := r.2 a ha
        exact ⟨!ws.isEmpty, .inl ⟨vs, SqL.of h1, by rw [isEmpty_len h2.length]⟩, go_val ok q rfl⟩
      | _ => exact go_none q
  | d x => cases x with
    | non =>
      obtain rfl : v = .non := by simpa [RelW, RelD] using r
      exact ⟨false, rfl, go_val ok q rfl⟩
    | bl b =>
      obtain rfl : v = .bl b := by simpa [RelW, RelD] using r
      exact ⟨b, rfl, go_val ok q rfl⟩
    | int i =>
      obtain rfl : v = .int i := by simpa [RelW, RelD] using r
      exact ⟨_, rfl, go_val ok q rfl⟩
    | tup ds =>
      obtain ⟨a, vs, rfl, h1, h2⟩ : ∃ a vs, v = .ref a ∧ TupF K ρ H a vs ∧ RelDs K ρ H ds vs := by simpa [RelW, RelD] using r
      exact ⟨!ds.isEmpty, .inr (.inl ⟨vs, h1.sq, by rw [isEmpty_len h2.length]⟩), go_val ok q rfl⟩
    | lst ds =>
      obtain ⟨a, vs, rfl, h1, h2⟩ : ∃ a vs, v = .ref a ∧ LstF K ρ H a vs ∧ RelDs K ρ H ds vs := by simpa [RelW, RelD] using r
      exact ⟨!ds.isEmpty, .inl ⟨vs, h1.sq, by rw [isEmpty_len h2.length]⟩, go_val ok q rfl⟩
    | _ => exact go_none q
theorem dt_tru (ha : PE X a (tE X.K Wx f)) (he : ∀ whole, isTrue a X.env whole = (do let v ← whole; standAt a.pos; holding [v] (truthy v)) := by intro _; rfl) : PT X a (tT X.K Wx (dTru f)) :=
  (pt_truth ha he).imp fun σ H Q q => by
    obtain ⟨δ, S, ρ, ok, en, q⟩ := q
    exact ⟨δ, S, ρ, ok, en, (go_bind q).mono fun v H1 ⟨x, S1, ρ1, ok1, st1, r1, q1⟩ => truth_ok ok1 r1 q1⟩
/-- and, or, not as values: truth values -/
def dAndV (f g : FE) : FE := fun δ S => (f δ S).bind fun x S1 => (asB x S1).bind fun c S2 => if c = true then g δ S2 else some (.ok (.d (.bl false)), S2)
def dOrV (f g : FE) : FE := fun δ S => (f δ S).bind fun x S1 => (asB x S1).bind fun c S2 => if c = true then some (.ok (.d (.bl true)), S2) else g δ S2
def dNotV (f : FE) : FE := fun δ S => (f δ S).bind fun x S1 => (asB x S1).bind fun c S2 => some (.ok (.d (.bl (!c))), S2)
theorem asB_bind {γ : Type} {K : PySem.W.Frag} {σ : L2.St} {ρ : Ad} {H : Hp} {S : Store} {x : W} {v : V} {P : Prop} {ε : Type} {rel2 : Ad → Hp → γ → ε → Prop} {Q : ε → Hp → Prop} {k : Bool → Store → Rs γ} (ok : Ok K ρ S H) (r : RelW K ρ H x v) (q : Go K Wx σ ρ H rel2 ((asB x S).bind k) Q)
    (z : ∀ b, v = .bl b → Go K Wx σ ρ H rel2 (k b S) Q → P) : P := by
  cases x with
  | loc n => exact go_none q
  | d x => cases x with
    | bl b => exact z b (by simpa [RelW, RelD] using r) q
    | _ => exact go_none q
theorem de_one {op} (h : PE X a (tE X.K Wx f)) : PE X (.BoolOp op [a] pos) (tE X.K Wx f) := pe_one h
theorem de_and (ha : PE X a (tE X.K Wx f)) (hb : PE X (.BoolOp .And (b :: rest) pos) (tE X.K Wx g)) : PE X (.BoolOp .And (a :: b :: rest) pos) (tE X.K Wx (dAndV f g)) := (pe_and ha hb).imp fun σ H Q q => by
  obtain ⟨δ, S, ρ, ok, en, q⟩ := q
  refine ⟨δ, S, ρ, ok, en, (go_bind q).mono fun v H1 ⟨x, S1, ρ1, ok1, st1, r1, q1⟩ => asB_bind ok1 r1 q1 fun c e q2 => ⟨c, e, ?_⟩⟩
  cases c with
  | true =>
    rw [if_pos rfl] at q2
    exact iteT ⟨δ, S1, ρ1, ok1, en.mono st1, q2⟩
  | false =>
    rw [if_neg Bool.false_ne_true] at q2
    exact iteF (go_val ok1 q2 (by simp [RelW, RelD]))
theorem de_or (ha : PE X a (tE X.K Wx f)) (hb : PE X (.BoolOp .Or (b :: rest) pos) (tE X.K Wx g)) : PE X (.BoolOp .Or (a :: b :: rest) pos) (tE X.K Wx (dOrV f g)) := (pe_or ha hb).imp fun σ H Q q => by
  obtain ⟨δ, S, ρ, ok, en, q⟩ := q
  refine ⟨δ, S, ρ, ok, en, (go_bind q).mono fun v H1 ⟨x, S1, ρ1, ok1, st1, r1, q1⟩ => asB_bind ok1 r1 q1 fun c e q2 => ⟨c, e, ?_⟩⟩
  cases c with
  | false =>
    rw [if_neg Bool.false_ne_true] at q2
    exact iteF ⟨δ, S1, ρ1, ok1, en.mono st1, q2⟩
  | true =>
    rw [if_pos rfl] at q2
    exact iteT (go_val ok1 q2 (by simp [RelW, RelD]))
theorem de_not (ha : PE X a (tE X.K Wx f)) : PE X (.UnaryOp .Not a pos) (tE X.K Wx (dNotV f)) := (pe_not ha).imp fun σ H Q q => by
  obtain ⟨δ, S, ρ, ok, en, q⟩ := q
  exact ⟨δ, S, ρ, ok, en, (go_bind q).mono fun v H1 ⟨x, S1, ρ1, ok1, st1, r1, q1⟩ => asB_bind ok1 r1 q1 fun c e q2 => ⟨c, e, go_val ok1 q2 (by simp [RelW, RelD])⟩⟩
/-- a if t else b -/
def dIf (t : FT) (f g : FE) : FE := fun δ S => (t δ S).bind fun c S1 => if c = true then f δ S1 else g δ S1
theorem de_if (hc : PT X c (tT X.K Wx ft)) (ha : PE X a (tE X.K Wx f)) (hb : PE X b (tE X.K Wx g)) : PE X (.IfExp c a b pos) (tE X.K Wx (dIf ft f g)) := (pe_ifExp hc ha hb).imp fun σ H Q q => by
  obtain ⟨δ, S, ρ, ok, en, q⟩ := q
  refine ⟨δ, S, ρ, ok, en, (go_bind q).mono fun v H1 ⟨x, S1, ρ1, ok1, st1, r1, q1⟩ => ?_⟩
  obtain rfl : x = v := r1
  cases x with
  | true =>
    rw [if_pos rfl] at q1
    exact iteT ⟨δ, S1, ρ1, ok1, en.mono st1, q1⟩
  | false =>
    rw [if_neg Bool.false_ne_true] at q1
    exact iteF ⟨δ, S1, ρ1, ok1, en.mono st1, q1⟩

/-! ### arguments, displays -/
def aNil : FA := fun _ S => some (.ok [], S)
def aCons (f : FE) (g : FA) : FA := fun δ S => (f δ S).bind fun x S1 => (g δ S1).bind fun xs S2 => some (.ok (x :: xs), S2)
theorem da_nil : PA X [] (tA X.K Wx aNil) := pa_nil.imp fun σ H Q q => by
  obtain ⟨δ, S, ρ, ok, en, q⟩ := q
  exact go_val ok q (show RelWs X.K ρ H [] [] from rfl)
theorem da_cons (ha : PE X e (tE X.K Wx f)) (hr : PA X es (tA X.K Wx fa)) (hs : starEach (e :: es) X.env = (false, eval e X.env) :: starEach es X.env := by rfl) : PA X (e :: es) (tA X.K Wx (aCons f fa)) :=
  (pa_cons ha hr hs).imp fun σ H Q q => by
    obtain ⟨δ, S, ρ, ok, en, q⟩ := q
    refine ⟨δ, S, ρ, ok, en, (go_bind q).mono fun v H1 ⟨x, S1, ρ1, ok1, st1, r1, q1⟩ => ?_⟩
    refine ⟨δ, S1, ρ1, ok1, en.mono st1, (go_bind q1).mono fun vs H2 ⟨xs, S2, ρ2, ok2, st2, r2, q2⟩ => ?_⟩
    exact go_val ok2 q2 (show RelWs X.K ρ2 H2 (x :: xs) (v :: vs) from ⟨v, vs, rfl, r1.mono st2, r2⟩)
/-- a list read-only from here on, a tuple -/
def mkTup (ws : List W) (S : Store) : Rs W := if ws.length ≤ sizeLine then (match pure? ws with
  | some ds => some (.ok (.d (.tup ds)), S)
  | none => none) else none
def mkLst (ws : List W) (S : Store) : Rs W := if ws.length ≤ sizeLine then (match pure? ws with
  | some ds => some (.ok (.d (.lst ds)), S)
  | none => none) else none
/-- a list at a new place -/
def mkLoc (ws : List W) (S : Store) : Rs W := if ws.length ≤ sizeLine then some (.ok (.loc S.length), S ++ [.lst ws]) else none
def dTup (g : FA) : FE := fun δ S => (g δ S).bind mkTup
def dLst (g : FA) : FE := fun δ S => (g δ S).bind mkLst
def dLoc (g : FA) : FE := fun δ S => (g δ S).bind mkLoc
theorem tupF_new {K : PySem.W.Frag} {ρ : Ad} {S : Store} {H : Hp} {p : Addr} {vs : List V} (ok : Ok K ρ S H) (h : H p = none) : TupF K ρ (upd H p (.tup vs)) p vs := .inl ⟨.inl upd_same, ok.off h⟩
theorem lstF_new {K : PySem.W.Frag} {ρ : Ad} {S : Store} {H : Hp} {p : Addr} {vs : List V} (ok : Ok K ρ S H) (h : H p = none) : LstF K ρ (upd H p (.lst vs)) p vs := .inl ⟨.inl upd_same, ok.off h⟩
theorem mkTup_ok {K : PySem.W.Frag} {σ : L2.St} {ρ : Ad} {H : Hp} {S : Store} {ws : List W} {vs : List V} {Q : VK} (ok : Ok K ρ S H) (r : RelWs K ρ H ws vs) (q : Go K Wx σ ρ H (RelW K) (mkTup ws S) Q) : vs.length ≤ sizeLine ∧ ∀ p, H p = none → Q (.ref p) (upd H p (.tup vs)) := by
  unfold mkTup at q
  split at q
  · rename_i hz
    refine ⟨by rw [← r.length]; exact hz, fun p hp => ?_⟩
    cases e : pure? ws with
    | none => rw [e] at q; exact go_none q
    | some ds =>
      rw [e] at q
      have st := step_new ok (.tup vs) hp
      exact go_at q (ok_new ok _ hp) st (show RelD K ρ (upd H p (.tup vs)) (.tup ds) (.ref p) by rw [RelD]; exact ⟨p, vs, rfl, tupF_new ok hp, RelDs.mono st ds vs (pure?_rel e r)⟩)
  · exact go_none q
theorem mkLst_ok {K : PySem.W.Frag} {σ : L2.St} {ρ : Ad} {H : Hp} {S : Store} {ws : List W} {vs : List V} {Q : VK} (ok : Ok K ρ S H) (r : RelWs K ρ H ws vs) (q : Go K Wx σ ρ H (RelW K) (mkLst ws S) Q) : vs.length ≤ sizeLine ∧ ∀ p, H p = none → Q (.ref p) (upd H p (.lst vs)) := by
  unfold mkLst at q
  split at q
  · rename_i hz
    refine ⟨by rw [← r.length]; exact hz, fun p hp => ?_⟩
    cases e : pure? ws with
    | none => rw [e] at q; exact go_none q
    | some ds =>
      rw [e] at q
      have st := step_new ok (.lst vs) hp
      exact go_at q (ok_new ok _ hp) st (show RelD K ρ (upd H p (.lst vs)) (.lst ds) (.ref p) by rw [RelD]; exact ⟨p, vs, rfl, lstF_new ok hp, RelDs.mono st ds vs (pure?_rel e r)⟩)
  · exact go_none q
theorem mkLoc_ok {K : PySem.W.Frag} {σ : L2.St} {ρ : Ad} {H : Hp} {S : Store} {ws : List W} {vs : List V} {Q : VK} (ok : Ok K ρ S H) (r : RelWs K ρ H ws vs) (q : Go K Wx σ ρ H (RelW K) (mkLoc ws S) Q) : vs.length ≤ sizeLine ∧ ∀ p, H p = none → Q (.ref p) (upd H p (.lst vs)) := by
  unfold mkLoc at q
  split at q
  · rename_i hz
    refine ⟨by rw [← r.length]; exact hz, fun p hp => ?_⟩
    obtain ⟨ok', st⟩ := ok_alloc ok (m := .lst ws) (o := .lst vs) hp fun ρ' H' st e => ⟨vs, e, r.mono st⟩
    exact go_at q ok' st (show RelW K (ρ.add p) (upd H p (.lst vs)) (.loc S.length) (.ref p) from ⟨by simp [Ad.add, ok.len], fun a e => by rw [← ok.len] at e; simp [Ad.add] at e; rw [e]⟩)
  · exact go_none q
theorem de_tup {k : Nat} (ha : PA X es (tA X.K Wx fa)) : PE X (.Tuple es k pos) (tE X.K Wx (dTup fa)) := (pe_tup ha).imp fun σ H Q q => by
  obtain ⟨δ, S, ρ, ok, en, q⟩ := q
  exact ⟨δ, S, ρ, ok, en, (go_bind q).mono fun vs H1 ⟨ws, S1, ρ1, ok1, st1, r1, q1⟩ => mkTup_ok ok1 r1 q1⟩
theorem de_lst (ha : PA X es (tA X.K Wx fa)) : PE X (.List es pos) (tE X.K Wx (dLst fa)) := (pe_lst ha).imp fun σ H Q q => by
  obtain ⟨δ, S, ρ, ok, en, q⟩ := q
  exact ⟨δ, S, ρ, ok, en, (go_bind q).mono fun vs H1 ⟨ws, S1, ρ1, ok1, st1, r1, q1⟩ => mkLst_ok ok1 r1 q1⟩
theorem de_loc (ha : PA X es (tA X.K Wx fa)) : PE X (.List es pos) (tE X.K Wx (dLoc fa)) := (pe_lst ha).imp fun σ H Q q => by
  obtain ⟨δ, S, ρ, ok, en, q⟩ := q
  exact ⟨δ, S, ρ, ok, en, (go_bind q).mono fun vs H1 ⟨ws, S1, ρ1, ok1, st1, r1, q1⟩ => mkLoc_ok ok1 r1 q1⟩
end

/-! ### what a sequence holds -/
/-- is it a tuple; its items -/
def seqW (S : Store) : W → Option (Bool × List W)
  | .d (.tup ds) => some (true, ds.map W.d)
  | .d (.lst ds) => some (false, ds.map W.d)
  | .loc n => match S[n]? with
    | some (.lst ws) => some (false, ws)
    | _ => none
  | _ => none
def SqW (K : PySem.W.Frag) (H : Hp) (t : Bool) (a : Addr) (vs : List V) : Prop := if t = true then SqT K H a vs else SqL K H a vs
theorem seqW_ok {K : PySem.W.Frag} {ρ : Ad} {H : Hp} {S : Store} {x : W} {v : V} {t : Bool} {ws : List W} (ok : Ok K ρ S H) (r : RelW K ρ H x v) (e : seqW S x = some (t, ws)) : ∃ a vs, v = .ref a ∧ SqW K H t a vs ∧ RelWs K ρ H ws vs := by
  cases x with
  | loc n =>
    cases e0 : S[n]? with
    | none => simp [seqW, e0] at e
    | some m =>
      simp only [seqW, e0] at e
      cases m with
      | lst us =>
        cases e
        obtain ⟨a, ha⟩ := ok.live n _ e0 (by simp)
        obtain ⟨m', e1, o⟩ := ok.obj n a ha
        rw [e0] at e1
        cases e1
        obtain ⟨vs, h1, h2⟩ := o
        exact ⟨a, vs, r.2 a ha, SqL.of h1, h2⟩
      | _ => cases e
  | d x => cases x with
    | tup ds =>
      obtain ⟨a, vs, rfl, h1, h2⟩ : ∃ a vs, v = .ref a ∧ TupF K ρ H a vs ∧ RelDs K ρ H ds vs := by simpa [RelW, RelD] using r
      cases e
      exact ⟨a, vs, rfl, h1.sq, relWs_map h2⟩
    | lst ds =>
      obtain ⟨a, vs, rfl, h1, h2⟩ : ∃ a vs, v = .ref a ∧ LstF K ρ H a vs ∧ RelDs K ρ H ds vs := by simpa [RelW, RelD] using r
      cases e
      exact ⟨a, vs, rfl, h1.sq, relWs_map h2⟩
    | _ => cases e
theorem SqW.or {K : PySem.W.Frag} {H : Hp} {t : Bool} {a : Addr} {vs : List V} (h : SqW K H t a vs) : SqL K H a vs ∨ SqT K H a vs := by
  cases t with
  | true => exact .inr h
  | false => exact .inl h

/-! ### operators by values -/
section
variable {X : Cx} {K : PySem.W.Frag} {Wx : WX}
theorem int2_inv {P : Prop} (x y : W) (h : ∀ i j, x = .d (.int i) → y = .d (.int j) → P) (h' : (∀ i j, x = .d (.int i) → y ≠ .d (.int j)) → P) : P := by
  by_cases e : ∃ i j, x = .d (.int i) ∧ y = .d (.int j)
  · obtain ⟨i, j, e1, e2⟩ := e
    exact h i j e1 e2
  · exact h' fun i j e1 e2 => e ⟨i, j, e1, e2⟩
/-- ints in, a value out -/
def oII (C : Int → Int → Prop) [∀ i j, Decidable (C i j)] (g : Int → Int → D) : F2
  | .d (.int i), .d (.int j), S => if C i j then some (.ok (.d (g i j)), S) else none
  | _, _, _ => none
theorem oII_ok {C : Int → Int → Prop} [∀ i j, Decidable (C i j)] {g : Int → Int → D} {gv : Int → Int → V} (hg : ∀ i j ρ H, RelD K ρ H (g i j) (gv i j)) : OpF K Wx (rI C gv) (oII C g) := by
  intro σ ρ S H x y a b Q ok rx ry q
  refine int2_inv x y (fun i j e1 e2 => ?_) (fun hn => ?_)
  · subst e1 e2
    by_cases hc : C i j
    · simp only [oII, if_pos hc] at q
      exact ⟨i, j, by simpa [RelW, RelD] using rx, by simpa [RelW, RelD] using ry, hc, go_val ok q (hg i j ρ H)⟩
    · simp only [oII, if_neg hc] at q
      exact go_none q
  · have e : oII C g x y S = none := by
      unfold oII
      split
      · exact absurd rfl (hn _ _ rfl)
      · rfl
    rw [e] at q
    exact go_none q
def oI0 (g : Int → Int → D) : F2
  | .d (.int i), .d (.int j), S => some (.ok (.d (g i j)), S)
  | _, _, _ => none
theorem oI0_ok {g : Int → Int → D} {gv : Int → Int → V} (hg : ∀ i j ρ H, RelD K ρ H (g i j) (gv i j)) : OpF K Wx (rI0 gv) (oI0 g) := by
  intro σ ρ S H x y a b Q ok rx ry q
  refine int2_inv x y (fun i j e1 e2 => ?_) (fun hn => ?_)
  · subst e1 e2
    exact ⟨i, j, by simpa [RelW, RelD] using rx, by simpa [RelW, RelD] using ry, go_val ok q (hg i j ρ H)⟩
  · have e : oI0 g x y S = none := by
      unfold oI0
      split
      · exact absurd rfl (hn _ _ rfl)
      · rfl
    rw [e] at q
    exact go_none q
abbrev oAdd : F2 := oI0 fun i j => .int (i + j)
abbrev oSub : F2 := oI0 fun i j => .int (i - j)
instance (i j : Int) : Decidable (CMulW i j) := by unfold CMulW; infer_instance
instance (i j : Int) : Decidable (CDivW i j) := by unfold CDivW; infer_instance
instance (i j : Int) : Decidable (CPow i j) := by unfold CPow; infer_instance
abbrev oMul : F2 := oII CMulW fun i j => .int (i * j)
abbrev oDiv : F2 := oII CDivW fun i j => .int (i / j)
abbrev oMod : F2 := oII (fun _ j => 0 < j) fun i j => .int (i % j)
abbrev oPow : F2 := oII CPow fun i j => .int (i ^ j.toNat)
abbrev oLt : F2 := oI0 fun i j => .bl (decide (i < j))
abbrev oLe : F2 := oI0 fun i j => .bl (decide (i ≤ j))
abbrev oGt : F2 := oI0 fun i j => .bl (decide (j < i))
abbrev oGe : F2 := oI0 fun i j => .bl (decide (j ≤ i))
theorem oAdd_ok : OpF K Wx (rI0 fun i j => .int (i + j)) oAdd := oI0_ok fun _ _ _ _ => by rw [RelD]
theorem oSub_ok : OpF K Wx (rI0 fun i j => .int (i - j)) oSub := oI0_ok fun _ _ _ _ => by rw [RelD]
theorem oMul_ok : OpF K Wx (rI CMulW fun i j => .int (i * j)) oMul := oII_ok fun _ _ _ _ => by rw [RelD]
theorem oDiv_ok : OpF K Wx (rI CDivW fun i j => .int (i / j)) oDiv := oII_ok fun _ _ _ _ => by rw [RelD]
theorem oMod_ok : OpF K Wx (rI (fun _ j => 0 < j) fun i j => .int (i % j)) oMod := oII_ok fun _ _ _ _ => by rw [RelD]
theorem oPow_ok : OpF K Wx (rI CPow fun i j => .int (i ^ j.toNat)) oPow := oII_ok fun _ _ _ _ => by rw [RelD]
theorem oLt_ok : OpF K Wx (rI0 fun i j => .bl (decide (i < j))) oLt := oI0_ok fun _ _ _ _ => by rw [RelD]
theorem oLe_ok : OpF K Wx (rI0 fun i j => .bl (decide (i ≤ j))) oLe := oI0_ok fun _ _ _ _ => by rw [RelD]
theorem oGt_ok : OpF K Wx (rI0 fun i j => .bl (decide (j < i))) oGt := oI0_ok fun _ _ _ _ => by rw [RelD]
theorem oGe_ok : OpF K Wx (rI0 fun i j => .bl (decide (j ≤ i))) oGe := oI0_ok fun _ _ _ _ => by rw [RelD]
/-- xs[i] -/
def oIx : F2 := fun x y S => match seqW S x, y with
  | some (_, ws), .d (.int i) => (match atI ws i with
    | some w => some (.ok w, S)
    | none => none)
  | _, _ => none
theorem atI_rel {ρ : Ad} {H : Hp} {ws : List W} {vs : List V} {i : Int} {w : W} (r : RelWs K ρ H ws vs) (e : atI ws i = some w) : ∃ v, atI vs i = some v ∧ RelW K ρ H w v := by
  unfold atI at e ⊢
  rw [← r.length]
  cases h : ixN ws.length i with
  | none => rw [h] at e; cases e
  | some j =>
    rw [h] at e
    exact r.get (i := j) e
theorem oIx_ok : OpF K Wx (rIx K) oIx := by
  intro σ ρ S H x y a b Q ok rx ry q
  unfold oIx at q
  split at q
  · rename_i t ws i e
    split at q
    · rename_i w ew
      obtain ⟨p, vs, rfl, h1, h2⟩ := seqW_ok ok rx e
      obtain ⟨v, e2, rv⟩ := atI_rel h2 ew
      have ey : b = .int i := by simpa [RelW, RelD] using ry
      cases t with
      | true => exact .inr (.inl ⟨p, vs, i, v, rfl, ey, h1, e2, go_val ok q rv⟩)
      | false => exact .inl ⟨p, vs, i, v, rfl, ey, h1, e2, go_val ok q rv⟩
    · exact go_none q
  · exact go_none q
/-! data as the library's == reads it -/
mutual
def toP : D → Option PyData
  | .non => some .none
  | .bl b => some (.bool b)
  | .int i => some (.int i)
  | .str x => some (.str x)
  | .tup ds => (toPs ds).map .tuple
  | .lst ds => (toPs ds).map .list
  | _ => none
def toPs : List D → Option (List PyData)
  | [] => some []
  | d :: ds => match toP d, toPs ds with
    | some p, some ps => some (p :: ps)
    | _, _ => none
end
mutual
theorem toP_ok {ρ : Ad} {H : Hp} : ∀ (d : D) (v : V) (p : PyData), toP d = some p → RelD K ρ H d v → Dp K H v p
  | .non, v, p, e, r => by rw [toP] at e; cases e; rw [RelD] at r; subst r; exact .non
  | .bl b, v, p, e, r => by rw [toP] at e; cases e; rw [RelD] at r; subst r; exact .bl b
  | .int b, v, p, e, r => by rw [toP] at e; cases e; rw [RelD] at r; subst r; exact .int b
  | .str b, v, p, e, r => by rw [toP] at e; cases e; rw [RelD] at r; subst r; exact .str b
  | .ref b, v, p, e, r => by simp [toP] at e
  | .ty b, v, p, e, r => by simp [toP] at e
  | .ins _ _ _, v, p, e, r => by simp [toP] at e
  | .dct _ _, v, p, e, r => by simp [toP] at e
  | .tup ds, v, p, e, r => by
    rw [toP] at e
    rw [RelD] at r
    obtain ⟨a, vs, rfl, h1, h2⟩ := r
    obtain ⟨ps, e1, rfl⟩ := Option.map_eq_some_iff.mp e
    exact .tup h1.sq (toPs_ok ds vs ps e1 h2)
  | .lst ds, v, p, e, r => by
    rw [toP] at e
    rw [RelD] at r
    obtain ⟨a, vs, rfl, h1, h2⟩ := r
    obtain ⟨ps, e1, rfl⟩ := Option.map_eq_some_iff.mp e
    exact .lst h1.sq (toPs_ok ds vs ps e1 h2)
theorem toPs_ok {ρ : Ad} {H : Hp} : ∀ (ds : List D) (vs : List V) (ps : List PyData), toPs ds = some ps → RelDs K ρ H ds vs → DpAll K H vs ps
  | [], vs, ps, e, r => by rw [toPs] at e; cases e; rw [RelDs] at r; subst r; exact .nil
  | d :: ds, vs, ps, e, r => by
    rw [toPs] at e
    rw [RelDs] at r
    obtain ⟨v, vr, rfl, h1, h2⟩ := r
    cases e1 : toP d with
    | none => simp [e1] at e
    | some p =>
      cases e2 : toPs ds with
      | none => simp [e1, e2] at e
      | some ps' =>
        simp [e1, e2] at e
        subst e
        exact .cons (toP_ok d v p e1 h1) (toPs_ok ds vr ps' e2 h2)
end
/-- ==, data alone -/
def eqW : W → W → Option Bool
  | .d x, .d y => match toP x, toP y with
    | some p, some q => if SeqAt.shaped p = true ∧ SeqAt.shaped q = true then some (PyData.eqv p q) else none
    | _, _ => none
  | _, _ => none
def oEq : F2 := fun x y S => match eqW x y with
  | some b => some (.ok (.d (.bl b)), S)
  | none => none
def oNe : F2 := fun x y S => match eqW x y with
  | some b => some (.ok (.d (.bl (!b))), S)
  | none => none
theorem eqW_ok {ρ : Ad} {H : Hp} {x y : W} {a b : V} {k : Bool} (rx : RelW K ρ H x a) (ry : RelW K ρ H y b) (e : eqW x y = some k) : ∃ p q, Dp K H a p ∧ Dp K H b q ∧ SeqAt.shaped p = true ∧ SeqAt.shaped q = true ∧ PyData.eqv p q = k := by
  unfold eqW at e
  split at e
  · rename_i x y
    split at e
    · rename_i p q e1 e2
      split at e
      · rename_i hs
        cases e
        exact ⟨p, q, toP_ok x a p e1 rx, toP_ok y b q e2 ry, hs.1, hs.2, rfl⟩
      · cases e
    · cases e
  · cases e
theorem oEq_ok : OpF K Wx (rEqD K) oEq := by
  intro σ ρ S H x y a b Q ok rx ry q
  unfold oEq at q
  split at q
  · rename_i k e
    obtain ⟨p, p', h1, h2, h3, h4, rfl⟩ := eqW_ok rx ry e
    exact ⟨p, p', h1, h2, h3, h4, go_val ok q (by simp [RelW, RelD])⟩
  · exact go_none q
theorem oNe_ok : OpF K Wx (rNeD K) oNe := by
  intro σ ρ S H x y a b Q ok rx ry q
  unfold oNe at q
  split at q
  · rename_i k e
    obtain ⟨p, p', h1, h2, h3, h4, rfl⟩ := eqW_ok rx ry e
    exact ⟨p, p', h1, h2, h3, h4, go_val ok q (by simp [RelW, RelD])⟩
  · exact go_none q
/-- is None, is not None -/
def isNonW : W → Bool
  | .d .non => true
  | _ => false
def oIsN : F2 := fun x y S => match x, y with
  | .d x, .d .non => some (.ok (.d (.bl (isNonW (.d x)))), S)
  | _, _ => none
def oNotN : F2 := fun x y S => match x, y with
  | .d x, .d .non => some (.ok (.d (.bl (!isNonW (.d x)))), S)
  | _, _ => none
theorem isNon_ok {ρ : Ad} {H : Hp} {x : D} {a : V} (r : RelD K ρ H x a) : isNonW (.d x) = decide (a = .non) := by
  cases x with
  | tup ds => rw [RelD] at r; obtain ⟨p, vs, rfl, _⟩ := r; simp [isNonW]
  | lst ds => rw [RelD] at r; obtain ⟨p, vs, rfl, _⟩ := r; simp [isNonW]
  | ins C ns ds => rw [RelD] at r; obtain ⟨p, dx, vs, rfl, _⟩ := r; simp [isNonW]
  | dct ks ds => rw [RelD] at r; obtain ⟨p, vs, rfl, _⟩ := r; simp [isNonW]
  | _ => rw [RelD] at r; subst r; simp [isNonW]
theorem oIsN_ok : OpF K Wx (fun x y H Q => y = .non ∧ Q (.bl (decide (x = .non))) H) oIsN := by
  intro σ ρ S H x y a b Q ok rx ry q
  unfold oIsN at q
  split at q
  · rename_i x
    exact ⟨by simpa [RelW, RelD] using ry, by rw [← isNon_ok (show RelD K ρ H x a from rx)]; exact go_val ok q (by simp [RelW, RelD])⟩
  · exact go_none q
theorem oNotN_ok : OpF K Wx (fun x y H Q => y = .non ∧ Q (.bl (!decide (x = .non))) H) oNotN := by
  intro σ ρ S H x y a b Q ok rx ry q
  unfold oNotN at q
  split at q
  · rename_i x
    exact ⟨by simpa [RelW, RelD] using ry, by rw [← isNon_ok (show RelD K ρ H x a from rx)]; exact go_val ok q (by simp [RelW, RelD])⟩
  · exact go_none q
end
/-! ### one operand -/
section
variable {X : Cx} {K : PySem.W.Frag} {Wx : WX} {a : Expr} {f : FE} {pos : Pos}
def oNeg : W → Store → Rs W
  | .d (.int i), S => some (.ok (.d (.int (-i))), S)
  | _, _ => none
def d1 (op : W → Store → Rs W) (f : FE) : FE := fun δ S => (f δ S).bind op
theorem de_neg (ha : PE X a (tE X.K Wx f)) : PE X (.UnaryOp .USub a pos) (tE X.K Wx (d1 oNeg f)) := (pe_un un_neg ha).imp fun σ H Q q => by
  obtain ⟨δ, S, ρ, ok, en, q⟩ := q
  refine ⟨δ, S, ρ, ok, en, (go_bind q).mono fun v H1 ⟨x, S1, ρ1, ok1, st1, r1, q1⟩ => ?_⟩
  cases x with
  | loc n => exact go_none q1
  | d x => cases x with
    | int i => exact ⟨i, by simpa [RelW, RelD] using r1, go_val ok1 q1 (by simp [RelW, RelD])⟩
    | _ => exact go_none q1
end
end DL
set_option Elab.async false
set_option linter.all false
set_option maxRecDepth 100000
set_option maxHeartbeats 1000000
/-! DL4: calls of defs, of built-ins; lists at places. -/
namespace DL
open PySem PySem.Spec PyProof.Rows L2

/-! ### defs -/
/-- a def's promise by its function -/
def spD (K : PySem.W.Frag) (n : Nat) (g : Fn) : Sp := fun vs H Q E => vs.length = n ∧ ∃ ws S ρ r S', RelWs K ρ H ws vs ∧ Ok K ρ S H ∧ g ws S = some (r, S') ∧ ∀ ρ' H', Ok K ρ' S' H' → Step ρ H ρ' H' → match r with
  | .ok w => ∀ v, RelW K ρ' H' w v → Q v H'
  | .error x => ∀ d, ExR K ρ' H' x d → E (x.cl K) d H'
/-- the def named x, of n parameters, does what g does -/
structure FnD (P : Program) (w : World) (K : PySem.W.Frag) (mg : Str → Option Value) (base : Heap) (k : Nat) (x : Str) (n : Nat) (g : Fn) : Prop where
  ex : ∃ f fd ps, FnOk P w K mg base (L2.CX P w) k f fd ps (spD K n g) ∧ mg x = some (.ref f) ∧ PySem.W.keepIn K (.ref f) = true ∧ Binds K fd ps []
def dCall (n : Nat) (g : Fn) (fa : FA) : FE := fun δ S => (fa δ S).bind fun ws S1 => if ws.length = n then g ws S1 else none
section
variable {X : Cx} {Wx : WX} {e a b c o : Expr} {es : List Expr} {f fo fi : FE} {fa : FA} {pos p apos : Pos} {k n : Nat} {g : Fn} {x : Str}
theorem de_call (F : FnD X.prog X.w X.K X.mg X.base k x n g) (tk : Takes X Wx) (hr : Room k X.A) (ha : PA X (e :: es) (tA X.K Wx fa)) (hg : Gl X x := by rfl) (hdb : (x == ("__debug__" : Str)) = false := by decide) (he : starEach (e :: es) X.env = (false, eval e X.env) :: starEach es X.env := by rfl) (hpl : (backTo pos (starEach es X.env)).any (·.1) = false := by rfl) :
    PE X (.Call (.Name x p) (e :: es) [] pos) (tE X.K Wx (dCall n g fa)) := by
  obtain ⟨f, fd, ps, F, hm, hk, hb⟩ := F.ex
  refine (pe_callS (E := WE Wx) F hr hg hm hk hb (fun σ => passAt tk σ) ha hdb he hpl).imp fun σ H Q q => ?_
  obtain ⟨δ, S, ρ, ok, en, q⟩ := q
  refine ⟨δ, S, ρ, ok, en, (go_bind q).mono fun vs H1 ⟨ws, S1, ρ1, ok1, st1, r1, q1⟩ => ?_⟩
  split at q1
  · rename_i hn
    obtain ⟨r, S', e1, c⟩ := q1
    refine ⟨by rw [← r1.length]; exact hn, ws, S1, ρ1, r, S', r1, ok1, e1, fun ρ' H' ok' st' => ?_⟩
    have c' := c ρ' H' ok' st'
    cases r with
    | ok w => exact c'
    | error x => exact c'
  · exact go_none q1

/-! ### built-ins -/
abbrev FB := List W → Store → Rs W
def CalF (K : PySem.W.Frag) (Wx : WX) (r : List V → Hp → VK → Prop) (op : FB) : Prop := ∀ (σ : L2.St) (ρ : Ad) (S : Store) (H : Hp) (ws : List W) (vs : List V) (Q : VK), Ok K ρ S H → RelWs K ρ H ws vs → Go K Wx σ ρ H (RelW K) (op ws S) Q → r vs H Q
def dCB (op : FB) (fa : FA) : FE := fun δ S => (fa δ S).bind op
theorem impCB {K : PySem.W.Frag} {r : List V → Hp → VK → Prop} {op : FB} (o : CalF K Wx r op) (σ : L2.St) (H : Hp) (Q : VK) (q : tE K Wx (dCB op fa) σ H Q) : tCB r (tA K Wx fa) σ H Q := by
  obtain ⟨δ, S, ρ, ok, en, q⟩ := q
  exact ⟨δ, S, ρ, ok, en, (go_bind q).mono fun vs H1 ⟨ws, S1, ρ1, ok1, st1, r1, q1⟩ => o σ ρ1 S1 H1 ws vs Q ok1 r1 q1⟩
theorem de_callB {id : String} {r : List V → Hp → VK → Prop} {op : FB} (hc : CallR X (.builtin id) r) (o : CalF X.K Wx r op) (hm : X.mg x = none) (hv : bootBuiltins x = some (.builtin id)) (ha : PA X (e :: es) (tA X.K Wx fa)) (hg : Gl X x := by rfl) (hn : x ≠ "__name__" := by decide) (hdb : (x == ("__debug__" : Str)) = false := by decide)
    (hs : starEach (e :: es) X.env = (false, eval e X.env) :: starEach es X.env := by rfl) (hplain : (backTo pos (starEach es X.env)).any (·.1) = false := by rfl) : PE X (.Call (.Name x p) (e :: es) [] pos) (tE X.K Wx (dCB op fa)) :=
  (pe_callB hc hg hm hv ha hn hdb hs hplain).imp (impCB o)
theorem de_callTy {T : String} {r : List V → Hp → VK → Prop} {op : FB} (hc : CallR X (.type T) r) (o : CalF X.K Wx r op) (hm : X.mg x = none) (hv : bootBuiltins x = some (.type T)) (ha : PA X (e :: es) (tA X.K Wx fa)) (hg : Gl X x := by rfl) (hn : x ≠ "__name__" := by decide) (hdb : (x == ("__debug__" : Str)) = false := by decide)
    (hs : starEach (e :: es) X.env = (false, eval e X.env) :: starEach es X.env := by rfl) (hplain : (backTo pos (starEach es X.env)).any (·.1) = false := by rfl) : PE X (.Call (.Name x p) (e :: es) [] pos) (tE X.K Wx (dCB op fa)) :=
  (pe_callTy hc hg hm hv ha hn hdb hs hplain).imp (impCB o)
end
section
variable {X : Cx} {K : PySem.W.Frag} {Wx : WX} {ρ : Ad} {H : Hp}
theorem relWs1 {w : W} {vs : List V} (r : RelWs K ρ H [w] vs) : ∃ v, vs = [v] ∧ RelW K ρ H w v := by
  obtain ⟨v, vr, rfl, h1, h2⟩ := r
  cases (show vr = [] from h2)
  exact ⟨v, rfl, h1⟩
theorem relWs2 {w u : W} {vs : List V} (r : RelWs K ρ H [w, u] vs) : ∃ v z, vs = [v, z] ∧ RelW K ρ H w v ∧ RelW K ρ H u z := by
  obtain ⟨v, vr, rfl, h1, h2⟩ := r
  obtain ⟨z, rfl, h3⟩ := relWs1 h2
  exact ⟨v, z, rfl, h1, h3⟩
/-- one argument -/
def b1 (op : W → Store → Rs W) : FB
  | [w], S => op w S
  | _, _ => none
theorem b1_ok {op : W → Store → Rs W} {r : List V → Hp → VK → Prop} (h : ∀ (σ : L2.St) (ρ : Ad) (S : Store) (H : Hp) (w : W) (v : V) (Q : VK), Ok K ρ S H → RelW K ρ H w v → Go K Wx σ ρ H (RelW K) (op w S) Q → r [v] H Q) : CalF K Wx r (b1 op) := by
  intro σ ρ S H ws vs Q ok rw' q
  match ws, rw', q with
  | [], _, q => exact go_none q
  | [w], rw', q =>
    obtain ⟨v, rfl, r1⟩ := relWs1 rw'
    exact h σ ρ S H w v Q ok r1 q
  | _ :: _ :: _, _, q => exact go_none q
def oAbs : W → Store → Rs W
  | .d (.int i), S => some (.ok (.d (.int (if i < 0 then -i else i))), S)
  | _, _ => none
theorem oAbs_ok : CalF K Wx (fun xs H Q => ∃ i, xs = [.int i] ∧ Q (.int (if i < 0 then -i else i)) H) (b1 oAbs) := b1_ok fun σ ρ S H w v Q ok r q => by
  cases w with
  | loc n => exact go_none q
  | d x => cases x with
    | int i =>
      obtain rfl : v = .int i := by simpa [RelW, RelD] using r
      exact ⟨i, rfl, go_val ok q (by simp [RelW, RelD])⟩
    | _ => exact go_none q
def oInt : W → Store → Rs W
  | .d (.int i), S => some (.ok (.d (.int i)), S)
  | .d (.bl k), S => some (.ok (.d (.int (if k then 1 else 0))), S)
  | _, _ => none
theorem oInt_ok : CalF K Wx (fun xs H Q => (∃ i, xs = [.int i] ∧ Q (.int i) H) ∨ ∃ k, xs = [.bl k] ∧ Q (.int (if k then 1 else 0)) H) (b1 oInt) := b1_ok fun σ ρ S H w v Q ok r q => by
  cases w with
  | loc n => exact go_none q
  | d x => cases x with
    | int i =>
      obtain rfl : v = .int i := by simpa [RelW, RelD] using r
      exact .inl ⟨i, rfl, go_val ok q (by simp [RelW, RelD])⟩
    | bl i =>
      obtain rfl : v = .bl i := by simpa [RelW, RelD] using r
      exact .inr ⟨i, rfl, go_val ok q (by simp [RelW, RelD])⟩
    | _ => exact go_none q
/-- len of a sequence -/
def oLen (x : W) (S : Store) : Rs W := match seqW S x with
  | some (_, ws) => some (.ok (.d (.int (ws.length : Int))), S)
  | none => none
theorem oLen_ok : CalF K Wx (fun xs H Q => ∃ p ys, xs = [.ref p] ∧ (SqL K H p ys ∨ SqT K H p ys) ∧ Q (.int ys.length) H) (b1 oLen) := b1_ok fun σ ρ S H w v Q ok r q => by
  unfold oLen at q
  split at q
  · rename_i t ws e
    obtain ⟨a, vs, rfl, h1, h2⟩ := seqW_ok ok r e
    exact ⟨a, vs, rfl, h1.or, by rw [← h2.length]; exact go_val ok q (by simp [RelW, RelD])⟩
  · exact go_none q
/-- tuple(x) -/
def oTuple (x : W) (S : Store) : Rs W := match seqW S x with
  | some (true, _) => some (.ok x, S)
  | some (false, ws) => (match pure? ws with
    | some ds => some (.ok (.d (.tup ds)), S)
    | none => none)
  | none => none
theorem oTuple_ok : CalF K Wx (fun xs H Q => ∃ p ys, xs = [.ref p] ∧ ((SqL K H p ys ∧ ∀ l, H l = none → Q (.ref l) (upd H l (.tup ys))) ∨ (SqT K H p ys ∧ Q (.ref p) H))) (b1 oTuple) := b1_ok fun σ ρ S H w v Q ok r q => by
  unfold oTuple at q
  split at q
  · rename_i ws e
    obtain ⟨a, vs, rfl, h1, h2⟩ := seqW_ok ok r e
    exact ⟨a, vs, rfl, .inr ⟨h1, go_val ok q r⟩⟩
  · rename_i ws e
    obtain ⟨a, vs, rfl, h1, h2⟩ := seqW_ok ok r e
    refine ⟨a, vs, rfl, .inl ⟨h1, fun l hl => ?_⟩⟩
    split at q
    · rename_i ds ed
      have st := step_new ok (.tup vs) hl
      exact go_at q (ok_new ok _ hl) st (show RelD K ρ (upd H l (.tup vs)) (.tup ds) (.ref l) by rw [RelD]; exact ⟨l, vs, rfl, tupF_new ok hl, RelDs.mono st ds vs (pure?_rel ed h2)⟩)
    · exact go_none q
  · exact go_none q
/-- list(x): read-only from here on; at a new place -/
def oList (x : W) (S : Store) : Rs W := match seqW S x with
  | some (_, ws) => (match pure? ws with
    | some ds => some (.ok (.d (.lst ds)), S)
    | none => none)
  | none => none
def oListL (x : W) (S : Store) : Rs W := match seqW S x with
  | some (_, ws) => some (.ok (.loc S.length), S ++ [.lst ws])
  | none => none
abbrev rListOf (K : PySem.W.Frag) : List V → Hp → VK → Prop := fun xs H Q => ∃ p ys, xs = [.ref p] ∧ (SqL K H p ys ∨ SqT K H p ys) ∧ ∀ l, H l = none → Q (.ref l) (upd H l (.lst ys))
theorem oList_ok : CalF K Wx (rListOf K) (b1 oList) := b1_ok fun σ ρ S H w v Q ok r q => by
  unfold oList at q
  split at q
  · rename_i t ws e
    obtain ⟨a, vs, rfl, h1, h2⟩ := seqW_ok ok r e
    refine ⟨a, vs, rfl, h1.or, fun l hl => ?_⟩
    split at q
    · rename_i ds ed
      have st := step_new ok (.lst vs) hl
      exact go_at q (ok_new ok _ hl) st (show RelD K ρ (upd H l (.lst vs)) (.lst ds) (.ref l) by rw [RelD]; exact ⟨l, vs, rfl, lstF_new ok hl, RelDs.mono st ds vs (pure?_rel ed h2)⟩)
    · exact go_none q
  · exact go_none q
theorem oListL_ok : CalF K Wx (rListOf K) (b1 oListL) := b1_ok fun σ ρ S H w v Q ok r q => by
  unfold oListL at q
  split at q
  · rename_i t ws e
    obtain ⟨a, vs, rfl, h1, h2⟩ := seqW_ok ok r e
    refine ⟨a, vs, rfl, h1.or, fun p hp => ?_⟩
    obtain ⟨ok', st⟩ := ok_alloc ok (m := .lst ws) (o := .lst vs) hp fun ρ' H' st e => ⟨vs, e, h2.mono st⟩
    exact go_at q ok' st (show RelW K (ρ.add p) (upd H p (.lst vs)) (.loc S.length) (.ref p) from ⟨by simp [Ad.add, ok.len], fun a e => by rw [← ok.len] at e; simp [Ad.add] at e; rw [e]⟩)
  · exact go_none q
/-- all, any of a list of truth values -/
def bools? : List W → Option (List Bool)
  | [] => some []
  | .d (.bl b) :: ws => (bools? ws).map (b :: ·)
  | _ :: _ => none
theorem bools?_ok : ∀ {ws : List W} {bs : List Bool} {vs : List V}, bools? ws = some bs → RelWs K ρ H ws vs → vs = bs.map V.bl
  | [], bs, vs, e, r => by cases (show some [] = some bs from e); exact r
  | .d (.bl b) :: ws, bs, vs, e, r => by
    obtain ⟨cs, e1, rfl⟩ := Option.map_eq_some_iff.mp (show (bools? ws).map (b :: ·) = some bs from e)
    obtain ⟨v, vr, rfl, h1, h2⟩ := r
    obtain rfl : v = .bl b := by simpa [RelW, RelD] using h1
    rw [bools?_ok e1 h2]
    rfl
  | .loc _ :: _, bs, vs, e, r => by cases (show (none : Option (List Bool)) = some bs from e)
  | .d .non :: _, bs, vs, e, r => by cases (show (none : Option (List Bool)) = some bs from e)
  | .d (.int _) :: _, bs, vs, e, r => by cases (show (none : Option (List Bool)) = some bs from e)
  | .d (.str _) :: _, bs, vs, e, r => by cases (show (none : Option (List Bool)) = some bs from e)
  | .d (.tup _) :: _, bs, vs, e, r => by cases (show (none : Option (List Bool)) = some bs from e)
  | .d (.lst _) :: _, bs, vs, e, r => by cases (show (none : Option (List Bool)) = some bs from e)
  | .d (.ins _ _ _) :: _, bs, vs, e, r => by cases (show (none : Option (List Bool)) = some bs from e)
  | .d (.dct _ _) :: _, bs, vs, e, r => by cases (show (none : Option (List Bool)) = some bs from e)
  | .d (.ref _) :: _, bs, vs, e, r => by cases (show (none : Option (List Bool)) = some bs from e)
  | .d (.ty _) :: _, bs, vs, e, r => by cases (show (none : Option (List Bool)) = some bs from e)
def oAll (x : W) (S : Store) : Rs W := match seqW S x with
  | some (false, ws) => (match bools? ws with
    | some bs => some (.ok (.d (.bl (bs.all id))), S)
    | none => none)
  | _ => none
def oAny (x : W) (S : Store) : Rs W := match seqW S x with
  | some (false, ws) => (match bools? ws with
    | some bs => some (.ok (.d (.bl (bs.any id))), S)
    | none => none)
  | _ => none
theorem oAll_ok : CalF K Wx (rAll K) (b1 oAll) := b1_ok fun σ ρ S H w v Q ok r q => by
  unfold oAll at q
  split at q
  · rename_i ws e
    obtain ⟨a, vs, rfl, h1, h2⟩ := seqW_ok ok r e
    split at q
    · rename_i bs eb
      have ev := bools?_ok eb h2
      subst ev
      exact ⟨a, bs, rfl, h1, go_val ok q (by simp [RelW, RelD])⟩
    · exact go_none q
  · exact go_none q
theorem oAny_ok : CalF K Wx (rAny K) (b1 oAny) := b1_ok fun σ ρ S H w v Q ok r q => by
  unfold oAny at q
  split at q
  · rename_i ws e
    obtain ⟨a, vs, rfl, h1, h2⟩ := seqW_ok ok r e
    split at q
    · rename_i bs eb
      have ev := bools?_ok eb h2
      subst ev
      exact ⟨a, bs, rfl, h1, go_val ok q (by simp [RelW, RelD])⟩
    · exact go_none q
  · exact go_none q
/-- a value's built-in type -/
def tyN (S : Store) : W → Option String
  | .d .non => some "NoneType"
  | .d (.bl _) => some "bool"
  | .d (.int _) => some "int"
  | .d (.str _) => some "str"
  | .d (.tup _) => some "tuple"
  | .d (.lst _) => some "list"
  | .d (.dct _ _) => some "dict"
  | .loc n => match S[n]? with
    | some (.lst _) => some "list"
    | _ => none
  | _ => none
theorem lst_ty {a : Addr} {vs : List V} (h : LstF K ρ H a vs) : TyX K H (.ref a) (.type "list") := by
  rcases h with ⟨h | ⟨o, h⟩, _⟩ | ⟨o, its, n, e, c, _⟩
  · exact .base (.lst h)
  · exact .base (.frz h)
  · exact .kList e c
theorem tup_ty {a : Addr} {vs : List V} (h : TupF K ρ H a vs) : TyX K H (.ref a) (.type "tuple") := by
  rcases h with ⟨h | ⟨o, h⟩, _⟩ | ⟨o, its, n, e, c, _⟩
  · exact .base (.tup h)
  · exact .fTuple h
  · exact .kTuple e c
theorem tyN_ok {S : Store} {x : W} {v : V} {t : String} (ok : Ok K ρ S H) (r : RelW K ρ H x v) (e : tyN S x = some t) : TyX K H v (.type t) := by
  cases x with
  | loc n =>
    cases e0 : S[n]? with
    | none => simp [tyN, e0] at e
    | some m =>
      simp only [tyN, e0] at e
      cases m with
      | lst ws =>
        cases e
        obtain ⟨a, ha⟩ := ok.live n _ e0 (by simp)
        obtain ⟨m', e1, o⟩ := ok.obj n a ha
        rw [e0] at e1
        cases e1
        obtain ⟨vs, h1, h2⟩ := o
        rw [r.2 a ha]
        exact .base (.lst h1)
      | _ => cases e
  | d x => cases x with
    | non => cases e; obtain rfl : v = .non := by simpa [RelW, RelD] using r
             exact .base .non
    | bl b => cases e; obtain rfl : v = .bl b := by simpa [RelW, RelD] using r
              exact .base (.bl b)
    | int b => cases e; obtain rfl : v = .int b := by simpa [RelW, RelD] using r
               exact .base (.int b)
    | str b => cases e; obtain rfl : v = .str b := by simpa [RelW, RelD] using r
               exact .base (.str b)
    | tup ds =>
      cases e
      obtain ⟨a, vs, rfl, h1, h2⟩ : ∃ a vs, v = .ref a ∧ TupF K ρ H a vs ∧ RelDs K ρ H ds vs := by simpa [RelW, RelD] using r
      exact tup_ty h1
    | lst ds =>
      cases e
      obtain ⟨a, vs, rfl, h1, h2⟩ : ∃ a vs, v = .ref a ∧ LstF K ρ H a vs ∧ RelDs K ρ H ds vs := by simpa [RelW, RelD] using r
      exact lst_ty h1
    | dct ks ds =>
      cases e
      obtain ⟨a, vs, rfl, h1, _⟩ : ∃ a vs, v = .ref a ∧ H a = some (.dK (ks.zip vs)) ∧ Off ρ a ∧ RelDs K ρ H ds vs ∧ ks.length = ds.length := by simpa [RelW, RelD] using r
      exact .base (.dK h1)
    | _ => cases e
/-- is a thing of type t one of type c -/
def isiB (t c : String) : Option Bool :=
  if t ∈ ["NoneType", "bool", "int", "str", "tuple", "list", "dict"] ∧ c ∈ ["bool", "int", "str", "tuple", "list", "dict"] then some (t == c || (t == "bool" && c == "int")) else none
theorem isiB_ok {t c : String} {b : Bool} (h : isiB t c = some b) : kitB t c = some b := by
  unfold isiB at h
  split at h
  · rename_i hm
    obtain ⟨h1, h2⟩ := hm
    simp only [List.mem_cons, List.not_mem_nil, or_false] at h1 h2
    cases h
    rcases h1 with rfl | rfl | rfl | rfl | rfl | rfl | rfl <;> rcases h2 with rfl | rfl | rfl | rfl | rfl | rfl <;> decide +kernel
  · cases h
def oIsi : FB
  | [x, .d (.ty c)], S => (match tyN S x with
    | some t => (match isiB t c with
      | some b => some (.ok (.d (.bl b)), S)
      | none => none)
    | none => none)
  | _, _ => none
theorem oIsi_ok : CalF K Wx (rIsi K) oIsi := by
  intro σ ρ S H ws vs Q ok rw' q
  unfold oIsi at q
  split at q
  · rename_i x c
    obtain ⟨v, z, rfl, r1, r2⟩ := relWs2 rw'
    obtain rfl : z = .ty c := by simpa [RelW, RelD] using r2
    split at q
    · rename_i t et
      split at q
      · rename_i b eb
        exact ⟨v, .ty c, .type t, .type c, b, rfl, .ty c, tyN_ok ok r1 et, kit_ty (isiB_ok eb), go_val ok q (by simp [RelW, RelD])⟩
      · exact go_none q
    · exact go_none q
  · exact go_none q
end
/-! ### lists at places -/
section
variable {X : Cx} {Wx : WX} {e o i : Expr} {es : List Expr} {f fo fi : FE} {fa : FA} {pos cpos apos : Pos}
theorem loc_at {K : PySem.W.Frag} {ρ : Ad} {S : Store} {H : Hp} {n : Nat} {ws : List W} {v : V} (ok : Ok K ρ S H) (r : RelW K ρ H (.loc n) v) (e : S[n]? = some (.lst ws)) : ∃ a vs, v = .ref a ∧ ρ.pl[n]? = some (some a) ∧ H a = some (.lst vs) ∧ RelWs K ρ H ws vs := by
  obtain ⟨a, ha⟩ := ok.live n _ e (by simp)
  obtain ⟨m', e1, ob⟩ := ok.obj n a ha
  rw [e] at e1
  cases e1
  obtain ⟨vs, h1, h2⟩ := ob
  exact ⟨a, vs, r.2 a ha, ha, h1, h2⟩
def isLst (S : Store) (n : Nat) : Bool := match S[n]? with
  | some (.lst _) => true
  | _ => false
theorem isLst_at {S : Store} {n : Nat} (h : isLst S n = true) : ∃ ws, S[n]? = some (.lst ws) := by
  unfold isLst at h
  split at h
  · rename_i ws e
    exact ⟨ws, e⟩
  · cases h
/-- xs.append(e) -/
def appAt (n : Nat) (w : W) (S2 : Store) : Rs W := match S2[n]? with
    | some (.lst ws) => if ws.length < sizeLine then some (.ok (.d .non), S2.set n (.lst (ws ++ [w]))) else none
    | _ => none
def dApp (fo fe : FE) : FE := fun δ S => (fo δ S).bind fun x S1 => match x with
  | .loc n => if isLst S1 n = true then (fe δ S1).bind (appAt n) else none
  | _ => none
theorem de_app (ho : PE X o (tE X.K Wx fo)) (he : PE X e (tE X.K Wx f)) (hbase : attributeBase o "append" X.env (eval o X.env) = eval o X.env := by rfl)
    (hfew : ((backTo cpos (starEach [e] X.env)).all (fun x => !x.1) && (backToKw cpos (keywordEach [] X.env)).all (fun x => x.1.isSome)
      && decide ([e].length + ([] : List Keyword).length + (if ([] : List Keyword).isEmpty then 0 else 1) < 30)) = true := by rfl)
    (hline : (apos.endLine == cpos.line) = true := by rfl) (hs : starEach [e] X.env = (false, eval e X.env) :: starEach [] X.env := by rfl) (hplain : (backTo cpos (starEach [] X.env)).any (·.1) = false := by rfl) :
    PE X (.Call (.Attribute o "append" apos) [e] [] cpos) (tE X.K Wx (dApp fo f)) :=
  (pe_bm PySem.F.plainAttrs_list PySem.F.slot_list_append PySem.F.type_list_append mt_append ho (pa_cons he pa_nil hs) hbase hfew hline hs hplain).imp fun σ H Q q => by
    obtain ⟨δ, S, ρ, ok, en, q⟩ := q
    refine ⟨δ, S, ρ, ok, en, (go_bind q).mono fun v H1 ⟨x, S1, ρ1, ok1, st1, r1, q1⟩ => ?_⟩
    cases x with
    | d x => exact go_none q1
    | loc n =>
      by_cases hi : isLst S1 n = true
      · simp only [if_pos hi] at q1
        obtain ⟨ws, ew⟩ := isLst_at hi
        obtain ⟨a, vs, rfl, ha, h1, h2⟩ := loc_at ok1 r1 ew
        refine ⟨.inl ⟨rfl, vs, SqL.of h1⟩, ?_⟩
        refine ⟨δ, S1, ρ1, ok1, en.mono st1, (go_bind q1).mono fun u H2 ⟨w, S2, ρ2, ok2, st2, r2, q2⟩ => ?_⟩
        unfold appAt at q2
        split at q2
        · rename_i ws2 e2
          obtain ⟨a2, vs2, e3, ha2, h3, h4⟩ := loc_at ok2 (r1.mono st2) e2
          cases e3
          by_cases hz : ws2.length < sizeLine
          · rw [if_pos hz] at q2
            refine ⟨a, vs2, u, rfl, rfl, h3, by rw [← h4.length]; exact hz, ?_⟩
            obtain ⟨ok3, st3⟩ := ok_write ok2 (m := .lst (ws2 ++ [w])) (o := .lst (vs2 ++ [u])) ha2 fun H' st e => ⟨_, e, (h4.mono st).app ⟨u, [], rfl, r2.mono st, rfl⟩⟩
            exact go_at q2 ok3 st3 (by simp [RelW, RelD])
          · rw [if_neg hz] at q2
            exact go_none q2
        · exact go_none q2
      · simp only [if_neg hi] at q1
        exact go_none q1
end
end DL
set_option Elab.async false
set_option linter.all false
set_option maxRecDepth 100000
set_option maxHeartbeats 1000000
/-! DL5: statements, targets, loops, comprehensions. -/
namespace DL
open PySem PySem.Spec PyProof.Rows L2

inductive Fl where
  | nx (δ : DEnv)
  | rt (w : W)
  | bk (δ : DEnv)
  | ct (δ : DEnv)
abbrev Ss := Option (Except (Ex × DEnv) Fl × Store)
abbrev FS := DEnv → Store → Ss
section
variable (K : PySem.W.Frag) (Wx : WX)
def GoS (ρ : Ad) (H : Hp) (m : Ss) (D : Ends) : Prop := ∃ r S', m = some (r, S') ∧ ∀ ρ' H', Ok K ρ' S' H' → Step ρ H ρ' H' → match r with
  | .ok (.nx δ) => ∀ σ', EnvR K ρ' H' δ σ' → D.nx σ' H'
  | .ok (.rt w) => ∀ v, RelW K ρ' H' w v → D.rt v H'
  | .ok (.bk δ) => ∀ σ', EnvR K ρ' H' δ σ' → D.bk σ' H'
  | .ok (.ct δ) => ∀ σ', EnvR K ρ' H' δ σ' → D.ct σ' H'
  | .error (x, δ) => ∀ d σ', EnvR K ρ' H' δ σ' → ExR K ρ' H' x d → Wx (x.cl K) d σ' H'
def tS (f : FS) : TS := fun D σ H => ∃ δ S ρ, Ok K ρ S H ∧ EnvR K ρ H δ σ ∧ GoS K Wx ρ H (f δ S) D
end
def sE {α : Type} (m : Rs α) (δ : DEnv) (k : α → Store → Ss) : Ss := match m with
  | none => none
  | some (.error x, S) => some (.error (x, δ), S)
  | some (.ok a, S) => k a S
section
variable {K : PySem.W.Frag} {Wx : WX} {σ : L2.St} {ρ ρ1 ρ' : Ad} {H H1 H' : Hp} {S S1 : Store} {α β : Type} {rel : Ad → Hp → α → β → Prop} {D D' : Ends}
theorem GoS.step {m : Ss} (h : GoS K Wx ρ H m D) (st : Step ρ H ρ' H') : GoS K Wx ρ' H' m D := by
  obtain ⟨r, S', e, c⟩ := h
  exact ⟨r, S', e, fun ρ2 H2 ok st2 => c ρ2 H2 ok (st.trans st2)⟩
theorem gos_none {P : Prop} (h : GoS K Wx ρ H none D) : P := by
  obtain ⟨_, _, e, _⟩ := h
  exact nomatch e
theorem gos_bind {m : Rs α} {δ : DEnv} {k : α → Store → Ss} (en : EnvR K ρ H δ σ) (h : GoS K Wx ρ H (sE m δ k) D) :
    Go K Wx σ ρ H rel m (fun b H1 => ∃ a S1 ρ1, Ok K ρ1 S1 H1 ∧ Step ρ H ρ1 H1 ∧ rel ρ1 H1 a b ∧ GoS K Wx ρ1 H1 (k a S1) D) := by
  obtain ⟨r, S', e, c⟩ := h
  cases m with
  | none => exact nomatch (show (none : Ss) = some (r, S') from e)
  | some p =>
    obtain ⟨z, S1⟩ := p
    cases z with
    | error x =>
      cases e
      exact ⟨.error x, _, rfl, fun ρ' H' ok st d hd => c ρ' H' ok st d σ (en.mono st) hd⟩
    | ok a => exact ⟨.ok a, S1, rfl, fun ρ1 H1 ok st b hb => ⟨a, S1, ρ1, ok, st, hb, r, S', e, fun ρ' H' ok' st' => c ρ' H' ok' (st.trans st')⟩⟩
theorem gos_nx {δ : DEnv} (ok : Ok K ρ S H) (h : GoS K Wx ρ H (some (.ok (.nx δ), S)) D) (en : EnvR K ρ H δ σ) : D.nx σ H := by
  obtain ⟨r', S', e, c⟩ := h
  cases e
  exact c ρ H ok (Step.refl ρ H) σ en
theorem gos_bk {δ : DEnv} (ok : Ok K ρ S H) (h : GoS K Wx ρ H (some (.ok (.bk δ), S)) D) (en : EnvR K ρ H δ σ) : D.bk σ H := by
  obtain ⟨r', S', e, c⟩ := h
  cases e
  exact c ρ H ok (Step.refl ρ H) σ en
theorem gos_ct {δ : DEnv} (ok : Ok K ρ S H) (h : GoS K Wx ρ H (some (.ok (.ct δ), S)) D) (en : EnvR K ρ H δ σ) : D.ct σ H := by
  obtain ⟨r', S', e, c⟩ := h
  cases e
  exact c ρ H ok (Step.refl ρ H) σ en
theorem gos_rt {w : W} {v : V} (ok : Ok K ρ S H) (h : GoS K Wx ρ H (some (.ok (.rt w), S)) D) (en : RelW K ρ H w v) : D.rt v H := by
  obtain ⟨r', S', e, c⟩ := h
  cases e
  exact c ρ H ok (Step.refl ρ H) v en
end
theorem _root_.L2.PS.imp {X : Cx} {e : Stmt} {t t' : TS} (h : PS X e t) (i : ∀ D σ H, t' D σ H → t D σ H) : PS X e t' := ⟨fun pins s σ H D I q => h.run pins s σ H D I (i D σ H q)⟩
theorem _root_.L2.PSs.imp {X : Cx} {e : List Stmt} {t t' : TS} (h : PSs X e t) (i : ∀ D σ H, t' D σ H → t D σ H) : PSs X e t' := ⟨fun pins s σ H D I q => h.run pins s σ H D I (i D σ H q)⟩
theorem _root_.L2.PG.imp {X : Cx} {e : Expr} {t t' : TG} (h : PG X e t) (i : ∀ v σ H Q, t' v σ H Q → t v σ H Q) : PG X e t' := ⟨fun pins s σ H v u Q I r q => h.run pins s σ H v u Q I r (i v σ H Q q)⟩
theorem _root_.L2.PGs.imp {X : Cx} {e : List Expr} {t t' : TGs} (h : PGs X e t) (i : ∀ v σ H Q, t' v σ H Q → t v σ H Q) : PGs X e t' := ⟨fun pins s σ H v u Q I r q => h.run pins s σ H v u Q I r (i v σ H Q q)⟩
theorem _root_.L2.PI.imp {X : Cx} {a e : Expr} {t t' : TI} (h : PI X a e t) (i : ∀ σ H R, t' σ H R → t σ H R) : PI X a e t' := ⟨fun pins s σ H R I q => h.run pins s σ H R I (i σ H R q)⟩
theorem _root_.L2.PI.or {X : Cx} {a e : Expr} {t t' : TI} (h : PI X a e t) (h' : PI X a e t') : PI X a e (fun σ H R => t σ H R ∨ t' σ H R) := ⟨fun pins s σ H R I q => q.elim (h.run pins s σ H R I) (h'.run pins s σ H R I)⟩

/-! ### small statements -/
def sSeq (f g : FS) : FS := fun δ S => match f δ S with
  | some (.ok (.nx δ1), S1) => g δ1 S1
  | o => o
def sNx : FS := fun δ S => some (.ok (.nx δ), S)
def sBk : FS := fun δ S => some (.ok (.bk δ), S)
def sCt : FS := fun δ S => some (.ok (.ct δ), S)
def sRet (f : FE) : FS := fun δ S => sE (f δ S) δ fun w S1 => some (.ok (.rt w), S1)
def sRetN : FS := fun δ S => some (.ok (.rt (.d .non)), S)
def sDrop (f : FE) : FS := fun δ S => sE (f δ S) δ fun _ S1 => some (.ok (.nx δ), S1)
def sSet (i : Nat) (f : FE) : FS := fun δ S => sE (f δ S) δ fun w S1 => some (.ok (.nx (δ.set i (some w))), S1)
def sIf (t : FT) (f g : FS) : FS := fun δ S => sE (t δ S) δ fun c S1 => if c = true then f δ S1 else g δ S1
def sNever : FS := fun _ _ => none
section
variable {X : Cx} {Wx : WX} {st : Stmt} {rest body orelse : List Stmt} {e c o : Expr} {es : List Expr} {f g : FE} {ft : FT} {fa : FA} {fs gs : FS} {pos : Pos}
theorem dss_nil : PSs X [] (tS X.K Wx sNx) := pss_nil.imp fun D σ H q => by
  obtain ⟨δ, S, ρ, ok, en, q⟩ := q
  exact gos_nx ok q en
theorem impSeq {K : PySem.W.Frag} (D : Ends) (σ : L2.St) (H : Hp) (q : tS K Wx (sSeq fs gs) D σ H) : tSeq (tS K Wx fs) (tS K Wx gs) D σ H := by
  obtain ⟨δ, S, ρ, ok, en, r, S', e, c⟩ := q
  refine ⟨δ, S, ρ, ok, en, ?_⟩
  unfold sSeq at e
  cases q : fs δ S with
  | none => rw [q] at e; cases e
  | some p =>
    obtain ⟨z, S1⟩ := p
    rw [q] at e
    cases z with
    | error x => cases e; exact ⟨_, _, rfl, c⟩
    | ok fl => cases fl with
      | nx δ1 => exact ⟨_, _, rfl, fun ρ1 H1 ok1 st1 σ1 en1 => ⟨δ1, S1, ρ1, ok1, en1, r, S', e, fun ρ2 H2 ok2 st2 => c ρ2 H2 ok2 (st1.trans st2)⟩⟩
      | rt w => cases e; exact ⟨_, _, rfl, c⟩
      | bk w => cases e; exact ⟨_, _, rfl, c⟩
      | ct w => cases e; exact ⟨_, _, rfl, c⟩
theorem dss_cons (h1 : PS X st (tS X.K Wx fs)) (h2 : PSs X rest (tS X.K Wx gs)) : PSs X (st :: rest) (tS X.K Wx (sSeq fs gs)) := (pss_cons h1 h2).imp impSeq
theorem dss_one (h1 : PS X st (tS X.K Wx fs)) : PSs X [st] (tS X.K Wx fs) := pss_one h1
theorem ds_pass : PS X (.Pass pos) (tS X.K Wx sNx) := ps_pass.imp fun D σ H q => by
  obtain ⟨δ, S, ρ, ok, en, q⟩ := q
  exact gos_nx ok q en
theorem ds_break : PS X (.Break pos) (tS X.K Wx sBk) := ps_break.imp fun D σ H q => by
  obtain ⟨δ, S, ρ, ok, en, q⟩ := q
  exact gos_bk ok q en
theorem ds_cont : PS X (.Continue pos) (tS X.K Wx sCt) := ps_continue.imp fun D σ H q => by
  obtain ⟨δ, S, ρ, ok, en, q⟩ := q
  exact gos_ct ok q en
theorem ds_doc {x j pos'} : PS X (.Expr (.Constant (.str x) j pos) pos') (tS X.K Wx sNx) := ps_doc.imp fun D σ H q => by
  obtain ⟨δ, S, ρ, ok, en, q⟩ := q
  exact gos_nx ok q en
theorem ds_never : PS X st (tS X.K Wx sNever) := ps_never.imp fun D σ H q => by
  obtain ⟨δ, S, ρ, ok, en, q⟩ := q
  exact gos_none q
theorem dss_never : PSs X rest (tS X.K Wx sNever) := pss_never.imp fun D σ H q => by
  obtain ⟨δ, S, ρ, ok, en, q⟩ := q
  exact gos_none q
theorem ds_ret (he : PE X e (tE X.K Wx f)) : PS X (.Return (some e) pos) (tS X.K Wx (sRet f)) := (ps_ret he).imp fun D σ H q => by
  obtain ⟨δ, S, ρ, ok, en, q⟩ := q
  exact ⟨δ, S, ρ, ok, en, (gos_bind en q).mono fun v H1 ⟨x, S1, ρ1, ok1, st1, r1, q1⟩ => gos_rt ok1 q1 r1⟩
theorem ds_retN : PS X (.Return none pos) (tS X.K Wx sRetN) := ps_retN.imp fun D σ H q => by
  obtain ⟨δ, S, ρ, ok, en, q⟩ := q
  exact gos_rt ok q (show RelW X.K ρ H (.d .non) .non by simp [RelW, RelD])
theorem ds_drop (he : PE X e (tE X.K Wx f)) (hs : swapsWith e none pos.line X.env = pure false := by rfl) : PS X (.Expr e pos) (tS X.K Wx (sDrop f)) := (ps_expr he hs).imp fun D σ H q => by
  obtain ⟨δ, S, ρ, ok, en, q⟩ := q
  exact ⟨δ, S, ρ, ok, en, (gos_bind en q).mono fun v H1 ⟨x, S1, ρ1, ok1, st1, r1, q1⟩ => gos_nx ok1 q1 (en.mono st1)⟩
theorem impSet {K : PySem.W.Frag} (i : Nat) (D : Ends) (σ : L2.St) (H : Hp) (q : tS K Wx (sSet i f) D σ H) : tAsg (tE K Wx f) (gName i) D σ H := by
  obtain ⟨δ, S, ρ, ok, en, q⟩ := q
  exact ⟨δ, S, ρ, ok, en, (gos_bind en q).mono fun v H1 ⟨x, S1, ρ1, ok1, st1, r1, q1⟩ => gos_nx ok1 q1 ((en.mono st1).set i r1)⟩
theorem ds_set (i : Nat) {x : Str} {pos' : Pos} (hN : X.N.Nodup) (he : PE X e (tE X.K Wx f)) (hi : X.N[i]? = some x := by rfl) (hx : Loc X.env.scope x := by first | exact Or.inl rfl | exact Or.inr rfl) (hs : swapsWith e (some (.Name x pos')) pos.line X.env = pure false := by rfl)
    (hf : X.fn x = true ∨ X.env.scope.names.lookup x = some .local := by first | exact .inl rfl | exact .inr rfl | assumption) : PS X (.Assign [.Name x pos'] e pos) (tS X.K Wx (sSet i f)) := (ps_set hN hi hx he hs hf).imp (impSet i)
theorem ds_if (hc : PT X c (tT X.K Wx ft)) (ha : PSs X body (tS X.K Wx fs)) (hb : PSs X orelse (tS X.K Wx gs)) : PS X (.If c body orelse pos) (tS X.K Wx (sIf ft fs gs)) := (ps_if hc ha hb).imp fun D σ H q => by
  obtain ⟨δ, S, ρ, ok, en, q⟩ := q
  refine ⟨δ, S, ρ, ok, en, (gos_bind en q).mono fun v H1 ⟨x, S1, ρ1, ok1, st1, r1, q1⟩ => ?_⟩
  obtain rfl : x = v := r1
  cases x with
  | true =>
    rw [if_pos rfl] at q1
    exact iteT ⟨δ, S1, ρ1, ok1, en.mono st1, q1⟩
  | false =>
    rw [if_neg Bool.false_ne_true] at q1
    exact iteF ⟨δ, S1, ρ1, ok1, en.mono st1, q1⟩
/-- a, b = x, y -/
def sPar (i j : Nat) (f g : FE) : FS := fun δ S => sE ((f δ S).bind fun x S1 => (g δ S1).bind fun y S2 => some (.ok (x, y), S2)) δ fun p S2 => some (.ok (.nx ((δ.set i (some p.1)).set j (some p.2))), S2)
theorem ds_par (i j : Nat) {x y : Str} {a b : Expr} {px py pt : Pos} {kt k2 pt2} (hc : X.calm = true) (hN : X.N.Nodup) (ha : PE X a (tE X.K Wx f)) (hb : PE X b (tE X.K Wx g)) (hi : X.N[i]? = some x := by rfl) (hj : X.N[j]? = some y := by rfl) (hij : i ≠ j := by decide)
    (hx : X.env.scope.names.lookup x = some .local := by rfl) (hy : X.env.scope.names.lookup y = some .local := by rfl)
    (hw : swappedStores [.Tuple [.Name x px, .Name y py] kt pt] (.Tuple [a, b] k2 pt2) X.env = pure (some [x, y]) := by rfl)
    (hs : swapsWithSole [.Tuple [.Name x px, .Name y py] kt pt] (.Tuple [a, b] k2 pt2) pos.line X.env = pure false := by rfl)
    (h1 : starEach [a, b] X.env = (false, eval a X.env) :: starEach [b] X.env := by rfl) (h2 : starEach [b] X.env = (false, eval b X.env) :: starEach [] X.env := by rfl) :
    PS X (.Assign [.Tuple [.Name x px, .Name y py] kt pt] (.Tuple [a, b] k2 pt2) pos) (tS X.K Wx (sPar i j f g)) :=
  (ps_par hc hN hi hj hij hx hy (pa_cons ha (pa_cons hb pa_nil h2) h1) hw hs).imp fun D σ H q => by
    obtain ⟨δ, S, ρ, ok, en, q⟩ := q
    have q0 := gos_bind (rel := fun ρ H (p : W × W) (b : V × V) => RelW X.K ρ H p.1 b.1 ∧ RelW X.K ρ H p.2 b.2) en q
    refine ⟨δ, S, ρ, ok, en, (go_bind q0).mono fun v H1 ⟨x1, S1, ρ1, ok1, st1, r1, q1⟩ => ?_⟩
    refine ⟨δ, S1, ρ1, ok1, en.mono st1, (go_bind q1).mono fun u H2 ⟨x2, S2, ρ2, ok2, st2, r2, q2⟩ => ?_⟩
    obtain ⟨a3, S3, ρ3, ok3, st3, r3, q3⟩ := go_val (b := (v, u)) ok2 q2 ⟨r1.mono st2, r2⟩
    obtain ⟨r, S', e, c⟩ := q3
    cases e
    refine ⟨v, u, rfl, ?_⟩
    exact c ρ3 H2 ok3 (Step.refl _ _) _ ((en.mono st3).set i r3.1 |>.set j r3.2)
end

/-! ### targets -/
abbrev Tg := W → DEnv → Store → Option (DEnv × Store)
abbrev Tgs := List W → DEnv → Store → Option (DEnv × Store)
/-- vs: the slots that are written -/
def tG (K : PySem.W.Frag) (vs : List Nat) (tf : Tg) : TG := fun v σ H Q => ∃ w δ S ρ δ' S', Ok K ρ S H ∧ EnvR K ρ H δ σ ∧ RelW K ρ H w v ∧ tf w δ S = some (δ', S') ∧
  ∀ ρ' H' σ', Ok K ρ' S' H' → Step ρ H ρ' H' → EnvR K ρ' H' δ' σ' → wipe σ' vs = wipe σ vs → Q σ' H'
def tGs (K : PySem.W.Frag) (vs : List Nat) (tf : Tgs) : TGs := fun us σ H Q => ∃ ws δ S ρ δ' S', Ok K ρ S H ∧ EnvR K ρ H δ σ ∧ RelWs K ρ H ws us ∧ tf ws δ S = some (δ', S') ∧
  ∀ ρ' H' σ', Ok K ρ' S' H' → Step ρ H ρ' H' → EnvR K ρ' H' δ' σ' → wipe σ' vs = wipe σ vs → Q σ' H'
def tgN (i : Nat) : Tg := fun w δ S => some (δ.set i (some w), S)
def tgNil : Tgs := fun ws δ S => match ws with
  | [] => some (δ, S)
  | _ => none
def tgCons (t : Tg) (u : Tgs) : Tgs := fun ws δ S => match ws with
  | [] => none
  | w :: ws => (t w δ S).bind fun p => u ws p.1 p.2
def tgT (n : Nat) (u : Tgs) : Tg := fun w δ S => match w with
  | .d (.tup ds) => if ds.length = n then u (ds.map W.d) δ S else none
  | _ => none
theorem wipe_set {σ : L2.St} {i : Nat} {x : Option V} : ∀ {vs : List Nat}, i ∈ vs → wipe (σ.set i x) vs = wipe σ vs
  | [], h => by simp at h
  | v :: vs, h => by
    unfold wipe
    by_cases hi : i ∈ vs
    · rw [wipe_set hi]
    · have e : v = i := by
        rcases List.mem_cons.mp h with h | h
        · exact h.symm
        · exact absurd h hi
      subst e
      have key : ∀ us : List Nat, wipe (σ.set v x) us = (wipe σ us).set v (if v ∈ us then none else x) := by
        intro us
        induction us with
        | nil => simp [wipe]
        | cons u us ih =>
          unfold wipe
          rw [ih]
          by_cases huv : u = v
          · subst huv; simp
          · rw [List.set_comm _ _ (Ne.symm huv)]
            simp [Ne.symm huv]
      rw [key]
      simp
section
variable {X : Cx} {Wx : WX} {e : Expr} {es : List Expr} {tf : Tg} {tfs : Tgs} {pos : Pos} {vs : List Nat}
theorem dg_name (i : Nat) {x : Str} (hN : X.N.Nodup) (hv : i ∈ vs := by decide) (hi : X.N[i]? = some x := by rfl) (hx : Loc X.env.scope x := by first | exact Or.inl rfl | exact Or.inr rfl) (hf : X.fn x = true ∨ X.env.scope.names.lookup x = some .local := by first | exact .inl rfl | exact .inr rfl | assumption) :
    PG X (.Name x pos) (tG X.K vs (tgN i)) := (pg_name hN hi hx hf).imp fun v σ H Q q => by
  obtain ⟨w, δ, S, ρ, δ', S', ok, en, r, e, c⟩ := q
  cases e
  exact c ρ H _ ok (Step.refl ρ H) (en.set i r) (wipe_set hv)
theorem dgs_nil : PGs X [] (tGs X.K vs tgNil) := pgs_nil.imp fun v σ H Q q => by
  obtain ⟨ws, δ, S, ρ, δ', S', ok, en, r, e, c⟩ := q
  cases ws with
  | nil =>
    cases e
    exact ⟨r, c ρ H _ ok (Step.refl ρ H) en rfl⟩
  | cons w ws => cases e
theorem dgs_cons (h1 : PG X e (tG X.K vs tf)) (h2 : PGs X es (tGs X.K vs tfs)) (hs : (assignEach (e :: es) X.env).map (·.2) = assign e X.env :: (assignEach es X.env).map (·.2) := by rfl) : PGs X (e :: es) (tGs X.K vs (tgCons tf tfs)) :=
  (pgs_cons h1 h2 hs).imp fun v σ H Q q => by
    obtain ⟨ws, δ, S, ρ, δ', S', ok, en, r, e, c⟩ := q
    cases ws with
    | nil => cases e
    | cons w ws =>
      obtain ⟨v0, vr, rfl, r0, rr⟩ := r
      cases e1 : tf w δ S with
      | none => simp [tgCons, e1] at e
      | some p =>
        obtain ⟨δ1, S1⟩ := p
        simp only [tgCons, e1, Option.bind_some] at e
        refine ⟨v0, vr, rfl, w, δ, S, ρ, δ1, S1, ok, en, r0, e1, fun ρ1 H1 σ1 ok1 st1 en1 w1 => ?_⟩
        exact ⟨ws, δ1, S1, ρ1, δ', S', ok1, en1, rr.mono st1, e, fun ρ2 H2 σ2 ok2 st2 en2 w2 => c ρ2 H2 σ2 ok2 (st1.trans st2) en2 (w2.trans w1)⟩
theorem dg_tup {k : Nat} {n : Nat} (hc : X.calm = true) (h : PGs X es (tGs X.K vs tfs)) (hn : (assignEach es X.env).length = n := by rfl) (hst : (assignEach es X.env).findIdx? (·.1) = none := by rfl) : PG X (.Tuple es k pos) (tG X.K vs (tgT n tfs)) :=
  (pg_tup hc h hn hst).imp fun v σ H Q q => by
    obtain ⟨w, δ, S, ρ, δ', S', ok, en, r, e, c⟩ := q
    cases w with
    | loc n => cases e
    | d x => cases x with
      | tup ds =>
        obtain ⟨a, us, rfl, h1, h2⟩ : ∃ a vs, v = .ref a ∧ TupF X.K ρ H a vs ∧ RelDs X.K ρ H ds vs := by simpa [RelW, RelD] using r
        by_cases hl : ds.length = n
        · simp only [tgT, if_pos hl] at e
          exact ⟨a, us, rfl, h1.sq, by rw [← h2.length]; exact hl, ds.map W.d, δ, S, ρ, δ', S', ok, en, relWs_map h2, e, c⟩
        · simp [tgT, if_neg hl] at e
      | _ => cases e
/-- o[i] = .. -/
def setAt (x y w : W) (S : Store) : Option Store := match x, y with
  | .loc n, .d (.int k) => (match S[n]? with
    | some (.lst ws) => (ixN ws.length k).map fun j => S.set n (.lst (ws.set j w))
    | _ => none)
  | _, _ => none
def tgIx (fo fi : FE) : Tg := fun w δ S => match fo δ S with
  | some (.ok x, S1) => (match fi δ S1 with
    | some (.ok y, S2) => (setAt x y w S2).map fun S3 => (δ, S3)
    | _ => none)
  | _ => none
theorem dg_ix {o i : Expr} {fo fi : FE} (ho : PE X o (tE X.K Wx fo)) (hi : PE X i (tE X.K Wx fi)) (ha : ∀ v, assign (.Subscript o i pos) X.env v = (do
      let ov ← holding [v] (eval o X.env)
      let iv ← holding [v, ov] (eval i X.env)
      standAt pos
      holding [v, ov, iv] (setItem ov iv v)
      release [v, ov, iv] []) := by intro _; rfl) : PG X (.Subscript o i pos) (tG X.K vs (tgIx fo fi)) := (pg_sub ho hi set_list ha).imp fun v σ H Q q => by
  obtain ⟨w, δ, S, ρ, δ', S', ok, en, r, e, c⟩ := q
  unfold tgIx at e
  split at e
  · rename_i x S1 e1
    split at e
    · rename_i y S2 e2
      obtain ⟨S3, e3, e4⟩ := Option.map_eq_some_iff.mp e
      cases e4
      refine ⟨δ, S, ρ, ok, en, _, _, e1, fun ρ1 H1 ok1 st1 xv rx => ?_⟩
      refine ⟨δ, S1, ρ1, ok1, en.mono st1, _, _, e2, fun ρ2 H2 ok2 st2 yv ry => ?_⟩
      unfold setAt at e3
      split at e3
      · rename_i n k
        split at e3
        · rename_i ws ew
          obtain ⟨j, ej, rfl⟩ := Option.map_eq_some_iff.mp e3
          obtain ⟨a, us, rfl, ha, h1, h2⟩ := loc_at ok2 (rx.mono st2) ew
          have r2 := (r.mono st1).mono st2
          obtain ⟨ok3, st3⟩ := ok_write ok2 (m := .lst (ws.set j w)) (o := .lst (us.set j v)) ha fun H' st e => ⟨_, e, (h2.mono st).set j (r2.mono st)⟩
          refine ⟨a, us, k, j, rfl, by simpa [RelW, RelD] using ry, h1, by rw [← h2.length]; exact ej, ?_⟩
          exact c ρ2 _ σ ok3 ((st1.trans st2).trans st3) (((en.mono st1).mono st2).mono st3) rfl
        · cases e3
      · cases e3
    · cases e
  · cases e
/-- target = value -/
def sAsg (f : FE) (tf : Tg) : FS := fun δ S => sE (f δ S) δ fun w S1 => match tf w δ S1 with
  | some (δ', S2) => some (.ok (.nx δ'), S2)
  | none => none
theorem ds_asg {tg e : Expr} {f : FE} (he : PE X e (tE X.K Wx f)) (hg : PG X tg (tG X.K vs tf)) (hs : swapsWithSole [tg] e pos.line X.env = pure false := by rfl) (hw : swappedStores [tg] e X.env = pure none := by rfl)
    (h1 : (assignEach [tg] X.env).map (·.2) = [assign tg X.env] := by rfl) : PS X (.Assign [tg] e pos) (tS X.K Wx (sAsg f tf)) := (ps_asg he hg hs hw h1).imp fun D σ H q => by
  obtain ⟨δ, S, ρ, ok, en, q⟩ := q
  refine ⟨δ, S, ρ, ok, en, (gos_bind en q).mono fun v H1 ⟨w, S1, ρ1, ok1, st1, r1, q1⟩ => ?_⟩
  cases e1 : tf w δ S1 with
  | none => simp only [e1] at q1; exact gos_none q1
  | some p =>
    obtain ⟨δ', S2⟩ := p
    simp only [e1] at q1
    obtain ⟨r, S', e2, c⟩ := q1
    cases e2
    exact ⟨w, δ, S1, ρ1, δ', S2, ok1, en.mono st1, r1, e1, fun ρ2 H2 σ2 ok2 st2 en2 _ => c ρ2 H2 ok2 st2 σ2 en2⟩
end

/-! ### what is walked -/
abbrev Grd := Option (Nat × M)
/-- the list that is walked stands as it stood -/
def okG (g : Grd) (S : Store) : Prop := ∀ p, g = some p → S[p.1]? = some p.2
theorem okG_none {S : Store} : okG none S ↔ True := ⟨fun _ => trivial, fun _ _ e => nomatch e⟩
theorem okG_some {n : Nat} {m : M} {S : Store} : okG (some (n, m)) S ↔ S[n]? = some m := ⟨fun h => h _ rfl, fun h p e => by cases e; exact h⟩
def ItR (K : PySem.W.Frag) (ρ : Ad) (H : Hp) (p : List W × Grd) (J : It) : Prop := ∀ ρ' S' H', Ok K ρ' S' H' → Stw ρ H ρ' H' → okG p.2 S' → ∀ i, (∀ w, p.1[i]? = some w → J.go i H' ∧ ∀ x H'', J.yld i H' x H'' → (∀ a o, H' a = some o → H'' a = some o) ∧ RelW K ρ' H'' w x) ∧ (p.1.length ≤ i → J.stop i H')
abbrev FI := DEnv → Store → Rs (List W × Grd)
def tI (K : PySem.W.Frag) (Wx : WX) (f : FI) : TI := fun σ H R => ∃ δ S ρ, Ok K ρ S H ∧ EnvR K ρ H δ σ ∧ Go K Wx σ ρ H (ItR K) (f δ S) R
/-- the items of a sequence -/
def itW (S : Store) : W → Option (Bool × List W × Grd)
  | .d (.tup ds) => some (true, ds.map W.d, none)
  | .d (.lst ds) => some (false, ds.map W.d, none)
  | .loc n => match S[n]? with
    | some (.lst ws) => some (false, ws, some (n, .lst ws))
    | _ => none
  | _ => none
def dSeq (f : FE) : FI := fun δ S => (f δ S).bind fun x S1 => match itW S1 x with
  | some (_, ws, g) => some (.ok (ws, g), S1)
  | none => none
/-- what is known of a sequence while it is walked -/
theorem itW_ok {K : PySem.W.Frag} {ρ : Ad} {H : Hp} {S : Store} {x : W} {v : V} {t : Bool} {ws : List W} {g : Grd} (ok : Ok K ρ S H) (r : RelW K ρ H x v) (e : itW S x = some (t, ws, g)) :
    ∃ a vs, v = .ref a ∧ SqW K H t a vs ∧ ws.length = vs.length ∧ ∀ ρ' S' H', Ok K ρ' S' H' → Stw ρ H ρ' H' → okG g S' → ∃ vs', SqW K H' t a vs' ∧ RelWs K ρ' H' ws vs' := by
  cases x with
  | loc n =>
    cases e0 : S[n]? with
    | none => simp [itW, e0] at e
    | some m =>
      simp only [itW, e0] at e
      cases m with
      | lst us =>
        cases e
        obtain ⟨a, vs, rfl, ha, h1, h2⟩ := loc_at ok r e0
        refine ⟨a, vs, rfl, SqL.of h1, h2.length, fun ρ' S' H' ok' st hg => ?_⟩
        have hg' := okG_some.mp hg
        obtain ⟨a', vs', e1, ha', h3, h4⟩ := loc_at ok' (r.monoW st) hg'
        cases e1
        exact ⟨vs', SqL.of h3, h4⟩
      | _ => cases e
  | d x => cases x with
    | tup ds =>
      obtain ⟨a, vs, rfl, h1, h2⟩ : ∃ a vs, v = .ref a ∧ TupF K ρ H a vs ∧ RelDs K ρ H ds vs := by simpa [RelW, RelD] using r
      cases e
      exact ⟨a, vs, rfl, h1.sq, (relWs_map h2).length, fun ρ' S' H' ok' st _ => ⟨vs, (h1.monoW st).sq, (relWs_map h2).monoW st⟩⟩
    | lst ds =>
      obtain ⟨a, vs, rfl, h1, h2⟩ : ∃ a vs, v = .ref a ∧ LstF K ρ H a vs ∧ RelDs K ρ H ds vs := by simpa [RelW, RelD] using r
      cases e
      exact ⟨a, vs, rfl, h1.sq, (relWs_map h2).length, fun ρ' S' H' ok' st _ => ⟨vs, (h1.monoW st).sq, (relWs_map h2).monoW st⟩⟩
    | _ => cases e
section
variable {X : Cx} {Wx : WX} {e e2 tg : Expr} {es : List Expr} {f : FE} {fa : FA} {p pos tpos : Pos}
theorem di_seq (he : PE X e (tE X.K Wx f)) : PI X tg e (tI X.K Wx (dSeq f)) := ((pi_list he).or (pi_tup he)).imp fun σ H R q => by
  obtain ⟨δ, S, ρ, ok, en, q⟩ := q
  -- which of the two it is, is told by the function
  have q1 := go_bind (rel := RelW X.K) q
  obtain ⟨r, S1, e1, c⟩ := q1
  cases r with
  | error x => exact .inl ⟨δ, S, ρ, ok, en, .error x, S1, e1, fun ρ' H' ok' st' => c ρ' H' ok' st'⟩
  | ok x =>
    have e2 : f δ S = some (.ok x, S1) := e1
    cases ei : itW S1 x with
    | none =>
      simp only [dSeq, e2, Rs.bind, ei] at q
      exact go_none q
    | some z =>
      obtain ⟨t, ws, g⟩ := z
      have fin : ∀ ρ1 H1, Ok X.K ρ1 S1 H1 → Step ρ H ρ1 H1 → ∀ v, RelW X.K ρ1 H1 x v → ∃ a vs, v = .ref a ∧ SqW X.K H1 t a vs ∧ R (if t = true then Itt X.K a else Itl X.K a) H1 := fun ρ1 H1 ok1 st1 v rv => by
        obtain ⟨a, vs, rfl, h1, hl, h2⟩ := itW_ok ok1 rv ei
        obtain ⟨y, S2, ρ2, ok2, st2, r2, q2⟩ := c ρ1 H1 ok1 st1 (V.ref a) rv
        refine ⟨a, vs, rfl, h1, ?_⟩
        simp only [dSeq, e2, Rs.bind, ei] at q
        refine go_at q ok1 st1 ?_
        intro ρ' S' H' ok' st' hg i
        obtain ⟨vs', h3, h4⟩ := h2 ρ' S' H' ok' st' hg
        cases t with
        | true =>
          refine ⟨fun w hw => ?_, fun hi => ⟨vs', h3, by rw [← h4.length]; exact hi⟩⟩
          obtain ⟨u, hu, ru⟩ := h4.get hw
          refine ⟨⟨vs', u, h3, hu⟩, fun z H'' y => ?_⟩
          obtain ⟨rfl, y⟩ := y
          have := y vs' h3
          rw [hu] at this
          cases this
          exact ⟨fun _ _ z => z, ru⟩
        | false =>
          refine ⟨fun w hw => ?_, fun hi => ⟨vs', h3, by rw [← h4.length]; exact hi⟩⟩
          obtain ⟨u, hu, ru⟩ := h4.get hw
          refine ⟨⟨vs', u, h3, hu⟩, fun z H'' y => ?_⟩
          obtain ⟨rfl, y⟩ := y
          have := y vs' h3
          rw [hu] at this
          cases this
          exact ⟨fun _ _ z => z, ru⟩
      cases t with
      | true =>
        refine .inr ⟨δ, S, ρ, ok, en, .ok x, S1, e2, fun ρ1 H1 ok1 st1 v rv => ?_⟩
        obtain ⟨a, vs, rfl, h1, h2⟩ := fin ρ1 H1 ok1 st1 v rv
        exact ⟨a, rfl, ⟨vs, h1⟩, h2⟩
      | false =>
        refine .inl ⟨δ, S, ρ, ok, en, .ok x, S1, e2, fun ρ1 H1 ok1 st1 v rv => ?_⟩
        obtain ⟨a, vs, rfl, h1, h2⟩ := fin ρ1 H1 ok1 st1 v rv
        exact ⟨a, rfl, ⟨vs, h1⟩, h2⟩
end
end DL
set_option Elab.async false
set_option linter.all false
set_option maxRecDepth 100000
set_option maxHeartbeats 1000000
/-! DL6: range, zip, enumerate; for, while; comprehensions. -/
namespace DL
open PySem PySem.Spec PyProof.Rows L2 RZ

/-! ### range, zip -/
def rngW (lo : Int) (n : Nat) : List W := (List.range n).map fun (i : Nat) => W.d (.int (lo + (i : Int)))
theorem rngW_get {lo : Int} {n i : Nat} {w : W} (h : (rngW lo n)[i]? = some w) : i < n ∧ w = .d (.int (lo + (i : Int))) := by
  unfold rngW at h
  rw [List.getElem?_map] at h
  by_cases hi : i < n
  · rw [List.getElem?_range hi] at h
    simp at h
    exact ⟨hi, h.symm⟩
  · rw [List.getElem?_eq_none (by simpa using hi)] at h
    simp at h
theorem rngW_len {lo : Int} {n : Nat} : (rngW lo n).length = n := by simp [rngW]
def oRng1 : List W → Store → Rs (List W × Grd)
  | [.d (.int j)], S => if -(2 ^ 62) ≤ j ∧ j < 2 ^ 62 then some (.ok (rngW 0 j.toNat, none), S) else none
  | _, _ => none
def oRng2 : List W → Store → Rs (List W × Grd)
  | [.d (.int i), .d (.int j)], S => if -(2 ^ 62) ≤ i ∧ i < 2 ^ 62 ∧ -(2 ^ 62) ≤ j ∧ j < 2 ^ 62 then some (.ok (rngW i (j - i).toNat, none), S) else none
  | _, _ => none
def dIt (op : List W → Store → Rs (List W × Grd)) (fa : FA) : FI := fun δ S => (fa δ S).bind op
theorem itR_range {K : PySem.W.Frag} {ρ : Ad} {H : Hp} {lo : Int} {n : Nat} : ItR K ρ H (rngW lo n, none) (Itr lo n) := by
  intro ρ' S' H' ok st _ i
  refine ⟨fun w hw => ?_, fun hi => by rw [rngW_len] at hi; exact hi⟩
  obtain ⟨hi, rfl⟩ := rngW_get hw
  exact ⟨hi, fun x H'' ⟨e1, e2⟩ => by subst e1 e2; exact ⟨fun _ _ z => z, by simp [RelW, RelD]⟩⟩
/-- pairs of two sequences of one kind -/
def zipD (xs ys : List D) : List W := (xs.zip ys).map fun p => W.d (.tup [p.1, p.2])
def oZip : List W → Store → Rs (List W × Grd)
  | [.d (.tup xs), .d (.tup ys)], S => some (.ok (zipD xs ys, none), S)
  | [.d (.lst xs), .d (.lst ys)], S => some (.ok (zipD xs ys, none), S)
  | _, _ => none
theorem zipD_get {xs ys : List D} {i : Nat} {w : W} (h : (zipD xs ys)[i]? = some w) : ∃ x y, xs[i]? = some x ∧ ys[i]? = some y ∧ w = .d (.tup [x, y]) := by
  unfold zipD at h
  rw [List.getElem?_map] at h
  cases e : (xs.zip ys)[i]? with
  | none => rw [e] at h; simp at h
  | some p =>
    rw [e] at h
    simp at h
    obtain ⟨h1, h2⟩ := List.getElem?_zip_eq_some.mp e
    exact ⟨p.1, p.2, h1, h2, h.symm⟩
theorem zipD_len {xs ys : List D} : (zipD xs ys).length = min xs.length ys.length := by simp [zipD]
theorem tup2_new {K : PySem.W.Frag} {ρ : Ad} {S : Store} {H : Hp} {T : Addr} {x y : D} {u v : V} (ok : Ok K ρ S H) (hT : H T = none) (rx : RelD K ρ H x u) (ry : RelD K ρ H y v) : RelW K ρ (upd H T (.tup [u, v])) (.d (.tup [x, y])) (.ref T) := by
  have st := step_new ok (.tup [u, v]) hT
  show RelD _ _ _ _ _
  rw [RelD]
  refine ⟨T, [u, v], rfl, tupF_new ok hT, ?_⟩
  rw [RelDs]
  refine ⟨u, [v], rfl, RelD.mono st x u rx, ?_⟩
  rw [RelDs]
  exact ⟨v, [], rfl, RelD.mono st y v ry, by rw [RelDs]⟩
theorem itR_zipT {K : PySem.W.Frag} {ρ : Ad} {H : Hp} {xs ys : List D} {a b : Addr} {us vs : List V} (h1 : TupF K ρ H a us) (r1 : RelDs K ρ H xs us) (h2 : TupF K ρ H b vs) (r2 : RelDs K ρ H ys vs) : ItR K ρ H (zipD xs ys, none) (ItzT K a b) := by
  intro ρ' S' H' ok st _ i
  have g1 := (h1.monoW st).sq
  have g2 := (h2.monoW st).sq
  have q1 := RelDs.monoW st xs us r1
  have q2 := RelDs.monoW st ys vs r2
  refine ⟨fun w hw => ?_, fun hi => ⟨us, vs, g1, g2, ?_⟩⟩
  · obtain ⟨x, y, ex, ey, rfl⟩ := zipD_get hw
    obtain ⟨u, hu, ru⟩ := q1.get ex
    obtain ⟨v, hv, rv⟩ := q2.get ey
    refine ⟨⟨us, vs, u, v, g1, g2, hu, hv⟩, fun z H'' ⟨T, u', v', e1, hT, e2, k1, k2⟩ => ?_⟩
    have e3 := k1 us g1
    have e4 := k2 vs g2
    rw [hu] at e3
    rw [hv] at e4
    cases e3
    cases e4
    subst e1 e2
    exact ⟨fun c o hc => by rw [upd_ne (ne_of_none hc hT)]; exact hc, tup2_new ok hT ru rv⟩
  · rw [zipD_len, q1.length, q2.length] at hi
    omega
theorem itR_zipL {K : PySem.W.Frag} {ρ : Ad} {H : Hp} {xs ys : List D} {a b : Addr} {us vs : List V} (h1 : LstF K ρ H a us) (r1 : RelDs K ρ H xs us) (h2 : LstF K ρ H b vs) (r2 : RelDs K ρ H ys vs) : ItR K ρ H (zipD xs ys, none) (Itz K a b) := by
  intro ρ' S' H' ok st _ i
  have g1 := (h1.monoW st).sq
  have g2 := (h2.monoW st).sq
  have q1 := RelDs.monoW st xs us r1
  have q2 := RelDs.monoW st ys vs r2
  refine ⟨fun w hw => ?_, fun hi => ⟨us, vs, g1, g2, ?_⟩⟩
  · obtain ⟨x, y, ex, ey, rfl⟩ := zipD_get hw
    obtain ⟨u, hu, ru⟩ := q1.get ex
    obtain ⟨v, hv, rv⟩ := q2.get ey
    refine ⟨⟨us, vs, u, v, g1, g2, hu, hv⟩, fun z H'' ⟨T, u', v', e1, hT, e2, k1, k2⟩ => ?_⟩
    have e3 := k1 us g1
    have e4 := k2 vs g2
    rw [hu] at e3
    rw [hv] at e4
    cases e3
    cases e4
    subst e1 e2
    exact ⟨fun c o hc => by rw [upd_ne (ne_of_none hc hT)]; exact hc, tup2_new ok hT ru rv⟩
  · rw [zipD_len, q1.length, q2.length] at hi
    omega
section
variable {X : Cx} {Wx : WX} {a b c e e2 tg iter : Expr} {body : List Stmt} {f : FE} {fa : FA} {fi : FI} {ft : FT} {fb : FS} {tf : Tg} {vs : List Nat} {p pos tpos : Pos}
theorem di_rng1 (hm : X.mg "range" = none) (ha : PA X [a] (tA X.K Wx fa)) (hg : Gl X "range" := by rfl) (hs : starEach [a] X.env = [(false, eval a X.env)] := by rfl) : PI X tg (.Call (.Name "range" p) [a] [] pos) (tI X.K Wx (dIt oRng1 fa)) :=
  (pi_range1 hg hm ha hs).imp fun σ H R q => by
    obtain ⟨δ, S, ρ, ok, en, q⟩ := q
    refine ⟨δ, S, ρ, ok, en, (go_bind q).mono fun vs H1 ⟨ws, S1, ρ1, ok1, st1, r1, q1⟩ => ?_⟩
    unfold oRng1 at q1
    split at q1
    · rename_i j
      obtain ⟨v, rfl, rv⟩ := relWs1 r1
      split at q1
      · rename_i hb
        exact ⟨j, by rw [show v = V.int j by simpa [RelW, RelD] using rv], hb.1, hb.2, go_val ok1 q1 itR_range⟩
      · exact go_none q1
    · exact go_none q1
theorem di_rng2 (hm : X.mg "range" = none) (ha : PA X [a, b] (tA X.K Wx fa)) (hg : Gl X "range" := by rfl) (hs : starEach [a, b] X.env = [(false, eval a X.env), (false, eval b X.env)] := by rfl) (hs2 : starEach [b] X.env = [(false, eval b X.env)] := by rfl) :
    PI X tg (.Call (.Name "range" p) [a, b] [] pos) (tI X.K Wx (dIt oRng2 fa)) :=
  (pi_range2 hg hm ha hs hs2).imp fun σ H R q => by
    obtain ⟨δ, S, ρ, ok, en, q⟩ := q
    refine ⟨δ, S, ρ, ok, en, (go_bind q).mono fun vs H1 ⟨ws, S1, ρ1, ok1, st1, r1, q1⟩ => ?_⟩
    unfold oRng2 at q1
    split at q1
    · rename_i i j
      obtain ⟨v, u, rfl, rv, ru⟩ := relWs2 r1
      split at q1
      · rename_i hb
        exact ⟨i, j, by rw [show v = V.int i by simpa [RelW, RelD] using rv, show u = V.int j by simpa [RelW, RelD] using ru], hb, go_val ok1 q1 itR_range⟩
      · exact go_none q1
    · exact go_none q1
theorem di_zip {elts : List Expr} {kk : Nat} (hm : X.mg "zip" = none) (ha : PA X [e, e2] (tA X.K Wx fa)) (hg : Gl X "zip" := by rfl) (hs : starEach [e, e2] X.env = (false, eval e X.env) :: starEach [e2] X.env := by rfl) (hpl : (backTo pos (starEach [e2] X.env)).any (·.1) = false := by rfl) :
    PI X (.Tuple elts kk tpos) (.Call (.Name "zip" p) [e, e2] [] pos) (tI X.K Wx (dIt oZip fa)) :=
  (pi_zipA hg hm ha hs hpl).imp fun σ H R q => by
    obtain ⟨δ, S, ρ, ok, en, q⟩ := q
    refine ⟨δ, S, ρ, ok, en, (go_bind q).mono fun vs H1 ⟨ws, S1, ρ1, ok1, st1, r1, q1⟩ => ?_⟩
    unfold oZip at q1
    split at q1
    · rename_i xs ys
      obtain ⟨v, u, rfl, rv, ru⟩ := relWs2 r1
      obtain ⟨a, us, rfl, h1, h2⟩ : ∃ a vs, v = .ref a ∧ TupF X.K ρ1 H1 a vs ∧ RelDs X.K ρ1 H1 xs vs := by simpa [RelW, RelD] using rv
      obtain ⟨b, zs, rfl, h3, h4⟩ : ∃ a vs, u = .ref a ∧ TupF X.K ρ1 H1 a vs ∧ RelDs X.K ρ1 H1 ys vs := by simpa [RelW, RelD] using ru
      exact ⟨a, b, us, zs, rfl, .inr ⟨h1.sq, h3.sq, go_val ok1 q1 (itR_zipT h1 h2 h3 h4)⟩⟩
    · rename_i xs ys
      obtain ⟨v, u, rfl, rv, ru⟩ := relWs2 r1
      obtain ⟨a, us, rfl, h1, h2⟩ : ∃ a vs, v = .ref a ∧ LstF X.K ρ1 H1 a vs ∧ RelDs X.K ρ1 H1 xs vs := by simpa [RelW, RelD] using rv
      obtain ⟨b, zs, rfl, h3, h4⟩ : ∃ a vs, u = .ref a ∧ LstF X.K ρ1 H1 a vs ∧ RelDs X.K ρ1 H1 ys vs := by simpa [RelW, RelD] using ru
      exact ⟨a, b, us, zs, rfl, .inl ⟨h1.sq, h3.sq, go_val ok1 q1 (itR_zipL h1 h2 h3 h4)⟩⟩
    · exact go_none q1

/-! ### for -/
open Classical in
noncomputable def forL (tf : Tg) (fb : FS) (g : Grd) : List W → DEnv → Store → Ss
  | [], δ, S => if okG g S then some (.ok (.nx δ), S) else none
  | w :: ws, δ, S => if okG g S then (match tf w δ S with
    | none => none
    | some (δ1, S1) => (match fb δ1 S1 with
      | some (.ok (.nx δ2), S2) => forL tf fb g ws δ2 S2
      | some (.ok (.ct δ2), S2) => forL tf fb g ws δ2 S2
      | some (.ok (.bk δ2), S2) => some (.ok (.nx δ2), S2)
      | o => o)) else none
noncomputable def dFor (fi : FI) (tf : Tg) (fb : FS) : FS := fun δ S => sE (fi δ S) δ fun p S1 => forL tf fb p.2 p.1 δ S1
theorem ds_for (hp : PassesOwn (model X.prog X.w) X.A X.env X.xe) (hc : X.calm = true) (hi : PI X tg iter (tI X.K Wx fi)) (hg : PG X tg (tG X.K vs tf)) (hb : PSs X body (tS X.K Wx fb))
    (hs : ∀ x, foldedSetIterable iter X.env x = pure x := by intro _; rfl) : PS X (.For tg iter body [] pos) (tS X.K Wx (dFor fi tf fb)) := (ps_for hp hc hi hg hb hs).imp fun D σ H q => by
  obtain ⟨δ, S, ρ, ok, en, q⟩ := q
  refine ⟨δ, S, ρ, ok, en, (gos_bind (rel := ItR X.K) en q).mono fun J H1 ⟨p, S1, ρ1, ok1, st1, it, q1⟩ => ?_⟩
  refine ⟨fun i m σ' H' => m = p.1.length - i ∧ i ≤ p.1.length ∧ ∃ δ' S' ρ', Ok X.K ρ' S' H' ∧ Step ρ1 H1 ρ' H' ∧ EnvR X.K ρ' H' δ' σ' ∧ GoS X.K Wx ρ' H' (forL tf fb p.2 (p.1.drop i) δ' S') D,
    ⟨p.1.length, rfl, Nat.zero_le _, δ, S1, ρ1, ok1, Step.refl _ _, en.mono st1, q1⟩, ?_⟩
  rintro i m σ' H' ⟨rfl, hi, δ', S', ρ', ok', st', en', q'⟩
  by_cases hgd : okG p.2 S'
  · obtain ⟨it1, it2⟩ := it ρ' S' H' ok' st'.toStw hgd i
    by_cases hlt : i < p.1.length
    · refine .inr ?_
      have hdrop : p.1.drop i = p.1[i] :: p.1.drop (i + 1) := List.drop_eq_getElem_cons hlt
      rw [hdrop] at q'
      obtain ⟨hgo, hyl⟩ := it1 p.1[i] (List.getElem?_eq_getElem hlt)
      unfold forL at q'
      rw [if_pos hgd] at q'
      refine ⟨hgo, _, fun σ2 H2 n2 => ⟨p.1.length - (i + 1), by omega, n2⟩, fun x H'' y => ?_⟩
      obtain ⟨kp, rx⟩ := hyl x H'' y
      obtain ⟨ok2, st2⟩ := ok_grow ok' kp
      cases e1 : tf p.1[i] δ' S' with
      | none => simp only [e1] at q'; exact gos_none q'
      | some z =>
        obtain ⟨δ1, S2⟩ := z
        simp only [e1] at q'
        refine ⟨p.1[i], δ', S', ρ', δ1, S2, ok2, en'.mono st2, rx, e1, fun ρ3 H3 σ3 ok3 st3 en3 _ => ?_⟩
        refine ⟨δ1, S2, ρ3, ok3, en3, ?_⟩
        have q3 := (q'.step st2).step st3
        have st13 := (st'.trans st2).trans st3
        cases e2 : fb δ1 S2 with
        | none => simp only [e2] at q3; exact gos_none q3
        | some z =>
          obtain ⟨r, S3⟩ := z
          cases r with
          | error x => simp only [e2] at q3; obtain ⟨r', S4, e4, c4⟩ := q3; cases e4; exact ⟨_, _, rfl, c4⟩
          | ok fl => cases fl with
            | nx δ2 => simp only [e2] at q3; exact ⟨_, _, rfl, fun ρ4 H4 ok4 st4 σ4 en4 => ⟨rfl, hlt, δ2, S3, ρ4, ok4, st13.trans st4, en4, q3.step st4⟩⟩
            | ct δ2 => simp only [e2] at q3; exact ⟨_, _, rfl, fun ρ4 H4 ok4 st4 σ4 en4 => ⟨rfl, hlt, δ2, S3, ρ4, ok4, st13.trans st4, en4, q3.step st4⟩⟩
            | bk δ2 => simp only [e2] at q3; obtain ⟨r', S4, e4, c4⟩ := q3; cases e4; exact ⟨_, _, rfl, c4⟩
            | rt w => simp only [e2] at q3; obtain ⟨r', S4, e4, c4⟩ := q3; cases e4; exact ⟨_, _, rfl, c4⟩
    · have e : i = p.1.length := by omega
      subst e
      rw [List.drop_length] at q'
      unfold forL at q'
      rw [if_pos hgd] at q'
      exact .inl ⟨it2 (Nat.le_refl _), gos_nx ok' q' en'⟩
  · cases hd : p.1.drop i with
    | nil => rw [hd] at q'; unfold forL at q'; rw [if_neg hgd] at q'; exact gos_none q'
    | cons w ws => rw [hd] at q'; unfold forL at q'; rw [if_neg hgd] at q'; exact gos_none q'

/-! ### while -/
def whileN (ft : FT) (fb : FS) : Nat → FS
  | 0, _, _ => none
  | n + 1, δ, S => sE (ft δ S) δ fun c S1 => if c = true then (match fb δ S1 with
    | some (.ok (.nx δ2), S2) => whileN ft fb n δ2 S2
    | some (.ok (.ct δ2), S2) => whileN ft fb n δ2 S2
    | some (.ok (.bk δ2), S2) => some (.ok (.nx δ2), S2)
    | o => o) else some (.ok (.nx δ), S1)
open Classical in
noncomputable def dWhile (ft : FT) (fb : FS) : FS := fun δ S => if h : ∃ p : Nat × (Except (Ex × DEnv) Fl × Store), whileN ft fb p.1 δ S = some p.2 then some (Classical.choose h).2 else none
theorem whileN_succ {ft : FT} {fb : FS} : ∀ {n : Nat} {δ : DEnv} {S : Store} {r : Except (Ex × DEnv) Fl × Store}, whileN ft fb n δ S = some r → whileN ft fb (n + 1) δ S = some r
  | 0, _, _, _, h => by cases h
  | n + 1, δ, S, r, h => by
    rw [whileN] at h ⊢
    cases e : ft δ S with
    | none => rw [e] at h; cases h
    | some z =>
      obtain ⟨z, S1⟩ := z
      cases z with
      | error x => rw [e] at h; exact h
      | ok c =>
        rw [e] at h
        simp only [sE] at h ⊢
        cases c with
        | false => exact h
        | true =>
          simp only [if_true] at h ⊢
          cases e2 : fb δ S1 with
          | none => simp only [e2] at h; cases h
          | some z =>
            obtain ⟨z, S2⟩ := z
            cases z with
            | error x => simp only [e2] at h ⊢; exact h
            | ok fl => cases fl with
              | nx δ2 => simp only [e2] at h ⊢; exact whileN_succ h
              | ct δ2 => simp only [e2] at h ⊢; exact whileN_succ h
              | bk δ2 => simp only [e2] at h ⊢; exact h
              | rt w => simp only [e2] at h ⊢; exact h
theorem whileN_le {ft : FT} {fb : FS} {n m : Nat} {δ : DEnv} {S : Store} {r : Except (Ex × DEnv) Fl × Store} (hl : n ≤ m) (h : whileN ft fb n δ S = some r) : whileN ft fb m δ S = some r := by
  induction hl with
  | refl => exact h
  | step _ ih => exact whileN_succ ih
theorem dWhile_of {ft : FT} {fb : FS} {n : Nat} {δ : DEnv} {S : Store} {r : Except (Ex × DEnv) Fl × Store} (h : whileN ft fb n δ S = some r) : dWhile ft fb δ S = some r := by
  have ex : ∃ p : Nat × (Except (Ex × DEnv) Fl × Store), whileN ft fb p.1 δ S = some p.2 := ⟨(n, r), h⟩
  unfold dWhile
  rw [dif_pos ex]
  have h2 := Classical.choose_spec ex
  have h3 := whileN_le (Nat.le_max_left n (Classical.choose ex).1) h
  have h4 := whileN_le (Nat.le_max_right n (Classical.choose ex).1) h2
  rw [h3] at h4
  exact h4.symm
theorem dWhile_some {ft : FT} {fb : FS} {δ : DEnv} {S : Store} {r : Except (Ex × DEnv) Fl × Store} (h : dWhile ft fb δ S = some r) : ∃ n, whileN ft fb n δ S = some r := by
  unfold dWhile at h
  split at h
  · rename_i ex
    cases h
    exact ⟨_, Classical.choose_spec ex⟩
  · cases h
theorem ds_while (hp : PassesOwn (model X.prog X.w) X.A X.env X.xe) (hc : PT X c (tT X.K Wx ft)) (hb : PSs X body (tS X.K Wx fb)) : PS X (.While c body [] pos) (tS X.K Wx (dWhile ft fb)) := (ps_while hp hc hb).imp fun D σ H q => by
  obtain ⟨δ, S, ρ, ok, en, r, S', e, c⟩ := q
  obtain ⟨n, hn⟩ := dWhile_some e
  refine ⟨fun m σ' H' => ∃ δ' S' ρ', Ok X.K ρ' S' H' ∧ EnvR X.K ρ' H' δ' σ' ∧ GoS X.K Wx ρ' H' (whileN ft fb m δ' S') D, ⟨n, δ, S, ρ, ok, en, r, S', hn, c⟩, ?_⟩
  rintro m σ1 H1 ⟨δ1, S1, ρ1, ok1, en1, q1⟩
  cases m with
  | zero => exact gos_none q1
  | succ m =>
    rw [whileN] at q1
    refine ⟨δ1, S1, ρ1, ok1, en1, (gos_bind en1 q1).mono fun b H2 ⟨k, S2, ρ2, ok2, st2, r2, q2⟩ => ?_⟩
    obtain rfl : k = b := r2
    cases k with
    | false =>
      rw [if_neg Bool.false_ne_true] at q2
      exact iteF (gos_nx ok2 q2 (en1.mono st2))
    | true =>
      rw [if_pos rfl] at q2
      refine iteT ⟨fun σ3 H3 => ∃ δ' S' ρ', Ok X.K ρ' S' H3 ∧ EnvR X.K ρ' H3 δ' σ3 ∧ GoS X.K Wx ρ' H3 (whileN ft fb m δ' S') D, fun σ3 H3 z => ⟨m, Nat.lt_succ_self m, z⟩, δ1, S2, ρ2, ok2, en1.mono st2, ?_⟩
      cases e2 : fb δ1 S2 with
      | none => simp only [e2] at q2; exact gos_none q2
      | some z =>
        obtain ⟨r, S3⟩ := z
        cases r with
        | error x => simp only [e2] at q2; obtain ⟨r', S4, e4, c4⟩ := q2; cases e4; exact ⟨_, _, rfl, c4⟩
        | ok fl => cases fl with
          | nx δ2 => simp only [e2] at q2; exact ⟨_, _, rfl, fun ρ4 H4 ok4 st4 σ4 en4 => ⟨δ2, S3, ρ4, ok4, en4, q2.step st4⟩⟩
          | ct δ2 => simp only [e2] at q2; exact ⟨_, _, rfl, fun ρ4 H4 ok4 st4 σ4 en4 => ⟨δ2, S3, ρ4, ok4, en4, q2.step st4⟩⟩
          | bk δ2 => simp only [e2] at q2; obtain ⟨r', S4, e4, c4⟩ := q2; cases e4; exact ⟨_, _, rfl, c4⟩
          | rt w => simp only [e2] at q2; obtain ⟨r', S4, e4, c4⟩ := q2; cases e4; exact ⟨_, _, rfl, c4⟩
end

/-! ### comprehensions -/
def wipeE (δ : DEnv) : List Nat → DEnv
  | [] => δ
  | v :: vs => (wipeE δ vs).set v none
theorem EnvR.wipe {K : PySem.W.Frag} {ρ : Ad} {H : Hp} {δ : DEnv} {σ : L2.St} (e : EnvR K ρ H δ σ) : ∀ vs, EnvR K ρ H (wipeE δ vs) (L2.wipe σ vs)
  | [] => e
  | v :: vs => by
    have ih := EnvR.wipe e vs
    refine ⟨by simp [wipeE, L2.wipe, ih.len], fun i w h => ?_⟩
    unfold wipeE at h
    unfold L2.wipe
    by_cases hi : v = i
    · subst hi
      by_cases hl : v < (wipeE δ vs).length
      · rw [List.getElem?_set_self hl] at h; cases h
      · rw [List.getElem?_eq_none (by simpa using hl)] at h; cases h
    · rw [List.getElem?_set_ne hi] at h ⊢
      exact ih.rel i w h
theorem wipe_get (σ : L2.St) : ∀ (vs : List Nat) (i : Nat), (L2.wipe σ vs)[i]? = if i ∈ vs then σ[i]?.map (fun _ => none) else σ[i]?
  | [], i => by simp [L2.wipe]
  | v :: vs, i => by
    unfold L2.wipe
    have ih := wipe_get σ vs i
    by_cases hv : v = i
    · subst hv
      simp only [List.mem_cons, true_or, if_true]
      by_cases hl : v < (L2.wipe σ vs).length
      · rw [List.getElem?_set_self hl]
        rw [wipe_length] at hl
        rw [List.getElem?_eq_getElem hl]
        rfl
      · rw [List.getElem?_eq_none (by simpa using hl)]
        rw [wipe_length] at hl
        rw [List.getElem?_eq_none (by omega)]
        rfl
    · rw [List.getElem?_set_ne hv, ih]
      simp [Ne.symm hv]
theorem wipe_idem (σ : L2.St) (vs : List Nat) : L2.wipe (L2.wipe σ vs) vs = L2.wipe σ vs := by
  refine List.ext_getElem? fun i => ?_
  rw [wipe_get, wipe_get]
  split
  · cases σ[i]? <;> rfl
  · rfl
def ftYes : FT := fun _ S => some (.ok true, S)
open Classical in
noncomputable def lcL (tf : Tg) (ft : FT) (fe : FE) (g : Grd) (δ : DEnv) : List W → Store → List W → Rs (List W)
  | [], S, acc => if okG g S then some (.ok acc, S) else none
  | w :: ws, S, acc => if okG g S then (match tf w δ S with
    | none => none
    | some (δ1, S1) => (match ft δ1 S1 with
      | some (.ok true, S2) => (match fe δ1 S2 with
        | some (.ok u, S3) => lcL tf ft fe g δ ws S3 (acc ++ [u])
        | _ => none)
      | some (.ok false, S2) => lcL tf ft fe g δ ws S2 acc
      | _ => none)) else none
/-- the new list: read-only from here on, or at a place -/
def lcF (acc : List W) (S : Store) : Rs W := match pure? acc with
  | some ds => some (.ok (.d (.lst ds)), S)
  | none => none
def lcM (acc : List W) (S : Store) : Rs W := some (.ok (.loc S.length), S ++ [.lst acc])
noncomputable def dLc (fin : List W → Store → Rs W) (fi : FI) (tf : Tg) (ft : FT) (fe : FE) (vs : List Nat) : FE := fun δ S => (fi δ S).bind fun p S1 => if p.1.length ≤ sizeLine then (lcL tf ft fe p.2 (wipeE δ vs) p.1 S1 []).bind fin else none
/-- what the list's end asks: D, the list, is kept till here -/
def FinOk (K : PySem.W.Frag) (fin : List W → Store → Rs W) : Prop := ∀ (Wx : WX) (σ : L2.St) (ρ0 ρ : Ad) (H0 H : Hp) (S : Store) (acc : List W) (vacc : List V) (D : Addr) (Q : VK), Ok K ρ S H → Stw ρ0 H0 ρ H → ρ.rs = D :: ρ0.rs → D ∉ ρ0.rs →
  (∀ a o, a ∈ ρ0.rs → H0 a = some o → H a = some o) → H D = some (.lst vacc) → RelWs K ρ H acc vacc → Go K Wx σ ρ0 H0 (RelW K) (fin acc S) Q → Q (.ref D) H
theorem lcF_ok {K : PySem.W.Frag} : FinOk K lcF := by
  intro Wx σ ρ0 ρ H0 H S acc vacc D Q ok st hrs hd kr he r q
  have st2 : Stw ρ H ρ.let H := ⟨fun _ _ e _ => e, fun a o e z => ⟨z.1, fun m => z.2 (by rw [hrs]; rw [Ad.let, hrs] at m; exact List.mem_cons_of_mem _ m)⟩, Nat.le_refl _, fun _ _ _ z => z⟩
  have hmem : D ∈ ρ.rs := by rw [hrs]; exact List.mem_cons_self
  have ok2 : Ok K ρ.let S H := ⟨ok.len, ok.inj, fun n a e => by
    obtain ⟨m, e1, o⟩ := ok.obj n a e
    exact ⟨m, e1, o.monoW st2 fun _ z => z⟩, ok.live, fun a m => ok.res a (List.mem_of_mem_tail m), fun a m => ok.dis a (List.mem_of_mem_tail m)⟩
  have st3 : Step ρ0 H0 ρ.let H := ⟨st.trans st2, by simp [Ad.let, hrs], kr⟩
  unfold lcF at q
  split at q
  · rename_i ds e
    refine go_at q ok2 st3 (show RelD K ρ.let H (.lst ds) (.ref D) from ?_)
    rw [RelD]
    exact ⟨D, vacc, rfl, .inl ⟨.inl he, ok.dis D hmem, by simpa [Ad.let, hrs] using hd⟩, RelDs.monoW st2 ds vacc (pure?_rel e r)⟩
  · exact go_none q
theorem lcM_ok {K : PySem.W.Frag} : FinOk K lcM := by
  intro Wx σ ρ0 ρ H0 H S acc vacc D Q ok st hrs hd kr he r q
  have hmem : D ∈ ρ.rs := by rw [hrs]; exact List.mem_cons_self
  have nmem : some D ∉ ρ.pl := ok.dis D hmem
  have st2 : Stw ρ H (ρ.let.add D) H := ⟨fun _ _ e _ => e, fun a o e z => ⟨fun m => by
    rcases List.mem_append.mp (show some a ∈ ρ.pl ++ [some D] from m) with m | m
    · exact z.1 m
    · have q : a = D := by simpa using m
      subst q; exact z.2 hmem, fun m => z.2 (by rw [hrs]; have m' : a ∈ ρ.rs.tail := m; rw [hrs] at m'; exact List.mem_cons_of_mem _ m')⟩, by simp [Ad.add, Ad.let], fun n a hn e => by
    unfold Ad.add at e
    simpa only [Ad.let, List.getElem?_append_left hn] using e⟩
  have key : ∀ {i : Nat} {a : Addr}, (ρ.let.add D).pl[i]? = some (some a) → (ρ.pl[i]? = some (some a) ∧ i < ρ.pl.length) ∨ (i = ρ.pl.length ∧ a = D) := fun e => add_key (ρ := ρ.let) e
  have ok2 : Ok K (ρ.let.add D) (S ++ [.lst acc]) H := by
    refine ⟨by simp [Ad.add, Ad.let, ok.len], fun i j a h1 h2 => ?_, fun n a e => ?_, fun n m' e hm => ?_, fun a m => ok.res a (List.mem_of_mem_tail m), fun a ha => ?_⟩
    · rcases key h1 with ⟨a1, _⟩ | ⟨a1, a2⟩ <;> rcases key h2 with ⟨b1, _⟩ | ⟨b1, b2⟩
      · exact ok.inj i j a a1 b1
      · subst b2; exact absurd (List.mem_of_getElem? a1) nmem
      · subst a2; exact absurd (List.mem_of_getElem? b1) nmem
      · omega
    · rcases key e with ⟨a1, hl⟩ | ⟨a1, a2⟩
      · obtain ⟨m', e1, r'⟩ := ok.obj n a a1
        exact ⟨m', by rw [List.getElem?_append_left (by rw [← ok.len]; exact hl)]; exact e1, r'.monoW st2 fun u z => z⟩
      · subst a1 a2
        exact ⟨.lst acc, by rw [ok.len]; simp, vacc, he, r.monoW st2⟩
    · by_cases hn : n < S.length
      · rw [List.getElem?_append_left hn] at e
        obtain ⟨a, e1⟩ := ok.live n m' e hm
        exact ⟨a, by unfold Ad.add; show (ρ.pl ++ [some D])[n]? = _; rw [List.getElem?_append_left (by rw [ok.len]; exact hn)]; exact e1⟩
      · by_cases hi2 : n = S.length
        · subst hi2
          exact ⟨D, by rw [← ok.len]; simp [Ad.add, Ad.let]⟩
        · have : (S ++ [M.lst acc])[n]? = none := List.getElem?_eq_none (by simp; omega)
          rw [this] at e; cases e
    · intro z
      have ha' : a ∈ ρ.rs := List.mem_of_mem_tail ha
      rcases List.mem_append.mp (show some a ∈ ρ.pl ++ [some D] from z) with z | z
      · exact ok.dis a ha' z
      · have e : a = D := by simpa using z
        subst e
        have m' : a ∈ ρ.rs.tail := ha
        rw [hrs] at m'
        exact hd m'
  have st3 : Step ρ0 H0 (ρ.let.add D) H := ⟨st.trans st2, by simp [Ad.let, Ad.add, hrs], kr⟩
  exact go_at q ok2 st3 (show RelW K (ρ.let.add D) H (.loc S.length) (.ref D) from ⟨by simp [Ad.add, Ad.let, ok.len], fun a e => by rw [← ok.len] at e; simp [Ad.add, Ad.let] at e; rw [e]⟩)
section
variable {X : Cx} {Wx : WX} {elt tg iter c : Expr} {ifs : List Expr} {fi : FI} {ft : FT} {fe : FE} {tf : Tg} {pos : Pos}
theorem impLc {K : PySem.W.Frag} {fin : List W → Store → Rs W} (hf : FinOk K fin) (vs : List Nat) (σ : L2.St) (H : Hp) (Q : VK) (q : tE K Wx (dLc fin fi tf ft fe vs) σ H Q) : tLc (tI K Wx fi) (tG K vs tf) (tT K WF ft) (tE K WF fe) vs σ H Q := by
  obtain ⟨δ, S, ρ, ok, en, q⟩ := q
  refine ⟨δ, S, ρ, ok, en, (go_bind q).mono fun J H1 ⟨p, S1, ρ1, ok1, st1, it, q1⟩ => ?_⟩
  intro D hD
  by_cases hz : p.1.length ≤ sizeLine
  · rw [if_pos hz] at q1
    obtain ⟨okD, stD⟩ := ok_keep ok1 (o := .lst []) hD
    have hdn : D ∉ ρ1.rs := (ok1.off hD).2
    have en1 := (en.mono st1).wipe vs
    refine ⟨fun i m H' => m = p.1.length - i ∧ i ≤ p.1.length ∧ ∃ S' ρ' acc vacc, Ok K ρ' S' H' ∧ Stw ρ1 H1 ρ' H' ∧ ρ'.rs = D :: ρ1.rs ∧ (∀ a o, a ∈ ρ1.rs → H1 a = some o → H' a = some o) ∧ H' D = some (.lst vacc) ∧ RelWs K ρ' H' acc vacc ∧ vacc.length ≤ i ∧ Go K Wx σ ρ1 H1 (RelW K) ((lcL tf ft fe p.2 (wipeE δ vs) (p.1.drop i) S' acc).bind fin) Q,
      ⟨p.1.length, rfl, Nat.zero_le _, S1, ρ1.keep D, [], [], okD, stD, rfl, fun a o ha e => by rw [upd_ne (ne_of_none e hD)]; exact e, upd_same, rfl, Nat.le_refl _, q1⟩, ?_⟩
    rintro i m H' ⟨rfl, hi, S', ρ', acc, vacc, ok', st', hrs, kr, he, ra, hl, q'⟩
    have hmem : D ∈ ρ'.rs := by rw [hrs]; exact List.mem_cons_self
    by_cases hgd : okG p.2 S'
    · obtain ⟨it1, it2⟩ := it ρ' S' H' ok' st' hgd i
      by_cases hlt : i < p.1.length
      · refine .inr ?_
        have hdrop : p.1.drop i = p.1[i] :: p.1.drop (i + 1) := List.drop_eq_getElem_cons hlt
        rw [hdrop] at q'
        obtain ⟨hgo, hyl⟩ := it1 p.1[i] (List.getElem?_eq_getElem hlt)
        unfold lcL at q'
        rw [if_pos hgd] at q'
        refine ⟨hgo, _, fun H2 n2 => ⟨p.1.length - (i + 1), by omega, n2⟩, fun x H'' y => ?_⟩
        obtain ⟨kp, rx⟩ := hyl x H'' y
        obtain ⟨ok2, st2⟩ := ok_grow ok' kp
        cases e1 : tf p.1[i] (wipeE δ vs) S' with
        | none => simp only [e1] at q'; exact go_none q'
        | some z =>
          obtain ⟨δ1, S2⟩ := z
          simp only [e1] at q'
          refine ⟨p.1[i], wipeE δ vs, S', ρ', δ1, S2, ok2, (en1.monoW st').mono st2, rx, e1, fun ρ3 H3 σ3 ok3 st3 en3 w3 => ⟨w3.trans (wipe_idem σ vs), ?_⟩⟩
          have st13 := st2.trans st3
          cases e2 : ft δ1 S2 with
          | none => simp only [e2] at q'; exact go_none q'
          | some z =>
            obtain ⟨b, S3⟩ := z
            cases b with
            | error x => simp only [e2] at q'; exact go_none q'
            | ok b =>
              refine ⟨δ1, S2, ρ3, ok3, en3, _, _, e2, fun ρ4 H4 ok4 st4 b' hb' => ?_⟩
              obtain rfl : b = b' := hb'
              have st14 := st13.trans st4
              cases b with
              | false =>
                simp only [e2] at q'
                exact iteF ⟨rfl, hlt, S3, ρ4, acc, vacc, ok4, st'.trans st14.toStw, st14.rs.trans hrs, fun a o ha e => st14.kr a o (by rw [hrs]; exact List.mem_cons_of_mem _ ha) (kr a o ha e), st14.kr D _ hmem he, ra.mono st14, by omega, q'⟩
              | true =>
                simp only [e2] at q'
                cases e5 : fe δ1 S3 with
                | none => simp only [e5] at q'; exact go_none q'
                | some z =>
                  obtain ⟨u, S5⟩ := z
                  cases u with
                  | error x => simp only [e5] at q'; exact go_none q'
                  | ok u =>
                    simp only [e5] at q'
                    refine iteT ⟨δ1, S3, ρ4, ok4, en3.mono st4, _, _, e5, fun ρ5 H5 ok5 st5 v rv => ?_⟩
                    have st15 := st14.trans st5
                    have hrs5 := st15.rs.trans hrs
                    have hmem5 : D ∈ ρ5.rs := by rw [hrs5]; exact List.mem_cons_self
                    have he5 := st15.kr D _ hmem he
                    have sw := stw_res (H := H5) (o := .lst (vacc ++ [v])) hmem5
                    refine ⟨vacc, he5, by omega, rfl, hlt, S5, ρ5, acc ++ [u], vacc ++ [v], ok_res ok5 hmem5, (st'.trans st15.toStw).trans sw, hrs5, fun a o ha e => ?_, upd_same, ((ra.mono st15).monoW sw).app ⟨v, [], rfl, rv.monoW sw, rfl⟩, by simp; omega, q'⟩
                    rw [upd_ne (fun z => by subst z; exact hdn ha)]
                    exact st15.kr a o (by rw [hrs]; exact List.mem_cons_of_mem _ ha) (kr a o ha e)
      · have e : i = p.1.length := by omega
        subst e
        rw [List.drop_length] at q'
        unfold lcL at q'
        rw [if_pos hgd] at q'
        exact .inl ⟨it2 (Nat.le_refl _), hf Wx σ ρ1 ρ' H1 H' S' acc vacc D Q ok' st' hrs hdn kr he ra q'⟩
    · cases hd : p.1.drop i with
      | nil => rw [hd] at q'; unfold lcL at q'; rw [if_neg hgd] at q'; exact go_none q'
      | cons w ws => rw [hd] at q'; unfold lcL at q'; rw [if_neg hgd] at q'; exact go_none q'
  · rw [if_neg hz] at q1
    exact go_none q1
theorem dts_yes : PTs X [] (tT X.K Wx ftYes) := ⟨fun pins s σ H Q I q => by
  obtain ⟨δ, S, ρ, ok, en, q⟩ := q
  exact pts_nil.run pins s σ H Q I (go_val ok q rfl)⟩
theorem dts_one (h : PT X c (tT X.K Wx ft)) : PTs X [c] (tT X.K Wx ft) := pts_one h
/-- [elt for target in iter if ..] -/
theorem de_lc {fin : List W → Store → Rs W} (hf : FinOk X.K fin) {scope : Scope} {own : List (Str × Nat)} (hc : X.calm = true) (hN : X.N.Nodup) (ok : BlkOk X.N X.env.scope scope own) (hi : PI X tg iter (tI X.K Wx fi))
    (hg : ∀ (s : Shared) (H : Hp) (C : Addr) (cl : List (Str × Addr)) (fp : List Addr), PG (X.blk s H scope (compEnvC scope cl C X.env) fp) tg (tG X.K (own.map (·.2)) tf)) (ht : ∀ (s : Shared) (H : Hp) (C : Addr) (cl : List (Str × Addr)) (fp : List Addr), PTs (X.blk s H scope (compEnvC scope cl C X.env) fp) ifs (tT X.K WF ft))
    (he : ∀ (s : Shared) (H : Hp) (C : Addr) (cl : List (Str × Addr)) (fp : List Addr), PE (X.blk s H scope (compEnvC scope cl C X.env) fp) elt (tE X.K WF fe)) (hs : ∀ x, foldedSetIterable iter X.env x = pure x := by intro _; rfl) :
    PE X (.ListComp elt [⟨tg, iter, ifs, 0⟩] scope pos) (tE X.K Wx (dLc fin fi tf ft fe (own.map (·.2)))) := (pe_lc hc hN hi ok hg ht he hs).imp fun σ H Q q => impLc hf (own.map (·.2)) σ H Q q
theorem ds_setLc (i : Nat) {y : Str} {py spos : Pos} {fin : List W → Store → Rs W} (hf : FinOk X.K fin) {scope : Scope} {own : List (Str × Nat)} (hc : X.calm = true) (hN : X.N.Nodup) (ok : BlkOk X.N X.env.scope scope own) (hi : PI X tg iter (tI X.K Wx fi))
    (hg : ∀ (s : Shared) (H : Hp) (C : Addr) (cl : List (Str × Addr)) (fp : List Addr), PG (X.blk s H scope (compEnvC scope cl C X.env) fp) tg (tG X.K (own.map (·.2)) tf)) (ht : ∀ (s : Shared) (H : Hp) (C : Addr) (cl : List (Str × Addr)) (fp : List Addr), PTs (X.blk s H scope (compEnvC scope cl C X.env) fp) ifs (tT X.K WF ft))
    (he : ∀ (s : Shared) (H : Hp) (C : Addr) (cl : List (Str × Addr)) (fp : List Addr), PE (X.blk s H scope (compEnvC scope cl C X.env) fp) elt (tE X.K WF fe)) (hsw : swapsWith (.ListComp elt [⟨tg, iter, ifs, 0⟩] scope pos) (some (.Name y py)) spos.line X.env = pure true) (hy : X.N[i]? = some y := by rfl) (hyl : X.env.scope.names.lookup y = some .local := by rfl) (hs : ∀ x, foldedSetIterable iter X.env x = pure x := by intro _; rfl) :
    PS X (.Assign [.Name y py] (.ListComp elt [⟨tg, iter, ifs, 0⟩] scope pos) spos) (tS X.K Wx (sSet i (dLc fin fi tf ft fe (own.map (·.2))))) := (ps_setLc hc hN hy hyl hsw hi ok hg ht he hs).imp fun D σ H q => by
  obtain ⟨δ, S, ρ, ok, en, q⟩ := q
  refine impLc (Wx := Wx) hf (own.map (·.2)) σ H _ ⟨δ, S, ρ, ok, en, (gos_bind en q).mono fun v H1 ⟨x, S1, ρ1, ok1, st1, r1, q1⟩ => gos_nx ok1 q1 ((en.mono st1).set i r1)⟩
end
end DL
set_option Elab.async false
set_option linter.all false
set_option maxRecDepth 100000
set_option maxHeartbeats 1000000
/-! DL7: defs by their bodies; a law's end. -/
namespace DL
open PySem PySem.Spec PyProof.Rows L2

mutual
theorem RelD.sub {K : PySem.W.Frag} {ρ ρ' : Ad} {H : Hp} (h : ∀ a, Off ρ a → Off ρ' a) : ∀ (d : D) (v : V), RelD K ρ H d v → RelD K ρ' H d v
  | .non, v, q => by simpa [RelD] using q
  | .bl b, v, q => by simpa [RelD] using q
  | .int i, v, q => by simpa [RelD] using q
  | .str x, v, q => by simpa [RelD] using q
  | .ref x, v, q => by simpa [RelD] using q
  | .ty x, v, q => by simpa [RelD] using q
  | .tup ds, v, q => by
    rw [RelD] at q ⊢
    obtain ⟨a, vs, e, h1, h2⟩ := q
    exact ⟨a, vs, e, h1.elim (fun z => .inl ⟨z.1, h a z.2⟩) .inr, RelDs.sub h ds vs h2⟩
  | .lst ds, v, q => by
    rw [RelD] at q ⊢
    obtain ⟨a, vs, e, h1, h2⟩ := q
    exact ⟨a, vs, e, h1.elim (fun z => .inl ⟨z.1, h a z.2⟩) .inr, RelDs.sub h ds vs h2⟩
  | .ins C ns ds, v, q => by
    rw [RelD] at q ⊢
    obtain ⟨a, dx, vs, e, h1, hn, h2, h3⟩ := q
    exact ⟨a, dx, vs, e, h1, h a hn, RelDs.sub h ds vs h2, h3⟩
  | .dct ks ds, v, q => by
    rw [RelD] at q ⊢
    obtain ⟨a, vs, e, h1, hn, h2, h3⟩ := q
    exact ⟨a, vs, e, h1, h a hn, RelDs.sub h ds vs h2, h3⟩
theorem RelDs.sub {K : PySem.W.Frag} {ρ ρ' : Ad} {H : Hp} (h : ∀ a, Off ρ a → Off ρ' a) : ∀ (ds : List D) (vs : List V), RelDs K ρ H ds vs → RelDs K ρ' H ds vs
  | [], vs, q => by simpa [RelDs] using q
  | d :: ds, vs, q => by
    rw [RelDs] at q ⊢
    obtain ⟨v, vr, e, h1, h2⟩ := q
    exact ⟨v, vr, e, RelD.sub h d v h1, RelDs.sub h ds vr h2⟩
end
/-! ### the places of a def's own go -/
def wBelow (n : Nat) : W → Prop
  | .d _ => True
  | .loc k => k < n
def mBelow (n : Nat) : M → Prop
  | .lst ws => ∀ w ∈ ws, wBelow n w
  | .ins _ _ ws => ∀ w ∈ ws, wBelow n w
  | .dead => True
def keepOk (S S1 : Store) : Prop := S.length ≤ S1.length ∧ ∀ (i : Nat) m, i < S.length → S1[i]? = some m → S[i]? = some m ∨ mBelow S.length m
def Ad.cut (ρ : Ad) (n : Nat) : Ad := ⟨ρ.pl.take n, ρ.rs⟩
section
variable {K : PySem.W.Frag} {ρ ρ1 : Ad} {H H1 : Hp} {S S1 : Store}
theorem cut_off {n : Nat} {a : Addr} (h : Off ρ1 a) : Off (ρ1.cut n) a := ⟨fun m => h.1 (List.mem_of_mem_take m), h.2⟩
theorem relWs_below (n : Nat) (hn : ρ.pl.length = n) : ∀ {ws : List W} {vs : List V}, RelWs K ρ H ws vs → ∀ w ∈ ws, wBelow n w
  | [], _, _, w, hw => by simp at hw
  | u :: us, vs, r, w, hw => by
    obtain ⟨v, vr, rfl, h1, h2⟩ := r
    rcases List.mem_cons.mp hw with e | hw
    · subst e
      cases w with
      | d x => trivial
      | loc k => exact hn ▸ h1.1
    · exact relWs_below n hn h2 w hw
theorem Ok.below (ok : Ok K ρ S H) {i : Nat} {m : M} (e : S[i]? = some m) : mBelow S.length m := by
  by_cases hm : m = .dead
  · subst hm; trivial
  · obtain ⟨a, ha⟩ := ok.live i m e hm
    obtain ⟨m', e1, o⟩ := ok.obj i a ha
    rw [e] at e1
    cases e1
    cases m with
    | dead => exact absurd rfl hm
    | lst ws => obtain ⟨vs, _, r⟩ := o; exact relWs_below _ ok.len r
    | ins C ns ws => obtain ⟨dx, vs, _, r, _⟩ := o; exact relWs_below _ ok.len r
theorem cut_relW {n : Nat} (hn : n ≤ ρ1.pl.length) {w : W} {v : V} (b : wBelow n w) (r : RelW K ρ1 H1 w v) : RelW K (ρ1.cut n) H1 w v := by
  cases w with
  | d x => exact RelD.sub (fun a z => cut_off z) x v r
  | loc k =>
    have hk : k < n := b
    refine ⟨by simp [Ad.cut]; omega, fun a e => r.2 a ?_⟩
    simpa [Ad.cut, List.getElem?_take, hk] using e
theorem cut_relWs {n : Nat} (hn : n ≤ ρ1.pl.length) : ∀ {ws : List W} {vs : List V}, (∀ w ∈ ws, wBelow n w) → RelWs K ρ1 H1 ws vs → RelWs K (ρ1.cut n) H1 ws vs
  | [], vs, _, r => r
  | u :: us, vs, b, r => by
    obtain ⟨v, vr, rfl, h1, h2⟩ := r
    exact ⟨v, vr, rfl, cut_relW hn (b u List.mem_cons_self) h1, cut_relWs hn (fun w hw => b w (List.mem_cons_of_mem _ hw)) h2⟩
/-- the caller's places, as they stand behind the body -/
theorem ok_cut (ok : Ok K ρ S H) (ok1 : Ok K ρ1 S1 H1) (st : Step ρ H ρ1 H1) (kp : keepOk S S1) : Ok K (ρ1.cut S.length) (S1.take S.length) H1 ∧ Step ρ H (ρ1.cut S.length) H1 := by
  have hl : S.length ≤ ρ1.pl.length := by rw [ok1.len]; exact kp.1
  have key : ∀ {i : Nat} {a : Addr}, (ρ1.cut S.length).pl[i]? = some (some a) → ρ1.pl[i]? = some (some a) ∧ i < S.length := fun {i a} e => by
    by_cases hi : i < S.length
    · exact ⟨by simpa [Ad.cut, List.getElem?_take, hi] using e, hi⟩
    · simp [Ad.cut, List.getElem?_take, hi] at e
  refine ⟨⟨by simp [Ad.cut, ok1.len], fun i j a h1 h2 => ok1.inj i j a (key h1).1 (key h2).1, fun n a e => ?_, fun n m e hm => ?_, ok1.res, fun a ha z => ok1.dis a ha (List.mem_of_mem_take z)⟩, ⟨⟨st.keep, fun a o e z => cut_off (st.off a o e z), ?_, fun n a hn e => st.same n a hn (key e).1⟩, st.rs, st.kr⟩⟩
  · obtain ⟨e1, hn⟩ := key e
    obtain ⟨m, e2, o⟩ := ok1.obj n a e1
    have b : mBelow S.length m := by
      rcases kp.2 n m hn e2 with q | q
      · exact ok.below q
      · exact q
    refine ⟨m, by simpa [List.getElem?_take, hn] using e2, ?_⟩
    cases m with
    | lst ws => obtain ⟨vs, h1, h2⟩ := o; exact ⟨vs, h1, cut_relWs hl b h2⟩
    | ins C ns ws => obtain ⟨dx, vs, h1, h2, h3⟩ := o; exact ⟨dx, vs, h1, cut_relWs hl b h2, h3⟩
    | dead => exact o.elim
  · by_cases hn : n < S.length
    · have e2 : S1[n]? = some m := by simpa [List.getElem?_take, hn] using e
      obtain ⟨a, e3⟩ := ok1.live n m e2 hm
      exact ⟨a, by simpa [Ad.cut, List.getElem?_take, hn] using e3⟩
    · simp [List.getElem?_take, hn] at e
  · have hk := kp.1
    simp [Ad.cut, ok.len, ok1.len]; omega
/-- what a def hands back: a list of its own is read-only from here on -/
def giveW (n : Nat) (S1 : Store) : W → Option W
  | .d x => some (.d x)
  | .loc k => if k < n then some (.loc k) else (match S1[k]? with
    | some (.lst ws) => (frz2 S1 ws).map fun ds => .d (.lst ds)
    | _ => none)
where
  /-- items: data, or lists of data -/
  frz2 (S1 : Store) : List W → Option (List D)
    | [] => some []
    | .d x :: ws => (frz2 S1 ws).map (x :: ·)
    | .loc k :: ws => if n ≤ k then (match S1[k]? with
      | some (.lst us) => (match pure? us with
        | some ds => (frz2 S1 ws).map (.lst ds :: ·)
        | none => none)
      | _ => none) else none
theorem own_off (ok1 : Ok K ρ1 S1 H1) {n k : Nat} {a : Addr} (hk : n ≤ k) (e : ρ1.pl[k]? = some (some a)) : Off (ρ1.cut n) a := by
  refine ⟨fun m => ?_, fun m => ok1.dis a m (List.mem_of_getElem? e)⟩
  obtain ⟨i, hi⟩ := List.getElem?_of_mem m
  by_cases hin : i < n
  · have e2 : ρ1.pl[i]? = some (some a) := by simpa [Ad.cut, List.getElem?_take, hin] using hi
    have := ok1.inj i k a e2 e
    omega
  · simp [Ad.cut, List.getElem?_take, hin] at hi
theorem frz2_ok (ok1 : Ok K ρ1 S1 H1) {n : Nat} : ∀ {ws : List W} {ds : List D} {vs : List V}, giveW.frz2 n S1 ws = some ds → RelWs K ρ1 H1 ws vs → RelDs K (ρ1.cut n) H1 ds vs
  | [], ds, vs, e, r => by
    cases (show some [] = some ds from e)
    rw [RelDs]; exact r
  | .d x :: ws, ds, vs, e, r => by
    obtain ⟨es, e1, rfl⟩ := Option.map_eq_some_iff.mp (show (giveW.frz2 n S1 ws).map (x :: ·) = some ds from e)
    obtain ⟨v, vr, rfl, h1, h2⟩ := r
    rw [RelDs]
    exact ⟨v, vr, rfl, RelD.sub (fun a z => cut_off z) x v h1, frz2_ok ok1 e1 h2⟩
  | .loc k :: ws, ds, vs, e, r => by
    obtain ⟨v, vr, rfl, h1, h2⟩ := r
    rw [giveW.frz2] at e
    split at e
    · rename_i hk
      split at e
      · rename_i us eu
        split at e
        · rename_i zs ez
          obtain ⟨es, e1, rfl⟩ := Option.map_eq_some_iff.mp e
          obtain ⟨a, ws', rfl, ha, h3, h4⟩ := loc_at ok1 h1 eu
          rw [RelDs]
          refine ⟨_, vr, rfl, ?_, frz2_ok ok1 e1 h2⟩
          rw [RelD]
          exact ⟨a, ws', rfl, .inl ⟨.inl h3, own_off ok1 hk ha⟩, RelDs.sub (fun a z => cut_off z) _ _ (pure?_rel ez h4)⟩
        · cases e
      · cases e
    · cases e
theorem giveW_ok (ok1 : Ok K ρ1 S1 H1) {n : Nat} (hn : n ≤ ρ1.pl.length) {w u : W} {v : V} (e : giveW n S1 w = some u) (r : RelW K ρ1 H1 w v) : RelW K (ρ1.cut n) H1 u v := by
  cases w with
  | d x =>
    cases (show some (W.d x) = some u from e)
    exact cut_relW hn trivial r
  | loc k =>
    rw [giveW] at e
    split at e
    · rename_i hk
      cases e
      exact cut_relW hn hk r
    · rename_i hk
      split at e
      · rename_i ws ew
        obtain ⟨ds, e1, rfl⟩ := Option.map_eq_some_iff.mp e
        obtain ⟨a, ws', rfl, ha, h3, h4⟩ := loc_at ok1 r ew
        show RelD K (ρ1.cut n) H1 (.lst ds) (.ref a)
        rw [RelD]
        exact ⟨a, ws', rfl, .inl ⟨.inl h3, own_off ok1 (by omega) ha⟩, frz2_ok ok1 e1 h4⟩
      · cases e
end
/-! ### a def by its body -/
abbrev Gv := Store → W → Store → Rs W
open Classical in
/-- what is handed back is read-only from here on -/
noncomputable def giveS : Gv := fun S w S1 => if keepOk S S1 then (match giveW S.length S1 w with
  | some u => some (.ok u, S1.take S.length)
  | none => none) else none
open Classical in
/-- a list of the def's own goes on as the caller's -/
noncomputable def giveM : Gv := fun S w S1 => if keepOk S S1 then (match w with
  | .d x => some (.ok (.d x), S1.take S.length)
  | .loc k => if k < S.length then none else (match S1[k]? with
    | some (.lst ws) => if ∀ w ∈ ws, wBelow S.length w then some (.ok (.loc S.length), S1.take S.length ++ [.lst ws]) else none
    | _ => none)) else none
def GiveOk (K : PySem.W.Frag) (gv : Gv) : Prop := ∀ (ρ : Ad) (H : Hp) (S : Store) (ρ1 : Ad) (H1 : Hp) (S1 : Store) (w : W) (r : Except Ex W) (S' : Store) (v : V), Ok K ρ S H → Ok K ρ1 S1 H1 → Step ρ H ρ1 H1 → gv S w S1 = some (r, S') → RelW K ρ1 H1 w v →
  ∃ u ρ', r = .ok u ∧ Ok K ρ' S' H1 ∧ Step ρ H ρ' H1 ∧ RelW K ρ' H1 u v
theorem giveS_ok {K : PySem.W.Frag} : GiveOk K giveS := by
  intro ρ H S ρ1 H1 S1 w r S' v ok ok1 st1 e rv
  unfold giveS at e
  split at e
  · rename_i kp
    split at e
    · rename_i u' eu
      cases e
      obtain ⟨ok2, st2⟩ := ok_cut ok ok1 st1 kp
      exact ⟨u', _, rfl, ok2, st2, giveW_ok ok1 (by rw [ok1.len]; exact kp.1) eu rv⟩
    · cases e
  · cases e
theorem sub_relW {K : PySem.W.Frag} {ρ1 ρ' : Ad} {H1 : Hp} {n : Nat} (hoff : ∀ a, Off ρ1 a → Off ρ' a) (hn : n ≤ ρ'.pl.length) (hpl : ∀ (k : Nat) (a : Addr), k < n → ρ'.pl[k]? = some (some a) → ρ1.pl[k]? = some (some a)) {w : W} {v : V} (b : wBelow n w) (r : RelW K ρ1 H1 w v) : RelW K ρ' H1 w v := by
  cases w with
  | d x => exact RelD.sub hoff x v r
  | loc k =>
    have hk : k < n := b
    exact ⟨by omega, fun a e => r.2 a (hpl k a hk e)⟩
theorem sub_relWs {K : PySem.W.Frag} {ρ1 ρ' : Ad} {H1 : Hp} {n : Nat} (hoff : ∀ a, Off ρ1 a → Off ρ' a) (hn : n ≤ ρ'.pl.length) (hpl : ∀ (k : Nat) (a : Addr), k < n → ρ'.pl[k]? = some (some a) → ρ1.pl[k]? = some (some a)) : ∀ {ws : List W} {vs : List V}, (∀ w ∈ ws, wBelow n w) → RelWs K ρ1 H1 ws vs → RelWs K ρ' H1 ws vs
  | [], vs, _, r => r
  | u :: us, vs, b, r => by
    obtain ⟨v, vr, rfl, h1, h2⟩ := r
    exact ⟨v, vr, rfl, sub_relW hoff hn hpl (b u List.mem_cons_self) h1, sub_relWs hoff hn hpl (fun w hw => b w (List.mem_cons_of_mem _ hw)) h2⟩
theorem giveM_ok {K : PySem.W.Frag} : GiveOk K giveM := by
  intro ρ H S ρ1 H1 S1 w r S' v ok ok1 st1 e rv
  unfold giveM at e
  split at e
  · rename_i kp
    obtain ⟨ok2, st2⟩ := ok_cut ok ok1 st1 kp
    have hl : S.length ≤ ρ1.pl.length := by rw [ok1.len]; exact kp.1
    cases w with
    | d x =>
      cases e
      exact ⟨_, _, rfl, ok2, st2, cut_relW hl trivial rv⟩
    | loc k =>
      by_cases hk : k < S.length
      · simp only [if_pos hk] at e; cases e
      · simp only [if_neg hk] at e
        split at e
        · rename_i ws ew
          split at e
          · rename_i hb
            cases e
            obtain ⟨a, vs, rfl, ha, h3, h4⟩ := loc_at ok1 rv ew
            have hmem : some a ∈ ρ1.pl := List.mem_of_getElem? ha
            have hlen : (ρ1.cut S.length).pl.length = S.length := by have hk1 := kp.1; rw [ok2.len]; simp; omega
            have hoff : ∀ b, Off ρ1 b → Off ((ρ1.cut S.length).add a) b := fun b z => ⟨fun m => by
              rcases List.mem_append.mp (show some b ∈ (ρ1.cut S.length).pl ++ [some a] from m) with m | m
              · exact z.1 (List.mem_of_mem_take m)
              · have q : b = a := by simpa using m
                subst q; exact z.1 hmem, z.2⟩
            have key : ∀ {i : Nat} {b : Addr}, ((ρ1.cut S.length).add a).pl[i]? = some (some b) → (ρ1.pl[i]? = some (some b) ∧ i < S.length) ∨ (i = S.length ∧ b = a) := fun {i b} e => by
              rcases add_key e with ⟨z1, z2⟩ | ⟨z1, z2⟩
              · rw [hlen] at z2
                exact .inl ⟨by simpa [Ad.cut, List.getElem?_take, z2] using z1, z2⟩
              · exact .inr ⟨by rw [← hlen]; exact z1, z2⟩
            have hn' : S.length ≤ ((ρ1.cut S.length).add a).pl.length := by simp [Ad.add, hlen]
            have hpl : ∀ (j : Nat) (b : Addr), j < S.length → ((ρ1.cut S.length).add a).pl[j]? = some (some b) → ρ1.pl[j]? = some (some b) := fun j b hj e => by
              rcases key e with z | z
              · exact z.1
              · omega
            have offa := own_off ok1 (n := S.length) (by omega) ha
            have tl : (S1.take S.length).length = S.length := by have hk1 := kp.1; simp; omega
            refine ⟨_, (ρ1.cut S.length).add a, rfl, ⟨by simp [Ad.add, hlen, tl], fun i j b h1 h2 => ?_, fun i b e => ?_, fun i m e hm => ?_, ok1.res, fun b hb' z => ?_⟩, ⟨⟨st1.keep, fun b o e z => hoff b (st1.off b o e z), by rw [ok.len]; exact hn', fun i b hi e => ?_⟩, st1.rs, st1.kr⟩, ?_⟩
            · rcases key h1 with ⟨a1, b1⟩ | ⟨a1, b1⟩ <;> rcases key h2 with ⟨a2, b2⟩ | ⟨a2, b2⟩
              · exact ok1.inj i j b a1 a2
              · subst b2; have := ok1.inj i k _ a1 ha; omega
              · subst b1; have := ok1.inj j k _ a2 ha; omega
              · omega
            · rcases key e with ⟨a1, b1⟩ | ⟨a1, b1⟩
              · obtain ⟨m, e2, o⟩ := ok1.obj i b a1
                have bl : mBelow S.length m := by
                  rcases kp.2 i m b1 e2 with q | q
                  · exact ok.below q
                  · exact q
                refine ⟨m, by rw [List.getElem?_append_left (by omega)]; simpa [List.getElem?_take, b1] using e2, ?_⟩
                cases m with
                | lst us => obtain ⟨xs, g1, g2⟩ := o; exact ⟨xs, g1, sub_relWs hoff hn' hpl bl g2⟩
                | ins C ns us => obtain ⟨dx, xs, g1, g2, g3⟩ := o; exact ⟨dx, xs, g1, sub_relWs hoff hn' hpl bl g2, g3⟩
                | dead => exact o.elim
              · subst a1 b1
                exact ⟨.lst ws, by rw [List.getElem?_append_right (by omega)]; simp [tl], vs, h3, sub_relWs hoff hn' hpl hb h4⟩
            · by_cases hi : i < S.length
              · rw [List.getElem?_append_left (by omega)] at e
                obtain ⟨b, e3⟩ := ok2.live i m e hm
                refine ⟨b, ?_⟩
                unfold Ad.add
                rw [List.getElem?_append_left (by omega)]
                exact e3
              · by_cases hi2 : i = S.length
                · subst hi2
                  refine ⟨a, ?_⟩
                  unfold Ad.add
                  rw [List.getElem?_append_right (by omega)]
                  simp [hlen]
                · rw [List.getElem?_eq_none (by simp; omega)] at e; cases e
            · rcases List.mem_append.mp (show some b ∈ (ρ1.cut S.length).pl ++ [some a] from z) with z | z
              · exact ok1.dis b hb' (List.mem_of_mem_take z)
              · have q : b = a := by simpa using z
                subst q; exact ok1.dis b hb' hmem
            · exact st1.same i b hi (hpl i b (by rw [← ok.len]; exact hi) e)
            · refine ⟨by simp [Ad.add, hlen], fun b e => ?_⟩
              rcases key e with z | z
              · omega
              · rw [z.2]
          · cases e
        · cases e
  · cases e
open Classical in
noncomputable def dDef (gv : Gv) (n N : Nat) (fb : FS) : Fn := fun ws S => if ws.length = n then (match fb (ws.map some ++ List.replicate (N - n) none) S with
  | some (.ok (.rt w), S1) => gv S w S1
  | some (.ok (.nx _), S1) => gv S (.d .non) S1
  | some (.error (x, _), S1) => if keepOk S S1 then some (.error x, S1.take S.length) else none
  | _ => none) else none
section
variable {P : Program} {w : World} {K : PySem.W.Frag} {mg : Str → Option Value} {base : Heap}
theorem env_start {ρ : Ad} {H : Hp} {N : List Str} : ∀ {ws : List W} {vs : List V}, RelWs K ρ H ws vs → EnvR K ρ H (ws.map some ++ List.replicate (N.length - ws.length) none) (L2.start N vs) := by
  intro ws vs r
  refine ⟨by simp [L2.start, r.length], fun i u h => ?_⟩
  by_cases hi : i < ws.length
  · rw [List.getElem?_append_left (by simpa using hi), List.getElem?_map] at h
    cases e : ws[i]? with
    | none => rw [e] at h; cases h
    | some x =>
      rw [e] at h
      cases h
      obtain ⟨v, e2, rv⟩ := r.get e
      refine ⟨v, ?_, rv⟩
      unfold L2.start
      rw [List.getElem?_append_left (by simpa [r.length] using (r.length ▸ hi)), List.getElem?_map, e2]
      rfl
  · rw [List.getElem?_append_right (by simpa using hi)] at h
    have := List.mem_of_getElem? h
    rw [List.mem_replicate] at this
    cases this.2
/-- what a context gives -/
structure Cf (X : Cx) (Wx : WX) (k : Nat) : Prop where
  calm : X.calm = true
  tk : Takes X Wx
  po : PassesOwn (model X.prog X.w) X.A X.env X.xe
  nd : X.N.Nodup
  room : Room k X.A
theorem cf_of {N : List Str} {qual : Str} {scope : Scope} {f : Addr} {cdv : Value} {A : Around} {outer : List Env} {s : Shared} {H : Hp} {E : XK} {k : Nat} (hr : Room k (A.deeper (envOfC qual scope s.heap.objs.size f cdv))) (nd : N.Nodup) :
    Cf (cxOf (L2.CX P w) P w K mg base N qual scope f cdv A outer s H E) (fun cls d _ H => E cls d H) k :=
  ⟨rfl, takes_of rfl rfl rfl rfl, passes_of rfl, nd, hr⟩
theorem fn_mk {x qual : Str} {params : Arguments} {body : List Stmt} {scope : Scope} {f : Addr} {fd : FuncData} {N ps : List Str} {k n : Nat} {fb : FS} {gv : Gv} (hgv : GiveOk K gv) (F : FunD K x qual params body scope [] [] f fd) (Sc : FnScope N ps scope) (hn : ps.length = n)
    (hbody : ∀ (cdv : Value) (A : Around) (outer : List Env) (s : Shared) (H : Hp) (E : XK), Cf (cxOf (L2.CX P w) P w K mg base N qual scope f cdv A outer s H E) (fun cls d _ H => E cls d H) k →
      PSs (cxOf (L2.CX P w) P w K mg base N qual scope f cdv A outer s H E) body (tS K (fun cls d _ H => E cls d H) fb)) :
    FnOk P w K mg base (L2.CX P w) (k + 1) f fd ps (spD K n (dDef gv n N.length fb)) := by
  refine F.ok Sc (fun vs H Q E h => h.1.trans hn.symm) (fun cdv A outer s H vs Q E hr h => ⟨_, hbody cdv A outer s H E (cf_of hr Sc.nd), ?_⟩)
  obtain ⟨hl, ws, S, ρ, r, S', rw', ok, e, c⟩ := h
  have hwn : ws.length = n := rw'.length.trans hl
  refine ⟨_, S, ρ, ok, env_start (N := N) rw', ?_⟩
  rw [hwn]
  unfold dDef at e
  rw [if_pos hwn] at e
  have give : ∀ {u : W} {S1 : Store}, gv S u S1 = some (r, S') → ∀ ρ1 H1, Ok K ρ1 S1 H1 → Step ρ H ρ1 H1 → ∀ v, RelW K ρ1 H1 u v → Q v H1 := by
    intro u S1 e ρ1 H1 ok1 st1 v rv
    obtain ⟨u', ρ', rfl, ok2, st2, rv2⟩ := hgv ρ H S ρ1 H1 S1 u r S' v ok ok1 st1 e rv
    exact c _ _ ok2 st2 v rv2
  split at e
  · rename_i u S1 e1
    exact ⟨_, _, e1, fun ρ1 H1 ok1 st1 v rv => give e ρ1 H1 ok1 st1 v rv⟩
  · rename_i δ S1 e1
    exact ⟨_, _, e1, fun ρ1 H1 ok1 st1 σ' en => give e ρ1 H1 ok1 st1 .non (by simp [RelW, RelD])⟩
  · rename_i x δ S1 e1
    split at e
    · rename_i kp
      cases e
      refine ⟨_, _, e1, fun ρ1 H1 ok1 st1 d σ' en hx => ?_⟩
      obtain ⟨ok2, st2⟩ := ok_cut ok ok1 st1 kp
      refine c _ _ ok2 st2 d ?_
      unfold ExR at hx ⊢
      cases d with
      | none => exact hx
      | some a =>
        obtain ⟨vs, h1, h2, h3, h4⟩ := hx
        exact ⟨vs, h1, cut_off h2, RelDs.sub (fun a z => cut_off z) _ _ h3, h4⟩
    · cases e
  · cases e
theorem fnD_mk {x qual : Str} {params : Arguments} {body : List Stmt} {scope : Scope} {f : Addr} {fd : FuncData} {N ps : List Str} {k n : Nat} {fb : FS} {gv : Gv} (hgv : GiveOk K gv) (F : FunD K x qual params body scope [] [] f fd) (hm : mg x = some (.ref f)) (Sc : FnScope N ps scope) (hn : ps.length = n)
    (hb : ∀ (kV doc pm : Value) (an : Option Addr) (cdv ct : Value) (us : List Value), us.length = ps.length → bindArgs (PySem.W.fnOf x qual params body scope .none kV doc pm an cdv ct) ⟨us, []⟩ = pure (ps.zip us))
    (hbody : ∀ (cdv : Value) (A : Around) (outer : List Env) (s : Shared) (H : Hp) (E : XK), Cf (cxOf (L2.CX P w) P w K mg base N qual scope f cdv A outer s H E) (fun cls d _ H => E cls d H) k →
      PSs (cxOf (L2.CX P w) P w K mg base N qual scope f cdv A outer s H E) body (tS K (fun cls d _ H => E cls d H) fb)) :
    FnD P w K mg base (k + 1) x n (dDef gv n N.length fb) := ⟨f, fd, ps, fn_mk hgv F Sc hn hbody, hm, F.kp, F.bindsN hb⟩
theorem FnD.as {k n : Nat} {x : Str} {g g' : Fn} (F : FnD P w K mg base k x n g) (e : g = g') : FnD P w K mg base k x n g' := e ▸ F
theorem FnD.up {k j n : Nat} {x : Str} {g : Fn} (F : FnD P w K mg base k x n g) (e : k ≤ j := by decide) : FnD P w K mg base j x n g := by
  obtain ⟨f, fd, ps, F, h⟩ := F.ex
  exact ⟨f, fd, ps, F.mono e, h⟩
/-- no exception leaves -/
theorem fn_noex {f : Addr} {fd : FuncData} {ps : List Str} {k : Nat} {sp : Sp} (F : FnOk P w K mg base (L2.CX P w) k f fd ps sp) : FnOk P w K mg base CX0 k f fd ps (fun vs H Q _ => sp vs H Q fun _ _ _ => False) :=
  ⟨fun vs H Q E h => F.len vs H Q _ h, fun A outer s H args us vs Q E hr he hb hv hs => codeAny_mono (F.run A outer s H args us vs Q _ hr he hb hv hs) fun r s' h => by
    cases r with
    | ok fl => cases fl <;> exact h
    | error e =>
      obtain ⟨_, _, _, _, _, _, _, _, _, _, _, _, z⟩ := (show L2.CX P w outer H s (fun _ _ _ => False) e s' from h)
      exact z.elim⟩
/-- the law's promise holds of every script -/
theorem law_sp {g : Fn} {a : Addr} {H : Hp} {ns : List Int} {S' : Store} (hO : SqL K H a (ns.map V.int)) (e : g [.d (.lst (ns.map D.int))] [] = some (.ok (.d (.bl true)), S')) :
    spD K 1 g [.ref a] H (fun v _ => v = .bl true) fun _ _ _ => False := by
  have rel : ∀ ns : List Int, RelDs K ⟨[], []⟩ H (ns.map D.int) (ns.map V.int) := by
    intro ns
    induction ns with
    | nil => show RelDs K _ H [] []; rw [RelDs]
    | cons n ns ih =>
      show RelDs K _ H (D.int n :: ns.map D.int) (V.int n :: ns.map V.int)
      rw [RelDs]
      exact ⟨_, _, rfl, by rw [RelD], ih⟩
  refine ⟨rfl, [.d (.lst (ns.map D.int))], [], ⟨[], []⟩, _, _, ⟨.ref a, [], rfl, ?_, rfl⟩, ⟨rfl, fun i j a e => by simp at e, fun n a e => by simp at e, fun n m e => by simp at e, fun a m => by simp at m, fun a m => by simp at m⟩, e, fun ρ' H' _ _ v r => by simpa [RelW, RelD] using r⟩
  show RelD K ⟨[], []⟩ H (.lst (ns.map D.int)) (.ref a)
  rw [RelD]
  refine ⟨a, ns.map V.int, rfl, ?_, rel ns⟩
  rcases hO with h | h
  · exact .inl ⟨h, by simp [Off]⟩
  · exact .inr h
end
end DL
set_option Elab.async false
set_option linter.all false
set_option maxRecDepth 100000
set_option maxHeartbeats 1000000
/-! DL8: is of truth values. -/
namespace DL
open PySem PySem.Spec PyProof.Rows L2
section
variable {X : Cx} {K : PySem.W.Frag} {Wx : WX}
/-- x is True, x is not True: both truth values -/
def oIsB : F2
  | .d (.bl a), .d (.bl b), S => some (.ok (.d (.bl (decide (a = b)))), S)
  | _, _, _ => none
def oNotB : F2
  | .d (.bl a), .d (.bl b), S => some (.ok (.d (.bl (!decide (a = b)))), S)
  | _, _, _ => none
theorem bl2_inv {P : Prop} (x y : W) (h : ∀ i j, x = .d (.bl i) → y = .d (.bl j) → P) (h' : (∀ i j, x = .d (.bl i) → y ≠ .d (.bl j)) → P) : P := by
  by_cases e : ∃ i j, x = .d (.bl i) ∧ y = .d (.bl j)
  · obtain ⟨i, j, e1, e2⟩ := e
    exact h i j e1 e2
  · exact h' fun i j e1 e2 => e ⟨i, j, e1, e2⟩
theorem oIsB_ok : OpF K Wx rIsB oIsB := by
  intro σ ρ S H x y a b Q ok rx ry q
  refine bl2_inv x y (fun i j e1 e2 => ?_) (fun hn => ?_)
  · subst e1 e2
    exact ⟨i, j, by simpa [RelW, RelD] using rx, by simpa [RelW, RelD] using ry, go_val ok q (by simp [RelW, RelD])⟩
  · have e : oIsB x y S = none := by
      unfold oIsB
      split
      · exact absurd rfl (hn _ _ rfl)
      · rfl
    rw [e] at q
    exact go_none q
theorem oNotB_ok : OpF K Wx rNotB oNotB := by
  intro σ ρ S H x y a b Q ok rx ry q
  refine bl2_inv x y (fun i j e1 e2 => ?_) (fun hn => ?_)
  · subst e1 e2
    exact ⟨i, j, by simpa [RelW, RelD] using rx, by simpa [RelW, RelD] using ry, go_val ok q (by simp [RelW, RelD])⟩
  · have e : oNotB x y S = none := by
      unfold oNotB
      split
      · exact absurd rfl (hn _ _ rfl)
      · rfl
    rw [e] at q
    exact go_none q
end
/-! what the built-in names stand for -/
theorem bt_int : bootBuiltins "int" = some (.type "int") := by decide +kernel
theorem bt_str : bootBuiltins "str" = some (.type "str") := by decide +kernel
theorem bt_bool : bootBuiltins "bool" = some (.type "bool") := by decide +kernel
theorem bt_list : bootBuiltins "list" = some (.type "list") := by decide +kernel
theorem bt_tuple : bootBuiltins "tuple" = some (.type "tuple") := by decide +kernel
theorem bt_dict : bootBuiltins "dict" = some (.type "dict") := by decide +kernel
theorem bt_isinstance : bootBuiltins "isinstance" = some (.builtin "isinstance") := by decide +kernel
theorem bt_abs : bootBuiltins "abs" = some (.builtin "abs") := by decide +kernel
theorem bt_len : bootBuiltins "len" = some (.builtin "len") := by decide +kernel
theorem bt_all : bootBuiltins "all" = some (.builtin "all") := by decide +kernel
theorem bt_any : bootBuiltins "any" = some (.builtin "any") := by decide +kernel
theorem bt_sum : bootBuiltins "sum" = some (.builtin "sum") := by decide +kernel
theorem bt_min : bootBuiltins "min" = some (.builtin "min") := by decide +kernel
theorem bt_max : bootBuiltins "max" = some (.builtin "max") := by decide +kernel
theorem bt_sorted : bootBuiltins "sorted" = some (.builtin "sorted") := by decide +kernel
theorem bt_repr : bootBuiltins "repr" = some (.builtin "repr") := by decide +kernel
theorem bt_ord : bootBuiltins "ord" = some (.builtin "ord") := by decide +kernel
end DL
set_option Elab.async false
set_option linter.all false
set_option maxRecDepth 100000
set_option maxHeartbeats 1000000
/-! DL9: how the functions are reckoned out. -/
namespace DL
open PySem L2
section
variable {α β : Type} {a : α} {S S1 : Store} {x : Ex} {δ δ1 : DEnv} {k : α → Store → Rs β} {ks : α → Store → Ss}
theorem bind_ok : Rs.bind (some (.ok a, S)) k = k a S := rfl
theorem bind_err : Rs.bind (some (.error x, S)) k = some (.error x, S) := rfl
theorem bind_congr {m m' : Rs α} (h : m = m') : Rs.bind m k = Rs.bind m' k := by rw [h]
theorem sE_ok : sE (some (.ok a, S)) δ ks = ks a S := rfl
theorem sE_err : sE (some (.error x, S)) δ ks = some (.error (x, δ), S) := rfl
theorem sE_congr {m m' : Rs α} (h : m = m') : sE m δ ks = sE m' δ ks := by rw [h]
def bnd (m : Ss) (g : FS) : Ss := match m with
  | some (.ok (.nx δ1), S1) => g δ1 S1
  | o => o
theorem bnd_nx {g : FS} : bnd (some (.ok (.nx δ), S)) g = g δ S := rfl
theorem bnd_rt {g : FS} {w : W} : bnd (some (.ok (.rt w), S)) g = some (.ok (.rt w), S) := rfl
theorem bnd_bk {g : FS} : bnd (some (.ok (.bk δ), S)) g = some (.ok (.bk δ), S) := rfl
theorem bnd_ct {g : FS} : bnd (some (.ok (.ct δ), S)) g = some (.ok (.ct δ), S) := rfl
theorem bnd_err {g : FS} {e : Ex × DEnv} : bnd (some (.error e, S)) g = some (.error e, S) := rfl
theorem bnd_congr {m m' : Ss} {g : FS} (h : m = m') : bnd m g = bnd m' g := by rw [h]
theorem sSeq_eq {f g : FS} : sSeq f g δ S = bnd (f δ S) g := rfl
open Classical in
noncomputable def dEnd (gv : Gv) (S : Store) (m : Ss) : Rs W := match m with
  | some (.ok (.rt w), S1) => gv S w S1
  | some (.ok (.nx _), S1) => gv S (.d .non) S1
  | some (.error (x, _), S1) => if keepOk S S1 then some (.error x, S1.take S.length) else none
  | _ => none
theorem dDef_eq {gv : Gv} {n N : Nat} {fb : FS} {ws : List W} (h : ws.length = n) : dDef gv n N fb ws S = dEnd gv S (fb (ws.map some ++ List.replicate (N - n) none) S) := by
  unfold dDef dEnd
  rw [if_pos h] <;> rfl
theorem dEnd_rt {gv : Gv} {w : W} : dEnd gv S (some (.ok (.rt w), S1)) = gv S w S1 := rfl
theorem dEnd_nx {gv : Gv} : dEnd gv S (some (.ok (.nx δ), S1)) = gv S (.d .non) S1 := rfl
theorem keepOk_app {T : Store} : keepOk S (S ++ T) := ⟨by simp, fun i m hi e => .inl (by rwa [List.getElem?_append_left hi] at e)⟩
theorem keepOk_same : keepOk S S := ⟨Nat.le_refl _, fun i m hi e => .inl e⟩
theorem dEnd_err {gv : Gv} : dEnd gv S (some (.error (x, δ), S)) = some (.error x, S) := by
  unfold dEnd
  dsimp only
  rw [if_pos keepOk_same, List.take_length]
theorem dEnd_errA {gv : Gv} {T : Store} : dEnd gv S (some (.error (x, δ), S ++ T)) = some (.error x, S) := by
  unfold dEnd
  dsimp only
  rw [if_pos keepOk_app, List.take_left]
theorem giveS_d {x : D} : giveS S (.d x) S = some (.ok (.d x), S) := by
  unfold giveS
  rw [if_pos keepOk_same, List.take_length]
  rfl
theorem giveS_dA {x : D} {T : Store} : giveS S (.d x) (S ++ T) = some (.ok (.d x), S) := by
  unfold giveS
  rw [if_pos keepOk_app, List.take_left]
  rfl
/-- the first place alone has changed, what stands there is data -/
theorem keepOk_hd {m m' : M} {T U : Store} (h : mBelow (m :: T).length m') : keepOk (m :: T) (m' :: (T ++ U)) := ⟨by simp, fun i q hi e => by
  cases i with
  | zero => simp at e; subst e; exact .inr h
  | succ i => exact .inl (by simp at hi; simpa [List.getElem?_append_left hi] using e)⟩
theorem giveS_hd {x : D} {m m' : M} {T U : Store} (h : mBelow (m :: T).length m') : giveS (m :: T) (.d x) (m' :: (T ++ U)) = some (.ok (.d x), m' :: T) := by
  unfold giveS
  rw [if_pos (keepOk_hd h)]
  simp [giveW, List.take_left]
theorem giveS_hd0 {x : D} {m m' : M} {T : Store} (h : mBelow (m :: T).length m') : giveS (m :: T) (.d x) (m' :: T) = some (.ok (.d x), m' :: T) := by
  have e := giveS_hd (x := x) (U := []) h
  rwa [List.append_nil] at e
theorem giveM_new {ws : List W} (h : ∀ w ∈ ws, wBelow S.length w) : giveM S (.loc S.length) (S ++ [.lst ws]) = some (.ok (.loc S.length), S ++ [.lst ws]) := by
  unfold giveM
  rw [if_pos keepOk_app]
  have e : (S ++ [M.lst ws])[S.length]? = some (.lst ws) := by simp
  simp only [if_neg (Nat.lt_irrefl _), e, if_pos h, List.take_left]
end
section
variable {δ : DEnv} {S : Store} {w : W}
theorem dVar_eq {i : Nat} (h : δ[i]? = some (some w)) : dVar i δ S = some (.ok w, S) := by unfold dVar; rw [h]
theorem truth_bl {b : Bool} : truth (.d (.bl b)) S = some (.ok b, S) := rfl
theorem asB_bl {b : Bool} : asB (.d (.bl b)) S = some (.ok b, S) := rfl
theorem oI0_eq {g : Int → Int → D} {i j : Int} : oI0 g (.d (.int i)) (.d (.int j)) S = some (.ok (.d (g i j)), S) := rfl
theorem oII_eq {C : Int → Int → Prop} [∀ i j, Decidable (C i j)] {g : Int → Int → D} {i j : Int} (h : C i j) : oII C g (.d (.int i)) (.d (.int j)) S = some (.ok (.d (g i j)), S) := by
  show (if C i j then _ else _) = _
  rw [if_pos h]
theorem isi_ii : isiB "int" "int" = some true := by decide
theorem isi_ib : isiB "int" "bool" = some false := by decide
theorem isi_it : isiB "int" "tuple" = some false := by decide
theorem isi_tt : isiB "tuple" "tuple" = some true := by decide
theorem isi_ti : isiB "tuple" "int" = some false := by decide
theorem isi_tb : isiB "tuple" "bool" = some false := by decide
end
end DL
set_option Elab.async false
set_option linter.all false
set_option maxRecDepth 100000
set_option maxHeartbeats 1000000
/-! DL10: plain facts: equality of data, comprehensions, fractions in lowest terms. -/
namespace DL
open PySem L2
/-! ### equality -/
/-- ints in tuples and lists, at most so deep -/
def intD : Nat → D → Bool
  | _, .int _ => true
  | n + 1, .tup ds => ds.attach.all fun d => intD n d.1
  | n + 1, .lst ds => ds.attach.all fun d => intD n d.1
  | _, _ => false
theorem depthAll_le {n : Nat} : ∀ {ps : List PyData}, (∀ p ∈ ps, p.depth ≤ n) → PyData.depthAll ps ≤ n
  | [], _ => by simp [PyData.depthAll]
  | p :: ps, h => by
    have h1 := h p List.mem_cons_self
    have h2 := depthAll_le fun q hq => h q (List.mem_cons_of_mem _ hq)
    simp [PyData.depthAll]
    omega
theorem toPs_of : ∀ {ds : List D} {f : D → PyData}, (∀ d ∈ ds, toP d = some (f d)) → toPs ds = some (ds.map f)
  | [], _, _ => rfl
  | d :: ds, f, h => by
    rw [toPs, h d List.mem_cons_self, toPs_of fun e he => h e (List.mem_cons_of_mem _ he)]
    rfl
theorem canAll_of : ∀ {ps : List PyData}, (∀ p ∈ ps, p.canLay0 = true) → PyData.canLayAll0 ps = true
  | [], _ => rfl
  | p :: ps, h => by
    rw [PyData.canLayAll0, h p List.mem_cons_self, canAll_of fun q hq => h q (List.mem_cons_of_mem _ hq)]
    rfl
theorem eqvAll_refl : ∀ {ps : List PyData}, (∀ p ∈ ps, PyData.eqv p p = true) → PyData.eqvAll ps ps = true
  | [], _ => by simp [PyData.eqvAll]
  | p :: ps, h => by
    rw [PyData.eqvAll, h p List.mem_cons_self, eqvAll_refl fun q hq => h q (List.mem_cons_of_mem _ hq)]
    rfl
/-- what is to be known of data that is compared with itself -/
def Pl (n : Nat) (d : D) : Prop := ∃ p, toP d = some p ∧ p.canLay0 = true ∧ p.depth ≤ n ∧ PyData.eqv p p = true
theorem pl_int (i : Int) : Pl 0 (.int i) := ⟨.int i, by rw [toP], rfl, by simp [PyData.depth], by simp [PyData.eqv]⟩
theorem pl_bl (i : Bool) : Pl 0 (.bl i) := ⟨.bool i, by rw [toP], rfl, by simp [PyData.depth], by simp [PyData.eqv]⟩
theorem pl_non : Pl 0 .non := ⟨.none, by rw [toP], rfl, by simp [PyData.depth], by simp [PyData.eqv]⟩
theorem Pl.up {n m : Nat} {d : D} (h : Pl n d) (hm : n ≤ m) : Pl m d := by
  obtain ⟨p, h1, h2, h3, h4⟩ := h
  exact ⟨p, h1, h2, by omega, h4⟩
theorem pls_of {n : Nat} {ds : List D} (h : ∀ d ∈ ds, Pl n d) : ∃ ps, toPs ds = some ps ∧ PyData.canLayAll0 ps = true ∧ PyData.depthAll ps ≤ n ∧ PyData.eqvAll ps ps = true := by
  induction ds with
  | nil => exact ⟨[], by rw [toPs], rfl, by simp [PyData.depthAll], by simp [PyData.eqvAll]⟩
  | cons d ds ih =>
    obtain ⟨p, h1, h2, h3, h4⟩ := h d List.mem_cons_self
    obtain ⟨ps, g1, g2, g3, g4⟩ := ih fun e he => h e (List.mem_cons_of_mem _ he)
    refine ⟨p :: ps, by simp [toPs, h1, g1], by rw [PyData.canLayAll0, h2, g2]; rfl, ?_, by rw [PyData.eqvAll, h4, g4]; rfl⟩
    simp [PyData.depthAll]
    omega
theorem pl_tup {n : Nat} {ds : List D} (h : ∀ d ∈ ds, Pl n d) : Pl (n + 1) (.tup ds) := by
  obtain ⟨ps, g1, g2, g3, g4⟩ := pls_of h
  exact ⟨.tuple ps, by rw [toP, g1]; rfl, by simpa [PyData.canLay0] using g2, by simp [PyData.depth]; omega, by simpa [PyData.eqv] using g4⟩
theorem pl_lst {n : Nat} {ds : List D} (h : ∀ d ∈ ds, Pl n d) : Pl (n + 1) (.lst ds) := by
  obtain ⟨ps, g1, g2, g3, g4⟩ := pls_of h
  exact ⟨.list ps, by rw [toP, g1]; rfl, by simpa [PyData.canLay0] using g2, by simp [PyData.depth]; omega, by simpa [PyData.eqv] using g4⟩
theorem eqW_refl {n : Nat} {d : D} (h : Pl n d) (hn : n ≤ 64) : eqW (.d d) (.d d) = some true := by
  obtain ⟨p, h1, h2, h3, h4⟩ := h
  have s : SeqAt.shaped p = true := by simp [SeqAt.shaped, h2]; omega
  simp [eqW, h1, s, h4]
theorem eqW_int (i j : Int) : eqW (.d (.int i)) (.d (.int j)) = some (i == j) := by
  have s : ∀ i, SeqAt.shaped (.int i) = true := fun i => by simp [SeqAt.shaped, PyData.canLay0, PyData.depth]
  simp [eqW, toP, s, PyData.eqv]
theorem oEq_int {S : Store} (i j : Int) : oEq (.d (.int i)) (.d (.int j)) S = some (.ok (.d (.bl (i == j))), S) := by simp [oEq, eqW_int]
theorem oNe_int {S : Store} (i j : Int) : oNe (.d (.int i)) (.d (.int j)) S = some (.ok (.d (.bl (!(i == j)))), S) := by simp [oNe, eqW_int]
theorem oEq_refl {S : Store} {n : Nat} {d : D} (h : Pl n d) (hn : n ≤ 64) : oEq (.d d) (.d d) S = some (.ok (.d (.bl true)), S) := by simp [oEq, eqW_refl h hn]
theorem oNe_refl {S : Store} {n : Nat} {d : D} (h : Pl n d) (hn : n ≤ 64) : oNe (.d d) (.d d) S = some (.ok (.d (.bl false)), S) := by simp [oNe, eqW_refl h hn]

/-! ### comprehensions -/
theorem okG_no {S : Store} : okG none S := fun _ e => nomatch e
/-- no element is left out, nothing is changed -/
theorem lcL_map {tf : Tg} {fe : FE} {δ : DEnv} {S : Store} {f : W → W} : ∀ {ws acc : List W}, (∀ w ∈ ws, ∃ δ1, tf w δ S = some (δ1, S) ∧ fe δ1 S = some (.ok (f w), S)) →
    lcL tf ftYes fe none δ ws S acc = some (.ok (acc ++ ws.map f), S)
  | [], acc, _ => by unfold lcL; rw [if_pos okG_no]; simp
  | w :: ws, acc, h => by
    obtain ⟨δ1, h1, h2⟩ := h w List.mem_cons_self
    unfold lcL
    rw [if_pos okG_no]
    simp only [h1, ftYes, h2]
    rw [lcL_map fun u hu => h u (List.mem_cons_of_mem _ hu)]
    simp
/-- each element changes the first place -/
theorem lcL_thread {tf : Tg} {fe : FE} {δ : DEnv} {T : Store} {Pm : M → Prop} {Pd : D → Prop} : ∀ {ws acc : List W} {m : M}, Pm m → (∀ w ∈ ws, ∀ m, Pm m → ∃ δ1 d m', tf w δ (m :: T) = some (δ1, m :: T) ∧ fe δ1 (m :: T) = some (.ok (.d d), m' :: T) ∧ Pm m' ∧ Pd d) →
    ∃ (ds : List D) (m' : M), lcL tf ftYes fe none δ ws (m :: T) acc = some (.ok (acc ++ ds.map W.d), m' :: T) ∧ Pm m' ∧ ds.length = ws.length ∧ ∀ d ∈ ds, Pd d
  | [], acc, m, hm, _ => ⟨[], m, by unfold lcL; rw [if_pos okG_no]; simp, hm, rfl, by simp⟩
  | w :: ws, acc, m, hm, h => by
    obtain ⟨δ1, d, m', h1, h2, h3, h4⟩ := h w List.mem_cons_self m hm
    obtain ⟨ds, m2, e, g1, g2, g3⟩ := lcL_thread (acc := acc ++ [.d d]) h3 fun u hu => h u (List.mem_cons_of_mem _ hu)
    refine ⟨d :: ds, m2, ?_, g1, by simp [g2], fun x hx => ?_⟩
    · unfold lcL
      rw [if_pos okG_no]
      simp only [h1, ftYes, h2]
      rw [e]
      simp
    · rcases List.mem_cons.mp hx with hx | hx
      · rw [hx]; exact h4
      · exact g3 x hx
theorem pureMap {α : Type} (f : α → D) (xs : List α) : pure? (xs.map fun x => W.d (f x)) = some (xs.map f) := by
  have e : (xs.map fun x => W.d (f x)) = (xs.map f).map W.d := by simp
  rw [e, pure?_map]
theorem boolsMap {α : Type} (f : α → Bool) (xs : List α) : bools? (xs.map fun x => W.d (.bl (f x))) = some (xs.map f) := by
  induction xs with
  | nil => rfl
  | cons x xs ih =>
    show (bools? (xs.map fun x => W.d (.bl (f x)))).map _ = _
    rw [ih]; rfl

theorem dLc_map {α : Type} {fi : FI} {tf : Tg} {fe : FE} {vs : List Nat} {δ : DEnv} {S : Store} {xs : List α} {wf : α → W} {f : α → D} (hi : fi δ S = some (.ok (xs.map wf, none), S)) (hl : xs.length ≤ 1000)
    (h : ∀ x ∈ xs, ∃ δ1, tf (wf x) (wipeE δ vs) S = some (δ1, S) ∧ fe δ1 S = some (.ok (.d (f x)), S)) : dLc lcF fi tf ftYes fe vs δ S = some (.ok (.d (.lst (xs.map f))), S) := by
  have hz : (xs.map wf).length ≤ sizeLine := by simp; exact Nat.le_trans hl (by decide)
  have e : ∀ (ys : List α) (acc : List W), (∀ x ∈ ys, x ∈ xs) → lcL tf ftYes fe none (wipeE δ vs) (ys.map wf) S acc = some (.ok (acc ++ ys.map fun x => W.d (f x)), S) := by
    intro ys
    induction ys with
    | nil => intro acc _; show lcL tf ftYes fe none (wipeE δ vs) [] S acc = _; unfold lcL; rw [if_pos okG_no]; simp
    | cons y ys ih =>
      intro acc hm
      obtain ⟨δ1, h1, h2⟩ := h y (hm y List.mem_cons_self)
      show lcL tf ftYes fe none (wipeE δ vs) (wf y :: ys.map wf) S acc = _
      unfold lcL
      rw [if_pos okG_no]
      simp only [h1, ftYes, h2]
      rw [ih _ fun x hx => hm x (List.mem_cons_of_mem _ hx)]
      simp
  unfold dLc
  rw [hi, bind_ok]
  dsimp only
  rw [if_pos hz, e xs [] fun _ h => h, bind_ok, List.nil_append]
  unfold lcF
  rw [pureMap]
/-! ### fractions in lowest terms -/
/-- of so many bits -/
def Bd (n : Nat) (i : Int) : Prop := i.natAbs < 2 ^ n
instance (n : Nat) (i : Int) : Decidable (Bd n i) := by unfold Bd; infer_instance
theorem Bd.up {n m : Nat} {i : Int} (h : Bd n i) (hm : n ≤ m) : Bd m i := Nat.lt_of_lt_of_le h (Nat.pow_le_pow_right (by decide) hm)
theorem Bd.mul {n m : Nat} {i j : Int} (h : Bd n i) (h2 : Bd m j) : Bd (n + m) (i * j) := wide_lt h h2
theorem Bd.add {n : Nat} {i j : Int} (h : Bd n i) (h2 : Bd n j) : Bd (n + 1) (i + j) := by
  have h1 := Int.natAbs_add_le i j
  unfold Bd at *
  rw [Nat.pow_succ]
  omega
theorem Bd.neg {n : Nat} {i : Int} (h : Bd n i) : Bd n (-i) := by unfold Bd at *; rw [Int.natAbs_neg]; exact h
theorem Bd.sub {n : Nat} {i j : Int} (h : Bd n i) (h2 : Bd n j) : Bd (n + 1) (i - j) := by rw [Int.sub_eq_add_neg]; exact h.add h2.neg
theorem Bd.le {n : Nat} {i j : Int} (h : Bd n j) (h1 : i.natAbs ≤ j.natAbs) : Bd n i := Nat.lt_of_le_of_lt h1 h
theorem Bd.mulOk {n m : Nat} {i j : Int} (h : Bd n i) (h2 : Bd m j) (h0 : 0 < n := by decide) (h1 : 0 < m := by decide) (h3 : n + m ≤ 1000000 := by decide) : CMulW i j := wide_mul h h2 h0 h1 h3
def gcd (a b : Int) : Int := (Int.gcd a b : Int)
def low (t b : Int) : Int × Int := (t / gcd t b, b / gcd t b)
def Fr (p : Int × Int) : Prop := 0 < p.2 ∧ Int.gcd p.1 p.2 = 1
def encF (p : Int × Int) : D := .tup [.int p.1, .int p.2]
theorem gcd_pos {t b : Int} (h : 0 < b) : 0 < gcd t b := by
  have : 0 < Int.gcd t b := Int.gcd_pos_of_ne_zero_right t (by omega)
  unfold gcd; omega
theorem gcd_le {t b : Int} (h : 0 < b) : gcd t b ≤ b := Int.le_of_dvd h (Int.gcd_dvd_right t b)
theorem low_pos {t b : Int} (h : 0 < b) : 0 < (low t b).2 := by
  have h1 : (low t b).2 * gcd t b = b := Int.ediv_mul_cancel (Int.gcd_dvd_right t b)
  have h2 := gcd_pos (t := t) h
  rcases Int.lt_trichotomy (low t b).2 0 with h3 | h3 | h3
  · have := Int.mul_neg_of_neg_of_pos h3 h2; omega
  · rw [h3] at h1; omega
  · exact h3
theorem low_fr {t b : Int} (h : 0 < b) : Fr (low t b) := ⟨low_pos h, Int.gcd_ediv_gcd_ediv_gcd (Int.gcd_pos_of_ne_zero_right t (by omega))⟩
theorem low_mul {t b : Int} : (low t b).1 * b = t * (low t b).2 := by
  have h1 : (low t b).2 * gcd t b = b := Int.ediv_mul_cancel (Int.gcd_dvd_right t b)
  have h2 : (low t b).1 * gcd t b = t := Int.ediv_mul_cancel (Int.gcd_dvd_left t b)
  calc (low t b).1 * b = (low t b).1 * ((low t b).2 * gcd t b) := by rw [h1]
    _ = ((low t b).1 * gcd t b) * (low t b).2 := by grind
    _ = t * (low t b).2 := by rw [h2]
theorem fr_uniq {p q : Int × Int} (hp : Fr p) (hq : Fr q) (e : p.1 * q.2 = q.1 * p.2) : p = q := by
  have cop : ∀ {a b c : Int}, Int.gcd a b = 1 → b ∣ a * c → b ∣ c := fun {a b c} h hd => by
    have h1 : b.natAbs ∣ a.natAbs * c.natAbs := by rw [← Int.natAbs_mul]; exact Int.natAbs_dvd_natAbs.mpr hd
    have h2 : Nat.Coprime b.natAbs a.natAbs := by
      have : Nat.gcd a.natAbs b.natAbs = 1 := h
      rw [Nat.Coprime, Nat.gcd_comm]; exact this
    exact Int.natAbs_dvd_natAbs.mp (Nat.Coprime.dvd_of_dvd_mul_left h2 h1)
  have d1 : p.2 ∣ q.2 := cop hp.2 ⟨q.1, by rw [e]; exact Int.mul_comm _ _⟩
  have d2 : q.2 ∣ p.2 := cop hq.2 ⟨p.1, by rw [← e]; exact Int.mul_comm _ _⟩
  have e2 : p.2 = q.2 := Int.dvd_antisymm (by have := hp.1; omega) (by have := hq.1; omega) d1 d2
  have e1 : p.1 = q.1 := by
    rw [e2] at e
    exact Int.eq_of_mul_eq_mul_right (by have := hq.1; omega) e
  exact Prod.ext e1 e2
theorem low_id {p : Int × Int} (h : Fr p) : low p.1 p.2 = p := fr_uniq (low_fr h.1) h low_mul
theorem low_eq {t b t' b' : Int} (h : 0 < b) (h' : 0 < b') (e : t * b' = t' * b) : low t b = low t' b' := by
  refine fr_uniq (low_fr h) (low_fr h') ?_
  have e1 : (low t b).1 * b = t * (low t b).2 := low_mul
  have e2 : (low t' b').1 * b' = t' * (low t' b').2 := low_mul
  have e3 : ((low t b).1 * (low t' b').2) * (b * b') = ((low t' b').1 * (low t b).2) * (b * b') := by
    calc ((low t b).1 * (low t' b').2) * (b * b') = ((low t b).1 * b) * ((low t' b').2 * b') := by grind
      _ = (t * b') * ((low t b).2 * (low t' b').2) := by rw [e1]; grind
      _ = (t' * b) * ((low t b).2 * (low t' b').2) := by rw [e]
      _ = (t' * (low t' b').2) * ((low t b).2 * b) := by grind
      _ = ((low t' b').1 * b') * ((low t b).2 * b) := by rw [e2]
      _ = ((low t' b').1 * (low t b).2) * (b * b') := by grind
  exact Int.eq_of_mul_eq_mul_right (by have := Int.mul_pos h h'; omega) e3
theorem low_bd {t b : Int} {n m : Nat} (h1 : Bd n t) (h2 : Bd m b) : Bd n (low t b).1 ∧ Bd m (low t b).2 := ⟨h1.le (Int.natAbs_ediv_le_natAbs _ _), h2.le (Int.natAbs_ediv_le_natAbs _ _)⟩
theorem gcd_div {t b : Int} {n : Nat} (h : 0 < b) (hb : Bd n b) (h0 : 0 < n := by decide) (h9 : n ≤ 9000 := by decide) (i : Int) : CDivW i (gcd t b) := by
  refine wide_div (gcd_pos h) ?_ h0 h9
  have h1 := gcd_pos (t := t) h
  have h2 := gcd_le (t := t) h
  exact hb.le (by omega)
/-! ### the loop of remainders -/
def gcdT (i j : Nat) : FT := dB (d2 oGt (dVar j) (dC (.int 0)))
theorem gcd_loop {S : Store} : ∀ (n : Nat) (a b : Nat), b ≤ n → whileN (dB (d2 oGt (dVar 1) (dC (.int 0)))) (sPar 0 1 (dVar 1) (d2 oMod (dVar 0) (dVar 1))) (n + 1) [some (.d (.int a)), some (.d (.int b))] S = some (.ok (.nx [some (.d (.int (Nat.gcd a b : Nat))), some (.d (.int 0))]), S)
  | n, a, 0, _ => by simp [whileN, sE, dB, d2, dVar, dC, Rs.bind, oI0, asB]
  | 0, a, b + 1, h => by omega
  | n + 1, a, b + 1, h => by
    have hlt : a % (b + 1) < b + 1 := Nat.mod_lt a (by omega)
    have ih := gcd_loop (S := S) n (b + 1) (a % (b + 1)) (by omega)
    have hpos : (0 : Int) < ((b + 1 : Nat) : Int) := by omega
    rw [whileN]
    have e1 : (dB (d2 oGt (dVar 1) (dC (.int 0)))) [some (.d (.int (a : Int))), some (.d (.int ((b + 1 : Nat) : Int)))] S = some (.ok true, S) := by
      simp only [dB, d2, dVar, dC, Rs.bind, oI0, asB, List.getElem?_cons_succ, List.getElem?_cons_zero, decide_eq_true hpos]
    rw [e1]
    have e2 : sPar 0 1 (dVar 1) (d2 oMod (dVar 0) (dVar 1)) [some (.d (.int (a : Int))), some (.d (.int ((b + 1 : Nat) : Int)))] S = some (.ok (.nx [some (.d (.int ((b + 1 : Nat) : Int))), some (.d (.int ((a % (b + 1) : Nat) : Int)))]), S) := by
      simp only [sPar, sE, d2, dVar, Rs.bind, List.getElem?_cons_succ, List.getElem?_cons_zero, oII_eq (C := fun _ j => 0 < j) hpos, List.set_cons_zero, List.set_cons_succ]
      rfl
    simp only [sE, if_true, e2]
    rw [ih]
    have e3 : Nat.gcd (b + 1) (a % (b + 1)) = Nat.gcd a (b + 1) := by rw [Nat.gcd_comm, ← Nat.gcd_rec, Nat.gcd_comm]
    rw [e3]
theorem gcd_while {S : Store} (a b : Nat) : dWhile (dB (d2 oGt (dVar 1) (dC (.int 0)))) (sPar 0 1 (dVar 1) (d2 oMod (dVar 0) (dVar 1))) [some (.d (.int a)), some (.d (.int b))] S = some (.ok (.nx [some (.d (.int (Nat.gcd a b : Nat))), some (.d (.int 0))]), S) :=
  dWhile_of (gcd_loop b a b (Nat.le_refl b))
theorem abs_nat (i : Int) : (if i < 0 then -i else i) = (i.natAbs : Int) := by split <;> omega
end DL
set_option Elab.async false
set_option linter.all false
set_option maxRecDepth 100000
set_option maxHeartbeats 1000000
/-! DL11: small reckonings: written tuples and lists, items, lengths, the law's state. -/
namespace DL
open PySem L2
section
variable {S : Store} {a b c d e : D}
theorem mkTup1 : mkTup [.d a] S = some (.ok (.d (.tup [a])), S) := rfl
theorem mkTup2 : mkTup [.d a, .d b] S = some (.ok (.d (.tup [a, b])), S) := rfl
theorem mkTup3 : mkTup [.d a, .d b, .d c] S = some (.ok (.d (.tup [a, b, c])), S) := rfl
theorem mkTup4 : mkTup [.d a, .d b, .d c, .d d] S = some (.ok (.d (.tup [a, b, c, d])), S) := rfl
theorem mkLst2 : mkLst [.d a, .d b] S = some (.ok (.d (.lst [a, b])), S) := rfl
theorem mkLst3 : mkLst [.d a, .d b, .d c] S = some (.ok (.d (.lst [a, b, c])), S) := rfl
theorem mkLst4 : mkLst [.d a, .d b, .d c, .d d] S = some (.ok (.d (.lst [a, b, c, d])), S) := rfl
theorem mkLst5 : mkLst [.d a, .d b, .d c, .d d, .d e] S = some (.ok (.d (.lst [a, b, c, d, e])), S) := rfl
theorem ix20 : oIx (.d (.tup [a, b])) (.d (.int 0)) S = some (.ok (.d a), S) := rfl
theorem ix21 : oIx (.d (.tup [a, b])) (.d (.int 1)) S = some (.ok (.d b), S) := rfl
theorem ixF0 {p : Int × Int} : oIx (.d (encF p)) (.d (.int 0)) S = some (.ok (.d (.int p.1)), S) := rfl
theorem ixF1 {p : Int × Int} : oIx (.d (encF p)) (.d (.int 1)) S = some (.ok (.d (.int p.2)), S) := rfl
theorem len_tup {ds : List D} : oLen (.d (.tup ds)) S = some (.ok (.d (.int (ds.length : Int))), S) := by simp [oLen, seqW]
theorem len_lst {ds : List D} : oLen (.d (.lst ds)) S = some (.ok (.d (.int (ds.length : Int))), S) := by simp [oLen, seqW]
theorem ty_int {i : Int} : tyN S (.d (.int i)) = some "int" := rfl
theorem ty_bl {i : Bool} : tyN S (.d (.bl i)) = some "bool" := rfl
theorem ty_str {i : Str} : tyN S (.d (.str i)) = some "str" := rfl
theorem ty_non : tyN S (.d .non) = some "NoneType" := rfl
theorem ty_tup {i : List D} : tyN S (.d (.tup i)) = some "tuple" := rfl
theorem ty_lst {i : List D} : tyN S (.d (.lst i)) = some "list" := rfl
theorem lenF {p : Int × Int} : oLen (.d (encF p)) S = some (.ok (.d (.int 2)), S) := rfl
theorem tyF {p : Int × Int} : tyN S (.d (encF p)) = some "tuple" := rfl
theorem dSeq_tup {f : FE} {δ : DEnv} {S1 : Store} {ds : List D} (h : f δ S = some (.ok (.d (.tup ds)), S1)) : dSeq f δ S = some (.ok (ds.map W.d, none), S1) := by
  unfold dSeq; rw [h]; rfl
theorem dSeq_lst {f : FE} {δ : DEnv} {S1 : Store} {ds : List D} (h : f δ S = some (.ok (.d (.lst ds)), S1)) : dSeq f δ S = some (.ok (ds.map W.d, none), S1) := by
  unfold dSeq; rw [h]; rfl
theorem tuple_lst {ds : List D} : oTuple (.d (.lst ds)) S = some (.ok (.d (.tup ds)), S) := by simp [oTuple, seqW, pure?_map]
theorem list_lst {ds : List D} : oList (.d (.lst ds)) S = some (.ok (.d (.lst ds)), S) := by simp [oList, seqW, pure?_map]
theorem all_lst {α : Type} (f : α → Bool) (xs : List α) : oAll (.d (.lst (xs.map fun x => D.bl (f x)))) S = some (.ok (.d (.bl (xs.all f))), S) := by
  have e : List.map W.d (xs.map fun x => D.bl (f x)) = xs.map fun x => W.d (.bl (f x)) := by simp
  simp only [oAll, seqW, e, boolsMap]
  congr 4
  simp [List.all_map, Function.comp_def]
end
theorem oMul_eq {S : Store} {i j : Int} (h : CMulW i j) : oMul (.d (.int i)) (.d (.int j)) S = some (.ok (.d (.int (i * j))), S) := oII_eq h
theorem oDiv_eq {S : Store} {i j : Int} (h : CDivW i j) : oDiv (.d (.int i)) (.d (.int j)) S = some (.ok (.d (.int (i / j))), S) := oII_eq h
theorem oMod_eq {S : Store} {i j : Int} (h : 0 < j) : oMod (.d (.int i)) (.d (.int j)) S = some (.ok (.d (.int (i % j))), S) := oII_eq (C := fun _ j => 0 < j) h
theorem oPow_eq {S : Store} {i j : Int} (h : CPow i j) : oPow (.d (.int i)) (.d (.int j)) S = some (.ok (.d (.int (i ^ j.toNat))), S) := oII_eq h
theorem bd_nn {n : Nat} {i : Int} (h : 0 ≤ i) (h2 : i < 2 ^ n) : Bd n i := by
  have e : ((2 ^ n : Nat) : Int) = 2 ^ n := by simp
  unfold Bd
  omega
theorem pl_encF (p : Int × Int) : Pl 1 (encF p) := pl_tup fun d hd => by
  simp at hd
  rcases hd with rfl | rfl
  · exact pl_int _
  · exact pl_int _
theorem oEqF {S : Store} {p : Int × Int} : oEq (.d (encF p)) (.d (encF p)) S = some (.ok (.d (.bl true)), S) := oEq_refl (pl_encF p) (by decide)
/-- a unit -/
def encU (us : List (Int × Int)) : D := .tup (us.map encF)
theorem pl_encU (us : List (Int × Int)) : Pl 2 (encU us) := pl_tup fun d hd => by
  obtain ⟨p, _, rfl⟩ := List.mem_map.mp hd
  exact pl_encF p
theorem oEqU {S : Store} {us : List (Int × Int)} : oEq (.d (encU us)) (.d (encU us)) S = some (.ok (.d (.bl true)), S) := oEq_refl (pl_encU us) (by decide)
theorem oNeU {S : Store} {us : List (Int × Int)} : oNe (.d (encU us)) (.d (encU us)) S = some (.ok (.d (.bl false)), S) := oNe_refl (pl_encU us) (by decide)
theorem lenU {S : Store} {us : List (Int × Int)} : oLen (.d (encU us)) S = some (.ok (.d (.int (us.length : Int))), S) := by unfold encU; rw [len_tup]; simp
theorem tyU {S : Store} {us : List (Int × Int)} : tyN S (.d (encU us)) = some "tuple" := rfl
theorem seqU {f : FE} {δ : DEnv} {S S1 : Store} {us : List (Int × Int)} (h : f δ S = some (.ok (.d (encU us)), S1)) : dSeq f δ S = some (.ok (us.map fun p => W.d (encF p), none), S1) := by
  rw [dSeq_tup (ds := us.map encF) h]; simp
theorem zipU {S : Store} {us vs : List (Int × Int)} : oZip [.d (encU us), .d (encU vs)] S = some (.ok ((us.zip vs).map fun p => W.d (.tup [encF p.1, encF p.2]), none), S) := by
  show some (Except.ok (zipD (us.map encF) (vs.map encF), none), S) = _
  simp [zipD, List.zip_map]
/-- a fraction of so many bits -/
structure FrB (n : Nat) (p : Int × Int) : Prop where
  fr : Fr p
  b1 : Bd n p.1
  b2 : Bd n p.2
theorem FrB.up {n m : Nat} {p : Int × Int} (h : FrB n p) (hm : n ≤ m) : FrB m p := ⟨h.fr, h.b1.up hm, h.b2.up hm⟩
def fplus (x y : Int × Int) : Int × Int := low (x.1 * y.2 + y.1 * x.2) (x.2 * y.2)
def fminus (x y : Int × Int) : Int × Int := low (x.1 * y.2 - y.1 * x.2) (x.2 * y.2)
def ftimes (x y : Int × Int) : Int × Int := low (x.1 * y.1) (x.2 * y.2)
theorem pos2 {x y : Int × Int} (hx : Fr x) (hy : Fr y) : 0 < x.2 * y.2 := Int.mul_pos hx.1 hy.1
theorem fplus_ok {n m : Nat} {x y : Int × Int} (hx : FrB n x) (hy : FrB m y) : FrB (n + m + 1) (fplus x y) := by
  have h := low_bd (t := x.1 * y.2 + y.1 * x.2) (b := x.2 * y.2) ((hx.b1.mul hy.b2).add (by have := hy.b1.mul hx.b2; rwa [Nat.add_comm] at this)) ((hx.b2.mul hy.b2).up (Nat.le_succ _))
  exact ⟨low_fr (pos2 hx.fr hy.fr), h.1, h.2⟩
theorem fminus_ok {n m : Nat} {x y : Int × Int} (hx : FrB n x) (hy : FrB m y) : FrB (n + m + 1) (fminus x y) := by
  have h := low_bd (t := x.1 * y.2 - y.1 * x.2) (b := x.2 * y.2) ((hx.b1.mul hy.b2).sub (by have := hy.b1.mul hx.b2; rwa [Nat.add_comm] at this)) ((hx.b2.mul hy.b2).up (Nat.le_succ _))
  exact ⟨low_fr (pos2 hx.fr hy.fr), h.1, h.2⟩
theorem ftimes_ok {n m : Nat} {x y : Int × Int} (hx : FrB n x) (hy : FrB m y) : FrB (n + m) (ftimes x y) := by
  have h := low_bd (t := x.1 * y.1) (b := x.2 * y.2) (hx.b1.mul hy.b1) (hx.b2.mul hy.b2)
  exact ⟨low_fr (pos2 hx.fr hy.fr), h.1, h.2⟩
def fneg (x : Int × Int) : Int × Int := (-x.1, x.2)
theorem fneg_ok {n : Nat} {x : Int × Int} (h : FrB n x) : FrB n (fneg x) := ⟨⟨h.fr.1, by rw [← h.fr.2]; exact Int.neg_gcd⟩, h.b1.neg, h.b2⟩
theorem fplus_fneg (x y : Int × Int) : fplus x (fneg y) = fminus x y := by
  unfold fplus fminus fneg
  have e : x.1 * y.2 + -y.1 * x.2 = x.1 * y.2 - y.1 * x.2 := by grind
  rw [e]
theorem fminus_fplus {x y : Int × Int} (hx : Fr x) (hy : Fr y) : fminus (fplus x y) y = x := by
  have h1 : (fplus x y).1 * (x.2 * y.2) = (x.1 * y.2 + y.1 * x.2) * (fplus x y).2 := low_mul
  have hp : 0 < (fplus x y).2 := low_pos (pos2 hx hy)
  have e : fminus (fplus x y) y = low x.1 x.2 := by
    unfold fminus
    refine low_eq (Int.mul_pos hp hy.1) hx.1 ?_
    generalize fplus x y = p at *
    have h2 := pos2 hx hy
    have hy0 : y.2 ≠ 0 := by have := hy.1; omega
    refine Int.eq_of_mul_eq_mul_right hy0 ?_
    grind
  exact e.trans (low_id hx)
theorem fplus_comm (x y : Int × Int) : fplus x y = fplus y x := by
  unfold fplus
  rw [Int.add_comm, Int.mul_comm x.2]
theorem fminus_fplus' {x y : Int × Int} (hx : Fr x) (hy : Fr y) : fminus (fplus x y) x = y := by rw [fplus_comm]; exact fminus_fplus hy hx
theorem ftimes_two {x : Int × Int} (hx : Fr x) : ftimes x (2, 1) = fplus x x := by
  unfold ftimes fplus
  refine low_eq (by have := hx.1; simpa using this) (pos2 hx hx) ?_
  grind
theorem ftimes_three {x : Int × Int} (hx : Fr x) : ftimes x (3, 1) = fplus (fplus x x) x := by
  have h1 : (fplus x x).1 * (x.2 * x.2) = (x.1 * x.2 + x.1 * x.2) * (fplus x x).2 := low_mul
  have hp : 0 < (fplus x x).2 := low_pos (pos2 hx hx)
  show low (x.1 * 3) (x.2 * 1) = low ((fplus x x).1 * x.2 + x.1 * (fplus x x).2) ((fplus x x).2 * x.2)
  refine low_eq (by have := hx.1; simpa using this) (Int.mul_pos hp hx.1) ?_
  generalize fplus x x = p at *
  grind
theorem ftimes_neg {x : Int × Int} (hx : Fr x) : ftimes x (-1, 1) = fminus (fminus x x) x := by
  have h1 : (fminus x x).1 * (x.2 * x.2) = (x.1 * x.2 - x.1 * x.2) * (fminus x x).2 := low_mul
  have hp : 0 < (fminus x x).2 := low_pos (pos2 hx hx)
  have h0 : (fminus x x).1 = 0 := by
    rw [Int.sub_self, Int.zero_mul] at h1
    have h2 := pos2 hx hx
    rcases Int.mul_eq_zero.mp h1 with z | z
    · exact z
    · omega
  show low (x.1 * -1) (x.2 * 1) = low ((fminus x x).1 * x.2 - x.1 * (fminus x x).2) ((fminus x x).2 * x.2)
  refine low_eq (by have := hx.1; simpa using this) (Int.mul_pos hp hx.1) ?_
  rw [h0]
  generalize fminus x x = p at *
  grind
/-! units -/
def uplus (us vs : List (Int × Int)) : List (Int × Int) := (us.zip vs).map fun p => fplus p.1 p.2
def uminus (us vs : List (Int × Int)) : List (Int × Int) := (us.zip vs).map fun p => fminus p.1 p.2
def utimes (us : List (Int × Int)) (q : Int × Int) : List (Int × Int) := us.map fun p => ftimes p q
/-- one to three exponents of so many bits -/
structure UnB (n : Nat) (us : List (Int × Int)) : Prop where
  fr : ∀ p ∈ us, FrB n p
  l1 : 1 ≤ us.length
  l3 : us.length ≤ 3
theorem UnB.frs {n : Nat} {us : List (Int × Int)} (h : UnB n us) : ∀ p ∈ us, Fr p := fun p hp => (h.fr p hp).fr
theorem zip_mem {n m : Nat} {us vs : List (Int × Int)} (h : UnB n us) (g : UnB m vs) {p : (Int × Int) × (Int × Int)} (hp : p ∈ us.zip vs) : FrB n p.1 ∧ FrB m p.2 := by
  obtain ⟨a, b⟩ := p
  have := List.of_mem_zip hp
  exact ⟨h.fr a this.1, g.fr b this.2⟩
theorem uplus_len {us vs : List (Int × Int)} (hl : us.length = vs.length) : (uplus us vs).length = us.length := by simp [uplus, hl]
theorem uminus_len {us vs : List (Int × Int)} (hl : us.length = vs.length) : (uminus us vs).length = us.length := by simp [uminus, hl]
theorem uplus_ok {n m : Nat} {us vs : List (Int × Int)} (h : UnB n us) (g : UnB m vs) (hl : us.length = vs.length) : UnB (n + m + 1) (uplus us vs) :=
  ⟨fun p hp => by obtain ⟨q, hq, rfl⟩ := List.mem_map.mp hp; have := zip_mem h g hq; exact fplus_ok this.1 this.2, by rw [uplus_len hl]; exact h.l1, by rw [uplus_len hl]; exact h.l3⟩
theorem uminus_ok {n m : Nat} {us vs : List (Int × Int)} (h : UnB n us) (g : UnB m vs) (hl : us.length = vs.length) : UnB (n + m + 1) (uminus us vs) :=
  ⟨fun p hp => by obtain ⟨q, hq, rfl⟩ := List.mem_map.mp hp; have := zip_mem h g hq; exact fminus_ok this.1 this.2, by rw [uminus_len hl]; exact h.l1, by rw [uminus_len hl]; exact h.l3⟩
theorem utimes_ok {n m : Nat} {us : List (Int × Int)} {q : Int × Int} (h : UnB n us) (g : FrB m q) : UnB (n + m) (utimes us q) :=
  ⟨fun p hp => by obtain ⟨r, hr, rfl⟩ := List.mem_map.mp hp; exact ftimes_ok (h.fr r hr) g, by simpa [utimes] using h.l1, by simpa [utimes] using h.l3⟩
theorem uneg_ok {n : Nat} {us : List (Int × Int)} (h : UnB n us) : UnB n (us.map fneg) :=
  ⟨fun p hp => by obtain ⟨r, hr, rfl⟩ := List.mem_map.mp hp; exact fneg_ok (h.fr r hr), by simpa using h.l1, by simpa using h.l3⟩
theorem uminus_uplus {us vs : List (Int × Int)} (hu : ∀ p ∈ us, Fr p) (hv : ∀ p ∈ vs, Fr p) (hl : us.length = vs.length) : uminus (uplus us vs) vs = us ∧ uminus (uplus us vs) us = vs := by
  induction us generalizing vs with
  | nil => cases vs with
    | nil => exact ⟨rfl, rfl⟩
    | cons v vs => simp at hl
  | cons u us ih => cases vs with
    | nil => simp at hl
    | cons v vs =>
      obtain ⟨h1, h2⟩ := ih (fun p hp => hu p (List.mem_cons_of_mem _ hp)) (fun p hp => hv p (List.mem_cons_of_mem _ hp)) (by simpa using hl)
      have a := hu u List.mem_cons_self
      have b := hv v List.mem_cons_self
      exact ⟨by show fminus (fplus u v) v :: uminus (uplus us vs) vs = _; rw [h1, fminus_fplus a b], by show fminus (fplus u v) u :: uminus (uplus us vs) us = _; rw [h2, fminus_fplus' a b]⟩
theorem uplus_uneg (us vs : List (Int × Int)) : uplus us (vs.map fneg) = uminus us vs := by
  unfold uplus uminus
  rw [List.zip_map_right, List.map_map]
  refine List.map_congr_left fun p _ => ?_
  exact fplus_fneg p.1 p.2
theorem self_zip {α β : Type} (f : α × α → β) (us : List α) : (us.zip us).map f = us.map fun u => f (u, u) := by
  induction us with
  | nil => rfl
  | cons u us ih => simp [ih]
theorem utimes_two {us : List (Int × Int)} (h : ∀ p ∈ us, Fr p) : utimes us (2, 1) = uplus us us := by
  unfold utimes uplus
  rw [self_zip]
  exact List.map_congr_left fun p hp => ftimes_two (h p hp)
theorem map_self_zip {α β γ : Type} (f : β × α → γ) (g : α → β) (us : List α) : ((us.map g).zip us).map f = us.map fun u => f (g u, u) := by
  induction us with
  | nil => rfl
  | cons u us ih => simp [ih]
theorem utimes_three {us : List (Int × Int)} (h : ∀ p ∈ us, Fr p) : utimes us (3, 1) = uplus (uplus us us) us := by
  have e : uplus us us = us.map fun u => fplus u u := by unfold uplus; rw [self_zip]
  rw [e]
  unfold utimes uplus
  rw [map_self_zip]
  exact List.map_congr_left fun p hp => ftimes_three (h p hp)
theorem utimes_neg {us : List (Int × Int)} (h : ∀ p ∈ us, Fr p) : utimes us (-1, 1) = uminus (uminus us us) us := by
  have e : uminus us us = us.map fun u => fminus u u := by unfold uminus; rw [self_zip]
  rw [e]
  unfold utimes uminus
  rw [map_self_zip]
  exact List.map_congr_left fun p hp => ftimes_neg (h p hp)
theorem ixU {S : Store} {us : List (Int × Int)} {k : Nat} (h : k < us.length) : oIx (.d (encU us)) (.d (.int (k : Int))) S = some (.ok (.d (encF us[k])), S) := by
  have e : atI (List.map W.d (us.map encF)) (k : Int) = some (W.d (encF us[k])) := atI_nat (by simp [h])
  simp only [oIx, encU, seqW, e]
theorem map_range_zip {β : Type} (f : Int × Int → Int × Int → β) (us vs : List (Int × Int)) (hl : us.length = vs.length) (z : Int × Int) : ((List.range us.length).map fun k => f (us.getD k z) (vs.getD k z)) = (us.zip vs).map fun p => f p.1 p.2 := by
  refine List.ext_getElem (by simp [hl]) fun i h1 h2 => ?_
  simp at h1
  simp [List.getD, h1, show i < vs.length by omega]
/-- the law's state: the script, how far it is, what a great number leaves, the mixed number -/
def encSt (ns : List Int) (pos big num : Int) : M := .lst [.d (.lst (ns.map D.int)), .d (.int pos), .d (.int big), .d (.int num)]
/-- a state of the law's -/
def DrSt (m : M) : Prop := ∃ (ns : List Int) (pos : Nat) (big num : Int), m = encSt ns pos big num ∧ pos ≤ ns.length ∧ 0 ≤ big ∧ 0 ≤ num ∧ num < 2 ^ 32 ∧ ns.length ≤ 63
theorem st_below {n : Nat} {ns : List Int} {pos big num : Int} : mBelow n (encSt ns pos big num) := by
  intro w hw
  simp at hw
  rcases hw with rfl | rfl | rfl | rfl <;> trivial
theorem DrSt.below {n : Nat} {m : M} (h : DrSt m) : mBelow n m := by
  obtain ⟨ns, pos, big, num, rfl, _⟩ := h
  exact st_below
section
variable {T : Store} {ns : List Int} {pos big num : Int}
theorem giveS_st {ns' : List Int} {x : D} {p b n : Int} : giveS (encSt ns pos big num :: T) (.d x) (encSt ns' p b n :: T) = some (.ok (.d x), encSt ns' p b n :: T) := giveS_hd0 st_below
theorem st0 : oIx (.loc 0) (.d (.int 0)) (encSt ns pos big num :: T) = some (.ok (.d (.lst (ns.map D.int))), encSt ns pos big num :: T) := rfl
theorem st1 : oIx (.loc 0) (.d (.int 1)) (encSt ns pos big num :: T) = some (.ok (.d (.int pos)), encSt ns pos big num :: T) := rfl
theorem st2 : oIx (.loc 0) (.d (.int 2)) (encSt ns pos big num :: T) = some (.ok (.d (.int big)), encSt ns pos big num :: T) := rfl
theorem st3 : oIx (.loc 0) (.d (.int 3)) (encSt ns pos big num :: T) = some (.ok (.d (.int num)), encSt ns pos big num :: T) := rfl
theorem se1 {i : Int} : setAt (.loc 0) (.d (.int 1)) (.d (.int i)) (encSt ns pos big num :: T) = some (encSt ns i big num :: T) := rfl
theorem se2 {i : Int} : setAt (.loc 0) (.d (.int 2)) (.d (.int i)) (encSt ns pos big num :: T) = some (encSt ns pos i num :: T) := rfl
theorem se3 {i : Int} : setAt (.loc 0) (.d (.int 3)) (.d (.int i)) (encSt ns pos big num :: T) = some (encSt ns pos big i :: T) := rfl
end
theorem ix_ints {S : Store} {ns : List Int} {p : Nat} (h : p < ns.length) : oIx (.d (.lst (ns.map D.int))) (.d (.int (p : Int))) S = some (.ok (.d (.int (ns[p]))), S) := by
  have e : atI (List.map W.d (ns.map D.int)) (p : Int) = some (W.d (.int ns[p])) := atI_nat (by simp [h])
  simp only [oIx, seqW, e]
theorem oRng1_eq {S : Store} {j : Int} (h : 0 ≤ j) (h2 : j ≤ 1000000) : oRng1 [.d (.int j)] S = some (.ok (rngW 0 j.toNat, none), S) := by
  have c : -(2 ^ 62) ≤ j ∧ j < 2 ^ 62 := by omega
  show (if -(2 ^ 62) ≤ j ∧ j < 2 ^ 62 then _ else _) = _
  rw [if_pos c]
theorem oRng1_nat {S : Store} {n : Nat} (h2 : n ≤ 1000000) : oRng1 [.d (.int (n : Int))] S = some (.ok ((List.range n).map fun (k : Nat) => W.d (.int (k : Int)), none), S) := by
  rw [oRng1_eq (by omega) (by omega)]
  have e : rngW 0 n = (List.range n).map fun (k : Nat) => W.d (.int (k : Int)) := by
    unfold rngW
    refine List.map_congr_left fun k _ => ?_
    rw [Int.zero_add]
  rw [Int.toNat_natCast, e]
end DL
set_option Elab.async false
set_option linter.all false
set_option maxRecDepth 100000
set_option maxHeartbeats 1000000
/-! DL12: loops over what is told, powers of positive fractions. -/
namespace DL
open PySem L2
/-- a loop that changes names alone: what holds after i rounds -/
theorem forL_inv {α : Type} {tf : Tg} {fb : FS} {S : Store} {wf : α → W} {P : Nat → DEnv → Prop} {xs : List α}
    (h : ∀ (i : Nat) (hi : i < xs.length) (δ : DEnv), P i δ → ∃ δ1 δ2, tf (wf xs[i]) δ S = some (δ1, S) ∧ fb δ1 S = some (.ok (.nx δ2), S) ∧ P (i + 1) δ2) :
    ∀ (k i : Nat) (δ : DEnv), i + k = xs.length → P i δ → ∃ δ', forL tf fb none ((xs.drop i).map wf) δ S = some (.ok (.nx δ'), S) ∧ P xs.length δ' := by
  intro k
  induction k with
  | zero =>
    intro i δ hi hp
    have e : xs.drop i = [] := List.drop_eq_nil_of_le (by omega)
    refine ⟨δ, ?_, by have : i = xs.length := by omega
                      rwa [this] at hp⟩
    rw [e]
    show forL tf fb none [] δ S = _
    unfold forL
    rw [if_pos okG_no]
  | succ k ih =>
    intro i δ hi hp
    have hlt : i < xs.length := by omega
    obtain ⟨δ1, δ2, h1, h2, h3⟩ := h i hlt δ hp
    obtain ⟨δ', e, hf⟩ := ih (i + 1) δ2 (by omega) h3
    refine ⟨δ', ?_, hf⟩
    rw [List.drop_eq_getElem_cons hlt]
    show forL tf fb none (wf xs[i] :: (xs.drop (i + 1)).map wf) δ S = _
    unfold forL
    rw [if_pos okG_no]
    simp only [h1, h2]
    exact e
theorem dFor_inv {α : Type} {fi : FI} {tf : Tg} {fb : FS} {S : Store} {wf : α → W} {P : Nat → DEnv → Prop} {xs : List α} {δ : DEnv} (hi : fi δ S = some (.ok (xs.map wf, none), S))
    (h : ∀ (i : Nat) (hi : i < xs.length) (δ : DEnv), P i δ → ∃ δ1 δ2, tf (wf xs[i]) δ S = some (δ1, S) ∧ fb δ1 S = some (.ok (.nx δ2), S) ∧ P (i + 1) δ2) (h0 : P 0 δ) :
    ∃ δ', dFor fi tf fb δ S = some (.ok (.nx δ'), S) ∧ P xs.length δ' := by
  obtain ⟨δ', e, hp⟩ := forL_inv (tf := tf) (fb := fb) (wf := wf) h xs.length 0 δ (by omega) h0
  refine ⟨δ', ?_, hp⟩
  unfold dFor
  rw [hi, sE_ok]
  exact e
/-! ### powers -/
theorem Bd.pow {n : Nat} {i : Int} (h : Bd n i) (m : Nat) : Bd (n * m + 1) (i ^ m) := by
  unfold Bd at *
  rw [Int.natAbs_pow]
  have h1 : i.natAbs ^ m ≤ (2 ^ n) ^ m := Nat.pow_le_pow_left (by omega) m
  rw [← Nat.pow_mul] at h1
  exact Nat.lt_of_le_of_lt h1 (Nat.pow_lt_pow_right (by decide) (by omega))
def fmul (p q : Int × Int) : Int × Int := (p.1 * q.1, p.2 * q.2)
def lo (p : Int × Int) : Int × Int := low p.1 p.2
def Pos (p : Int × Int) : Prop := 0 < p.1 ∧ 0 < p.2
def Eqv (p q : Int × Int) : Prop := p.1 * q.2 = q.1 * p.2
theorem ftimes_lo (p q : Int × Int) : ftimes p q = lo (fmul p q) := rfl
theorem Pos.mul {p q : Int × Int} (h : Pos p) (g : Pos q) : Pos (fmul p q) := ⟨Int.mul_pos h.1 g.1, Int.mul_pos h.2 g.2⟩
theorem pos_one : Pos (1, 1) := ⟨by decide, by decide⟩
theorem lo_eqv {p q : Int × Int} (h : Pos p) (g : Pos q) (e : Eqv p q) : lo p = lo q := low_eq h.2 g.2 e
theorem eqv_lo (p : Int × Int) : Eqv (lo p) p := low_mul
theorem lo_pos {p : Int × Int} (h : Pos p) : Pos (lo p) := by
  have e : (lo p).1 * p.2 = p.1 * (lo p).2 := low_mul
  have h2 : 0 < (lo p).2 := low_pos h.2
  refine ⟨?_, h2⟩
  have h3 : 0 < (lo p).1 * p.2 := by rw [e]; exact Int.mul_pos h.1 h2
  rcases Int.lt_trichotomy (lo p).1 0 with z | z | z
  · have := Int.mul_neg_of_neg_of_pos z h.2; omega
  · rw [z] at h3; omega
  · exact z
theorem Eqv.refl (p : Int × Int) : Eqv p p := rfl
theorem Eqv.symm {p q : Int × Int} (h : Eqv p q) : Eqv q p := Eq.symm h
theorem Eqv.trans {p q r : Int × Int} (hq : Pos q) (h : Eqv p q) (g : Eqv q r) : Eqv p r := by
  unfold Eqv at *
  have : (p.1 * r.2) * q.2 = (r.1 * p.2) * q.2 := by
    calc (p.1 * r.2) * q.2 = (p.1 * q.2) * r.2 := by grind
      _ = (q.1 * p.2) * r.2 := by rw [h]
      _ = (q.1 * r.2) * p.2 := by grind
      _ = (r.1 * q.2) * p.2 := by rw [g]
      _ = (r.1 * p.2) * q.2 := by grind
  exact Int.eq_of_mul_eq_mul_right (by have := hq.2; omega) this
theorem Eqv.mul {p q r s : Int × Int} (h : Eqv p q) (g : Eqv r s) : Eqv (fmul p r) (fmul q s) := by
  unfold Eqv fmul at *
  dsimp only
  calc p.1 * r.1 * (q.2 * s.2) = (p.1 * q.2) * (r.1 * s.2) := by grind
    _ = (q.1 * p.2) * (s.1 * r.2) := by rw [h, g]
    _ = q.1 * s.1 * (p.2 * r.2) := by grind
def pw (p : Int × Int) (n : Nat) : Int × Int := (p.1 ^ n, p.2 ^ n)
def sw (p : Int × Int) (k : Int) : Int × Int := if k < 0 then (p.2, p.1) else p
/-- a fraction to a power -/
def rz (p : Int × Int) (k : Int) : Int × Int := pw (sw p k) k.natAbs
theorem Pos.pow {p : Int × Int} (h : Pos p) (n : Nat) : Pos (pw p n) := ⟨Int.pow_pos h.1, Int.pow_pos h.2⟩
theorem Pos.sw {p : Int × Int} (h : Pos p) (k : Int) : Pos (sw p k) := by
  unfold DL.sw
  split
  · exact ⟨h.2, h.1⟩
  · exact h
theorem Pos.rz {p : Int × Int} (h : Pos p) (k : Int) : Pos (rz p k) := (h.sw k).pow _
theorem Eqv.pow {p q : Int × Int} (h : Eqv p q) (n : Nat) : Eqv (pw p n) (pw q n) := by
  unfold Eqv pw at *
  dsimp only
  rw [← Int.mul_pow, ← Int.mul_pow, h]
theorem Eqv.sw {p q : Int × Int} (h : Eqv p q) (k : Int) : Eqv (sw p k) (sw q k) := by
  unfold DL.sw
  split
  · unfold Eqv at *
    dsimp only
    rw [Int.mul_comm, ← h, Int.mul_comm]
  · exact h
theorem Eqv.rz {p q : Int × Int} (h : Eqv p q) (k : Int) : Eqv (rz p k) (rz q k) := (h.sw k).pow _
theorem rz_mul (p q : Int × Int) (k : Int) : rz (fmul p q) k = fmul (rz p k) (rz q k) := by
  unfold rz sw pw fmul
  split <;> simp [Int.mul_pow]
theorem rz_sub {p : Int × Int} {k : Int} {u v : Nat} (e : k = (u : Int) - (v : Int)) : Eqv (rz p k) (p.1 ^ u * p.2 ^ v, p.2 ^ u * p.1 ^ v) := by
  unfold Eqv rz sw pw
  split
  · obtain rfl : v = k.natAbs + u := by omega
    dsimp only
    rw [Int.pow_add, Int.pow_add]
    grind
  · obtain rfl : u = k.natAbs + v := by omega
    dsimp only
    rw [Int.pow_add, Int.pow_add]
    grind
theorem rz_add {p : Int × Int} (h : Pos p) (a b : Int) : Eqv (rz p (a + b)) (fmul (rz p a) (rz p b)) := by
  have key : ∀ a : Int, ∃ u v : Nat, a = (u : Int) - (v : Int) := fun a => ⟨a.toNat, (-a).toNat, by omega⟩
  obtain ⟨u, v, ha⟩ := key a
  obtain ⟨x, y, hb⟩ := key b
  have e1 := rz_sub (p := p) (k := a + b) (u := u + x) (v := v + y) (by omega)
  have e2 := Eqv.mul (rz_sub (p := p) ha) (rz_sub (p := p) hb)
  have pu : ∀ n, 0 < p.1 ^ n := fun n => Int.pow_pos h.1
  have pv : ∀ n, 0 < p.2 ^ n := fun n => Int.pow_pos h.2
  refine e1.trans ⟨Int.mul_pos (pu _) (pv _), Int.mul_pos (pv _) (pu _)⟩ ?_
  have e3 : ((p.1 ^ (u + x) * p.2 ^ (v + y), p.2 ^ (u + x) * p.1 ^ (v + y)) : Int × Int) = fmul (p.1 ^ u * p.2 ^ v, p.2 ^ u * p.1 ^ v) (p.1 ^ x * p.2 ^ y, p.2 ^ x * p.1 ^ y) := by
    unfold fmul
    dsimp only
    rw [Int.pow_add, Int.pow_add, Int.pow_add, Int.pow_add]
    refine Prod.ext ?_ ?_ <;> dsimp only <;> grind
  rw [e3]
  exact e2.symm
theorem rz_mulN (p : Int × Int) (k : Int) {m : Nat} (h : 0 < m) : rz p (k * (m : Int)) = pw (rz p k) m := by
  have hs : sw p (k * (m : Int)) = sw p k := by
    unfold sw
    have hm : (0 : Int) < (m : Int) := by omega
    by_cases hk : k < 0
    · rw [if_pos hk, if_pos (Int.mul_neg_of_neg_of_pos hk hm)]
    · have := Int.mul_nonneg (show 0 ≤ k by omega) (show (0 : Int) ≤ m by omega)
      rw [if_neg hk, if_neg (by omega)]
  unfold rz
  rw [hs, Int.natAbs_mul]
  unfold pw
  dsimp only
  rw [Int.natAbs_natCast, Int.pow_mul, Int.pow_mul]
theorem fr_pow {p : Int × Int} (h : Fr p) (n : Nat) : Fr (pw p n) := ⟨Int.pow_pos h.1, by
  have h2 : Nat.Coprime p.1.natAbs p.2.natAbs := h.2
  have := Nat.Coprime.pow n n h2
  show Nat.gcd (p.1 ^ n).natAbs (p.2 ^ n).natAbs = 1
  rw [Int.natAbs_pow, Int.natAbs_pow]
  exact this⟩
theorem fr_sw {p : Int × Int} (h : Fr p) (h1 : 0 < p.1) (k : Int) : Fr (sw p k) := by
  unfold sw
  split
  · exact ⟨h1, by have := h.2; rw [Int.gcd_comm]; exact this⟩
  · exact h
theorem fr_rz {p : Int × Int} (h : Fr p) (h1 : 0 < p.1) (k : Int) : Fr (rz p k) := fr_pow (fr_sw h h1 k) _
theorem bd_sw {n : Nat} {p : Int × Int} (a : Bd n p.1) (b : Bd n p.2) (k : Int) : Bd n (sw p k).1 ∧ Bd n (sw p k).2 := by
  unfold sw
  split
  · exact ⟨b, a⟩
  · exact ⟨a, b⟩
theorem frb_rz {n : Nat} {p : Int × Int} (h : FrB n p) (h1 : 0 < p.1) (k : Int) : FrB (n * k.natAbs + 1) (rz p k) := ⟨fr_rz h.fr h1 k, (bd_sw h.b1 h.b2 k).1.pow _, (bd_sw h.b1 h.b2 k).2.pow _⟩
theorem lo_pow {p : Int × Int} (h : Pos p) (n : Nat) : lo (pw p n) = pw (lo p) n := by
  have h1 := lo_pos h
  rw [lo_eqv (h.pow n) (h1.pow n) ((eqv_lo p).symm.pow n)]
  exact low_id (fr_pow (low_fr h.2) n)
/-! ### products -/
def prodR {α : Type} (f : α → Int × Int) : List α → Int × Int
  | [] => (1, 1)
  | x :: xs => fmul (f x) (prodR f xs)
theorem prodR_pos {α : Type} {f : α → Int × Int} : ∀ {xs : List α}, (∀ x ∈ xs, Pos (f x)) → Pos (prodR f xs)
  | [], _ => pos_one
  | x :: xs, h => (h x List.mem_cons_self).mul (prodR_pos fun y hy => h y (List.mem_cons_of_mem _ hy))
theorem prodR_eqv {α : Type} {f g : α → Int × Int} : ∀ {xs : List α}, (∀ x ∈ xs, Eqv (f x) (g x)) → Eqv (prodR f xs) (prodR g xs)
  | [], _ => rfl
  | x :: xs, h => (h x List.mem_cons_self).mul (prodR_eqv fun y hy => h y (List.mem_cons_of_mem _ hy))
theorem prodR_congr {α : Type} {f g : α → Int × Int} : ∀ {xs : List α}, (∀ x ∈ xs, f x = g x) → prodR f xs = prodR g xs
  | [], _ => rfl
  | x :: xs, h => by rw [prodR, prodR, h x List.mem_cons_self, prodR_congr fun y hy => h y (List.mem_cons_of_mem _ hy)]
theorem prodR_mul {α : Type} {f g : α → Int × Int} : ∀ {xs : List α}, prodR (fun x => fmul (f x) (g x)) xs = fmul (prodR f xs) (prodR g xs)
  | [] => rfl
  | x :: xs => by
    rw [prodR, prodR, prodR, prodR_mul]
    unfold fmul
    refine Prod.ext ?_ ?_ <;> dsimp only <;> grind
theorem prodR_pow {α : Type} {f : α → Int × Int} {n : Nat} : ∀ {xs : List α}, prodR (fun x => pw (f x) n) xs = pw (prodR f xs) n
  | [] => by simp [prodR, pw, Int.one_pow]
  | x :: xs => by
    rw [prodR, prodR, prodR_pow]
    unfold fmul pw
    dsimp only
    rw [Int.mul_pow, Int.mul_pow]
theorem prodR_map {α β : Type} {f : β → Int × Int} {g : α → β} : ∀ {xs : List α}, prodR f (xs.map g) = prodR (fun x => f (g x)) xs
  | [] => rfl
  | x :: xs => by rw [List.map_cons, prodR, prodR, prodR_map]
/-- the product as it is reckoned: in lowest terms after each factor -/
def fac {α : Type} (f : α → Int × Int) (xs : List α) : Int × Int := xs.foldl (fun a x => ftimes a (f x)) (1, 1)
theorem fmul_assoc (p q r : Int × Int) : fmul (fmul p q) r = fmul p (fmul q r) := by
  unfold fmul
  dsimp only
  rw [Int.mul_assoc, Int.mul_assoc]
theorem fac_go {α : Type} {f : α → Int × Int} : ∀ {xs : List α} {a : Int × Int}, Pos a → (∀ x ∈ xs, Pos (f x)) → xs.foldl (fun a x => ftimes a (f x)) (lo a) = lo (fmul a (prodR f xs))
  | [], a, ha, _ => by
    have : fmul a (1, 1) = a := by simp [fmul]
    show lo a = lo (fmul a (1, 1))
    rw [this]
  | x :: xs, a, ha, h => by
    have hx := h x List.mem_cons_self
    have e : ftimes (lo a) (f x) = lo (fmul a (f x)) := by
      rw [ftimes_lo]
      exact lo_eqv ((lo_pos ha).mul hx) (ha.mul hx) ((eqv_lo a).mul (Eqv.refl _))
    show xs.foldl (fun a x => ftimes a (f x)) (ftimes (lo a) (f x)) = _
    rw [e, fac_go (ha.mul hx) fun y hy => h y (List.mem_cons_of_mem _ hy), fmul_assoc]
    rfl
theorem fac_eq {α : Type} {f : α → Int × Int} {xs : List α} (h : ∀ x ∈ xs, Pos (f x)) : fac f xs = lo (prodR f xs) := by
  have e : lo (1, 1) = (1, 1) := low_id ⟨by decide, by decide⟩
  have e2 := fac_go (xs := xs) pos_one h
  rw [e] at e2
  have e3 : fmul (1, 1) (prodR f xs) = prodR f xs := by simp [fmul]
  rw [e3] at e2
  exact e2
/-- so many bits, after so many factors -/
theorem fac_bd {α : Type} {f : α → Int × Int} {n : Nat} : ∀ {xs : List α} {a : Int × Int} {m : Nat}, FrB m a → (∀ x ∈ xs, FrB n (f x)) → FrB (m + xs.length * n) (xs.foldl (fun a x => ftimes a (f x)) a)
  | [], a, m, ha, _ => by simpa using ha
  | x :: xs, a, m, ha, h => by
    have := fac_bd (xs := xs) (ftimes_ok ha (h x List.mem_cons_self)) fun y hy => h y (List.mem_cons_of_mem _ hy)
    refine this.up ?_
    simp [Nat.add_mul]
    omega
/-! ### exponents -/
def ex (s : Int) (e : Int × Int) : Int := e.1 * s / e.2
theorem ex_of {s : Int} {e : Int × Int} (h : 0 < e.2) {a : Int} (hk : e.1 * s = a * e.2) : ex s e = a := by
  unfold ex
  rw [hk, Int.mul_ediv_cancel _ (by omega)]
theorem ex_mul {s : Int} {e : Int × Int} (h : 0 < e.2) (hd : s % e.2 = 0) : e.1 * s = ex s e * e.2 := by
  unfold ex
  have : e.2 ∣ e.1 * s := Int.dvd_trans (Int.dvd_of_emod_eq_zero hd) (Int.dvd_mul_left _ _)
  exact (Int.ediv_mul_cancel this).symm
theorem ex_plus {s : Int} {e d : Int × Int} (he : Fr e) (hd : Fr d) (h1 : s % e.2 = 0) (h2 : s % d.2 = 0) : s % (fplus e d).2 = 0 ∧ ex s (fplus e d) = ex s e + ex s d := by
  have m1 := ex_mul he.1 h1
  have m2 := ex_mul hd.1 h2
  have hp : 0 < (fplus e d).2 := low_pos (pos2 he hd)
  have hf : Fr (fplus e d) := low_fr (pos2 he hd)
  have hl : (fplus e d).1 * (e.2 * d.2) = (e.1 * d.2 + d.1 * e.2) * (fplus e d).2 := low_mul
  generalize fplus e d = p at *
  generalize ex s e = a at *
  generalize ex s d = b at *
  have key : p.1 * s = (a + b) * p.2 := by
    have hq := pos2 he hd
    refine Int.eq_of_mul_eq_mul_right (show e.2 * d.2 ≠ 0 by omega) ?_
    calc p.1 * s * (e.2 * d.2) = (p.1 * (e.2 * d.2)) * s := by grind
      _ = ((e.1 * d.2 + d.1 * e.2) * p.2) * s := by rw [hl]
      _ = ((e.1 * s) * d.2 + (d.1 * s) * e.2) * p.2 := by grind
      _ = ((a * e.2) * d.2 + (b * d.2) * e.2) * p.2 := by rw [m1, m2]
      _ = (a + b) * p.2 * (e.2 * d.2) := by grind
  refine ⟨?_, ex_of hp key⟩
  have hdv : p.2 ∣ p.1 * s := ⟨a + b, by rw [key]; exact Int.mul_comm _ _⟩
  have h3 : p.2.natAbs ∣ p.1.natAbs * s.natAbs := by rw [← Int.natAbs_mul]; exact Int.natAbs_dvd_natAbs.mpr hdv
  have h4 : Nat.Coprime p.2.natAbs p.1.natAbs := by
    have : Nat.gcd p.1.natAbs p.2.natAbs = 1 := hf.2
    rw [Nat.Coprime, Nat.gcd_comm]; exact this
  exact Int.emod_eq_zero_of_dvd (Int.natAbs_dvd_natAbs.mp (Nat.Coprime.dvd_of_dvd_mul_left h4 h3))
theorem fminus_self {e : Int × Int} (h : Fr e) : fminus e e = (0, 1) := by
  have e1 : fminus e e = low 0 1 := by
    unfold fminus
    refine low_eq (pos2 h h) (by decide) ?_
    rw [Int.sub_self, Int.zero_mul, Int.zero_mul]
  rw [e1]
  exact low_id (p := (0, 1)) ⟨by decide, by decide⟩
theorem ex_scale {s : Int} {e : Int × Int} {m : Int} (h : 0 < e.2) (hd : s % e.2 = 0) : ex (s * m) e = ex s e * m := by
  have := ex_mul h hd
  refine ex_of h ?_
  calc e.1 * (s * m) = (e.1 * s) * m := by grind
    _ = (ex s e * e.2) * m := by rw [this]
    _ = ex s e * m * e.2 := by grind
/-! ### what is drawn -/
theorem all_encQ {ds : List D} {Q : Int × Int → Prop} (h : ∀ d ∈ ds, ∃ p, d = encF p ∧ Q p) : ∃ us : List (Int × Int), ds = us.map encF ∧ ∀ p ∈ us, Q p := by
  induction ds with
  | nil => exact ⟨[], rfl, by simp⟩
  | cons d ds ih =>
    obtain ⟨p, rfl, hp⟩ := h d List.mem_cons_self
    obtain ⟨us, rfl, hu⟩ := ih fun e he => h e (List.mem_cons_of_mem _ he)
    refine ⟨p :: us, rfl, fun q hq => ?_⟩
    rcases List.mem_cons.mp hq with rfl | hq
    · exact hp
    · exact hu q hq
theorem dLc_drawn {fi : FI} {tf : Tg} {fe : FE} {vs : List Nat} {δ : DEnv} {T : Store} {m : M} {b : Int} {Q : Int × Int → Prop} (b0 : 0 ≤ b) (b1 : b ≤ 1000) (hm : DrSt m)
    (hi : fi δ (m :: T) = some (.ok (rngW 0 b.toNat, none), m :: T)) (h : ∀ w m, DrSt m → ∃ δ1 p m', tf w (wipeE δ vs) (m :: T) = some (δ1, m :: T) ∧ fe δ1 (m :: T) = some (.ok (.d (encF p)), m' :: T) ∧ DrSt m' ∧ Q p) :
    ∃ (us : List (Int × Int)) (m' : M), dLc lcF fi tf ftYes fe vs δ (m :: T) = some (.ok (.d (.lst (us.map encF))), m' :: T) ∧ (us.length : Int) = b ∧ (∀ p ∈ us, Q p) ∧ DrSt m' := by
  have hl : (rngW 0 b.toNat).length = b.toNat := rngW_len
  obtain ⟨ds, m', e, hm', hds, hd⟩ := lcL_thread (tf := tf) (fe := fe) (δ := wipeE δ vs) (T := T) (Pm := DrSt) (Pd := fun d => ∃ p, d = encF p ∧ Q p) (ws := rngW 0 b.toNat) (acc := []) hm (by
    intro w _ m hm
    obtain ⟨δ1, p, m', e1, e2, e3, e4⟩ := h w m hm
    exact ⟨δ1, _, m', e1, e2, e3, p, rfl, e4⟩)
  obtain ⟨us, rfl, hu⟩ := all_encQ hd
  have hul : us.length = b.toNat := by rw [← hl, ← hds]; simp
  refine ⟨us, m', ?_, by omega, hu, hm'⟩
  have hz : (rngW 0 b.toNat).length ≤ sizeLine := Nat.le_trans (by rw [hl]; omega : _ ≤ 1000) (by decide)
  unfold dLc
  rw [hi, bind_ok]
  dsimp only
  rw [if_pos hz, e, bind_ok, List.nil_append]
  unfold lcF
  rw [pure?_map]
/-! ### products of products -/
theorem fac_map {α β : Type} (f : β → Int × Int) (g : α → β) (xs : List α) : fac f (xs.map g) = fac (fun x => f (g x)) xs := by
  unfold fac
  rw [List.foldl_map]
theorem fac_mul {α : Type} {a b c : α → Int × Int} {xs : List α} (ha : ∀ x ∈ xs, Pos (a x)) (hb : ∀ x ∈ xs, Pos (b x)) (hc : ∀ x ∈ xs, Pos (c x)) (h : ∀ x ∈ xs, Eqv (c x) (fmul (a x) (b x))) : fac c xs = ftimes (fac a xs) (fac b xs) := by
  have pa := prodR_pos ha
  have pb := prodR_pos hb
  rw [fac_eq ha, fac_eq hb, fac_eq hc, ftimes_lo]
  have e1 : Eqv (prodR c xs) (fmul (prodR a xs) (prodR b xs)) := by rw [← prodR_mul]; exact prodR_eqv h
  refine lo_eqv (prodR_pos hc) ((lo_pos pa).mul (lo_pos pb)) (e1.trans (pa.mul pb) ?_)
  exact ((eqv_lo _).mul (eqv_lo _)).symm
theorem fac_one {α : Type} {f : α → Int × Int} {xs : List α} (h : ∀ x ∈ xs, f x = (1, 1)) : fac f xs = (1, 1) := by
  rw [fac_eq fun x hx => by rw [h x hx]; exact pos_one, prodR_congr h]
  have e : prodR (fun _ : α => ((1, 1) : Int × Int)) xs = (1, 1) := by
    clear h
    induction xs with
    | nil => rfl
    | cons x xs ih => rw [prodR, ih]; rfl
  rw [e]
  exact low_id (p := (1, 1)) ⟨by decide, by decide⟩
theorem fac_pow {α : Type} {f g : α → Int × Int} {m : Nat} {xs : List α} (hf : ∀ x ∈ xs, Pos (f x)) (h : ∀ x ∈ xs, g x = pw (f x) m) : fac g xs = pw (fac f xs) m := by
  have hp := prodR_pos hf
  rw [fac_eq hf, fac_eq fun x hx => by rw [h x hx]; exact (hf x hx).pow m, prodR_congr h, prodR_pow, lo_pow hp]
theorem ftimes_pos {p q : Int × Int} (h : Pos p) (g : Pos q) : Pos (ftimes p q) := lo_pos (h.mul g)
theorem fac_pos {α : Type} {f : α → Int × Int} {xs : List α} (h : ∀ x ∈ xs, Pos (f x)) : Pos (fac f xs) := by rw [fac_eq h]; exact lo_pos (prodR_pos h)
end DL
set_option Elab.async false
set_option linter.all false
set_option maxRecDepth 100000
set_option maxHeartbeats 1000000
/-! DL13: slices, tuple + tuple, tuple * int. -/
namespace DL
open PySem PySem.Spec PyProof.Rows L2
section
variable {K : PySem.W.Frag} {Wx : WX} {X : Cx} {f : FE} {pos p2 : PySem.Pos} {e : Expr}
theorem RelDs.drop {ρ : Ad} {H : Hp} : ∀ {ds : List D} {vs : List V} (n : Nat), RelDs K ρ H ds vs → RelDs K ρ H (ds.drop n) (vs.drop n)
  | _, _, 0, h => h
  | [], [], n + 1, h => by simpa using h
  | [], v :: vs, n + 1, h => by have := h.length; simp at this
  | d :: ds, [], n + 1, h => by have := h.length; simp at this
  | d :: ds, v :: vs, n + 1, h => by
    rw [RelDs] at h
    obtain ⟨v', vs', e, h1, h2⟩ := h
    cases e
    exact RelDs.drop n h2
theorem RelDs.take {ρ : Ad} {H : Hp} : ∀ {ds : List D} {vs : List V} (n : Nat), RelDs K ρ H ds vs → RelDs K ρ H (ds.take n) (vs.take n)
  | _, _, 0, h => by simp [RelDs]
  | [], [], n + 1, h => by simpa using h
  | [], v :: vs, n + 1, h => by have := h.length; simp at this
  | d :: ds, [], n + 1, h => by have := h.length; simp at this
  | d :: ds, v :: vs, n + 1, h => by
    rw [RelDs] at h
    obtain ⟨v', vs', e, h1, h2⟩ := h
    cases e
    rw [List.take_succ_cons, List.take_succ_cons, RelDs]
    exact ⟨v, vs.take n, rfl, h1, RelDs.take n h2⟩
/-! ### slices -/
abbrev FP := DEnv → Store → Rs (Option Int)
abbrev relO : Ad → Hp → Option Int → Option Int → Prop := fun _ _ a b => a = b
def tO (K : PySem.W.Frag) (Wx : WX) (f : FP) : TO := fun σ H Q => ∃ δ S ρ, Ok K ρ S H ∧ EnvR K ρ H δ σ ∧ Go K Wx σ ρ H relO (f δ S) Q
def asPt : W → Store → Rs (Option Int)
  | .d (.int i), S => some (.ok (some i), S)
  | _, _ => none
def dPt (f : FE) : FP := fun δ S => (f δ S).bind asPt
def dNoPt : FP := fun _ S => some (.ok none, S)
theorem _root_.L2.PO.imp {X : Cx} {e : Option Expr} {t t' : TO} (h : PO X e t) (i : ∀ σ H Q, t' σ H Q → t σ H Q) : PO X e t' := ⟨fun pins s σ H Q I q => h.run pins s σ H Q I (i σ H Q q)⟩
theorem do_some (he : PE X e (tE X.K Wx f)) : PO X (some e) (tO X.K Wx (dPt f)) := (po_some he).imp fun σ H Q ⟨δ, S, ρ, ok, en, q⟩ => by
  refine ⟨δ, S, ρ, ok, en, (go_bind q).mono fun v H1 ⟨x, S1, ρ1, ok1, st1, r1, q1⟩ => ?_⟩
  cases x with
  | loc n => exact go_none q1
  | d x => cases x with
    | int i => exact ⟨i, by simpa [RelW, RelD] using r1, go_val ok1 q1 rfl⟩
    | _ => exact go_none q1
theorem do_none : PO X none (tO X.K Wx dNoPt) := po_none.imp fun σ H Q ⟨δ, S, ρ, ok, en, q⟩ => go_val ok q rfl
def cutD (ds : List D) (lo hi : Option Int) : List D := (ds.drop (HT.sIx ds.length 0 lo)).take (HT.sIx ds.length ds.length hi - HT.sIx ds.length 0 lo)
abbrev F3 := W → Option Int → Option Int → Store → Rs W
def oSlT : F3
  | .d (.tup ds), lo, hi, S => some (.ok (.d (.tup (cutD ds lo hi))), S)
  | _, _, _, _ => none
def oSlL : F3
  | .d (.lst ds), lo, hi, S => some (.ok (.d (.lst (cutD ds lo hi))), S)
  | _, _, _, _ => none
def SlF (K : PySem.W.Frag) (Wx : WX) (r : V → Option Int → Option Int → Hp → VK → Prop) (op : F3) : Prop := ∀ (σ : L2.St) (ρ : Ad) (S : Store) (H : Hp) (x : W) (a : V) (lo hi : Option Int) (Q : VK), Ok K ρ S H → RelW K ρ H x a → Go K Wx σ ρ H (RelW K) (op x lo hi S) Q → r a lo hi H Q
def dSl (op : F3) (f : FE) (l h : FP) : FE := fun δ S => (f δ S).bind fun x S1 => (l δ S1).bind fun lo S2 => (h δ S2).bind fun hi S3 => op x lo hi S3
theorem de_sl {r : V → Option Int → Option Int → Hp → VK → Prop} {op : F3} {lo hi : Option Expr} {l h : FP} (hr : SlR X r) (o : SlF X.K Wx r op) (he : PE X e (tE X.K Wx f)) (hl : PO X lo (tO X.K Wx l)) (hh : PO X hi (tO X.K Wx h)) : PE X (.Subscript e (.Slice lo hi none p2) pos) (tE X.K Wx (dSl op f l h)) :=
  (pe_slice hr he hl hh).imp fun σ H Q ⟨δ, S, ρ, ok, en, q⟩ => by
    refine ⟨δ, S, ρ, ok, en, (go_bind q).mono fun v H1 ⟨x, S1, ρ1, ok1, st1, r1, q1⟩ => ?_⟩
    refine ⟨δ, S1, ρ1, ok1, en.mono st1, (go_bind q1).mono fun lo H2 ⟨lo', S2, ρ2, ok2, st2, e2, q2⟩ => ?_⟩
    cases e2
    refine ⟨δ, S2, ρ2, ok2, (en.mono st1).mono st2, (go_bind q2).mono fun hi H3 ⟨hi', S3, ρ3, ok3, st3, e3, q3⟩ => ?_⟩
    cases e3
    exact o σ ρ3 S3 H3 x v lo hi Q ok3 ((r1.mono st2).mono st3) q3
theorem cut_rel {ρ : Ad} {H : Hp} {ds : List D} {vs : List V} {lo hi : Option Int} (h : RelDs K ρ H ds vs) : RelDs K ρ H (cutD ds lo hi) (cutV vs lo hi) := by
  unfold cutD cutV
  rw [h.length]
  exact (h.drop _).take _
theorem cut_all {ds : List D} {lo hi : Option Int} (h : HT.sIx ds.length 0 lo = 0 ∧ HT.sIx ds.length ds.length hi = ds.length) : cutD ds lo hi = ds := by
  unfold cutD
  rw [h.1, h.2]
  simp
theorem oSlT_ok : SlF K Wx (rSlA K) oSlT := by
  intro σ ρ S H x a lo hi Q ok rx q
  cases x with
  | loc n => exact go_none q
  | d x => cases x with
    | tup ds =>
      have rx' : RelD K ρ H (.tup ds) a := rx
      rw [RelD] at rx'
      obtain ⟨p, vs, rfl, ht, hv⟩ := rx'
      refine ⟨p, vs, rfl, ht.sq, fun hall => ?_, fun hn l hl => ?_⟩
      · rw [← hv.length] at hall
        have q' : Go K Wx σ ρ H (RelW K) (some (.ok (.d (.tup (cutD ds lo hi))), S)) Q := q
        rw [cut_all hall] at q'
        exact go_val ok q' rx
      · have st := step_new ok (.tup (cutV vs lo hi)) hl
        exact go_at q (ok_new ok _ hl) st (show RelD K ρ (upd H l (.tup (cutV vs lo hi))) (.tup (cutD ds lo hi)) (.ref l) by rw [RelD]; exact ⟨l, _, rfl, tupF_new ok hl, RelDs.mono st _ _ (cut_rel hv)⟩)
    | _ => exact go_none q
theorem oSlL_ok : SlF K Wx (rSlL K) oSlL := by
  intro σ ρ S H x a lo hi Q ok rx q
  cases x with
  | loc n => exact go_none q
  | d x => cases x with
    | lst ds =>
      have rx' : RelD K ρ H (.lst ds) a := rx
      rw [RelD] at rx'
      obtain ⟨p, vs, rfl, ht, hv⟩ := rx'
      refine ⟨p, vs, rfl, ht.sq, fun l hl => ?_⟩
      have st := step_new ok (.lst (cutV vs lo hi)) hl
      exact go_at q (ok_new ok _ hl) st (show RelD K ρ (upd H l (.lst (cutV vs lo hi))) (.lst (cutD ds lo hi)) (.ref l) by rw [RelD]; exact ⟨l, _, rfl, lstF_new ok hl, RelDs.mono st _ _ (cut_rel hv)⟩)
    | _ => exact go_none q
/-! ### tuple + tuple -/
def oCat : F2
  | .d (.tup a), .d (.tup b), S => if a.length + b.length ≤ sizeLine then some (.ok (.d (.tup (a ++ b))), S) else none
  | _, _, _ => none
theorem oCat_ok : OpF K Wx (rCatA K) oCat := by
  intro σ ρ S H x y u v Q ok rx ry q
  cases x with
  | loc n => exact go_none q
  | d x => cases x with
    | tup a => cases y with
      | loc n => exact go_none q
      | d y => cases y with
        | tup b =>
          have rx' : RelD K ρ H (.tup a) u := rx
          have ry' : RelD K ρ H (.tup b) v := ry
          rw [RelD] at rx' ry'
          obtain ⟨p, vs, rfl, ht, hv⟩ := rx'
          obtain ⟨p', vs', rfl, ht', hv'⟩ := ry'
          have q' : Go K Wx σ ρ H (RelW K) (if a.length + b.length ≤ sizeLine then some (.ok (.d (.tup (a ++ b))), S) else none) Q := q
          by_cases hs : a.length + b.length ≤ sizeLine
          · rw [if_pos hs] at q'
            refine ⟨p, p', vs, vs', rfl, rfl, ht.sq, ht'.sq, by rw [← hv.length, ← hv'.length]; exact hs, fun e => ?_, fun _ e => ?_, fun _ _ l hl => ?_⟩
            · have ea : a = [] := List.length_eq_zero_iff.mp (by rw [hv.length, e]; rfl)
              rw [ea, List.nil_append] at q'
              exact go_val ok q' ry
            · have eb : b = [] := List.length_eq_zero_iff.mp (by rw [hv'.length, e]; rfl)
              rw [eb, List.append_nil] at q'
              exact go_val ok q' rx
            · have st := step_new ok (.tup (vs ++ vs')) hl
              exact go_at q' (ok_new ok _ hl) st (show RelD K ρ (upd H l (.tup (vs ++ vs'))) (.tup (a ++ b)) (.ref l) by rw [RelD]; exact ⟨l, _, rfl, tupF_new ok hl, RelDs.mono st _ _ (hv.app hv')⟩)
          · rw [if_neg hs] at q'
            exact go_none q'
        | _ => exact go_none q
    | _ => exact go_none q
/-! ### tuple * int -/
def oRepT : F2
  | .d (.tup a), .d (.int k), S => if a ≠ [] ∧ 2 ≤ k ∧ k ≤ 1000 ∧ a.length ≤ 1000 then some (.ok (.d (.tup (List.replicate k.toNat a).flatten)), S) else none
  | _, _, _ => none
theorem rel_rep {ρ : Ad} {H : Hp} {ds : List D} {vs : List V} (h : RelDs K ρ H ds vs) : ∀ n : Nat, RelDs K ρ H (List.replicate n ds).flatten (List.replicate n vs).flatten
  | 0 => by simp [RelDs]
  | n + 1 => by
    rw [List.replicate_succ, List.replicate_succ, List.flatten_cons, List.flatten_cons]
    exact h.app (rel_rep h n)
open Classical in
theorem oRepT_ok : OpF K Wx (rRepT K) oRepT := by
  intro σ ρ S H x y u v Q ok rx ry q
  cases x with
  | loc n => exact go_none q
  | d x => cases x with
    | tup a => cases y with
      | loc n => exact go_none q
      | d y => cases y with
        | int k =>
          have rx' : RelD K ρ H (.tup a) u := rx
          have ey : v = .int k := by simpa [RelW, RelD] using ry
          rw [RelD] at rx'
          obtain ⟨p, vs, rfl, ht, hv⟩ := rx'
          subst ey
          unfold oRepT at q
          dsimp only at q
          split at q
          · rename_i hs
            refine ⟨p, k, vs, rfl, rfl, ht.sq, fun e => hs.1 (List.length_eq_zero_iff.mp (by rw [hv.length, e]; rfl)), hs.2.1, hs.2.2.1, by rw [← hv.length]; exact hs.2.2.2, fun l hl => ?_⟩
            have st := step_new ok (.tup (List.replicate k.toNat vs).flatten) hl
            exact go_at q (ok_new ok _ hl) st (show RelD K ρ (upd H l (.tup (List.replicate k.toNat vs).flatten)) (.tup (List.replicate k.toNat a).flatten) (.ref l) by rw [RelD]; exact ⟨l, _, rfl, tupF_new ok hl, RelDs.mono st _ _ (rel_rep hv _)⟩)
          · exact go_none q
        | _ => exact go_none q
    | _ => exact go_none q
end
end DL
set_option Elab.async false
set_option linter.all false
set_option maxRecDepth 100000
set_option maxHeartbeats 1000000
/-! DL14: instances: made by a def's body (read-only from there on), fields read and written. -/
namespace DL
open PySem PySem.Spec PyProof.Rows L2
section
variable {K : PySem.W.Frag} {Wx : WX} {X : Cx} {f g fo fv : FE} {fa : FA} {pos p p2 : PySem.Pos} {e o value : Expr} {es : List Expr}
theorem lookD {ρ : Ad} {H : Hp} {n : Str} {d : D} : ∀ {ns : List Str} {ds : List D} {vs : List V}, RelDs K ρ H ds vs → (ns.zip ds).lookup n = some d → ∃ v, (ns.zip vs).lookup n = some v ∧ RelD K ρ H d v
  | [], _, _, _, h => by simp at h
  | _ :: _, [], _, _, h => by simp at h
  | m :: ns, d0 :: ds, vs, r, h => by
    rw [RelDs] at r
    obtain ⟨v, vr, rfl, h1, h2⟩ := r
    simp only [List.zip_cons_cons, List.lookup_cons] at h ⊢
    cases hb : (n == m) with
    | true =>
      rw [hb] at h
      cases h
      exact ⟨v, rfl, h1⟩
    | false =>
      rw [hb] at h
      exact lookD h2 h
theorem lookW {ρ : Ad} {H : Hp} {n : Str} {d : W} : ∀ {ns : List Str} {ds : List W} {vs : List V}, RelWs K ρ H ds vs → (ns.zip ds).lookup n = some d → ∃ v, (ns.zip vs).lookup n = some v ∧ RelW K ρ H d v
  | [], _, _, _, h => by simp at h
  | _ :: _, [], _, _, h => by simp at h
  | m :: ns, d0 :: ds, vs, r, h => by
    obtain ⟨v, vr, rfl, h1, h2⟩ := r
    simp only [List.zip_cons_cons, List.lookup_cons] at h ⊢
    cases hb : (n == m) with
    | true =>
      rw [hb] at h
      cases h
      exact ⟨v, rfl, h1⟩
    | false =>
      rw [hb] at h
      exact lookW h2 h
/-- an instance at a place -/
theorem loc_ins {ρ : Ad} {S : Store} {H : Hp} {n : Nat} {v : V} {C : Addr} {ns : List Str} {ws : List W} (ok : Ok K ρ S H) (r : RelW K ρ H (.loc n) v) (e : S[n]? = some (.ins C ns ws)) :
    ∃ a dx us, v = .ref a ∧ ρ.pl[n]? = some (some a) ∧ H a = some (.ins C dx (ns.zip us)) ∧ RelWs K ρ H ws us ∧ ns.length = ws.length := by
  obtain ⟨a, ha⟩ := ok.live n _ e (by simp)
  obtain ⟨m', e1, q⟩ := ok.obj n a ha
  rw [e] at e1
  cases e1
  obtain ⟨dx, us, h1, h2, h3⟩ := q
  exact ⟨a, dx, us, r.2 a ha, ha, h1, h2, h3⟩
/-! ### a field read -/
def oFld (C0 : Addr) (n : Str) (x : W) (S : Store) : Rs W := match x with
  | .d (.ins C ns ds) => if C = C0 then (match (ns.zip ds).lookup n with
    | some d => some (.ok (.d d), S)
    | none => none) else none
  | .loc k => (match S[k]? with
    | some (.ins C ns ws) => if C = C0 then (match (ns.zip ws).lookup n with
      | some w => some (.ok w, S)
      | none => none) else none
    | _ => none)
  | _ => none
def dFld (C0 : Addr) (n : Str) (f : FE) : FE := fun δ S => (f δ S).bind (oFld C0 n)
theorem de_fld {C0 : Addr} {n : Str} (cl : Cls X.K C0) (na : NoAttr X.K C0 n) (he : PE X e (tE X.K Wx f)) (hb : attributeBase e n X.env (eval e X.env) = eval e X.env := by rfl) : PE X (.Attribute e n pos) (tE X.K Wx (dFld C0 n f)) :=
  (pe_fld he hb).imp fun σ H Q ⟨δ, S, ρ, ok, en, q⟩ => by
    refine ⟨δ, S, ρ, ok, en, (go_bind q).mono fun v H1 ⟨x, S1, ρ1, ok1, st1, r1, q1⟩ => ?_⟩
    unfold oFld at q1
    split at q1
    · rename_i C ns ds
      split at q1
      · rename_i hC
        subst hC
        split at q1
        · rename_i d hd
          have r1' : RelD X.K ρ1 H1 (.ins C ns ds) v := r1
          rw [RelD] at r1'
          obtain ⟨a, dx, vs, rfl, h1, _, h2, _⟩ := r1'
          obtain ⟨u, hu, ru⟩ := lookD h2 hd
          exact ⟨a, C, dx, _, u, rfl, h1, cl, na, hu, go_val ok1 q1 (show RelW X.K ρ1 H1 (.d d) u from ru)⟩
        · exact go_none q1
      · exact go_none q1
    · rename_i k
      split at q1
      · rename_i C ns ws ew
        split at q1
        · rename_i hC
          subst hC
          split at q1
          · rename_i w hw
            obtain ⟨a, dx, us, rfl, _, h1, h2, _⟩ := loc_ins ok1 r1 ew
            obtain ⟨u, hu, ru⟩ := lookW h2 hw
            exact ⟨a, C, dx, _, u, rfl, h1, cl, na, hu, go_val ok1 q1 ru⟩
          · exact go_none q1
        · exact go_none q1
      · exact go_none q1
    · exact go_none q1
/-! ### a new field written -/
def putM (C0 : Addr) (n : Str) (x w : W) (S : Store) : Option Store := match x with
  | .loc k => (match S[k]? with
    | some (.ins C ns ws) => if C = C0 ∧ n ∉ ns ∧ ns.length < 1000 then some (S.set k (.ins C (ns ++ [n]) (ws ++ [w]))) else none
    | _ => none)
  | _ => none
def sFldPut (C0 : Addr) (n : Str) (fv fo : FE) : FS := fun δ S => sE (fv δ S) δ fun w S1 => sE (fo δ S1) δ fun x S2 => match putM C0 n x w S2 with
  | some S3 => some (.ok (.nx δ), S3)
  | none => none
theorem putF_new {n : Str} {v : V} : ∀ {fs : List (Str × V)}, (∀ q ∈ fs, q.1 ≠ n) → putF n v fs = fs ++ [(n, v)]
  | [], _ => rfl
  | (m, u) :: fs, h => by
    have h1 : m ≠ n := h (m, u) List.mem_cons_self
    have h2 := putF_new (v := v) (fs := fs) fun q hq => h q (List.mem_cons_of_mem _ hq)
    unfold putF
    split
    · rename_i hb
      exact absurd (by simpa using hb) h1
    · rw [h2]
      rfl
theorem zip_app1 {n : Str} {v : V} : ∀ {ns : List Str} {vs : List V}, ns.length = vs.length → (ns ++ [n]).zip (vs ++ [v]) = ns.zip vs ++ [(n, v)]
  | [], [], _ => rfl
  | m :: ns, u :: vs, h => congrArg ((m, u) :: ·) (zip_app1 (by simpa using h))
  | [], _ :: _, h => by simp at h
  | _ :: _, [], h => by simp at h
theorem ds_fld {C0 : Addr} {n : Str} (cl : Cls X.K C0) (na : NoAttr X.K C0 n) (ho : PE X o (tE X.K Wx fo)) (hv : PE X value (tE X.K Wx fv)) (hs : swapsWith value (some (.Attribute o n p2)) pos.line X.env = pure false := by rfl) : PS X (.Assign [.Attribute o n p2] value pos) (tS X.K Wx (sFldPut C0 n fv fo)) :=
  (ps_fld ho hv hs).imp fun D σ H q => by
    obtain ⟨δ, S, ρ, ok, en, q⟩ := q
    refine ⟨δ, S, ρ, ok, en, (gos_bind en q).mono fun y H1 ⟨w, S1, ρ1, ok1, st1, r1, q1⟩ => ?_⟩
    refine ⟨δ, S1, ρ1, ok1, en.mono st1, (gos_bind (en.mono st1) q1).mono fun v H2 ⟨x, S2, ρ2, ok2, st2, r2, q2⟩ => ?_⟩
    cases ep : putM C0 n x w S2 with
    | none => rw [ep] at q2; exact gos_none q2
    | some S3 =>
      rw [ep] at q2
      dsimp only at q2
      unfold putM at ep
      split at ep
      · rename_i k
        split at ep
        · rename_i C ns ws ew
          split at ep
          · rename_i hc
            obtain ⟨rfl, hn, hl⟩ := hc
            cases ep
            obtain ⟨a, dx, us, rfl, ha, h1, h2, h3⟩ := loc_ins ok2 r2 ew
            have hlen : ns.length = us.length := by rw [h3, h2.length]
            have hput : putF n y (ns.zip us) = ns.zip us ++ [(n, y)] := putF_new fun q hq e => by
              obtain ⟨q1', q2'⟩ := q
              exact hn (e ▸ (List.of_mem_zip hq).1)
            have hz := zip_app1 (n := n) (v := y) hlen
            have rw' := r1.mono st2
            obtain ⟨ok3, st3⟩ := ok_write ok2 (m := .ins C (ns ++ [n]) (ws ++ [w])) (o := .ins C dx (putF n y (ns.zip us))) ha fun H' st e' => by
              refine ⟨dx, us ++ [y], ?_, RelWs.app (h2.mono st) ⟨y, [], rfl, rw'.mono st, rfl⟩, by simp [h3]⟩
              rw [hz, ← hput]
              exact e'
            refine ⟨a, C, dx, _, rfl, h1, cl, na, by rw [List.length_zip, ← hlen, Nat.min_self]; exact hl, ?_⟩
            exact gos_nx ok3 (q2.step st3) (((en.mono st1).mono st2).mono st3)
          · cases ep
        · cases ep
      · cases ep
/-! ### an instance made -/
open Classical in
/-- what the body left at the new place, read-only from here on -/
noncomputable def mkIns (C0 : Addr) (S1 : Store) (m : Rs W) : Rs W := match m with
  | some (.ok (.d .non), S2) => if keepOk S1 S2 then (match S2[S1.length]? with
    | some (.ins C ns us) => if C = C0 then (match pure? us with
      | some ds => some (.ok (.d (.ins C0 ns ds)), S2.take S1.length)
      | none => none) else none
    | _ => none) else none
  | _ => none
noncomputable def dMake (C0 : Addr) (n : Nat) (g : Fn) (fa : FA) : FE := fun δ S => (fa δ S).bind fun ws S1 => if ws.length + 1 = n then mkIns C0 S1 (g (.loc S1.length :: ws) (S1 ++ [.ins C0 [] []])) else none
theorem de_make {C0 f0 : Addr} {fd : FuncData} {ps : List Str} {k n : Nat} {g : Fn} {x : Str} (M : Mk X.K C0 f0) (F : FnOk X.prog X.w X.K X.mg X.base (L2.CX X.prog X.w) k f0 fd ps (spD X.K n g)) (hb : Binds X.K fd ps []) (hr : Room (k + 1) X.A) (hm : X.mg x = some (.ref C0)) (ha : PA X (e :: es) (tA X.K Wx fa))
    (hg : Gl X x := by rfl) (hdb : (x == ("__debug__" : Str)) = false := by decide) (he : starEach (e :: es) X.env = (false, eval e X.env) :: starEach es X.env := by rfl) (hpl : (backTo pos (starEach es X.env)).any (·.1) = false := by rfl) :
    PE X (.Call (.Name x p) (e :: es) [] pos) (tE X.K Wx (dMake C0 n g fa)) :=
  (pe_make (E := E0) M (fn_noex F) hr hg hm hb .nil pass0 ha hdb he hpl).imp fun σ H Q q => by
    obtain ⟨δ, S, ρ, ok, en, q⟩ := q
    refine ⟨δ, S, ρ, ok, en, (go_bind q).mono fun vs H1 ⟨ws, S1, ρ1, ok1, st1, r1, q1⟩ => fun y dx hy hdx hne => ?_⟩
    split at q1
    · rename_i hn
      have hy' : upd H1 dx (.own y) y = none := by rw [upd_ne (Ne.symm hne)]; exact hy
      have okd := ok_new ok1 (.own y) hdx
      have std := step_new ok1 (.own y) hdx
      obtain ⟨okx, stx⟩ := ok_alloc okd (m := .ins C0 [] []) (o := .ins C0 dx []) hy' fun ρ' H' _ e' => ⟨dx, [], e', rfl, rfl⟩
      have st12 := std.trans stx
      obtain ⟨r, S', e1, c⟩ := q1
      unfold mkIns at e1
      split at e1
      · rename_i S2 eg
        split at e1
        · rename_i kp
          split at e1
          · rename_i C ns us eu
            split at e1
            · rename_i hC
              subst hC
              split at e1
              · rename_i ds ed
                cases e1
                refine ⟨by rw [List.append_nil, List.length_cons, ← r1.length]; exact hn, .loc S1.length :: ws, S1 ++ [.ins C [] []], ρ1.add y, .ok (.d .non), S2, ?_, okx, eg, fun ρ' H' ok' st' v rv => ⟨by simpa [RelW, RelD] using rv, ?_⟩⟩
                · refine ⟨.ref y, vs, by rw [List.append_nil], ⟨by simp [Ad.add, ok1.len], fun a ea => ?_⟩, r1.mono st12⟩
                  rcases add_key ea with ⟨a1, hl⟩ | ⟨_, a2⟩
                  · rw [ok1.len] at hl; omega
                  · rw [a2]
                · obtain ⟨ok2, st2⟩ := ok_cut ok1 ok' (st12.trans st') kp
                  obtain ⟨a, hpa⟩ := ok'.live _ _ eu (by simp)
                  obtain ⟨m', e2, ob⟩ := ok'.obj _ a hpa
                  rw [eu] at e2
                  cases e2
                  have hpa2 := st'.same S1.length a (by simp [Ad.add, ok1.len]) hpa
                  have hay : a = y := by
                    rcases add_key hpa2 with ⟨_, hl⟩ | ⟨_, a2⟩
                    · rw [ok1.len] at hl; omega
                    · exact a2
                  subst hay
                  obtain ⟨dx', us', h1, h2, h3⟩ := ob
                  have hd := pure?_rel ed h2
                  refine c _ _ ok2 st2 _ (show RelD X.K (ρ'.cut S1.length) H' (.ins C ns ds) (.ref a) from ?_)
                  rw [RelD]
                  exact ⟨a, dx', us', rfl, h1, own_off ok' (Nat.le_refl _) hpa, RelDs.sub (fun a z => cut_off z) _ _ hd, by rw [h3, h2.length, hd.length]⟩
              · cases e1
            · cases e1
          · cases e1
        · cases e1
      · cases e1
    · exact go_none q1
end
end DL
set_option Elab.async false
set_option linter.all false
set_option maxRecDepth 100000
set_option maxHeartbeats 1000000
/-! DL15: enumerate over a tuple. -/
namespace DL
open PySem PySem.Spec PyProof.Rows L2
abbrev enumObj (n : Addr) : Obj := { cls := .type "enumerate", data := .fields #[.none, .bool false, .ref n, rawInt 0, .none, .none] }
theorem enum1_meets {z : Value} {ob : Obj} {G : Heap → Prop} (B : Begins z ob G) :
    Meets (Builtin.«enumerate.__new__» ⟨[.type "enumerate", z], []⟩) fun _ R s => G s.heap ∧ R (.ok (.ret (.ref (s.heap.push ob).objs.size))) { s with heap := (s.heap.push ob).push (enumObj s.heap.objs.size) } :=
  .of_wp fun prog w A R s hh => by
    obtain ⟨hp, gn, dr, tk, os⟩ := s
    obtain ⟨hg, hr⟩ := hh
    have sub := sub_enumerate
    have it1 : ∀ {A2 : Around} {E : Value → Shared → Prop} {Q : Value → Shared → Prop}, Q (.ref hp.objs.size) ⟨hp.push ob, gn, dr, tk, os⟩ → wpAny (model prog w) A2 (pyIter z) Q E ⟨hp, gn, dr, tk, os⟩ := fun q => B.iter prog w _ _ ⟨hp, gn, dr, tk, os⟩ _ hg q
    wp_walk using it1
    refine wpAny_stack_any fun st => wpAny_pure ?_
    split
    · rename_i c _ _ _ _ _
      cases (c == Value.type "enumerate") <;> (wp_walk using it1; exact ⟨_, rfl, hr⟩)
    · wp_walk using it1
      exact ⟨_, rfl, hr⟩
section
variable {prog : Program} {w : World} {A : Around} {E : Value → Shared → Prop} {s : Shared}
theorem enum1_call {z : Value} {ob : Obj} {G : Heap → Prop} {Q : Value → Shared → Prop} (B : Begins z ob G) (hg : G s.heap)
    (hq : ∀ h1, IsEnum h1 (s.heap.objs.size + 1) s.heap.objs.size 0 .none → h1.get? s.heap.objs.size = some ob → (∀ b o, s.heap.get? b = some o → h1.get? b = some o) → Q (.ref (s.heap.objs.size + 1)) { s with heap := h1 }) :
    wpAny (model prog w) A (call (.type "enumerate") [z]) Q E s := by
  refine callType_new F.called_enumerate (by decide) (F.typeCall_enumerate_1 _) (F.newCall_enumerate_1 _) (fun x => F.args_object_init_2 x _) F.entry_enumerate_new (enum1_meets B) ⟨hg, ?_⟩
  have sz : (s.heap.push ob).objs.size = s.heap.objs.size + 1 := Heap.size_push ..
  have en : IsEnum ((s.heap.push ob).push (enumObj s.heap.objs.size)) (s.heap.objs.size + 1) s.heap.objs.size 0 .none := by
    have z := Heap.get?_push_size (s.heap.push ob) (o := enumObj s.heap.objs.size) rfl
    rw [sz] at z
    exact z
  show _ ∧ _
  rw [sz]
  exact ⟨⟨_, en, rfl⟩, hq _ en (Heap.get?_push_of_some _ (Heap.get?_push_size _ B.free)) fun b o x => Heap.get?_push_of_some _ (Heap.get?_push_of_some _ x)⟩
theorem enumT_end {e it t : Addr} {i : Nat} {j : Int} {items : Array Value} {old : Value} {Q : Option Value → Shared → Prop} (hh : A.in1.handled = none)
    (en : IsEnum s.heap e it j old) (ti : s.heap.IsTupleIter it t i) (tp : s.heap.IsTuple t items) (none' : items[i]? = none) (hq : ∀ h1, Heap.ExtBut it s.heap h1 → Q none { s with heap := h1 }) : wpAny (model prog w) A (pyNext (.ref e)) Q E s := by
  have ty : s.TypeIs (.ref e) "enumerate" := ⟨_, en, rfl⟩
  unfold pyNext
  refine wpAny_bind (wpAny_attempt (wpAny_callSpecial?_slot (name := Str.ofString "__next__") ty F.slot_enumerate_next (wpAny_call_entry F.slot_enumerate_next ty F.entry_enumerate_next ?_ (F.args_enumerate_next_1 _))))
  show wpAny _ _ (field (Value.ref e) 2 >>= _) _ _ _
  refine wpAny_bind (wpAny_field en rfl (x := Value.ref it) rfl (wpAny_bind (wpAny_nextOf_tuple_end hh ti tp none' fun h1 x b1 ⟨o, ho, hc⟩ => ?_)))
  exact wpAny_bind (wpAny_isInstance (T := "StopIteration") (b := true) ⟨o, ho, hc⟩ isSubtype_stop (wpAny_pure (hq _ b1)))
end
/-- the tuple at a, each item with its number in a new pair -/
def IteT (K : PySem.W.Frag) (a : Addr) : It :=
  ⟨fun i H => ∃ (xs : List V) (x : V), SqT K H a xs ∧ xs[i]? = some x, fun i H v H1 => ∃ T x, v = .ref T ∧ H T = none ∧ H1 = upd H T (.tup [.int (i : Nat), x]) ∧ ∀ xs, SqT K H a xs → xs[i]? = some x, fun i H => ∃ xs : List V, SqT K H a xs ∧ xs.length ≤ i⟩
theorem turn_enumT {P : Program} {w : World} {K : PySem.W.Frag} {elts : List Expr} {kk : Nat} {tpos : PySem.Pos} (a e it : Addr) (h1 : e ≠ it) (h2 : a ≠ it) (h3 : e ≠ a) :
    Turn P w K (.Tuple elts kk tpos) (IteT K a) [e, it] e (fun i h => (∃ old, IsEnum h e it ((i : Nat) : Int) old) ∧ h.IsTupleIter it a i) where
  mem := by simp
  obj := fun i h st b hb => by
    obtain ⟨⟨old, he⟩, o, ho, hc, hd⟩ := st
    have q : b = e ∨ b = it := by simpa using hb
    rcases q with q | q
    · subst q
      exact ⟨_, he, fun v q => nomatch q⟩
    · subst q
      exact ⟨o, ho, fun v q => by rw [hd] at q; cases q⟩
  keep := fun i h h' st k => let ⟨⟨old, he⟩, hi⟩ := st; ⟨⟨old, k e (by simp) _ he⟩, hi.at fun o q => k it (by simp) o q⟩
  item := by
    intro X hP hw hK hc i pins s σ H E I hf st hg
    subst hP hw hK
    obtain ⟨⟨old, he⟩, hit⟩ := st
    obtain ⟨xs, x, hq, hx⟩ := hg
    obtain ⟨its, rv, p, hz⟩ := I.tuple hq
    obtain ⟨u, hu, ru⟩ := rv.get hx
    have hel := Heap.lt_size he
    have hil : it < s.heap.objs.size := by obtain ⟨_, q, _⟩ := hit; exact Heap.lt_size q
    have hlt : i < its.toArray.size := by
      have := (List.getElem?_eq_some_iff.mp hu).1
      simpa using this
    have hh : X.A.in1.handled = none := I.ok.hd hc
    refine wpAny_pyNext_enum_itemD (Draws.tuple hh it a h2 its.toArray) he ⟨hit, p⟩ hlt h1 (by simp; exact ⟨h1, h3⟩) fun y h' tk hy ho hst hT hsz hk => ?_
    have hyu : y = u := by
      have e1 : its[i]? = some y := by simpa using hy
      rw [hu] at e1
      exact (Option.some.inj e1).symm
    subst hyu
    refine ⟨_, rfl, wpAny_letOwnedTupleGo_enum (s := { s with heap := h', toks := tk + 1 }) ho fun h'' he' sb => ?_⟩
    have hT2 := (sb.2 _ (Nat.ne_of_gt hel)).trans hT
    have new : ObjOk X.prog X.w (upd H s.heap.objs.size (.tup [.int (i : Nat), x])) h'' s.heap.objs.size (.tup [.int (i : Nat), x]) :=
      ⟨by show 2 ≤ sizeLine; decide, [.int i tk, y], .cons ⟨_, rfl⟩ (.cons ru .nil), ⟨_, hT2, rfl, _, rfl⟩⟩
    have I1 : Inv X pins σ (upd H s.heap.objs.size (.tup [.int (i : Nat), x])) { s with heap := h'', toks := tk + 1 } :=
      I.turnedNew (ch := [e, it]) (fun b ob hb q => by
        have n1 : b ≠ e := fun z => hb (by simp [z])
        have n2 : b ≠ it := fun z => hb (by simp [z])
        exact (sb.2 b n1).trans (hk b ob n1 n2 q)) hf (Nat.le_refl _) new
    refine ⟨.ref s.heap.objs.size, _, I1, rfl, ⟨_, x, rfl, I.hok.fresh (Nat.le_refl _), rfl, fun ys hy => ?_⟩, ⟨⟨y, ?_⟩, hst.1.at fun o q => (sb.2 it (Ne.symm h1)).trans q⟩, fun b hb => ?_⟩
    · rw [I.tuple_inj hy hq]
      exact hx
    · have e1 : ((i + 1 : Nat) : Int) = (i : Int) + 1 := by omega
      rw [e1]
      exact he'
    · have hb' : b < s.heap.objs.size := by
        have q : b = e ∨ b = it := by simpa using hb
        rcases q with q | q
        · rw [q]; exact hel
        · rw [q]; exact hil
      rw [upd_ne (Nat.ne_of_lt hb')]
      exact (hf b hb).1
  done := by
    intro X hP hw hK hc i pins s σ H E I hf st hg
    subst hP hw hK
    obtain ⟨⟨old, he⟩, hit⟩ := st
    obtain ⟨xs, hq, hx⟩ := hg
    obtain ⟨its, rv, p, hz⟩ := I.tuple hq
    obtain ⟨f0, f1, f2, f3, f4, f5⟩ := hf it (by simp)
    have hl := rv.length
    exact enumT_end (I.ok.hd hc) he hit p (by simp; omega) fun h1 eb => ⟨rfl, I.turned (t' := s.toks) (fun b o hb q => eb b o hb q) f0 f1 f3 f4 f5⟩
  self := fun A i s Q E st h => let ⟨⟨_, he⟩, _⟩ := st; wpAny_pyIter_enum he h
def iEnumA (K : PySem.W.Frag) (ta : TA) : TI := fun σ H R => ta σ H fun vs H1 => ∃ a xs, vs = [.ref a] ∧ ((SqT K H1 a xs ∧ R (IteT K a) H1) ∨ (SqL K H1 a xs ∧ R (Ite K a) H1))
theorem pi_enumA {X : Cx} {e : Expr} {ta : TA} {p pos tpos : PySem.Pos} {elts : List Expr} {kk : Nat} (hg : Gl X "enumerate") (hm : X.mg "enumerate" = none) (ha : PA X [e] ta) (hs : starEach [e] X.env = [(false, eval e X.env)] := by rfl) :
    PI X (.Tuple elts kk tpos) (.Call (.Name "enumerate" p) [e] [] pos) (iEnumA X.K ta) := by
  refine ⟨fun pins s σ H R I h => Call_ (ld_blt I hg hm boot_enumerate (PyProof.Rows.callWith_type1 (thn (ha.run pos pins s σ H _ I h) fun us s1 ⟨vs, H1, I1, r1, a, xs, ex, q1⟩ => ?_) hs rfl))⟩
  subst ex
  cases r1 with
  | cons r rr =>
    cases rr
    cases r
    have far : ∀ b, b ∈ [s1.heap.objs.size + 1, s1.heap.objs.size] → FpOk X pins H1 b := fun b hb => by
      have hle : s1.heap.objs.size ≤ b := by
        have q : b = s1.heap.objs.size + 1 ∨ b = s1.heap.objs.size := by simpa using hb
        rcases q with q | q
        · rw [q]; exact Nat.le_succ _
        · rw [q]; exact Nat.le_refl _
      exact I1.fpOk hle (I1.hok.fresh hle)
    rcases q1 with ⟨hq, q⟩ | ⟨hq, q⟩
    · obtain ⟨its, rv, p1, hz⟩ := I1.tuple hq
      have hlt : a < s1.heap.objs.size := by obtain ⟨o, ho, _⟩ := id p1; exact Heap.lt_size ho
      refine enum1_call (begins_tuple a its.toArray) (show s1.heap.IsTuple a its.toArray from p1) fun h1 he hit hk => wpAny_pyIter_enum he ?_
      have I2 : Inv X pins σ H1 { s1 with heap := h1 } := I1.kept (t' := s1.toks) hk
      exact ⟨s1.heap.objs.size + 1, [s1.heap.objs.size + 1, s1.heap.objs.size], _, _, H1, rfl, I2, turn_enumT a (s1.heap.objs.size + 1) s1.heap.objs.size (Nat.succ_ne_self _) (Nat.ne_of_lt hlt) (Ne.symm (Nat.ne_of_lt (Nat.lt_succ_of_lt hlt))), ⟨⟨.none, he⟩, ⟨_, hit, rfl, rfl⟩⟩, far, q⟩
    · obtain ⟨its, rv, p1, hz⟩ := I1.list hq
      refine enum1_call (begins_list a its.toArray) (show s1.heap.IsList a its.toArray from p1.isList) fun h1 he hit hk => wpAny_pyIter_enum he ?_
      have I2 : Inv X pins σ H1 { s1 with heap := h1 } := I1.kept (t' := s1.toks) hk
      exact ⟨s1.heap.objs.size + 1, [s1.heap.objs.size + 1, s1.heap.objs.size], _, _, H1, rfl, I2, turn_enum a (s1.heap.objs.size + 1) s1.heap.objs.size, ⟨⟨.none, he⟩, ⟨_, hit, rfl, rfl⟩, Nat.succ_ne_self _⟩, far, q⟩
/-! ### as functions -/
def enumD (xs : List D) : List W := (List.range xs.length).zipWith (fun (i : Nat) x => W.d (.tup [.int (i : Int), x])) xs
def oEnum : List W → Store → Rs (List W × Grd)
  | [.d (.tup xs)], S => some (.ok (enumD xs, none), S)
  | [.d (.lst xs)], S => some (.ok (enumD xs, none), S)
  | _, _ => none
theorem enumD_get {xs : List D} {i : Nat} {w : W} (h : (enumD xs)[i]? = some w) : ∃ x, xs[i]? = some x ∧ w = .d (.tup [.int (i : Int), x]) := by
  unfold enumD at h
  rw [List.getElem?_zipWith] at h
  by_cases hi : i < xs.length
  · rw [List.getElem?_range hi, List.getElem?_eq_getElem hi] at h
    cases h
    exact ⟨xs[i], List.getElem?_eq_getElem hi, rfl⟩
  · rw [List.getElem?_eq_none (by simpa using hi)] at h
    cases h
theorem enumD_len {xs : List D} : (enumD xs).length = xs.length := by simp [enumD]
section
variable {K : PySem.W.Frag} {ρ : Ad} {H : Hp} {xs : List D} {a : Addr} {us : List V}
theorem int_rel (i : Int) : RelD K ρ H (.int i) (.int i) := by rw [RelD]
theorem itR_enumT (h1 : TupF K ρ H a us) (r1 : RelDs K ρ H xs us) : ItR K ρ H (enumD xs, none) (IteT K a) := by
  intro ρ' S' H' ok st _ i
  have g1 := (h1.monoW st).sq
  have q1 := RelDs.monoW st xs us r1
  refine ⟨fun w hw => ?_, fun hi => ⟨us, g1, by rw [enumD_len, q1.length] at hi; exact hi⟩⟩
  obtain ⟨x, ex, rfl⟩ := enumD_get hw
  obtain ⟨u, hu, ru⟩ := q1.get ex
  refine ⟨⟨us, u, g1, hu⟩, fun z H'' ⟨T, u', e1, hT, e2, k1⟩ => ?_⟩
  have e3 := k1 us g1
  rw [hu] at e3
  cases e3
  subst e1 e2
  exact ⟨fun c o hc => by rw [upd_ne (ne_of_none hc hT)]; exact hc, tup2_new ok hT (int_rel _) ru⟩
theorem itR_enumL (h1 : LstF K ρ H a us) (r1 : RelDs K ρ H xs us) : ItR K ρ H (enumD xs, none) (Ite K a) := by
  intro ρ' S' H' ok st _ i
  have g1 := (h1.monoW st).sq
  have q1 := RelDs.monoW st xs us r1
  refine ⟨fun w hw => ?_, fun hi => ⟨us, g1, by rw [enumD_len, q1.length] at hi; exact hi⟩⟩
  obtain ⟨x, ex, rfl⟩ := enumD_get hw
  obtain ⟨u, hu, ru⟩ := q1.get ex
  refine ⟨⟨us, u, g1, hu⟩, fun z H'' ⟨T, u', e1, hT, e2, k1⟩ => ?_⟩
  have e3 := k1 us g1
  rw [hu] at e3
  cases e3
  subst e1 e2
  exact ⟨fun c o hc => by rw [upd_ne (ne_of_none hc hT)]; exact hc, tup2_new ok hT (int_rel _) ru⟩
end
theorem di_enum {X : Cx} {Wx : WX} {e : Expr} {fa : FA} {p pos tpos : PySem.Pos} {elts : List Expr} {kk : Nat} (hm : X.mg "enumerate" = none) (ha : PA X [e] (tA X.K Wx fa)) (hg : Gl X "enumerate" := by rfl) (hs : starEach [e] X.env = [(false, eval e X.env)] := by rfl) :
    PI X (.Tuple elts kk tpos) (.Call (.Name "enumerate" p) [e] [] pos) (tI X.K Wx (dIt oEnum fa)) :=
  (pi_enumA hg hm ha hs).imp fun σ H R q => by
    obtain ⟨δ, S, ρ, ok, en, q⟩ := q
    refine ⟨δ, S, ρ, ok, en, (go_bind q).mono fun vs H1 ⟨ws, S1, ρ1, ok1, st1, r1, q1⟩ => ?_⟩
    unfold oEnum at q1
    split at q1
    · rename_i xs
      obtain ⟨v, rfl, rv⟩ := relWs1 r1
      obtain ⟨a, us, rfl, h1, h2⟩ : ∃ a vs, v = .ref a ∧ TupF X.K ρ1 H1 a vs ∧ RelDs X.K ρ1 H1 xs vs := by simpa [RelW, RelD] using rv
      exact ⟨a, us, rfl, .inl ⟨h1.sq, go_val ok1 q1 (itR_enumT h1 h2)⟩⟩
    · rename_i xs
      obtain ⟨v, rfl, rv⟩ := relWs1 r1
      obtain ⟨a, us, rfl, h1, h2⟩ : ∃ a vs, v = .ref a ∧ LstF X.K ρ1 H1 a vs ∧ RelDs X.K ρ1 H1 xs vs := by simpa [RelW, RelD] using rv
      exact ⟨a, us, rfl, .inr ⟨h1.sq, go_val ok1 q1 (itR_enumL h1 h2)⟩⟩
    · exact go_none q1
end DL
set_option Elab.async false
set_option linter.all false
set_option maxRecDepth 100000
set_option maxHeartbeats 1000000
/-! DL16: operators that go by what the left side is; list.extend. -/
namespace DL
open PySem PySem.Spec PyProof.Rows L2
theorem opr_or {X : Cx} {f : Value → Value → Sem Value} {r r' : R2} (h : OpR X f r) (h' : OpR X f r') : OpR X f fun x y H Q => r x y H Q ∨ r' x y H Q :=
  fun pins s σ H x y v u Q I rx ry q => q.elim (h pins s σ H x y v u Q I rx ry) (h' pins s σ H x y v u Q I rx ry)
theorem slr_or {X : Cx} {r r' : V → Option Int → Option Int → Hp → VK → Prop} (h : SlR X r) (h' : SlR X r') : SlR X fun x lo hi H Q => r x lo hi H Q ∨ r' x lo hi H Q :=
  fun pins s σ H x v vl vu lo hi sl Q I rx hs hl hu q => q.elim (h pins s σ H x v vl vu lo hi sl Q I rx hs hl hu) (h' pins s σ H x v vl vu lo hi sl Q I rx hs hl hu)
/-- a tuple -/
def isT : W → Bool
  | .d (.tup _) => true
  | _ => false
def oEi (p q : F2) : F2 := fun x y S => if isT x = true then p x y S else q x y S
theorem oEi_ok {K : PySem.W.Frag} {Wx : WX} {r r' : R2} {p q : F2} (h : OpF K Wx r p) (h' : OpF K Wx r' q) : OpF K Wx (fun x y H Q => r x y H Q ∨ r' x y H Q) (oEi p q) := by
  intro σ ρ S H x y a b Q ok rx ry g
  unfold oEi at g
  split at g
  · exact .inl (h σ ρ S H x y a b Q ok rx ry g)
  · exact .inr (h' σ ρ S H x y a b Q ok rx ry g)
def oSlE (p q : F3) : F3 := fun x lo hi S => if isT x = true then p x lo hi S else q x lo hi S
theorem oSlE_ok {K : PySem.W.Frag} {Wx : WX} {r r' : V → Option Int → Option Int → Hp → VK → Prop} {p q : F3} (h : SlF K Wx r p) (h' : SlF K Wx r' q) : SlF K Wx (fun x lo hi H Q => r x lo hi H Q ∨ r' x lo hi H Q) (oSlE p q) := by
  intro σ ρ S H x a lo hi Q ok rx g
  unfold oSlE at g
  split at g
  · exact .inl (h σ ρ S H x a lo hi Q ok rx g)
  · exact .inr (h' σ ρ S H x a lo hi Q ok rx g)
/-- a[lo:hi] of tuples and of lists that are only read -/
def oSlA : F3 := oSlE oSlT oSlL
theorem sl_A {X : Cx} : SlR X fun x lo hi H Q => rSlA X.K x lo hi H Q ∨ rSlL X.K x lo hi H Q := slr_or sl_tupA sl_list
theorem oSlA_ok {K : PySem.W.Frag} {Wx : WX} : SlF K Wx (fun x lo hi H Q => rSlA K x lo hi H Q ∨ rSlL K x lo hi H Q) oSlA := oSlE_ok oSlT_ok oSlL_ok
/-- C(args), by what is known of its __init__ -/
theorem de_makeE {X : Cx} {Wx : WX} {C0 f0 : Addr} {k n : Nat} {g : Fn} {x : Str} {e : Expr} {es : List Expr} {fa : FA} {p pos : PySem.Pos} (M : Mk X.K C0 f0) (F : ∃ fd ps, FnOk X.prog X.w X.K X.mg X.base (L2.CX X.prog X.w) k f0 fd ps (spD X.K n g) ∧ Binds X.K fd ps []) (hm : X.mg x = some (.ref C0)) (hr : Room (k + 1) X.A) (ha : PA X (e :: es) (tA X.K Wx fa))
    (hg : Gl X x := by rfl) (hdb : (x == ("__debug__" : Str)) = false := by decide) (he : starEach (e :: es) X.env = (false, eval e X.env) :: starEach es X.env := by rfl) (hpl : (backTo pos (starEach es X.env)).any (·.1) = false := by rfl) :
    PE X (.Call (.Name x p) (e :: es) [] pos) (tE X.K Wx (dMake C0 n g fa)) := by
  obtain ⟨fd, ps, F, hb⟩ := F
  exact de_make M F hb hr hm ha hg hdb he hpl
/-- xs.extend(ys): both at places -/
def extAt (n : Nat) (w : W) (S : Store) : Rs W := match w with
  | .loc m => (match S[n]? with
    | some (.lst ws) => (match S[m]? with
      | some (.lst us) => if ws.length + us.length ≤ sizeLine then some (.ok (.d .non), S.set n (.lst (ws ++ us))) else none
      | _ => none)
    | _ => none)
  | _ => none
def dExt (fo fe : FE) : FE := fun δ S => (fo δ S).bind fun x S1 => match x with
  | .loc n => if isLst S1 n = true then (fe δ S1).bind (extAt n) else none
  | _ => none
theorem de_ext {X : Cx} {Wx : WX} {o e : Expr} {fo f : FE} {cpos apos : PySem.Pos} (ho : PE X o (tE X.K Wx fo)) (he : PE X e (tE X.K Wx f)) (hbase : attributeBase o "extend" X.env (eval o X.env) = eval o X.env := by rfl)
    (hfew : ((backTo cpos (starEach [e] X.env)).all (fun x => !x.1) && (backToKw cpos (keywordEach [] X.env)).all (fun x => x.1.isSome)
      && decide ([e].length + ([] : List Keyword).length + (if ([] : List Keyword).isEmpty then 0 else 1) < 30)) = true := by rfl)
    (hline : (apos.endLine == cpos.line) = true := by rfl) (hs : starEach [e] X.env = (false, eval e X.env) :: starEach [] X.env := by rfl) (hplain : (backTo cpos (starEach [] X.env)).any (·.1) = false := by rfl) :
    PE X (.Call (.Attribute o "extend" apos) [e] [] cpos) (tE X.K Wx (dExt fo f)) :=
  (pe_bm PySem.F.plainAttrs_list PySem.F.slot_list_extend PySem.F.type_list_extend mt_extend ho (pa_cons he pa_nil hs) hbase hfew hline hs hplain).imp fun σ H Q q => by
    obtain ⟨δ, S, ρ, ok, en, q⟩ := q
    refine ⟨δ, S, ρ, ok, en, (go_bind q).mono fun v H1 ⟨x, S1, ρ1, ok1, st1, r1, q1⟩ => ?_⟩
    cases x with
    | d x => exact go_none q1
    | loc n =>
      by_cases hi : isLst S1 n = true
      · simp only [if_pos hi] at q1
        obtain ⟨ws, ew⟩ := isLst_at hi
        obtain ⟨a, vs, rfl, ha, h1, h2⟩ := loc_at ok1 r1 ew
        refine ⟨.inl ⟨rfl, vs, SqL.of h1⟩, ?_⟩
        refine ⟨δ, S1, ρ1, ok1, en.mono st1, (go_bind q1).mono fun u H2 ⟨w, S2, ρ2, ok2, st2, r2, q2⟩ => ?_⟩
        cases w with
        | d y => exact go_none q2
        | loc m =>
          unfold extAt at q2
          dsimp only at q2
          split at q2
          · rename_i ws2 e2
            split at q2
            · rename_i us2 e4
              obtain ⟨a2, vs2, e3, ha2, h3, h4⟩ := loc_at ok2 (r1.mono st2) e2
              cases e3
              obtain ⟨b, zs, rfl, hb, h5, h6⟩ := loc_at ok2 r2 e4
              by_cases hz : ws2.length + us2.length ≤ sizeLine
              · rw [if_pos hz] at q2
                refine ⟨a, b, vs2, zs, rfl, rfl, h3, h5, by rw [← h4.length, ← h6.length]; exact hz, ?_⟩
                obtain ⟨ok3, st3⟩ := ok_write ok2 (m := .lst (ws2 ++ us2)) (o := .lst (vs2 ++ zs)) ha2 fun H' st e => ⟨_, e, (h4.mono st).app (h6.mono st)⟩
                exact go_at q2 ok3 st3 (by simp [RelW, RelD])
              · rw [if_neg hz] at q2
                exact go_none q2
            · exact go_none q2
          · exact go_none q2
      · simp only [if_neg hi] at q1
        exact go_none q1
end DL
set_option Elab.async false
set_option linter.all false
set_option maxRecDepth 100000
set_option maxHeartbeats 2000000
/-! DL17: tuple * 1; isinstance and == of own classes. -/
namespace DL
open PySem PySem.Spec PyProof.Rows L2 PySem.SeqAt
open AutoSeq1 (wpAny_loadPart')
theorem tuple_mul1 (l : Addr) (items : Array Value) (n : Nat) (dd : Option Addr) (sl : Array (Option Value)) (u : Tok) :
    Meets (Builtin.«tuple.__mul__» ⟨[.ref l, .int 1 u], []⟩) (fun _ R s => s.heap.get? l = some { cls := .type "tuple", dict := dd, data := .seq items n, slots := sl } ∧ R (.ok (.ret (.ref l))) s) :=
  .of_wp fun prog w A R s h => by
    obtain ⟨hp, g, d, tk, os⟩ := s
    obtain ⟨hl, h⟩ := h
    have f1 := AutoSeq1.idx_int
    have c1 : (items.isEmpty || (1 : Int) == 1) = true := by simp
    wp_walk using wpAny_loadPart' hl
    exact ⟨_, rfl, h⟩
def rRepT1 (K : PySem.W.Frag) : R2 := fun x y H Q => ∃ l xs, x = .ref l ∧ y = .int 1 ∧ SqT K H l xs ∧ Q (.ref l) H
theorem op_repT1 {X : Cx} : OpR X (binaryOp .Mult) (rRepT1 X.K) := by
  intro pins s σ H x y v u Q I rx ry h
  obtain ⟨l, xs, rfl, rfl, hT, q⟩ := h
  cases rx
  obtain ⟨t, rfl⟩ := ry
  obtain ⟨its, r, ⟨⟨cls, dd, data, sl⟩, ho, hc, n, hd⟩, hs⟩ := I.tuple hT
  dsimp only at hc hd
  subst hc hd
  have last : wpAny (model X.prog X.w) X.A (call (.builtin "tuple.__mul__") [.ref l, .int 1 t]) (EP X pins σ Q) X.xe s :=
    call_meets F.slot_tuple_mul ⟨_, ho, rfl⟩ F.entry_tuple_mul (F.args_tuple_mul_2 _ _) (tuple_mul1 l its.toArray n dd sl t) ⟨ho, ⟨.ref l, H, I, rfl, q⟩⟩
  exact wpAny_binaryOp_repeat_ref (T := "tuple") (U := "int") (by decide) ⟨_, ho, rfl⟩ (fun s' => typeIs_int s' 1 t) noFill_tuple_mul F.fills_int_mul F.slot_int_rmul repeat_tuple F.slot_int_index.lookup
    (call_meets F.slot_int_rmul (typeIs_int s 1 t) F.entry_int_rmul (F.args_int_rmul_2 _ _) (int_rmul_tuple 1 t l its.toArray n dd sl) ⟨ho, rfl, ⟨_, ho, rfl⟩, last⟩)
/-- tuple * int, 1 too -/
def oRepA : F2
  | .d (.tup a), .d (.int k), S => if k = 1 then some (.ok (.d (.tup a)), S) else oRepT (.d (.tup a)) (.d (.int k)) S
  | _, _, _ => none
theorem oRepA_ok {K : PySem.W.Frag} {Wx : WX} : OpF K Wx (fun x y H Q => rRepT K x y H Q ∨ rRepT1 K x y H Q) oRepA := by
  intro σ ρ S H x y u v Q ok rx ry q
  unfold oRepA at q
  split at q
  · rename_i a k
    split at q
    · rename_i hk
      subst hk
      have rx' : RelD K ρ H (.tup a) u := rx
      rw [RelD] at rx'
      obtain ⟨p, vs, rfl, ht, hv⟩ := rx'
      exact .inr ⟨p, vs, rfl, by simpa [RelW, RelD] using ry, ht.sq, go_val ok q rx⟩
    · exact .inl (oRepT_ok σ ρ S H _ _ u v Q ok rx ry q)
  · exact go_none q
/-! ### an own == -/
section
variable {prog : Program} {w : World} {A : Around} {E : Value → Shared → Prop} {s : Shared} {K : PySem.W.Frag} {x C f : Addr} {ox : Obj} {od : Option Obj}
/-- a built-in value against an instance: its own == declines, then the text's -/
theorem refl_K {v : Value} {T id : String} {Q : Value → Shared → Prop} (hu : A.units < cLine) (X : K.In s.heap) (I : PySem.W.InstAt s.heap x ox C od) (hv : s.TypeIs v T) (ho : oneThing? .Eq v (.ref x) = none)
    (hup : PySem.W.subIn K (.ref C) (.type T) = some false) (h1 : Slot T "__eq__" id) (hc : ∀ Q' : Value → Shared → Prop, Q' .notImplemented s → wpAny (model prog w) A (call (.builtin id) [v, .ref x]) Q' E s)
    (hs : PySem.W.findIn K (.ref C) "__eq__" = some (some (.ref f))) (hf : PySem.W.isFn K (.ref f) = true)
    (h : wpAny (model prog w) A (call (.ref f) [.ref x, v]) (PySem.W.CmpBack Q) E s) : wpAny (model prog w) A (richCompare .Eq v (.ref x)) Q E s := by
  have back : wpAny (model prog w) A (tryCompare (.ref x) "__eq__" v) (fun r s' => ∃ v, r = some v ∧ Q v s') E s := by
    unfold tryCompare
    refine wpAny_bind (PySem.W.ifBound_K X I hs hf (wpAny_mono h (fun v s' hv => ?_) fun _ _ e => e))
    cases v <;> first | exact hv.elim | exact wpAny_pure ⟨_, rfl, hv⟩
  unfold richCompare
  rw [ho]
  dsimp only
  refine wpAny_holding (wpAny_bind (wpAny_cRoomFor hu (wpAny_bind (wpAny_typeOf hv (wpAny_bind (I.type.here ?_))))))
  have hne : (Value.type T != Value.ref C) = true := rfl
  rw [if_pos hne]
  refine wpAny_bind ((PySem.W.looks_subIn X hup).here ?_)
  rw [if_neg Bool.false_ne_true]
  refine wpAny_bind (m := tryCompare v _ (.ref x)) (wpAny_tryCompare_declines hv h1 (hc _ ⟨rfl, ?_⟩))
  have hnot : (!false) = true := rfl
  dsimp only
  rw [if_pos hnot]
  refine wpAny_bind (m := tryCompare (.ref x) _ v) (wpAny_mono back (fun r s' z => ?_) fun _ _ e => e)
  obtain ⟨v, rfl, hq⟩ := z
  exact wpAny_pure hq
theorem none_no (x : Addr) : Gives (Builtin.«NoneType.__eq__» ⟨[.none, .ref x], []⟩) (.val (Value.notImplemented)) :=
  .of_wp fun M A E s Q h => by
    obtain ⟨hp, g, d, tk, os⟩ := s
    wp_walk
    exact ⟨_, rfl, h⟩
theorem str_no (a : Str) (t : Tok) (x C dx : Addr) : Meets (Builtin.«str.__eq__» ⟨[.str a t, .ref x], []⟩) (fun _ R s => s.heap.get? x = some (PySem.W.instObj C dx) ∧ R (.ok (.ret .notImplemented)) s) :=
  .of_wp fun prog w A R s h => by
    obtain ⟨hp, g, d, tk, os⟩ := s
    obtain ⟨hl, h⟩ := h
    unfold PySem.W.instObj at hl
    wp_walk using wpAny_loadPart' hl
    exact ⟨_, rfl, h⟩
theorem tup_no (l : Addr) (items : Array Value) (n : Nat) (dd : Option Addr) (sl : Array (Option Value)) (x C dx : Addr) (hs : PySem.W.subIn K (.ref C) (.type "tuple") = some false) :
   Meets (Builtin.«tuple.__eq__» ⟨[.ref l, .ref x], []⟩) (fun _ R s => K.In s.heap ∧ s.heap.get? l = some { cls := .type "tuple", dict := dd, data := .seq items n, slots := sl } ∧ s.heap.get? x = some (PySem.W.instObj C dx) ∧ R (.ok (.ret .notImplemented)) s) :=
  .of_wp fun prog w A R s h => by
    obtain ⟨hp, g, d, tk, os⟩ := s
    obtain ⟨X, hl, hx, h⟩ := h
    have sub : ∀ {A : Around} {E : Value → Shared → Prop} {Q : Bool → Shared → Prop}, Q false ⟨hp, g, d, tk, os⟩ → wpAny (model prog w) A (isSubtype (.ref C) (.type "tuple")) Q E ⟨hp, g, d, tk, os⟩ := fun q => (PySem.W.looks_subIn X hs).here q
    unfold PySem.W.instObj at hx
    wp_walk using wpAny_loadPart' hl, wpAny_loadPart' hx, sub
    exact ⟨_, rfl, h⟩
end
/-! ### own classes -/
def tyNs : List String := ["NoneType", "bool", "int", "str", "tuple", "list", "dict"]
def tyCs : List String := ["bool", "int", "str", "tuple", "list", "dict"]
/-- what isinstance and == ask of an own class -/
structure KOwn (K : PySem.W.Frag) (C : Addr) : Prop where
  cl : Cls K C
  ca : PySem.W.findIn K (.ref C) "__class__" = some (some (.builtin "object.__class__"))
  cn : PySem.W.specialIn K (.builtin "object.__class__") "__get__" = some (some (.builtin "getset_descriptor.__get__"))
  ct : PySem.W.takesIn K (.builtin "object.__class__") = some true
  cm : PySem.W.mroIn K C (.type "object") = some true
  no : ∀ t ∈ tyNs, PySem.W.kitOne K (.type t) (.ref C) = some false
  un : ∀ t ∈ tyCs, PySem.W.kitOne K (.ref C) (.type t) = some false
  up : ∀ t ∈ tyNs, PySem.W.subIn K (.ref C) (.type t) = some false
  dn : ∀ t ∈ tyNs, PySem.W.subIn K (.type t) (.ref C) = some false
def ownB (K : PySem.W.Frag) (C : Addr) : Bool :=
  decide (PySem.W.findIn K (.ref C) "__class__" = some (some (.builtin "object.__class__"))) && (decide (PySem.W.specialIn K (.builtin "object.__class__") "__get__" = some (some (.builtin "getset_descriptor.__get__"))) &&
  (decide (PySem.W.takesIn K (.builtin "object.__class__") = some true) && (decide (PySem.W.mroIn K C (.type "object") = some true) &&
  ((tyNs.all fun t => decide (PySem.W.kitOne K (.type t) (.ref C) = some false)) && ((tyCs.all fun t => decide (PySem.W.kitOne K (.ref C) (.type t) = some false)) &&
  ((tyNs.all fun t => decide (PySem.W.subIn K (.ref C) (.type t) = some false)) && (tyNs.all fun t => decide (PySem.W.subIn K (.type t) (.ref C) = some false))))))))
theorem own_ok {K : PySem.W.Frag} {C : Addr} (cl : Cls K C) (h : ownB K C = true) : KOwn K C := by
  unfold ownB at h
  simp only [Bool.and_eq_true, decide_eq_true_eq, List.all_eq_true] at h
  obtain ⟨h1, h2, h3, h4, h5, h6, h7, h8⟩ := h
  exact ⟨cl, h1, h2, h3, h4, h5, h6, h7, h8⟩
theorem tyN_mem {S : Store} {x : W} {t : String} (e : tyN S x = some t) : t ∈ tyNs := by
  unfold tyN at e
  split at e <;> first
    | (cases e; decide)
    | (split at e <;> first | (cases e; decide) | cases e)
    | cases e
section
variable {K : PySem.W.Frag} {Wx : WX}
theorem ins_ty {ρ : Ad} {H : Hp} {C : Addr} {ns : List Str} {ds : List D} {v : V} (k : KOwn K C) (r : RelW K ρ H (.d (.ins C ns ds)) v) : ∃ a dx fs, v = .ref a ∧ H a = some (.ins C dx fs) ∧ TyX K H v (.ref C) := by
  have r' : RelD K ρ H (.ins C ns ds) v := r
  rw [RelD] at r'
  obtain ⟨a, dx, vs, rfl, h1, _⟩ := r'
  exact ⟨a, dx, _, rfl, h1, .base (.ins h1 k.cl k.ca k.cn k.ct k.cm)⟩
/-- isinstance, own classes too -/
def oIsiI (cs : List Addr) : FB := fun ws S => match ws with
  | [.d (.ins C _ _), .d (.ref E)] => if C = E ∧ C ∈ cs then some (.ok (.d (.bl true)), S) else none
  | [.d (.ins C _ _), .d (.ty t)] => if C ∈ cs ∧ t ∈ tyCs then some (.ok (.d (.bl false)), S) else none
  | [x, .d (.ref E)] => if E ∈ cs then (match tyN S x with
    | some _ => some (.ok (.d (.bl false)), S)
    | none => none) else none
  | us => oIsi us S
theorem oIsiI_ok {cs : List Addr} (k : ∀ C ∈ cs, KOwn K C) : CalF K Wx (rIsi K) (oIsiI cs) := by
  intro σ ρ S H ws vs Q ok rw' q
  unfold oIsiI at q
  split at q
  · rename_i C ns ds E
    split at q
    · rename_i hc
      obtain ⟨rfl, hm⟩ := hc
      obtain ⟨v, z, rfl, r1, r2⟩ := relWs2 rw'
      obtain rfl : z = .ref C := by simpa [RelW, RelD] using r2
      obtain ⟨a, dx, fs, _, _, ty⟩ := ins_ty (k C hm) r1
      exact ⟨v, .ref C, .ref C, .ref C, true, rfl, .own C, ty, by unfold PySem.W.kitOne; rw [if_pos (by simp)], go_val ok q (by simp [RelW, RelD])⟩
    · exact go_none q
  · rename_i C ns ds t
    split at q
    · rename_i hc
      obtain ⟨hm, ht⟩ := hc
      obtain ⟨v, z, rfl, r1, r2⟩ := relWs2 rw'
      obtain rfl : z = .ty t := by simpa [RelW, RelD] using r2
      obtain ⟨a, dx, fs, _, _, ty⟩ := ins_ty (k C hm) r1
      exact ⟨v, .ty t, .ref C, .type t, false, rfl, .ty t, ty, (k C hm).un t ht, go_val ok q (by simp [RelW, RelD])⟩
    · exact go_none q
  · rename_i x E hx
    split at q
    · rename_i hm
      split at q
      · rename_i t et
        obtain ⟨v, z, rfl, r1, r2⟩ := relWs2 rw'
        obtain rfl : z = .ref E := by simpa [RelW, RelD] using r2
        exact ⟨v, .ref E, .type t, .ref E, false, rfl, .own E, tyN_ok ok r1 et, (k E hm).no t (tyN_mem et), go_val ok q (by simp [RelW, RelD])⟩
      · exact go_none q
    · exact go_none q
  · exact oIsi_ok σ ρ S H ws vs Q ok rw' q
/-- x == y by the own == of the class at C0 -/
def rOwnE (K : PySem.W.Frag) (C0 : Addr) (sp : Sp) : R2 := fun x y H Q =>
  (∃ a dx fs tb, x = .ref a ∧ H a = some (.ins C0 dx fs) ∧ TyX K H y tb ∧ PySem.W.notFirst K C0 tb = true ∧ sp [x, y] H Q E0) ∨
  (∃ a dx fs, y = .ref a ∧ H a = some (.ins C0 dx fs) ∧ (x = .non ∨ (∃ z, x = .str z) ∨ ∃ p us, x = .ref p ∧ SqT K H p us) ∧ sp [y, x] H Q E0)
theorem op_ownE {X : Cx} {n : Nat} {C f : Addr} {fd : FuncData} {ps : List Str} {sp : Sp} (F : FnOk X.prog X.w X.K X.mg X.base CX0 n f fd ps sp) (hb : Binds X.K fd ps []) (m : Meth X.K C "__eq__" f) (k : KOwn X.K C) (hr : Room n X.A) : OpR X (compareOp .Eq) (rOwnE X.K C sp) := by
  intro pins s σ H x y v u Q I rx ry h
  have run : ∀ (vs : List V) (us : List Value), Vals vs us → sp vs H Q E0 → wpAny (model X.prog X.w) X.A (call (.ref f) us) (PySem.W.CmpBack (EP X pins σ Q)) X.xe s := fun vs us r hsp => by
    have hl := F.len _ _ _ _ hsp
    refine wpAny_call (codeAny_mono (F.run X.A X.stack s H ⟨us, []⟩ us vs Q E0 hr I.env0 (by
      have z := hb s us I.kIn (by rw [List.append_nil, ← r.length]; exact hl)
      simpa using z) r hsp) fun r s' hq => ?_)
    cases r with
    | error e => exact (pass0 (X := X) pins σ H s e s' I hq)
    | ok fl =>
      cases fl with
      | ret w =>
        obtain ⟨z, H', I', rz, qz⟩ := I.after hq
        exact SlX.cmpback rz ⟨z, H', I', rz, qz⟩
      | next => exact False.elim hq
      | brk => exact False.elim hq
      | cont => exact False.elim hq
  show wpAny (model X.prog X.w) X.A (richCompare .Eq v u) (EP X pins σ Q) X.xe s
  rcases h with ⟨a, dx, fs, tb, rfl, ha, ty, hn, hsp⟩ | ⟨a, dx, fs, rfl, ha, hx, hsp⟩
  · cases rx
    obtain ⟨mA, O, _⟩ := ins_get I.hok ha
    obtain ⟨od, J, _⟩ := O.look
    obtain ⟨P, Z, p, _⟩ := kit_of I ry ty
    obtain ⟨m', hF⟩ := I.fr
    exact PySem.W.cmp_K (op := .Eq) (tb := tb) hr.units0 hF I.ok.mod.kin J (Z.ty (model X.prog X.w) s.heap I.kIn p) hn m.at_ m.fn (run [.ref a, y] [.ref a, u] (.cons rfl (.cons ry .nil)) hsp)
  · cases ry
    obtain ⟨mA, O, _⟩ := ins_get I.hok ha
    obtain ⟨od, J, _⟩ := O.look
    have go := run [.ref a, x] [.ref a, v] (.cons rfl (.cons rx .nil)) hsp
    rcases hx with rfl | ⟨z, rfl⟩ | ⟨p, us, rfl, ht⟩
    · cases (show v = Value.none from rx)
      exact refl_K hr.units0 I.kIn J (T := "NoneType") rfl rfl (k.up _ (by decide)) PySem.F.slot_NoneType_eq (fun Q' q' => call_gives PySem.F.slot_NoneType_eq rfl PySem.F.entry_NoneType_eq (PySem.F.args_NoneType_eq_2 _ _) (none_no a) q') m.at_ m.fn go
    · obtain ⟨t, rfl⟩ : ∃ t, v = Value.str z t := rx
      exact refl_K hr.units0 I.kIn J (T := "str") (typeIs_str s z t) rfl (k.up _ (by decide)) PySem.F.slot_str_eq (fun Q' q' => call_meets PySem.F.slot_str_eq (typeIs_str s z t) PySem.F.entry_str_eq (PySem.F.args_str_eq_2 _ _) (str_no z t a C dx) ⟨O.obj, q'⟩) m.at_ m.fn go
    · cases (show v = Value.ref p from rx)
      obtain ⟨its, r, ⟨⟨cls, dd, data, sl⟩, ho, hc, n', hd⟩, hs⟩ := I.tuple ht
      dsimp only at hc hd
      subst hc hd
      exact refl_K hr.units0 I.kIn J (T := "tuple") ⟨_, ho, rfl⟩ rfl (k.up _ (by decide)) PySem.F.slot_tuple_eq (fun Q' q' => call_meets PySem.F.slot_tuple_eq ⟨_, ho, rfl⟩ PySem.F.entry_tuple_eq (PySem.F.args_tuple_eq_2 _ _) (tup_no (K := X.K) p its.toArray n' dd sl a C dx (k.up _ (by decide))) ⟨I.kIn, ho, O.obj, q'⟩) m.at_ m.fn go
/-- a value alone, no exception -/
def okV : Rs W → Rs W
  | some (.ok w, S) => some (.ok w, S)
  | _ => none
/-- what may stand beside an instance -/
def okRight (C0 : Addr) (S : Store) : W → Bool
  | .d (.ins C _ _) => decide (C = C0)
  | y => (tyN S y).isSome
def okLeft : W → Bool
  | .d .non => true
  | .d (.str _) => true
  | .d (.tup _) => true
  | _ => false
def oEqI (C0 : Addr) (g : Fn) (op : F2) : F2 := fun x y S => match x with
  | .d (.ins C ns ds) => if C = C0 ∧ okRight C0 S y = true then okV (g [.d (.ins C ns ds), y] S) else none
  | x => (match y with
    | .d (.ins C ns ds) => if C = C0 ∧ okLeft x = true then okV (g [.d (.ins C ns ds), x] S) else none
    | y => op x y S)
theorem okV_go {ρ : Ad} {S : Store} {H : Hp} {σ : L2.St} {m : Rs W} {Q : VK} (q : Go K Wx σ ρ H (RelW K) (okV m) Q) : ∃ w S', m = some (.ok w, S') ∧ ∀ ρ' H', Ok K ρ' S' H' → Step ρ H ρ' H' → ∀ v, RelW K ρ' H' w v → Q v H' := by
  obtain ⟨r, S', e, c⟩ := q
  unfold okV at e
  split at e
  · rename_i w S1
    cases e
    exact ⟨w, S', rfl, c⟩
  · cases e
/-- the def's promise without exceptions -/
abbrev spN (K : PySem.W.Frag) (n : Nat) (g : Fn) : Sp := fun vs H Q _ => spD K n g vs H Q fun _ _ _ => False
theorem oEqI_ok {C0 : Addr} {g : Fn} {op : F2} {r : R2} (k : KOwn K C0) (o : OpF K Wx r op) : OpF K Wx (fun x y H Q => rOwnE K C0 (spN K 2 g) x y H Q ∨ r x y H Q) (oEqI C0 g op) := by
  intro σ ρ S H x y a b Q ok rx ry q
  unfold oEqI at q
  split at q
  · rename_i C ns ds
    split at q
    · rename_i hc
      obtain ⟨rfl, hy⟩ := hc
      obtain ⟨p, dx, fs, rfl, hp, _⟩ := ins_ty k rx
      obtain ⟨w, S', e, c⟩ := okV_go (S := S) q
      have sp : spN K 2 g [.ref p, b] H Q E0 := ⟨rfl, [.d (.ins C ns ds), y], S, ρ, .ok w, S', ⟨_, _, rfl, rx, _, _, rfl, ry, rfl⟩, ok, e, c⟩
      refine .inl (.inl ?_)
      unfold okRight at hy
      split at hy
      · rename_i C' ns' ds'
        obtain rfl : C' = C := by simpa using hy
        obtain ⟨_, _, _, _, _, ty⟩ := ins_ty k ry
        exact ⟨p, dx, fs, .ref C', rfl, hp, ty, by simp [PySem.W.notFirst], sp⟩
      · obtain ⟨t, et⟩ := Option.isSome_iff_exists.mp hy
        exact ⟨p, dx, fs, .type t, rfl, hp, tyN_ok ok ry et, by simp [PySem.W.notFirst, k.dn t (tyN_mem et)], sp⟩
    · exact go_none q
  · split at q
    · rename_i C ns ds
      split at q
      · rename_i hc
        obtain ⟨rfl, hx⟩ := hc
        obtain ⟨p, dx, fs, rfl, hp, _⟩ := ins_ty k ry
        obtain ⟨w, S', e, c⟩ := okV_go (S := S) q
        have sp : spN K 2 g [.ref p, a] H Q E0 := ⟨rfl, [.d (.ins C ns ds), x], S, ρ, .ok w, S', ⟨_, _, rfl, ry, _, _, rfl, rx, rfl⟩, ok, e, c⟩
        refine .inl (.inr ⟨p, dx, fs, rfl, hp, ?_, sp⟩)
        unfold okLeft at hx
        split at hx
        · exact .inl (by simpa [RelW, RelD] using rx)
        · rename_i z _
          exact .inr (.inl ⟨z, by simpa [RelW, RelD] using rx⟩)
        · rename_i us _
          have rx' : RelD K ρ H (.tup us) a := rx
          rw [RelD] at rx'
          obtain ⟨p', vs, rfl, ht, hv⟩ := rx'
          exact .inr (.inr ⟨p', vs, rfl, ht.sq⟩)
        · cases hx
      · exact go_none q
    · exact .inr (o σ ρ S H x y a b Q ok rx ry q)
end
/-! ### the head, with one more Bool -/
abbrev AlM : Type := He.AlD × Bool
def obsMG (n : Nat) (fa : List He.Fa) (fn : List He.DefD) (ex : PySem.W.Frag → Bool) (g : Addr → Option Obj) : AlM := (He.obsDG n fa fn g, ex (He.frG g (He.asD g n)))
def hookM (n : Nat) (fa : List He.Fa) (fn : List He.DefD) (ex : PySem.W.Frag → Bool) : PySem.W.Hook where
  α := AlM
  obs := fun s => obsMG n fa fn ex s.heap.get?
  val := fun _ => (He.valD fn, true)
  says := fun _ h => ∃ K : PySem.W.Frag, K.In h ∧ He.SaysD fa fn K ∧ ex K = true
  of := fun _ _ e => ⟨_, He.frG_in, congrArg Prod.fst e, congrArg Prod.snd e⟩
  keeps := fun _ _ _ ⟨K, hK, c⟩ k => ⟨K, PySem.W.Frag.In.keeps hK k, c⟩
theorem obsMG_eq {n : Nat} {fa : List He.Fa} {fn : List He.DefD} {ex : PySem.W.Frag → Bool} {g : Addr → Option Obj} {s : Shared} (h : ∀ a, g a = s.heap.get? a) : obsMG n fa fn ex g = (hookM n fa fn ex).obs s := by
  obtain rfl : g = s.heap.get? := funext h
  rfl
end DL
namespace DL
open PySem PySem.Spec PyProof.Rows L2
theorem own1 {K : PySem.W.Frag} {C0 : Addr} (k : KOwn K C0) : ∀ C ∈ [C0], KOwn K C := by
  intro C h
  simp at h
  subst h
  exact k
theorem op_ownEx {X : Cx} {n : Nat} {C f : Addr} {g : Fn} (h : ∃ fd ps, FnOk X.prog X.w X.K X.mg X.base (L2.CX X.prog X.w) n f fd ps (spD X.K 2 g) ∧ Binds X.K fd ps []) (m : Meth X.K C "__eq__" f) (k : KOwn X.K C) (hr : Room n X.A) : OpR X (compareOp .Eq) (rOwnE X.K C (spN X.K 2 g)) := by
  obtain ⟨fd, ps, F, hb⟩ := h
  exact op_ownE (fn_noex F) hb m k hr
end DL
set_option Elab.async false
set_option linter.all false
set_option maxRecDepth 100000
set_option maxHeartbeats 1000000
/-! DL18: plain facts: equality by encodings, loops that change the store, slices, grids. -/
namespace DL
open PySem L2
/-! ### equality by encodings -/
/-- == of what e tells is equality -/
structure EqP {α : Type} (f : α → PyData) (n : Nat) : Prop where
  can : ∀ a, (f a).canLay0 = true
  dep : ∀ a, (f a).depth ≤ n
  eqv : ∀ a b, PyData.eqv (f a) (f b) = true ↔ a = b
def EqE {α : Type} (e : α → D) (n : Nat) : Prop := ∃ f : α → PyData, (∀ a, toP (e a) = some (f a)) ∧ EqP f n
theorem EqE.up {α : Type} {e : α → D} {n m : Nat} (h : EqE e n) (hm : n ≤ m) : EqE e m := by
  obtain ⟨f, h1, h2⟩ := h
  exact ⟨f, h1, h2.can, fun a => Nat.le_trans (h2.dep a) hm, h2.eqv⟩
theorem eqE_int : EqE D.int 0 := ⟨PyData.int, fun a => by rw [toP], fun _ => rfl, fun _ => by simp [PyData.depth], fun a b => by simp [PyData.eqv]⟩
theorem eqE_bl : EqE D.bl 0 := ⟨PyData.bool, fun a => by rw [toP], fun _ => rfl, fun _ => by simp [PyData.depth], fun a b => by simp [PyData.eqv]⟩
theorem eqvAll_iff {α : Type} {f : α → PyData} (h : ∀ a b, PyData.eqv (f a) (f b) = true ↔ a = b) : ∀ xs ys : List α, PyData.eqvAll (xs.map f) (ys.map f) = true ↔ xs = ys
  | [], [] => by simp [PyData.eqvAll]
  | [], y :: ys => by simp [PyData.eqvAll]
  | x :: xs, [] => by simp [PyData.eqvAll]
  | x :: xs, y :: ys => by
    have ih := eqvAll_iff h xs ys
    simp [PyData.eqvAll, h x y, ih]
theorem EqE.list {α : Type} {e : α → D} {n : Nat} (h : EqE e n) : EqE (fun xs : List α => D.tup (xs.map e)) (n + 1) := by
  obtain ⟨f, h1, h2, h3, h4⟩ := h
  refine ⟨fun xs => .tuple (xs.map f), fun xs => ?_, fun xs => ?_, fun xs => ?_, fun xs ys => ?_⟩
  · rw [toP]
    have e2 : toPs (xs.map e) = some (xs.map f) := by
      induction xs with
      | nil => rfl
      | cons x xs ih => rw [List.map_cons, toPs, h1 x, ih]; rfl
    rw [e2]; rfl
  · show PyData.canLayAll0 _ = true
    exact canAll_of fun p hp => by obtain ⟨a, _, rfl⟩ := List.mem_map.mp hp; exact h2 a
  · have := depthAll_le (n := n) (ps := xs.map f) fun p hp => by obtain ⟨a, _, rfl⟩ := List.mem_map.mp hp; exact h3 a
    simp [PyData.depth]; omega
  · show PyData.eqvAll _ _ = true ↔ _
    exact eqvAll_iff h4 xs ys
theorem EqE.pair {α β : Type} {e : α → D} {g : β → D} {n m : Nat} (h : EqE e n) (k : EqE g m) : EqE (fun p : α × β => D.tup [e p.1, g p.2]) (max n m + 1) := by
  obtain ⟨f, h1, h2, h3, h4⟩ := h
  obtain ⟨f', k1, k2, k3, k4⟩ := k
  refine ⟨fun p => .tuple [f p.1, f' p.2], fun p => ?_, fun p => ?_, fun p => ?_, fun p q => ?_⟩
  · rw [toP, toPs, h1, toPs, k1, toPs]; rfl
  · show PyData.canLayAll0 _ = true
    exact canAll_of fun z hz => by
      simp at hz
      rcases hz with rfl | rfl
      · exact h2 _
      · exact k2 _
  · have a := h3 p.1
    have b := k3 p.2
    simp [PyData.depth, PyData.depthAll]; omega
  · show PyData.eqvAll _ _ = true ↔ _
    simp [PyData.eqvAll, h4, k4]
    constructor
    · intro z; exact Prod.ext z.1 z.2
    · intro z; rw [z]; exact ⟨rfl, rfl⟩
/-- nothing, or a tuple -/
def encO {α : Type} (e : α → D) : Option α → D
  | none => .non
  | some a => e a
theorem EqE.opt {α : Type} {e : α → List D} {n : Nat} (h : EqE (fun a => D.tup (e a)) n) : EqE (encO fun a => D.tup (e a)) n := by
  obtain ⟨f, h1, h2, h3, h4⟩ := h
  have ft : ∀ a, ∃ ps, f a = .tuple ps := fun a => by
    have z := h1 a
    rw [toP] at z
    obtain ⟨ps, _, q⟩ := Option.map_eq_some_iff.mp z
    exact ⟨ps, q.symm⟩
  refine ⟨fun o => match o with | none => .none | some a => f a, fun o => ?_, fun o => ?_, fun o => ?_, fun o p => ?_⟩
  · cases o with
    | none => show toP .non = _; rw [toP]
    | some a => exact h1 a
  · cases o with
    | none => rfl
    | some a => exact h2 a
  · cases o with
    | none => simp [PyData.depth]
    | some a => exact h3 a
  · cases o with
    | none => cases p with
      | none => exact ⟨fun _ => rfl, fun _ => by show PyData.eqv .none .none = true; rw [PyData.eqv]⟩
      | some b =>
        obtain ⟨ps, e⟩ := ft b
        refine ⟨fun z => ?_, fun z => nomatch z⟩
        have z' : PyData.eqv .none (f b) = true := z
        rw [e, PyData.eqv] at z'
        cases z'
    | some a => cases p with
      | none =>
        obtain ⟨ps, e⟩ := ft a
        refine ⟨fun z => ?_, fun z => nomatch z⟩
        have z' : PyData.eqv (f a) .none = true := z
        rw [e, PyData.eqv] at z'
        cases z'
      | some b => exact ⟨fun z => congrArg some ((h4 a b).mp z), fun z => (h4 a b).mpr (Option.some.inj z)⟩
theorem EqE.eqW {α : Type} {e : α → D} {n : Nat} (h : EqE e n) (hn : n ≤ 64) (a b : α) : ∃ k : Bool, eqW (.d (e a)) (.d (e b)) = some k ∧ (k = true ↔ a = b) := by
  obtain ⟨f, h1, h2, h3, h4⟩ := h
  have s : ∀ a, SeqAt.shaped (f a) = true := fun a => by
    have := h3 a
    simp [SeqAt.shaped, h2 a]; omega
  exact ⟨_, by simp [DL.eqW, h1, s], h4 a b⟩
theorem EqE.oEq {α : Type} {e : α → D} {n : Nat} (h : EqE e n) (hn : n ≤ 64) (a b : α) [Decidable (a = b)] {S : Store} : oEq (.d (e a)) (.d (e b)) S = some (.ok (.d (.bl (decide (a = b)))), S) := by
  obtain ⟨k, h1, h2⟩ := h.eqW hn a b
  have e : k = decide (a = b) := by
    cases k with
    | true => exact (decide_eq_true (h2.mp rfl)).symm
    | false => exact (decide_eq_false fun z => Bool.noConfusion (h2.mpr z)).symm
  simp [DL.oEq, h1, e]
theorem EqE.oNe {α : Type} {e : α → D} {n : Nat} (h : EqE e n) (hn : n ≤ 64) (a b : α) [Decidable (a = b)] {S : Store} : oNe (.d (e a)) (.d (e b)) S = some (.ok (.d (.bl (!decide (a = b)))), S) := by
  obtain ⟨k, h1, h2⟩ := h.eqW hn a b
  have e : k = decide (a = b) := by
    cases k with
    | true => exact (decide_eq_true (h2.mp rfl)).symm
    | false => exact (decide_eq_false fun z => Bool.noConfusion (h2.mpr z)).symm
  simp [DL.oNe, h1, e]
theorem eqE_F : EqE encF 1 := (eqE_int.pair eqE_int : EqE (fun p : Int × Int => D.tup [.int p.1, .int p.2]) 1)
theorem eqE_U : EqE encU 2 := eqE_F.list
abbrev Unit' := List (Int × Int)
/-- a cell, a row, rows -/
def encC : Option Unit' → D := encO encU
def encRow (r : List (Option Unit')) : D := .tup (r.map encC)
def encR (rs : List (List (Option Unit'))) : D := .tup (rs.map encRow)
theorem eqE_C : EqE encC 2 := EqE.opt (e := fun us : Unit' => us.map encF) eqE_U
theorem eqE_Row : EqE encRow 3 := eqE_C.list
theorem eqE_R : EqE encR 4 := eqE_Row.list
/-! ### loops that change the store -/
theorem forL_invS {α : Type} {tf : Tg} {fb : FS} {wf : α → W} {P : Nat → DEnv → Store → Prop} {xs : List α}
    (h : ∀ (i : Nat) (hi : i < xs.length) (δ : DEnv) (S : Store), P i δ S → ∃ δ1 S1 δ2 S2, tf (wf xs[i]) δ S = some (δ1, S1) ∧ fb δ1 S1 = some (.ok (.nx δ2), S2) ∧ P (i + 1) δ2 S2) :
    ∀ (k i : Nat) (δ : DEnv) (S : Store), i + k = xs.length → P i δ S → ∃ δ' S', forL tf fb none ((xs.drop i).map wf) δ S = some (.ok (.nx δ'), S') ∧ P xs.length δ' S' := by
  intro k
  induction k with
  | zero =>
    intro i δ S hi hp
    have e : xs.drop i = [] := List.drop_eq_nil_of_le (by omega)
    refine ⟨δ, S, ?_, by have : i = xs.length := by omega
                         rwa [this] at hp⟩
    rw [e]
    show forL tf fb none [] δ S = _
    unfold forL
    rw [if_pos okG_no]
  | succ k ih =>
    intro i δ S hi hp
    have hlt : i < xs.length := by omega
    obtain ⟨δ1, S1, δ2, S2, h1, h2, h3⟩ := h i hlt δ S hp
    obtain ⟨δ', S', e, hf⟩ := ih (i + 1) δ2 S2 (by omega) h3
    refine ⟨δ', S', ?_, hf⟩
    rw [List.drop_eq_getElem_cons hlt]
    show forL tf fb none (wf xs[i] :: (xs.drop (i + 1)).map wf) δ S = _
    unfold forL
    rw [if_pos okG_no]
    simp only [h1, h2]
    exact e
theorem dFor_invS {α : Type} {fi : FI} {tf : Tg} {fb : FS} {wf : α → W} {P : Nat → DEnv → Store → Prop} {xs : List α} {δ : DEnv} {S S0 : Store} (hi : fi δ S = some (.ok (xs.map wf, none), S0))
    (h : ∀ (i : Nat) (hi : i < xs.length) (δ : DEnv) (S : Store), P i δ S → ∃ δ1 S1 δ2 S2, tf (wf xs[i]) δ S = some (δ1, S1) ∧ fb δ1 S1 = some (.ok (.nx δ2), S2) ∧ P (i + 1) δ2 S2) (h0 : P 0 δ S0) :
    ∃ δ' S', dFor fi tf fb δ S = some (.ok (.nx δ'), S') ∧ P xs.length δ' S' := by
  obtain ⟨δ', S', e, hp⟩ := forL_invS (tf := tf) (fb := fb) (wf := wf) h xs.length 0 δ S0 (by omega) h0
  refine ⟨δ', S', ?_, hp⟩
  unfold dFor
  rw [hi, sE_ok]
  exact e
/-! ### items -/
theorem oIx_tupN {S : Store} {ds : List D} {i : Nat} (h : i < ds.length) : oIx (.d (.tup ds)) (.d (.int (i : Int))) S = some (.ok (.d ds[i]), S) := by
  have e : atI (ds.map W.d) (i : Int) = some (W.d ds[i]) := atI_nat (by simp [h])
  simp only [oIx, seqW, e]
theorem oIx_tup {S : Store} {ds : List D} {i : Int} (h0 : 0 ≤ i) (h : i < (ds.length : Int)) : ∃ d, oIx (.d (.tup ds)) (.d (.int i)) S = some (.ok (.d d), S) ∧ ds[i.toNat]? = some d := by
  have hi : i.toNat < ds.length := by omega
  have e : (i.toNat : Int) = i := by omega
  have q := oIx_tupN (S := S) hi
  rw [e] at q
  exact ⟨_, q, List.getElem?_eq_getElem hi⟩
theorem oIx_enc {α : Type} {S : Store} (e : α → D) {xs : List α} {i : Nat} (h : i < xs.length) : oIx (.d (.tup (xs.map e))) (.d (.int (i : Int))) S = some (.ok (.d (e xs[i])), S) := by
  rw [oIx_tupN (by simpa using h)]
  simp
theorem len_enc {α : Type} {S : Store} (e : α → D) (xs : List α) : oLen (.d (.tup (xs.map e))) S = some (.ok (.d (.int (xs.length : Int))), S) := by rw [len_tup]; simp
theorem cut_hi {ds : List D} {i : Nat} (h : i ≤ ds.length) : cutD ds none (some (i : Int)) = ds.take i := by
  have e1 : HT.sIx ds.length 0 none = 0 := rfl
  have e2 : HT.sIx ds.length ds.length (some (i : Int)) = i := by unfold HT.sIx; simp [show ¬ ((i : Int) < 0) by omega]; omega
  unfold cutD
  rw [e1, e2]
  simp
theorem cut_lo {ds : List D} {i : Nat} (h : i ≤ ds.length) : cutD ds (some (i : Int)) none = ds.drop i := by
  have e1 : HT.sIx ds.length 0 (some (i : Int)) = i := by unfold HT.sIx; simp [show ¬ ((i : Int) < 0) by omega]; omega
  have e2 : HT.sIx ds.length ds.length none = ds.length := rfl
  unfold cutD
  rw [e1, e2]
  rw [List.take_of_length_le (by simp)]
theorem slA_hi {S : Store} {α : Type} (e : α → D) {xs : List α} {i : Nat} (h : i ≤ xs.length) : oSlA (.d (.tup (xs.map e))) none (some (i : Int)) S = some (.ok (.d (.tup ((xs.take i).map e))), S) := by
  show some (Except.ok (W.d (.tup (cutD (xs.map e) none (some (i : Int))))), S) = _
  rw [cut_hi (by simpa using h), List.map_take]
theorem slA_lo {S : Store} {α : Type} (e : α → D) {xs : List α} {i : Nat} (h : i ≤ xs.length) : oSlA (.d (.tup (xs.map e))) (some (i : Int)) none S = some (.ok (.d (.tup ((xs.drop i).map e))), S) := by
  show some (Except.ok (W.d (.tup (cutD (xs.map e) (some (i : Int)) none))), S) = _
  rw [cut_lo (by simpa using h), List.map_drop]
theorem cat_enc {S : Store} {α : Type} (e : α → D) {xs ys : List α} (h : xs.length + ys.length ≤ 1000) : oCat (.d (.tup (xs.map e))) (.d (.tup (ys.map e))) S = some (.ok (.d (.tup ((xs ++ ys).map e))), S) := by
  have hz : (xs.map e).length + (ys.map e).length ≤ sizeLine := by simp; exact Nat.le_trans h (by decide)
  show (if (xs.map e).length + (ys.map e).length ≤ sizeLine then some (Except.ok (W.d (.tup (xs.map e ++ ys.map e))), S) else none) = _
  rw [if_pos hz, List.map_append]
theorem cat_one {S : Store} {α : Type} (e : α → D) {xs : List α} {y : D} {z : α} (hy : y = e z) (h : xs.length ≤ 999) : oCat (.d (.tup (xs.map e))) (.d (.tup [y])) S = some (.ok (.d (.tup ((xs ++ [z]).map e))), S) := by
  have := cat_enc (S := S) e (xs := xs) (ys := [z]) (by simp; omega)
  rw [hy]
  exact this
theorem set_split {α : Type} {xs : List α} {i : Nat} {z : α} (h : i < xs.length) : (xs.take i ++ [z]) ++ xs.drop (i + 1) = xs.set i z := by
  rw [List.set_eq_take_append_cons_drop, if_pos h, List.append_assoc]
  rfl
theorem rep_flat {α : Type} (x : α) : ∀ n : Nat, (List.replicate n [x]).flatten = List.replicate n x
  | 0 => rfl
  | n + 1 => by rw [List.replicate_succ, List.flatten_cons, rep_flat x n, List.replicate_succ]; rfl
theorem repA_one {S : Store} {x : D} {k : Int} (h1 : 1 ≤ k) (h2 : k ≤ 1000) : oRepA (.d (.tup [x])) (.d (.int k)) S = some (.ok (.d (.tup (List.replicate k.toNat x))), S) := by
  unfold oRepA
  dsimp only
  by_cases hk : k = 1
  · rw [if_pos hk]
    subst hk
    rfl
  · rw [if_neg hk]
    unfold oRepT
    dsimp only
    rw [if_pos ⟨by simp, by omega, h2, by simp⟩, rep_flat]
theorem enum_enc {S : Store} {α : Type} (e : α → D) (xs : List α) : oEnum [.d (.tup (xs.map e))] S = some (.ok ((xs.zipIdx).map fun p => W.d (.tup [.int (p.2 : Int), e p.1]), none), S) := by
  show some (Except.ok (enumD (xs.map e), none), S) = _
  have : enumD (xs.map e) = (xs.zipIdx).map fun p => W.d (.tup [.int (p.2 : Int), e p.1]) := by
    unfold enumD
    refine List.ext_getElem (by simp) fun i h1 h2 => ?_
    simp
  rw [this]
/-! ### instances -/
theorem fld_ins {C0 : Addr} {n : Str} {ns : List Str} {ds : List D} {d : D} {S : Store} (h : (ns.zip ds).lookup n = some d) : oFld C0 n (.d (.ins C0 ns ds)) S = some (.ok (.d d), S) := by
  unfold oFld
  dsimp only
  rw [if_pos rfl, h]
theorem mkIns_two {C0 : Addr} {ns : List Str} {a b : D} {S : Store} {n : Nat} (h : n = S.length) : mkIns C0 S (some (.ok (.d .non), S ++ [.ins C0 ns [.d a, .d b]])) = some (.ok (.d (.ins C0 ns [a, b])), S) := by
  unfold mkIns
  dsimp only
  rw [if_pos keepOk_app]
  have e : (S ++ [M.ins C0 ns [.d a, .d b]])[S.length]? = some (.ins C0 ns [.d a, .d b]) := by simp
  rw [e]
  dsimp only
  rw [if_pos rfl]
  have e2 : pure? [W.d a, W.d b] = some [a, b] := rfl
  rw [e2]
  simp [List.take_left]
theorem giveS_nil {x : D} {S1 : Store} : giveS [] (.d x) S1 = some (.ok (.d x), []) := by
  unfold giveS
  rw [if_pos ⟨Nat.zero_le _, fun i q hi e => by simp at hi⟩]
  rfl
/-! ### small exponents, cells -/
def Ep (p : Int × Int) : Prop := FrB 3 p ∧ p.1.natAbs ≤ 6 ∧ p.2 ≤ 4
def UnOk (b : Nat) (us : Unit') : Prop := us.length = b ∧ ∀ p ∈ us, Ep p
def CellOk (b : Nat) : Option Unit' → Prop
  | none => True
  | some us => UnOk b us
def RowsOk (b m n : Nat) (rs : List (List (Option Unit'))) : Prop := rs.length = m ∧ ∀ r ∈ rs, r.length = n ∧ ∀ c ∈ r, CellOk b c
def setC {α : Type} (rs : List (List α)) (i j : Nat) (c : α) : List (List α) := match rs[i]? with
  | some r => rs.set i (r.set j c)
  | none => rs
theorem setC_eq {α : Type} {rs : List (List α)} {i j : Nat} {c : α} (h : i < rs.length) : setC rs i j c = rs.set i (rs[i].set j c) := by
  unfold setC
  rw [List.getElem?_eq_getElem h]
theorem RowsOk.set {b m n : Nat} {rs : List (List (Option Unit'))} (h : RowsOk b m n rs) {i j : Nat} {c : Option Unit'} (hc : CellOk b c) : RowsOk b m n (setC rs i j c) := by
  unfold setC
  split
  · rename_i r er
    obtain ⟨hi, rfl⟩ := List.getElem?_eq_some_iff.mp er
    refine ⟨by simp [h.1], fun r hr => ?_⟩
    rcases List.mem_or_eq_of_mem_set hr with z | z
    · exact h.2 r z
    · have q := h.2 _ (List.getElem_mem hi)
      subst z
      refine ⟨by simp [q.1], fun d hd => ?_⟩
      rcases List.mem_or_eq_of_mem_set hd with z | z
      · exact q.2 d z
      · subst z; exact hc
  · exact h
section
variable {S : Store}
theorem asPt_int {i : Int} : asPt (.d (.int i)) S = some (.ok (some i), S) := rfl
theorem isN_non : oIsN (.d .non) (.d .non) S = some (.ok (.d (.bl true)), S) := rfl
theorem isN_tup {ds : List D} : oIsN (.d (.tup ds)) (.d .non) S = some (.ok (.d (.bl false)), S) := rfl
theorem isN_U {us : Unit'} : oIsN (.d (encU us)) (.d .non) S = some (.ok (.d (.bl false)), S) := rfl
theorem notN_non : oNotN (.d .non) (.d .non) S = some (.ok (.d (.bl false)), S) := rfl
theorem notN_tup {ds : List D} : oNotN (.d (.tup ds)) (.d .non) S = some (.ok (.d (.bl true)), S) := rfl
theorem notN_U {us : Unit'} : oNotN (.d (encU us)) (.d .non) S = some (.ok (.d (.bl true)), S) := rfl
theorem put_last {C0 : Addr} {n : Str} {ns : List Str} {ws : List W} {w : W} (hn : n ∉ ns) (hl : ns.length < 1000) : putM C0 n (.loc S.length) w (S ++ [.ins C0 ns ws]) = some (S ++ [.ins C0 (ns ++ [n]) (ws ++ [w])]) := by
  unfold putM
  have e : (S ++ [M.ins C0 ns ws])[S.length]? = some (.ins C0 ns ws) := by simp
  dsimp only
  rw [e]
  dsimp only
  rw [if_pos ⟨rfl, hn, hl⟩]
  simp
theorem keepOk_last {m m' : M} (h : mBelow (S.length + 1) m') : keepOk (S ++ [m]) (S ++ [m']) := ⟨by simp, fun i q hi e => by
  by_cases hk : i < S.length
  · exact .inl (by rw [List.getElem?_append_left hk] at e ⊢; exact e)
  · have : i = S.length := by simp at hi; omega
    subst this
    simp at e
    subst e
    exact .inr (by simpa using h)⟩
theorem giveS_last {x : D} {m m' : M} (h : mBelow (S.length + 1) m') : giveS (S ++ [m]) (.d x) (S ++ [m']) = some (.ok (.d x), S ++ [m']) := by
  unfold giveS
  rw [if_pos (keepOk_last h)]
  show some (Except.ok (W.d x), (S ++ [m']).take (S ++ [m]).length) = _
  rw [List.take_of_length_le (by simp)]
theorem frz2_map (n : Nat) (ds : List D) : giveW.frz2 n S (ds.map W.d) = some ds := by
  induction ds with
  | nil => rfl
  | cons d ds ih => show (giveW.frz2 n S (ds.map W.d)).map (d :: ·) = _; rw [ih]; rfl
/-- a list of data of the def's own is handed back -/
theorem giveS_own {ds : List D} {G : Store} : giveS S (.loc S.length) (S ++ .lst (ds.map W.d) :: G) = some (.ok (.d (.lst ds)), S) := by
  unfold giveS
  rw [if_pos keepOk_app]
  have e : (S ++ M.lst (ds.map W.d) :: G)[S.length]? = some (.lst (ds.map W.d)) := by simp
  unfold giveW
  dsimp only
  rw [if_neg (Nat.lt_irrefl _), e]
  dsimp only
  rw [frz2_map]
  dsimp only [Option.map_some]
  rw [List.take_left]
end
/-! ### comprehensions with a condition -/
theorem lcL_filter {α : Type} {tf : Tg} {ft : FT} {fe : FE} {δ : DEnv} {S : Store} {wf : α → W} {q : α → Bool} {f : α → W} : ∀ {xs : List α} {acc : List W}, (∀ x ∈ xs, ∃ δ1, tf (wf x) δ S = some (δ1, S) ∧ ft δ1 S = some (.ok (q x), S) ∧ (q x = true → fe δ1 S = some (.ok (f x), S))) →
    lcL tf ft fe none δ (xs.map wf) S acc = some (.ok (acc ++ (xs.filter q).map f), S)
  | [], acc, _ => by show lcL tf ft fe none δ [] S acc = _; unfold lcL; rw [if_pos okG_no]; simp
  | x :: xs, acc, h => by
    obtain ⟨δ1, h1, h2, h3⟩ := h x List.mem_cons_self
    have ih := fun acc => lcL_filter (acc := acc) fun y hy => h y (List.mem_cons_of_mem _ hy)
    show lcL tf ft fe none δ (wf x :: xs.map wf) S acc = _
    unfold lcL
    rw [if_pos okG_no]
    cases hq : q x with
    | true =>
      rw [hq] at h2
      simp only [h1, h2, h3 hq]
      rw [ih]
      simp [hq]
    | false =>
      rw [hq] at h2
      simp only [h1, h2]
      rw [ih]
      simp [hq]
theorem dLc_filter {α : Type} {fi : FI} {tf : Tg} {ft : FT} {fe : FE} {fin : List W → Store → Rs W} {vs : List Nat} {δ : DEnv} {S : Store} {xs : List α} {wf : α → W} {q : α → Bool} {f : α → W} (hi : fi δ S = some (.ok (xs.map wf, none), S)) (hl : xs.length ≤ 1000)
    (h : ∀ x ∈ xs, ∃ δ1, tf (wf x) (wipeE δ vs) S = some (δ1, S) ∧ ft δ1 S = some (.ok (q x), S) ∧ (q x = true → fe δ1 S = some (.ok (f x), S))) : dLc fin fi tf ft fe vs δ S = fin ((xs.filter q).map f) S := by
  have hz : (xs.map wf).length ≤ sizeLine := by simp; exact Nat.le_trans hl (by decide)
  unfold dLc
  rw [hi, bind_ok]
  dsimp only
  rw [if_pos hz, lcL_filter h, bind_ok, List.nil_append]
/-! ### folds, step by step -/
theorem foldl_step {α β : Type} {g : β → α → β} {a : β} {xs : List α} {i : Nat} (h : i < xs.length) : (xs.take (i + 1)).foldl g a = g ((xs.take i).foldl g a) xs[i] := by
  rw [List.take_succ_eq_append_getElem h, List.foldl_append]
  rfl
theorem foldl_inv {α β : Type} {g : β → α → β} {Q : β → Prop} {xs : List α} (h : ∀ a, ∀ x ∈ xs, Q a → Q (g a x)) : ∀ {a : β}, Q a → Q (xs.foldl g a) := by
  induction xs with
  | nil => intro a ha; exact ha
  | cons x xs ih => intro a ha; exact ih (fun a y hy => h a y (List.mem_cons_of_mem _ hy)) (h a x List.mem_cons_self ha)
theorem filterMap_fold {α β : Type} (g : β → α → β) : ∀ (xs : List (Option α)) (a : β), (xs.filterMap id).foldl g a = xs.foldl (fun a c => match c with | none => a | some u => g a u) a
  | [], _ => rfl
  | none :: xs, a => filterMap_fold g xs a
  | some x :: xs, a => filterMap_fold g xs (g a x)
/-! ### the least common multiple -/
def lcmI (a b : Int) : Int := a / gcd a b * b
theorem lcmI_eq {a b : Int} (hb : 0 < b) : a * (b / gcd a b) = lcmI a b := by
  unfold lcmI
  have hg := gcd_pos (t := a) hb
  obtain ⟨x, hx⟩ : gcd a b ∣ a := Int.gcd_dvd_left a b
  obtain ⟨y, hy⟩ : gcd a b ∣ b := Int.gcd_dvd_right a b
  generalize gcd a b = g at *
  have e1 : a / g = x := by rw [hx]; exact Int.mul_ediv_cancel_left _ (by omega)
  have e2 : b / g = y := by rw [hy]; exact Int.mul_ediv_cancel_left _ (by omega)
  rw [e1, e2, hx, hy]
  grind
/-- 1, 2, 3, 4, 6, 12 -/
def In12 (a : Int) : Prop := a = 1 ∨ a = 2 ∨ a = 3 ∨ a = 4 ∨ a = 6 ∨ a = 12
theorem in12_lcm {a b : Int} (h : In12 a) (b1 : 0 < b) (b4 : b ≤ 4) : In12 (lcmI a b) := by
  have hb : b = 1 ∨ b = 2 ∨ b = 3 ∨ b = 4 := by omega
  unfold In12 at *
  rcases h with rfl | rfl | rfl | rfl | rfl | rfl <;> rcases hb with rfl | rfl | rfl | rfl <;> decide
theorem In12.pos {a : Int} (h : In12 a) : 0 < a := by unfold In12 at h; omega
theorem In12.bd {a : Int} (h : In12 a) : Bd 4 a := by unfold In12 at h; unfold Bd; omega
def lcmU (a : Int) (us : Unit') : Int := us.foldl (fun a p => lcmI a p.2) a
def lcmC (a : Int) (c : Option Unit') : Int := match c with
  | none => a
  | some us => lcmU a us
def lcmR (rs : List (List (Option Unit'))) : Int := rs.foldl (fun a r => r.foldl lcmC a) 1
theorem in12_U {a : Int} {b : Nat} {us : Unit'} (h : In12 a) (hu : UnOk b us) : In12 (lcmU a us) :=
  foldl_inv (fun a p hp ha => in12_lcm ha (hu.2 p hp).1.fr.1 (hu.2 p hp).2.2) h
theorem in12_C {a : Int} {b : Nat} {c : Option Unit'} (h : In12 a) (hc : CellOk b c) : In12 (lcmC a c) := by
  cases c with
  | none => exact h
  | some us => exact in12_U h hc
/-! ### drawn lists -/
theorem all_encG {α : Type} {e : α → D} {ds : List D} {Q : α → Prop} (h : ∀ d ∈ ds, ∃ a, d = e a ∧ Q a) : ∃ as : List α, ds = as.map e ∧ ∀ a ∈ as, Q a := by
  induction ds with
  | nil => exact ⟨[], rfl, by simp⟩
  | cons d ds ih =>
    obtain ⟨a, rfl, ha⟩ := h d List.mem_cons_self
    obtain ⟨as, rfl, hs⟩ := ih fun e he => h e (List.mem_cons_of_mem _ he)
    refine ⟨a :: as, rfl, fun q hq => ?_⟩
    rcases List.mem_cons.mp hq with rfl | hq
    · exact ha
    · exact hs q hq
theorem dLc_draw {α : Type} (e : α → D) (Q : α → Prop) {fi : FI} {tf : Tg} {fe : FE} {vs : List Nat} {δ : DEnv} {T : Store} {m : M} {n : Nat} (hn : n ≤ 1000) (hm : DrSt m)
    (hi : fi δ (m :: T) = some (.ok (rngW 0 n, none), m :: T)) (h : ∀ w m, DrSt m → ∃ δ1 a m', tf w (wipeE δ vs) (m :: T) = some (δ1, m :: T) ∧ fe δ1 (m :: T) = some (.ok (.d (e a)), m' :: T) ∧ DrSt m' ∧ Q a) :
    ∃ (as : List α) (m' : M), dLc lcF fi tf ftYes fe vs δ (m :: T) = some (.ok (.d (.lst (as.map e))), m' :: T) ∧ as.length = n ∧ (∀ a ∈ as, Q a) ∧ DrSt m' := by
  have hl : (rngW 0 n).length = n := rngW_len
  obtain ⟨ds, m', e1, hm', hds, hd⟩ := lcL_thread (tf := tf) (fe := fe) (δ := wipeE δ vs) (T := T) (Pm := DrSt) (Pd := fun d => ∃ a, d = e a ∧ Q a) (ws := rngW 0 n) (acc := []) hm (by
    intro w _ m hm
    obtain ⟨δ1, a, m', e1, e2, e3, e4⟩ := h w m hm
    exact ⟨δ1, _, m', e1, e2, e3, a, rfl, e4⟩)
  obtain ⟨as, rfl, ha⟩ := all_encG hd
  refine ⟨as, m', ?_, by rw [← hl, ← hds]; simp, ha, hm'⟩
  have hz : (rngW 0 n).length ≤ sizeLine := Nat.le_trans (by rw [hl]; exact hn) (by decide)
  unfold dLc
  rw [hi, bind_ok]
  dsimp only
  rw [if_pos hz, e1, bind_ok, List.nil_append]
  unfold lcF
  rw [pure?_map]
end DL
set_option Elab.async false
set_option linter.all false
set_option maxRecDepth 100000
set_option maxHeartbeats 1000000
/-! DL19: max and min of two ints. -/
namespace DL
open PySem PySem.Spec PyProof.Rows L2
section
variable {K : PySem.W.Frag} {Wx : WX}
def oMax2 : FB
  | [.d (.int i), .d (.int j)], S => some (.ok (.d (.int (if i < j then j else i))), S)
  | _, _ => none
def oMin2 : FB
  | [.d (.int i), .d (.int j)], S => some (.ok (.d (.int (if j < i then j else i))), S)
  | _, _ => none
theorem oMax2_ok : CalF K Wx (rNuC2 nuMax2) oMax2 := by
  intro σ ρ S H ws vs Q ok rw' q
  unfold oMax2 at q
  split at q
  · rename_i i j
    obtain ⟨v, z, rfl, r1, r2⟩ := relWs2 rw'
    obtain rfl : v = .int i := by simpa [RelW, RelD] using r1
    obtain rfl : z = .int j := by simpa [RelW, RelD] using r2
    refine ⟨.int i, .int j, .int (if i < j then j else i), rfl, ?_, go_val ok q (by simp [RelW, RelD])⟩
    show (some (decide (i < j))).map (fun c => if c = true then V.int j else .int i) = _
    by_cases h : i < j <;> simp [h]
  · exact go_none q
theorem oMin2_ok : CalF K Wx (rNuC2 nuMin2) oMin2 := by
  intro σ ρ S H ws vs Q ok rw' q
  unfold oMin2 at q
  split at q
  · rename_i i j
    obtain ⟨v, z, rfl, r1, r2⟩ := relWs2 rw'
    obtain rfl : v = .int i := by simpa [RelW, RelD] using r1
    obtain rfl : z = .int j := by simpa [RelW, RelD] using r2
    refine ⟨.int i, .int j, .int (if j < i then j else i), rfl, ?_, go_val ok q (by simp [RelW, RelD])⟩
    show (some (decide (j < i))).map (fun c => if c = true then V.int j else .int i) = _
    by_cases h : j < i <;> simp [h]
  · exact go_none q
end
end DL
set_option Elab.async false
set_option linter.all false
set_option maxRecDepth 100000
set_option maxHeartbeats 1000000
/-! DL20: grids as data; lists that are filled. -/
namespace DL
open PySem L2
theorem len_row {S : Store} (r : List (Option Unit')) : oLen (.d (encRow r)) S = some (.ok (.d (.int (r.length : Int))), S) := len_enc encC r
theorem len_rows {S : Store} (rs : List (List (Option Unit'))) : oLen (.d (encR rs)) S = some (.ok (.d (.int (rs.length : Int))), S) := len_enc encRow rs
theorem ix_row {S : Store} {r : List (Option Unit')} {i : Nat} (h : i < r.length) : oIx (.d (encRow r)) (.d (.int (i : Int))) S = some (.ok (.d (encC r[i])), S) := oIx_enc encC h
theorem ix_rows {S : Store} {rs : List (List (Option Unit'))} {i : Nat} (h : i < rs.length) : oIx (.d (encR rs)) (.d (.int (i : Int))) S = some (.ok (.d (encRow rs[i])), S) := oIx_enc encRow h
theorem ix_rows0 {S : Store} {rs : List (List (Option Unit'))} (h : 0 < rs.length) : oIx (.d (encR rs)) (.d (.int 0)) S = some (.ok (.d (encRow rs[0])), S) := oIx_enc encRow h
def gridD (C : Str → Addr) (b : Nat) (rs : List (List (Option Unit'))) : D := .ins (C "Grid") ["bases", "rows"] [.int (b : Int), encR rs]
/-- rows as a Grid takes them -/
structure GrOk (b m n : Nat) (rs : List (List (Option Unit'))) : Prop where
  b1 : 1 ≤ b
  b3 : b ≤ 3
  m1 : 1 ≤ m
  m10 : m ≤ 10
  n1 : 1 ≤ n
  n10 : n ≤ 10
  rows : RowsOk b m n rs
theorem GrOk.lt {b m n : Nat} {rs : List (List (Option Unit'))} (h : GrOk b m n rs) : 0 < rs.length := by have := h.rows.1; have := h.m1; omega
theorem GrOk.set {b m n : Nat} {rs : List (List (Option Unit'))} (h : GrOk b m n rs) {i j : Nat} {c : Option Unit'} (hc : CellOk b c) : GrOk b m n (setC rs i j c) := ⟨h.b1, h.b3, h.m1, h.m10, h.n1, h.n10, h.rows.set hc⟩
section
variable (C : Str → Addr) (S : Store) {b : Nat} {rs : List (List (Option Unit'))}
theorem fld_bases : oFld (C "Grid") "bases" (.d (gridD C b rs)) S = some (.ok (.d (.int (b : Int))), S) := fld_ins rfl
theorem fld_rows : oFld (C "Grid") "rows" (.d (gridD C b rs)) S = some (.ok (.d (encR rs)), S) := fld_ins rfl
end
theorem with_core {rs : List (List (Option Unit'))} {S : Store} {i j : Nat} {c : Option Unit'} (hi : i < rs.length) (hj : j < rs[i].length) (h1 : rs.length ≤ 10) (h2 : rs[i].length ≤ 10) :
    oSlA (.d (encRow rs[i])) none (some (j : Int)) S = some (.ok (.d (encRow (rs[i].take j))), S) ∧
    oCat (.d (encRow (rs[i].take j))) (.d (.tup [encC c])) S = some (.ok (.d (encRow (rs[i].take j ++ [c]))), S) ∧
    oSlA (.d (encRow rs[i])) (some ((j : Int) + 1)) none S = some (.ok (.d (encRow (rs[i].drop (j + 1)))), S) ∧
    oCat (.d (encRow (rs[i].take j ++ [c]))) (.d (encRow (rs[i].drop (j + 1)))) S = some (.ok (.d (encRow (rs[i].set j c))), S) ∧
    oSlA (.d (encR rs)) none (some (i : Int)) S = some (.ok (.d (encR (rs.take i))), S) ∧
    oCat (.d (encR (rs.take i))) (.d (.tup [encRow (rs[i].set j c)])) S = some (.ok (.d (encR (rs.take i ++ [rs[i].set j c]))), S) ∧
    oSlA (.d (encR rs)) (some ((i : Int) + 1)) none S = some (.ok (.d (encR (rs.drop (i + 1)))), S) ∧
    oCat (.d (encR (rs.take i ++ [rs[i].set j c]))) (.d (encR (rs.drop (i + 1)))) S = some (.ok (.d (encR (setC rs i j c))), S) := by
  have e1 : ((j : Int) + 1) = ((j + 1 : Nat) : Int) := by omega
  have e2 : ((i : Int) + 1) = ((i + 1 : Nat) : Int) := by omega
  rw [e1, e2]
  refine ⟨slA_hi encC (by omega), cat_one encC rfl (by simp; omega), slA_lo encC (by omega), ?_, slA_hi encRow (by omega), cat_one encRow rfl (by simp; omega), slA_lo encRow (by omega), ?_⟩
  · rw [← set_split hj]
    exact cat_enc encC (by simp; omega)
  · rw [setC_eq hi, ← set_split hi]
    exact cat_enc encRow (by simp; omega)
theorem row_filter (r : List (Option Unit')) : (r.filter fun c => c.isSome).map (fun c => W.d (encC c)) = ((r.filterMap id).map encU).map W.d := by
  induction r with
  | nil => rfl
  | cons c r ih => cases c with
    | none => simpa using ih
    | some u =>
      have e : (some u :: r).filter (fun c => c.isSome) = some u :: r.filter fun c => c.isSome := rfl
      have e2 : (some u :: r).filterMap id = u :: r.filterMap id := rfl
      rw [e, e2]
      simp only [List.map_cons, ih]
      rfl
theorem row_len {r : List (Option Unit')} : (r.filterMap id).length ≤ r.length := List.length_filterMap_le _ _
def unitsR (rs : List (List (Option Unit'))) : List Unit' := rs.flatMap fun r => r.filterMap id
theorem unitsR_len {n : Nat} : ∀ {rs : List (List (Option Unit'))}, (∀ r ∈ rs, r.length ≤ n) → (unitsR rs).length ≤ rs.length * n
  | [], _ => by simp [unitsR]
  | r :: rs, h => by
    have ih := unitsR_len (n := n) fun q hq => h q (List.mem_cons_of_mem _ hq)
    have h1 := h r List.mem_cons_self
    have h2 := row_len (r := r)
    have e : unitsR (r :: rs) = r.filterMap id ++ unitsR rs := by simp [unitsR]
    rw [e, List.length_append, List.length_cons, Nat.add_mul]
    omega
theorem ext_own {S G : Store} {us vs : List D} (h : us.length + vs.length ≤ 1000) : extAt S.length (.loc (S ++ .lst (us.map W.d) :: G).length) ((S ++ .lst (us.map W.d) :: G) ++ [.lst (vs.map W.d)]) = some (.ok (.d .non), S ++ .lst ((us ++ vs).map W.d) :: (G ++ [.lst (vs.map W.d)])) := by
  unfold extAt
  dsimp only
  have e1 : ((S ++ M.lst (us.map W.d) :: G) ++ [.lst (vs.map W.d)])[S.length]? = some (.lst (us.map W.d)) := by
    rw [List.append_assoc, List.getElem?_append_right (Nat.le_refl _)]
    simp
  have e2 : ((S ++ M.lst (us.map W.d) :: G) ++ [.lst (vs.map W.d)])[(S ++ M.lst (us.map W.d) :: G).length]? = some (.lst (vs.map W.d)) := by
    rw [List.getElem?_append_right (Nat.le_refl _)]
    simp
  rw [e1, e2]
  dsimp only
  rw [if_pos (by simp; exact Nat.le_trans h (by decide))]
  rw [List.append_assoc, List.set_append_right _ _ (Nat.le_refl _)]
  simp
theorem isLst_own {S G : Store} {ws : List W} : isLst (S ++ .lst ws :: G) S.length = true := by
  unfold isLst
  have e1 : (S ++ M.lst ws :: G)[S.length]? = some (.lst ws) := by simp
  rw [e1]
theorem unitsR_fold : ∀ (rs : List (List (Option Unit'))) (a : Int), (unitsR rs).foldl lcmU a = rs.foldl (fun a r => r.foldl lcmC a) a
  | [], a => rfl
  | r :: rs, a => by
    have e : unitsR (r :: rs) = r.filterMap id ++ unitsR rs := by simp [unitsR]
    rw [e, List.foldl_append, unitsR_fold rs, filterMap_fold]
    show rs.foldl (fun a r => r.foldl lcmC a) _ = rs.foldl (fun a r => r.foldl lcmC a) (r.foldl lcmC a)
    refine congrArg (fun z => rs.foldl (fun a r => r.foldl lcmC a) z) (congrArg (fun g => r.foldl g a) ?_)
    funext a c
    cases c <;> rfl
theorem setC_self {rs : List (List (Option Unit'))} {i j : Nat} {c : Option Unit'} (hi : i < rs.length) (hj : j < rs[i].length) : rs = setC rs i j c ↔ rs[i][j] = c := by
  rw [setC_eq hi]
  constructor
  · intro e
    have e1 : rs[i]? = (rs.set i (rs[i].set j c))[i]? := congrArg (fun z => z[i]?) e
    rw [List.getElem?_set_self hi, List.getElem?_eq_getElem hi] at e1
    have e2 := Option.some.inj e1
    have e3 : rs[i][j]? = (rs[i].set j c)[j]? := congrArg (fun z => z[j]?) e2
    rw [List.getElem?_set_self hj, List.getElem?_eq_getElem hj] at e3
    exact Option.some.inj e3
  · intro e
    rw [← e, List.set_getElem_self, List.set_getElem_self]
theorem ne_R {S : Store} (rs : List (List (Option Unit'))) : oNe (.d (encR rs)) (.d (encR rs)) S = some (.ok (.d (.bl false)), S) := by rw [eqE_R.oNe (by decide)]; simp
theorem ne_C {S : Store} (c : Option Unit') : oNe (.d (encC c)) (.d (encC c)) S = some (.ok (.d (.bl false)), S) := by rw [eqE_C.oNe (by decide)]; simp
theorem eq_R {S : Store} (rs rs' : List (List (Option Unit'))) : oEq (.d (encR rs)) (.d (encR rs')) S = some (.ok (.d (.bl (decide (rs = rs')))), S) := eqE_R.oEq (by decide) rs rs'
theorem eq_C {S : Store} (c c' : Option Unit') : oEq (.d (encC c)) (.d (encC c')) S = some (.ok (.d (.bl (decide (c = c')))), S) := eqE_C.oEq (by decide) c c'
theorem ty_R {S : Store} (rs : List (List (Option Unit'))) : tyN S (.d (encR rs)) = some "tuple" := rfl
theorem isi_gg {C : Str → Addr} {S : Store} {b : Nat} {rs : List (List (Option Unit'))} : oIsiI [C "Grid"] [.d (gridD C b rs), .d (.ref (C "Grid"))] S = some (.ok (.d (.bl true)), S) := by
  show (if C "Grid" = C "Grid" ∧ C "Grid" ∈ [C "Grid"] then some (Except.ok (W.d (.bl true)), S) else none) = _
  rw [if_pos ⟨rfl, by simp⟩]
theorem isi_go {C : Str → Addr} {S : Store} {x : D} {t : String} (h : tyN S (.d x) = some t) : oIsiI [C "Grid"] [.d x, .d (.ref (C "Grid"))] S = some (.ok (.d (.bl false)), S) := by
  have hx : ∀ K ns ds, x ≠ .ins K ns ds := fun K ns ds e => by subst e; cases h
  unfold oIsiI
  split
  · rename_i K ns ds E e
    injection e with e1 e2
    injection e1 with e3
    exact absurd e3 (hx _ _ _)
  · rename_i K ns ds t e
    injection e with e1 e2
    injection e1 with e3
    exact absurd e3 (hx _ _ _)
  · rename_i y E _ e
    injection e with e1 e2
    injection e2 with e3 e4
    injection e3 with e5
    injection e5 with e6
    subst e1 e6
    rw [if_pos (by simp), h]
  · rename_i z1 z2 z3
    exact absurd rfl (z3 _ _)
theorem emptyR (m n : Nat) : encR (List.replicate m (List.replicate n none)) = .tup (List.replicate m (.tup (List.replicate n .non))) := by
  unfold encR encRow
  rw [List.map_replicate, List.map_replicate]
  rfl
/-! ### lists that are filled -/
theorem app_last {T : Store} {ws : List W} {w : W} (h : ws.length ≤ 1000) : appAt T.length w (T ++ [.lst ws]) = some (.ok (.d .non), T ++ [.lst (ws ++ [w])]) := by
  unfold appAt
  have e : (T ++ [M.lst ws])[T.length]? = some (.lst ws) := by simp
  rw [e]
  dsimp only
  rw [if_pos (Nat.lt_of_le_of_lt h (by decide))]
  simp
theorem app_mid {S G : Store} {ws : List W} {w : W} (h : ws.length ≤ 1000) : appAt S.length w (S ++ .lst ws :: G) = some (.ok (.d .non), S ++ .lst (ws ++ [w]) :: G) := by
  unfold appAt
  have e : (S ++ M.lst ws :: G)[S.length]? = some (.lst ws) := by simp
  rw [e]
  dsimp only
  rw [if_pos (Nat.lt_of_le_of_lt h (by decide))]
  simp
theorem tuple_own {S G : Store} {ds : List D} : oTuple (.loc S.length) (S ++ .lst (ds.map W.d) :: G) = some (.ok (.d (.tup ds)), S ++ .lst (ds.map W.d) :: G) := by
  unfold oTuple
  have e : seqW (S ++ M.lst (ds.map W.d) :: G) (.loc S.length) = some (false, ds.map W.d) := by
    have e : (S ++ M.lst (ds.map W.d) :: G)[S.length]? = some (.lst (ds.map W.d)) := by simp
    unfold seqW
    dsimp only
    rw [e]
  rw [e]
  dsimp only
  rw [pure?_map]
/-- xs.append(..), the value first -/
theorem dApp_loc {δ : DEnv} {S S1 : Store} {fo fe : FE} {n : Nat} {w : W} (h1 : fo δ S = some (.ok (.loc n), S)) (h2 : isLst S n = true) (h3 : fe δ S = some (.ok w, S1)) : dApp fo fe δ S = appAt n w S1 := by
  unfold dApp
  rw [h1, bind_ok]
  dsimp only
  rw [if_pos h2, h3, bind_ok]
end DL
set_option Elab.async false
set_option linter.all false
set_option maxRecDepth 100000
set_option maxHeartbeats 1000000
/-! DL21: factors of units; numbers of grids. -/
namespace DL
open PySem L2
/-- what a factor is reckoned of -/
structure FacOk (k n M : Nat) (s : Int) (us rs : List (Int × Int)) : Prop where
  hu : UnB k us
  hr : ∀ r ∈ rs, FrB n r ∧ 0 < r.1
  hl : us.length = rs.length
  hs : 1 ≤ s
  sb : Bd 8 s
  hd : ∀ e ∈ us, s % e.2 = 0
  hM : ∀ e ∈ us, (ex s e).natAbs ≤ M
  k0 : 0 < k
  k9 : k ≤ 100
  n0 : 0 < n
  nM : n * M + 1 ≤ 2500
def fz (s : Int) (z : (Int × Int) × (Int × Int)) : Int × Int := rz z.2 (ex s z.1)
section
variable {k n M : Nat} {s : Int} {us rs : List (Int × Int)}
theorem FacOk.mem (h : FacOk k n M s us rs) {z : (Int × Int) × (Int × Int)} (hz : z ∈ us.zip rs) : FrB k z.1 ∧ FrB n z.2 ∧ 0 < z.2.1 ∧ s % z.1.2 = 0 ∧ (ex s z.1).natAbs ≤ M := by
  obtain ⟨a, b⟩ := z
  have := List.of_mem_zip hz
  exact ⟨h.hu.fr a this.1, (h.hr b this.2).1, (h.hr b this.2).2, h.hd a this.1, h.hM a this.1⟩
theorem FacOk.fzb (h : FacOk k n M s us rs) {z : (Int × Int) × (Int × Int)} (hz : z ∈ us.zip rs) : FrB 2500 (fz s z) := by
  have m := h.mem hz
  refine (frb_rz m.2.1 m.2.2.1 (ex s z.1)).up ?_
  have := Nat.mul_le_mul_left n m.2.2.2.2
  have := h.nM
  omega
theorem FacOk.pos (h : FacOk k n M s us rs) {z : (Int × Int) × (Int × Int)} (hz : z ∈ us.zip rs) : Pos (fz s z) := Pos.rz ⟨(h.mem hz).2.2.1, (h.mem hz).2.1.fr.1⟩ _
theorem FacOk.len (h : FacOk k n M s us rs) : (us.zip rs).length = us.length := by rw [List.length_zip, ← h.hl]; exact Nat.min_self _
theorem FacOk.acc (h : FacOk k n M s us rs) {i : Nat} (hi : i < (us.zip rs).length) : FrB 5001 (fac (fz s) ((us.zip rs).take i)) := by
  have h3 := h.hu.l3
  have hl := h.len
  have := fac_bd (f := fz s) (n := 2500) (xs := (us.zip rs).take i) (a := (1, 1)) (m := 1) ⟨⟨by decide, by decide⟩, by decide, by decide⟩ fun x hx => h.fzb (List.mem_of_mem_take hx)
  refine this.up ?_
  rw [List.length_take]
  omega
theorem FacOk.bd (h : FacOk k n M s us rs) : FrB 7501 (fac (fz s) (us.zip rs)) := by
  have h3 := h.hu.l3
  have hl := h.len
  have := fac_bd (f := fz s) (n := 2500) (xs := us.zip rs) (a := (1, 1)) (m := 1) ⟨⟨by decide, by decide⟩, by decide, by decide⟩ fun x hx => h.fzb hx
  exact this.up (by omega)
theorem fac_step {f : (Int × Int) × (Int × Int) → Int × Int} {zs : List ((Int × Int) × (Int × Int))} {i : Nat} (hi : i < zs.length) : fac f (zs.take (i + 1)) = ftimes (fac f (zs.take i)) (f zs[i]) := by
  rw [List.take_succ_eq_append_getElem hi]
  unfold fac
  rw [List.foldl_append]
  rfl
end
theorem zips {us vs ms : List (Int × Int)} (l1 : us.length = vs.length) (l2 : us.length = ms.length) :
    us.zip ms = ((us.zip vs).zip ms).map (fun x => (x.1.1, x.2)) ∧ vs.zip ms = ((us.zip vs).zip ms).map (fun x => (x.1.2, x.2)) ∧ (uplus us vs).zip ms = ((us.zip vs).zip ms).map fun x => (fplus x.1.1 x.1.2, x.2) := by
  induction us generalizing vs ms with
  | nil => cases vs with
    | nil => exact ⟨rfl, rfl, rfl⟩
    | cons v vs => simp at l1
  | cons u us ih => cases vs with
    | nil => simp at l1
    | cons v vs => cases ms with
      | nil => simp at l2
      | cons m ms =>
        obtain ⟨h1, h2, h3⟩ := ih (vs := vs) (ms := ms) (by simpa using l1) (by simpa using l2)
        exact ⟨congrArg (fun t => (u, m) :: t) h1, congrArg (fun t => (v, m) :: t) h2, congrArg (fun t => (fplus u v, m) :: t) h3⟩
def both (rs ms : List (Int × Int)) : List (Int × Int) := (rs.zip ms).map fun p => ftimes p.1 p.2
theorem zipsR {us rs ms : List (Int × Int)} (l1 : us.length = rs.length) (l2 : us.length = ms.length) :
    us.zip rs = (us.zip (rs.zip ms)).map (fun x => (x.1, x.2.1)) ∧ us.zip ms = (us.zip (rs.zip ms)).map (fun x => (x.1, x.2.2)) ∧ us.zip (both rs ms) = (us.zip (rs.zip ms)).map fun x => (x.1, ftimes x.2.1 x.2.2) := by
  induction us generalizing rs ms with
  | nil => exact ⟨rfl, rfl, rfl⟩
  | cons u us ih => cases rs with
    | nil => simp at l1
    | cons v vs => cases ms with
      | nil => simp at l2
      | cons m ms =>
        obtain ⟨h1, h2, h3⟩ := ih (rs := vs) (ms := ms) (by simpa using l1) (by simpa using l2)
        exact ⟨congrArg (fun t => (u, v) :: t) h1, congrArg (fun t => (u, m) :: t) h2, congrArg (fun t => (u, ftimes v m) :: t) h3⟩
theorem fac_units {k k' n M M' : Nat} {s : Int} {us vs ms : List (Int × Int)} (h : FacOk k n M s us ms) (g : FacOk k' n M' s vs ms) : fac (fz s) ((uplus us vs).zip ms) = ftimes (fac (fz s) (us.zip ms)) (fac (fz s) (vs.zip ms)) := by
  obtain ⟨z1, z2, z3⟩ := zips (us := us) (vs := vs) (ms := ms) (by rw [h.hl, g.hl]) h.hl
  have m1 : ∀ x ∈ (us.zip vs).zip ms, (x.1.1, x.2) ∈ us.zip ms := fun x hx => by rw [z1]; exact List.mem_map_of_mem hx
  have m2 : ∀ x ∈ (us.zip vs).zip ms, (x.1.2, x.2) ∈ vs.zip ms := fun x hx => by rw [z2]; exact List.mem_map_of_mem hx
  rw [z1, z2, z3, fac_map, fac_map, fac_map]
  refine fac_mul (fun x hx => h.pos (m1 x hx)) (fun x hx => g.pos (m2 x hx)) (fun x hx => ?_) fun x hx => ?_
  · have e := h.mem (m1 x hx)
    exact Pos.rz ⟨e.2.2.1, e.2.1.fr.1⟩ _
  · have e := h.mem (m1 x hx)
    have d := g.mem (m2 x hx)
    have q := (ex_plus e.1.fr d.1.fr e.2.2.2.1 d.2.2.2.1).2
    have r := rz_add (p := x.2) ⟨e.2.2.1, e.2.1.fr.1⟩ (ex s x.1.1) (ex s x.1.2)
    unfold fz
    dsimp only
    dsimp only at q
    rw [q]
    exact r
theorem fac_roots {k k' n n' M M' : Nat} {s : Int} {us rs ms : List (Int × Int)} (h : FacOk k n M s us rs) (g : FacOk k' n' M' s us ms) : fac (fz s) (us.zip (both rs ms)) = ftimes (fac (fz s) (us.zip rs)) (fac (fz s) (us.zip ms)) := by
  obtain ⟨z1, z2, z3⟩ := zipsR (us := us) (rs := rs) (ms := ms) h.hl g.hl
  have m1 : ∀ x ∈ us.zip (rs.zip ms), (x.1, x.2.1) ∈ us.zip rs := fun x hx => by rw [z1]; exact List.mem_map_of_mem hx
  have m2 : ∀ x ∈ us.zip (rs.zip ms), (x.1, x.2.2) ∈ us.zip ms := fun x hx => by rw [z2]; exact List.mem_map_of_mem hx
  rw [z1, z2, z3, fac_map, fac_map, fac_map]
  refine fac_mul (fun x hx => h.pos (m1 x hx)) (fun x hx => g.pos (m2 x hx)) (fun x hx => ?_) fun x hx => ?_
  · have e := h.mem (m1 x hx)
    have d := g.mem (m2 x hx)
    exact Pos.rz (ftimes_pos ⟨e.2.2.1, e.2.1.fr.1⟩ ⟨d.2.2.1, d.2.1.fr.1⟩) _
  · unfold fz
    dsimp only
    have r := (eqv_lo (fmul x.2.1 x.2.2)).rz (ex s x.1)
    rw [rz_mul] at r
    exact r
theorem fac_none {s : Int} {us rs : List (Int × Int)} (h : ∀ p ∈ us, Fr p) : fac (fz s) ((uminus us us).zip rs) = (1, 1) := by
  refine fac_one fun z hz => ?_
  obtain ⟨a, b⟩ := z
  have ha := (List.of_mem_zip hz).1
  unfold uminus at ha
  rw [self_zip] at ha
  obtain ⟨e, he, rfl⟩ := List.mem_map.mp ha
  unfold fz
  dsimp only
  rw [fminus_self (h e he)]
  have e0 : ex s (0, 1) = 0 := by unfold ex; simp
  rw [e0]
  unfold rz sw pw
  simp
theorem fac_scale {k n M : Nat} {s : Int} {us rs : List (Int × Int)} (h : FacOk k n M s us rs) {m : Nat} (hm : 0 < m) : fac (fz (s * (m : Int))) (us.zip rs) = rz (fac (fz s) (us.zip rs)) (m : Int) := by
  rw [fac_pow (f := fz s) (m := m) (fun x hx => h.pos hx) fun x hx => ?_]
  · unfold rz sw
    rw [if_neg (by omega), Int.natAbs_natCast]
  · have e := h.mem hx
    unfold fz
    rw [ex_scale e.1.fr.1 e.2.2.2.1, rz_mulN _ _ hm]
theorem FacOk.bd3 {k n M : Nat} {s : Int} {us rs : List (Int × Int)} (h : FacOk k n M s us rs) : FrB (1 + 3 * (n * M + 1)) (fac (fz s) (us.zip rs)) := by
  have h3 := h.hu.l3
  have hl := h.len
  have := fac_bd (f := fz s) (n := n * M + 1) (xs := us.zip rs) (a := (1, 1)) (m := 1) ⟨⟨by decide, by decide⟩, by decide, by decide⟩ fun x hx => by
    have m := h.mem hx
    exact (frb_rz m.2.1 m.2.2.1 (ex s x.1)).up (by have := Nat.mul_le_mul_left n m.2.2.2.2; omega)
  refine this.up ?_
  rw [hl]
  have := Nat.mul_le_mul_right (n * M + 1) h3
  omega
theorem both_ok {n m : Nat} {rs ms : List (Int × Int)} (h : ∀ r ∈ rs, FrB n r ∧ 0 < r.1) (g : ∀ r ∈ ms, FrB m r ∧ 0 < r.1) : ∀ r ∈ both rs ms, FrB (n + m) r ∧ 0 < r.1 := by
  intro r hr
  obtain ⟨⟨a, b⟩, hp, rfl⟩ := List.mem_map.mp hr
  have := List.of_mem_zip hp
  have ha := h a this.1
  have hb := g b this.2
  exact ⟨ftimes_ok ha.1 hb.1, (ftimes_pos ⟨ha.2, ha.1.fr.1⟩ ⟨hb.2, hb.1.fr.1⟩).1⟩
theorem both_len {rs ms : List (Int × Int)} (h : rs.length = ms.length) : (both rs ms).length = rs.length := by simp [both, h]
/-! ### loops that may return -/
theorem forL_all {α : Type} {tf : Tg} {fb : FS} {S : Store} {wf : α → W} {q : α → Bool} {w : W} {P : Nat → DEnv → Prop} {xs : List α}
    (h : ∀ (i : Nat) (hi : i < xs.length) (δ : DEnv), P i δ → ∃ δ1, tf (wf xs[i]) δ S = some (δ1, S) ∧ (q xs[i] = true → ∃ δ2, fb δ1 S = some (.ok (.nx δ2), S) ∧ P (i + 1) δ2) ∧ (q xs[i] = false → fb δ1 S = some (.ok (.rt w), S))) :
    ∀ (k i : Nat) (δ : DEnv), i + k = xs.length → P i δ → ((xs.drop i).all q = true → ∃ δ', forL tf fb none ((xs.drop i).map wf) δ S = some (.ok (.nx δ'), S) ∧ P xs.length δ') ∧ ((xs.drop i).all q = false → forL tf fb none ((xs.drop i).map wf) δ S = some (.ok (.rt w), S)) := by
  intro k
  induction k with
  | zero =>
    intro i δ hi hp
    have e : xs.drop i = [] := List.drop_eq_nil_of_le (by omega)
    rw [e]
    refine ⟨fun _ => ⟨δ, ?_, by have : i = xs.length := by omega
                                rwa [this] at hp⟩, fun z => by simp at z⟩
    show forL tf fb none [] δ S = _
    unfold forL
    rw [if_pos okG_no]
  | succ k ih =>
    intro i δ hi hp
    have hlt : i < xs.length := by omega
    obtain ⟨δ1, h1, h2, h3⟩ := h i hlt δ hp
    rw [List.drop_eq_getElem_cons hlt]
    cases hq : q xs[i] with
    | true =>
      obtain ⟨δ2, e2, hp2⟩ := h2 hq
      have z := ih (i + 1) δ2 (by omega) hp2
      have step : forL tf fb none ((xs[i] :: xs.drop (i + 1)).map wf) δ S = forL tf fb none ((xs.drop (i + 1)).map wf) δ2 S := by
        show forL tf fb none (wf xs[i] :: (xs.drop (i + 1)).map wf) δ S = _
        conv => lhs; unfold forL
        rw [if_pos okG_no]
        simp only [h1, e2]
      rw [step, List.all_cons, hq, Bool.true_and]
      exact z
    | false =>
      have step : forL tf fb none ((xs[i] :: xs.drop (i + 1)).map wf) δ S = some (.ok (.rt w), S) := by
        show forL tf fb none (wf xs[i] :: (xs.drop (i + 1)).map wf) δ S = _
        unfold forL
        rw [if_pos okG_no]
        simp only [h1, h3 hq]
      rw [step, List.all_cons, hq, Bool.false_and]
      exact ⟨fun z => (nomatch z), fun _ => rfl⟩
theorem dFor_all {α : Type} {fi : FI} {tf : Tg} {fb : FS} {S : Store} {wf : α → W} {q : α → Bool} {w : W} {P : Nat → DEnv → Prop} {xs : List α} {δ : DEnv} (hi : fi δ S = some (.ok (xs.map wf, none), S))
    (h : ∀ (i : Nat) (hi : i < xs.length) (δ : DEnv), P i δ → ∃ δ1, tf (wf xs[i]) δ S = some (δ1, S) ∧ (q xs[i] = true → ∃ δ2, fb δ1 S = some (.ok (.nx δ2), S) ∧ P (i + 1) δ2) ∧ (q xs[i] = false → fb δ1 S = some (.ok (.rt w), S))) (h0 : P 0 δ) :
    (xs.all q = true → ∃ δ', dFor fi tf fb δ S = some (.ok (.nx δ'), S) ∧ P xs.length δ') ∧ (xs.all q = false → dFor fi tf fb δ S = some (.ok (.rt w), S)) := by
  have z := forL_all (tf := tf) (fb := fb) (wf := wf) h xs.length 0 δ (by omega) h0
  have e : dFor fi tf fb δ S = forL tf fb none (xs.map wf) δ S := by unfold dFor; rw [hi, sE_ok]
  rw [e]
  exact z
/-- range(len(xs)) -/
theorem rng_idx {α : Type} (xs : List α) : ((List.range xs.length).map fun (k : Nat) => W.d (.int (k : Int))) = xs.zipIdx.map fun z => W.d (.int (z.2 : Int)) := by
  refine List.ext_getElem (by simp) fun i h1 h2 => ?_
  simp
theorem all_idx {α : Type} (q : α → Bool) (xs : List α) : (xs.zipIdx.all fun z => q z.1) = xs.all q := by
  have e : xs = xs.zipIdx.map Prod.fst := by simp
  conv => rhs; rw [e]
  rw [List.all_map]
  rfl
/-! ### the bottom of all -/
theorem foldl_hit {α β : Type} {g : β → α → β} {Q : β → Prop} : ∀ {xs : List α} {a : β}, (∀ a, ∀ x ∈ xs, Q a → Q (g a x)) → (∃ x ∈ xs, ∀ a, Q (g a x)) → Q (xs.foldl g a)
  | [], _, _, h => by obtain ⟨x, hx, _⟩ := h; simp at hx
  | x :: xs, a, h, hx => by
    obtain ⟨y, hy, hq⟩ := hx
    rcases List.mem_cons.mp hy with rfl | hy
    · exact foldl_inv (fun a z hz ha => h a z (List.mem_cons_of_mem _ hz) ha) (hq a)
    · show Q (xs.foldl g (g a x))
      exact foldl_hit (xs := xs) (fun a z hz ha => h a z (List.mem_cons_of_mem _ hz) ha) ⟨y, hy, hq⟩
theorem dvd_lcmI {a b : Int} (hb : 0 < b) : a ∣ lcmI a b := by rw [← lcmI_eq hb]; exact Int.dvd_mul_right _ _
theorem dvd_lcmI' {a b : Int} : b ∣ lcmI a b := Int.dvd_mul_left _ _
theorem lcmR_dvd {b m n : Nat} {rs : List (List (Option Unit'))} (h : RowsOk b m n rs) {r : List (Option Unit')} (hr : r ∈ rs) {us : Unit'} (hu : some us ∈ r) {p : Int × Int} (hp : p ∈ us) : lcmR rs % p.2 = 0 := by
  refine Int.emod_eq_zero_of_dvd ?_
  have keepU : ∀ (us : Unit'), UnOk b us → ∀ a, p.2 ∣ a → p.2 ∣ lcmU a us := fun us hu a ha => foldl_inv (fun a z hz ha => Int.dvd_trans ha (dvd_lcmI (hu.2 z hz).1.fr.1)) ha
  have keepC : ∀ c, CellOk b c → ∀ a, p.2 ∣ a → p.2 ∣ lcmC a c := fun c hc a ha => by
    cases c with
    | none => exact ha
    | some us => exact keepU us hc a ha
  refine foldl_hit (Q := fun a => p.2 ∣ a) (fun a r' hr' ha => foldl_inv (fun a c hc ha => keepC c ((h.2 r' hr').2 c hc) a ha) ha) ⟨r, hr, fun a => ?_⟩
  have hc := (h.2 r hr).2
  refine foldl_hit (Q := fun a => p.2 ∣ a) (fun a c hc' ha => keepC c (hc c hc') a ha) ⟨some us, hu, fun a => ?_⟩
  have hus : UnOk b us := hc _ hu
  exact foldl_hit (g := fun a p => lcmI a p.2) (Q := fun a => p.2 ∣ a) (fun a z hz ha => Int.dvd_trans ha (dvd_lcmI (hus.2 z hz).1.fr.1)) ⟨p, hp, fun a => dvd_lcmI'⟩
theorem lcmR_12 {b m n : Nat} {rs : List (List (Option Unit'))} (h : RowsOk b m n rs) : In12 (lcmR rs) :=
  foldl_inv (fun a r hr ha => foldl_inv (g := lcmC) (fun a c hc ha => in12_C ha ((h.2 r hr).2 c hc)) ha) (.inl rfl)
/-! ### numbers -/
abbrev Num := Int × Int
def encN (ns : List (List Num)) : D := .tup (ns.map encU)
theorem eqE_N : EqE encN 3 := eqE_U.list
def NumOk (n : Nat) (c : Option Unit') (p : Num) : Prop := FrB n p ∧ (c = none → p = (0, 1))
def NumsOk (n : Nat) (rs : List (List (Option Unit'))) (ns : List (List Num)) : Prop := ns.length = rs.length ∧ ∀ z ∈ rs.zip ns, z.2.length = z.1.length ∧ ∀ y ∈ z.1.zip z.2, NumOk n y.1 y.2
def cellF (f : Unit' → Num) : Option Unit' → Num → Num
  | none, p => p
  | some us, p => ftimes p (f us)
def rowF (f : Unit' → Num) (z : List (Option Unit') × List Num) : List Num := (z.1.zip z.2).map fun y => cellF f y.1 y.2
def renum (f : Unit' → Num) (rs : List (List (Option Unit'))) (ns : List (List Num)) : List (List Num) := (rs.zip ns).map (rowF f)
def valC (y : Option Unit' × Num) : Bool := y.1.isNone || decide (0 < y.2.1)
def valB (rs : List (List (Option Unit'))) (ns : List (List Num)) : Bool := (rs.zip ns).all fun z => (z.1.zip z.2).all valC
/-- roots -/
structure RtOk (b k : Nat) (ms : List Num) : Prop where
  len : ms.length = b
  ok : ∀ r ∈ ms, FrB k r ∧ 0 < r.1
  k0 : 0 < k
  k9 : k * 72 + 1 ≤ 2500
theorem unB_of {b : Nat} {us : Unit'} (h : UnOk b us) (b1 : 1 ≤ b) (b3 : b ≤ 3) : UnB 3 us := ⟨fun p hp => (h.2 p hp).1, by rw [h.1]; exact b1, by rw [h.1]; exact b3⟩
theorem facOk_cell {b m n k : Nat} {rs : List (List (Option Unit'))} {ms : List Num} (h : GrOk b m n rs) (q : RtOk b k ms) {r : List (Option Unit')} (hr : r ∈ rs) {us : Unit'} (hu : some us ∈ r) : FacOk 3 k 72 (lcmR rs) us ms := by
  have c : UnOk b us := (h.rows.2 r hr).2 _ hu
  have i12 := lcmR_12 h.rows
  refine ⟨unB_of c h.b1 h.b3, q.ok, by rw [c.1, q.len], by have := i12.pos; omega, i12.bd.up (by decide), fun e he => lcmR_dvd h.rows hr hu he, fun e he => ?_, by decide, by decide, q.k0, q.k9⟩
  have h1 : (ex (lcmR rs) e).natAbs ≤ (e.1 * lcmR rs).natAbs := Int.natAbs_ediv_le_natAbs _ _
  rw [Int.natAbs_mul] at h1
  have h2 := (c.2 e he).2.1
  have h3 : (lcmR rs).natAbs ≤ 12 := by unfold In12 at i12; omega
  have := Nat.mul_le_mul h2 h3
  omega
/-- the factor of a unit -/
def fU (s : Int) (ms : List Num) (us : Unit') : Num := fac (fz s) (us.zip ms)
theorem fU_pos {k n M : Nat} {s : Int} {us ms : List Num} (h : FacOk k n M s us ms) : Pos (fU s ms us) := fac_pos fun x hx => h.pos hx
theorem zip_fst {α β : Type} {xs : List α} {ys : List β} {z : α × β} (h : z ∈ xs.zip ys) : z.1 ∈ xs := by obtain ⟨a, b⟩ := z; exact (List.of_mem_zip h).1
theorem renum_len {f : Unit' → Num} {n : Nat} {rs : List (List (Option Unit'))} {ns : List (List Num)} (h : NumsOk n rs ns) : (renum f rs ns).length = rs.length := by simp [renum, h.1]
/-- zip with what is made of a zip -/
theorem zip_mapz {α β γ : Type} (f : α × β → γ) : ∀ (xs : List α) (ys : List β), xs.zip ((xs.zip ys).map f) = (xs.zip ys).map fun z => (z.1, f z)
  | [], _ => rfl
  | _ :: _, [] => rfl
  | x :: xs, y :: ys => congrArg ((x, f (x, y)) :: ·) (zip_mapz f xs ys)
theorem renum_ok {b m n nb k : Nat} {rs : List (List (Option Unit'))} {ns : List (List Num)} {ms : List Num} (h : GrOk b m n rs) (q : RtOk b k ms) (g : NumsOk nb rs ns) : NumsOk (nb + (1 + 3 * (k * 72 + 1))) rs (renum (fU (lcmR rs) ms) rs ns) := by
  refine ⟨renum_len g, fun z hz => ?_⟩
  unfold renum at hz
  rw [zip_mapz] at hz
  obtain ⟨z0, h0, rfl⟩ := List.mem_map.mp hz
  have g0 := g.2 z0 h0
  refine ⟨by simp [rowF, g0.1], fun y hy => ?_⟩
  unfold rowF at hy
  dsimp only at hy
  rw [zip_mapz] at hy
  obtain ⟨y0, h1, rfl⟩ := List.mem_map.mp hy
  have g1 := g0.2 y0 h1
  obtain ⟨c, p⟩ := y0
  cases c with
  | none => exact ⟨g1.1.up (by omega), fun _ => g1.2 rfl⟩
  | some us => exact ⟨ftimes_ok g1.1 (facOk_cell h q (zip_fst h0) (zip_fst h1)).bd3, fun e => nomatch e⟩
/-! ### reckoning with fractions in lowest terms -/
theorem pos_fr {p q : Num} (hp : Fr p) (hq : Fr q) : 0 < (fmul p q).2 := Int.mul_pos hp.1 hq.1
theorem ftimes_assoc {p a c : Num} (hp : Fr p) (ha : Fr a) (hc : Fr c) : ftimes (ftimes p a) c = ftimes p (ftimes a c) := by
  have e1 : (ftimes p a).1 * (p.2 * a.2) = (p.1 * a.1) * (ftimes p a).2 := low_mul
  have e2 : (ftimes a c).1 * (a.2 * c.2) = (a.1 * c.1) * (ftimes a c).2 := low_mul
  have p1 : 0 < (ftimes p a).2 := low_pos (pos2 hp ha)
  have p2 : 0 < (ftimes a c).2 := low_pos (pos2 ha hc)
  show low ((ftimes p a).1 * c.1) ((ftimes p a).2 * c.2) = low (p.1 * (ftimes a c).1) (p.2 * (ftimes a c).2)
  refine low_eq (Int.mul_pos p1 hc.1) (Int.mul_pos hp.1 p2) ?_
  generalize ftimes p a = x at *
  generalize ftimes a c = y at *
  have h0 : p.2 * a.2 * (a.2 * c.2) ≠ 0 := by
    have := Int.mul_pos (pos2 hp ha) (pos2 ha hc)
    omega
  refine Int.eq_of_mul_eq_mul_right h0 ?_
  calc x.1 * c.1 * (p.2 * y.2) * (p.2 * a.2 * (a.2 * c.2)) = (x.1 * (p.2 * a.2)) * (c.1 * p.2 * y.2 * (a.2 * c.2)) := by grind
    _ = (p.1 * a.1 * x.2) * (c.1 * p.2 * y.2 * (a.2 * c.2)) := by rw [e1]
    _ = ((a.1 * c.1) * y.2) * (p.1 * x.2 * p.2 * (a.2 * c.2)) := by grind
    _ = (y.1 * (a.2 * c.2)) * (p.1 * x.2 * p.2 * (a.2 * c.2)) := by rw [e2]
    _ = p.1 * y.1 * (x.2 * c.2) * (p.2 * a.2 * (a.2 * c.2)) := by grind
def turn (p : Num) : Num := (p.2, p.1)
theorem turn_pos {p : Num} (h : Pos p) : Pos (turn p) := ⟨h.2, h.1⟩
theorem turn_fr {p : Num} (h : Fr p) (h1 : 0 < p.1) : Fr (turn p) := ⟨h1, by have := h.2; rw [Int.gcd_comm]; exact this⟩
theorem ftimes_turn {a : Num} (h : Pos a) : ftimes a (turn a) = (1, 1) := by
  show low (a.1 * a.2) (a.2 * a.1) = _
  have e : low (a.1 * a.2) (a.2 * a.1) = low 1 1 := low_eq (Int.mul_pos h.2 h.1) (by decide) (by grind)
  rw [e]
  exact low_id (p := (1, 1)) ⟨by decide, by decide⟩
theorem ftimes_one {p : Num} (h : Fr p) : ftimes p (1, 1) = p := by
  show low (p.1 * 1) (p.2 * 1) = p
  rw [Int.mul_one, Int.mul_one]
  exact low_id h
theorem ftimes_sign {p a : Num} (hp : Fr p) (ha : Pos a) : decide (0 < (ftimes p a).1) = decide (0 < p.1) := by
  have e : (ftimes p a).1 * (p.2 * a.2) = (p.1 * a.1) * (ftimes p a).2 := low_mul
  have h1 : 0 < p.2 * a.2 := Int.mul_pos hp.1 ha.2
  have h2 : 0 < (ftimes p a).2 := low_pos h1
  generalize ftimes p a = x at *
  have key : 0 < x.1 ↔ 0 < p.1 := by
    constructor
    · intro h
      have h3 : 0 < p.1 * a.1 * x.2 := by rw [← e]; exact Int.mul_pos h h1
      rcases Int.lt_trichotomy p.1 0 with z | z | z
      · have := Int.mul_neg_of_neg_of_pos (Int.mul_neg_of_neg_of_pos z ha.1) h2; omega
      · rw [z] at h3; simp at h3
      · exact z
    · intro h
      have h3 : 0 < x.1 * (p.2 * a.2) := by rw [e]; exact Int.mul_pos (Int.mul_pos h ha.1) h2
      rcases Int.lt_trichotomy x.1 0 with z | z | z
      · have := Int.mul_neg_of_neg_of_pos z h1; omega
      · rw [z] at h3; simp at h3
      · exact z
  exact decide_eq_decide.mpr key
/-- the factor of turned roots -/
theorem rz_turn (p : Num) (k : Int) : rz (turn p) k = turn (rz p k) := by
  unfold rz sw turn pw
  split <;> rfl
theorem prodR_turn {α : Type} {f g : α → Num} : ∀ {xs : List α}, (∀ x ∈ xs, g x = turn (f x)) → prodR g xs = turn (prodR f xs)
  | [], _ => rfl
  | x :: xs, h => by
    rw [prodR, prodR, h x List.mem_cons_self, prodR_turn fun y hy => h y (List.mem_cons_of_mem _ hy)]
    rfl
theorem lo_turn {p : Num} (h : Pos p) : lo (turn p) = turn (lo p) := by
  refine fr_uniq (low_fr h.1) (turn_fr (low_fr h.2) (lo_pos h).1) ?_
  have e1 : (lo p).1 * p.2 = p.1 * (lo p).2 := low_mul
  have e2 : (lo (turn p)).1 * p.1 = p.2 * (lo (turn p)).2 := low_mul
  show (lo (turn p)).1 * (lo p).1 = (lo p).2 * (lo (turn p)).2
  have h0 : p.1 * p.2 ≠ 0 := by have := Int.mul_pos h.1 h.2; omega
  refine Int.eq_of_mul_eq_mul_right h0 ?_
  generalize lo (turn p) = x at *
  generalize lo p = y at *
  calc x.1 * y.1 * (p.1 * p.2) = (x.1 * p.1) * (y.1 * p.2) := by grind
    _ = (p.2 * x.2) * (p.1 * y.2) := by rw [e1, e2]
    _ = y.2 * x.2 * (p.1 * p.2) := by grind
theorem fU_turn {k n M : Nat} {s : Int} {us ms : List Num} (h : FacOk k n M s us ms) : fU s (ms.map turn) us = turn (fU s ms us) := by
  unfold fU
  have e : us.zip (ms.map turn) = (us.zip ms).map fun z => (z.1, turn z.2) := by rw [List.zip_map_right]; rfl
  rw [e, fac_map]
  have ht : ∀ x ∈ us.zip ms, fz s (x.1, turn x.2) = turn (fz s x) := fun x _ => rz_turn _ _
  rw [fac_eq (f := fz s) fun x hx => h.pos hx, fac_eq fun x hx => by rw [ht x hx]; exact turn_pos (h.pos hx), prodR_turn ht]
  exact lo_turn (prodR_pos fun x hx => h.pos hx)
end DL
set_option Elab.async false
set_option linter.all false
set_option maxRecDepth 100000
set_option maxHeartbeats 1000000
/-! DL22: raise and try of own exceptions; small dicts; lists put together. -/
namespace DL
open PySem PySem.Spec PyProof.Rows L2
/-! ### raise -/
/-- an own exception class without an __init__ of its own -/
structure KExc (K : PySem.W.Frag) (mg : Str → Option Value) (x : Str) : Prop where
  g : mg x = some (.ref (He.ga K x))
  e : PySem.W.excIn K (He.ga K x) He.veBase "ValueError.__new__" = true
  k : PySem.W.keepIn K (.ref (He.ga K x)) = true
  s : PySem.W.subIn K (.ref (He.ga K x)) (.type "BaseException") = some true
  t : PySem.W.typeIn K (.ref (He.ga K x)) = some (.type "type")
theorem kexc_of {K : PySem.W.Frag} {mg : Str → Option Value} {x : Str} (g : mg x = some (.ref (He.ga K x))) (c : (He.Fa.exc x).ok K = true) : KExc K mg x := by
  obtain ⟨h1, h2, h3, h4⟩ := He.exc_ok c
  exact ⟨g, h1, h2, h3, h4⟩
section
variable {X : Cx} {Wx : WX} {x : Str} {p pos pos2 : PySem.Pos}
/-- x(), an own exception class -/
theorem pmk_bare (k : KExc X.K X.mg x) (hg : Gl X x) (hdb : (x == ("__debug__" : Str)) = false) : PMk X (.Call (.Name x p) [] [] pos) (fun σ H Q => Q (.ref (He.ga X.K x)) none H) := by
  intro pins s σ H Q I h
  refine wpAny_Call_Name_kw (ld_glob I hg k.g ?_ hdb)
  refine PySem.W.callWith_K0 I.kIn k.k ?_
  show wpAny _ _ (call (.ref (He.ga X.K x)) []) _ _ _
  obtain ⟨bm, N, nm, qn, bs, hdct, sn, sub, ab, col, dd, k0, k1, k2, k3, k5, mN, hC, hN, hni, T⟩ := exc_obj I.kIn k.e
  exact wpAny_call_exc_subT PySem.F.excBase_ValueError T hC hN hni (fun h' e hm => mk_of I hm (raises_own k.s k.t) h (I.hok.gone hm.new)) (Nat.zero_le _)
/-- raise x() -/
def sRaise (x : Str) : FS := fun δ S => some (.error (⟨x, [], []⟩, δ), S)
theorem ds_raise0 (k : KExc X.K X.mg x) (hc : X.calm = true) (tk : Takes X Wx) (hg : Gl X x := by rfl) (hdb : (x == ("__debug__" : Str)) = false := by decide) : PS X (.Raise (some (.Call (.Name x p) [] [] pos)) none pos2) (tS X.K Wx (sRaise x)) :=
  (ps_raise hc tk (pmk_bare k hg hdb)).imp fun D σ H q => by
    obtain ⟨δ, S, ρ, ok, en, r, S', e, c⟩ := q
    cases e
    exact c ρ H ok (Step.refl ρ H) none σ en ⟨rfl, rfl⟩
end
/-! ### try -/
def sHandle (sub : Str → Str → Bool) : List (Str × FS) → Ex → DEnv → Store → Ss
  | [], x, δ, S => some (.error (x, δ), S)
  | (nm, f) :: l, x, δ, S => if sub x.cls nm = true then (match f δ S with
    | some (.ok fl, S2) => some (.ok fl, S2)
    | _ => none) else sHandle sub l x δ S
def sTry (cs : List Str) (sub : Str → Str → Bool) (body : FS) (l : List (Str × FS)) : FS := fun δ S => match body δ S with
  | some (.error (x, δ1), S1) => if x.cls ∈ cs then sHandle sub l x δ1 S1 else none
  | o => o
inductive HdsD (X : Cx) (cs : List Str) (sub : Str → Str → Bool) : List ExceptHandler → List (Str × FS) → Prop
  | nil : HdsD X cs sub [] []
  | cons {x : Str} {f : FS} {b₀ : Stmt} {suite : List Stmt} {np pos' : PySem.Pos} {hds : List ExceptHandler} {l : List (Str × FS)} (hc : Names X x (.ref (He.ga X.K x))) (hx : ∀ c ∈ cs, PySem.W.exmOne X.K (.ref (He.ga X.K c)) (.ref (He.ga X.K x)) = some (sub c x))
      (hsu : ∀ (a : Addr) (oe : Obj) (cls : Value) (d : Option Addr) (pn : List (Addr × Obj)), PSs (X.suite a ((a, oe) :: pn)) (b₀ :: suite) (tS X.K WF f)) (r : HdsD X cs sub hds l) :
      HdsD X cs sub (.ExceptHandler (some (.Name x np)) none (b₀ :: suite) pos' :: hds) ((x, f) :: l)
abbrev hdl (K : PySem.W.Frag) (q : Str × FS) : Value × (Addr → Value → Option Addr → TS) := (.ref (He.ga K q.1), fun _ _ _ => tS K WF q.2)
section
variable {X : Cx} {Wx : WX} {cs : List Str} {sub : Str → Str → Bool}
theorem HdsD.ok {hds : List ExceptHandler} {l : List (Str × FS)} (h : HdsD X cs sub hds l) : HdsOk X hds (l.map (hdl X.K)) := by
  induction h with
  | nil => exact .nil
  | cons hc hx hsu r ih => exact .cons hc (fun a oe cls d pn _ _ => hsu a oe cls d pn) ih
theorem ds_try {body : List Stmt} {h₀ : ExceptHandler} {hds : List ExceptHandler} {l : List (Str × FS)} {fs : FS} {pos : PySem.Pos} (hs : X.stack = X.env :: X.outer) (hf : X.env.frame = some X.env.locals) (tk : Takes X Wx)
    (hb : ∀ (W : WX) (pn : List (Addr × Obj)) (xe : Value → Shared → Prop), Takes (X.tr pn xe) W → PassesOwn (model X.prog X.w) X.A X.env xe → PSs (X.tr pn xe) body (tS X.K W fs)) (hh : HdsD X cs sub (h₀ :: hds) l) :
    PS X (.Try body (h₀ :: hds) [] [] pos) (tS X.K Wx (sTry cs sub fs l)) :=
  (ps_try_many hs hf tk hb hh.ok).imp fun D σ H q => by
    obtain ⟨δ, S, ρ, ok, en, r, S', e, c⟩ := q
    refine ⟨δ, S, ρ, ok, en, ?_⟩
    unfold sTry at e
    cases eb : fs δ S with
    | none => rw [eb] at e; cases e
    | some z =>
      obtain ⟨z, S1⟩ := z
      rw [eb] at e
      cases z with
      | ok fl =>
        cases e
        refine ⟨_, _, rfl, fun ρ' H' ok' st' => ?_⟩
        have c' := c ρ' H' ok' st'
        cases fl <;> exact c'
      | error y =>
        obtain ⟨x, δ1⟩ := y
        dsimp only at e
        split at e
        · rename_i hm
          refine ⟨_, _, rfl, fun ρ' H' ok' st' d σ' en' hx => ?_⟩
          have key : ∀ (hds : List ExceptHandler) (l : List (Str × FS)), HdsD X cs sub hds l → sHandle sub l x δ1 S1 = some (r, S') → wMany X.K Wx D (l.map (hdl X.K)) (x.cl X.K) d σ' H' := by
            intro hds l h
            induction h with
            | nil =>
              intro e
              cases e
              exact c ρ' H' ok' st' d σ' en' hx
            | @cons y f b₀ suite np pos' hds2 l2 hc hxm hsu r2 ih =>
              intro e
              rw [sHandle] at e
              refine ⟨sub x.cls y, hxm _ hm, fun hb a ha => ?_, fun hb => ?_⟩
              · rw [if_pos hb] at e
                split at e
                · rename_i fl S2 ef
                  cases e
                  refine ⟨δ1, S1, ρ', ok', en', _, _, ef, fun ρ2 H2 ok2 st2 => ?_⟩
                  have c' := c ρ2 H2 ok2 (st'.trans st2)
                  cases fl <;> exact c'
                · cases e
              · rw [if_neg (by rw [hb]; exact Bool.false_ne_true)] at e
                exact ih e
          exact key _ _ hh e
        · cases e
end
/-! ### small dicts -/
theorem upd_upd {H : Hp} {p : Addr} {o u : HO} : upd (upd H p o) p u = upd H p u := by
  funext b
  by_cases h : b = p
  · subst h; rw [upd_same, upd_same]
  · rw [upd_ne h, upd_ne h, upd_ne h]
def dDct (ks : List Key) (ds : List D) : FE := fun _ S => some (.ok (.d (.dct ks ds)), S)
section
variable {X : Cx} {Wx : WX} {pos : PySem.Pos}
theorem dct_go {σ : L2.St} {ρ : Ad} {S : Store} {H : Hp} {Q : VK} {ks : List Key} {ds : List D} {vs : List V} {p : Addr} (ok : Ok X.K ρ S H) (hp : H p = none) (r : ∀ ρ H, RelDs X.K ρ H ds vs) (hl : ks.length = ds.length) (q : Go X.K Wx σ ρ H (RelW X.K) (some (.ok (.d (.dct ks ds)), S)) Q) : Q (.ref p) (upd H p (.dK (ks.zip vs))) := by
  have st := step_new ok (.dK (ks.zip vs)) hp
  refine go_at q (ok_new ok _ hp) st (show RelD X.K ρ (upd H p (.dK (ks.zip vs))) (.dct ks ds) (.ref p) from ?_)
  rw [RelD]
  exact ⟨p, vs, rfl, upd_same, ok.off hp, r _ _, hl⟩
theorem de_dct0 : PE X (.Dict [] [] pos) (tE X.K Wx (dDct [] [])) := pe_dnewK.imp fun σ H Q ⟨δ, S, ρ, ok, en, q⟩ => fun p hp => by
  have z := dct_go (vs := []) ok hp (fun _ _ => by rw [RelDs]) rfl q
  exact z
theorem de_dct1 {i j : Int} {k1 k2 : Nat} {p1 p2 : PySem.Pos} : PE X (.Dict [some (.Constant (.int i) k1 p1)] [.Constant (.int j) k2 p2] pos) (tE X.K Wx (dDct [.inl i] [.int j])) :=
  (pe_disp (pps_cons (pe_int (i := i)) (pe_int (i := j)) pps_nil) rfl rfl (by simp) (by simp)).imp fun σ H Q ⟨δ, S, ρ, ok, en, q⟩ => fun p hp => by
    refine ⟨upd_same, [(.inl i, .int j)], rfl, by simp, ?_⟩
    rw [upd_upd]
    have z := dct_go (vs := [.int j]) ok hp (fun _ _ => by rw [RelDs]; exact ⟨_, _, rfl, by rw [RelD], by rw [RelDs]⟩) rfl q
    exact z
end
/-! ### lists put together -/
section
variable {K : PySem.W.Frag} {Wx : WX}
def oCatL : F2
  | .loc n, .loc m, S => (match S[n]? with
    | some (.lst ws) => (match S[m]? with
      | some (.lst us) => mkLoc (ws ++ us) S
      | _ => none)
    | _ => none)
  | _, _, _ => none
theorem oCatL_ok : OpF K Wx rCat oCatL := by
  intro σ ρ S H x y a b Q ok rx ry q
  unfold oCatL at q
  split at q
  · rename_i n m
    split at q
    · rename_i ws ew
      split at q
      · rename_i us eu
        obtain ⟨p, vs, rfl, _, h1, h2⟩ := loc_at ok rx ew
        obtain ⟨p', vs', rfl, _, h3, h4⟩ := loc_at ok ry eu
        obtain ⟨z1, z2⟩ := mkLoc_ok ok (h2.app h4) q
        exact ⟨p, p', vs, vs', rfl, rfl, h1, h3, by rw [← List.length_append]; exact z1, z2⟩
      · exact go_none q
    · exact go_none q
  · exact go_none q
end
end DL
set_option Elab.async false
set_option linter.all false
set_option maxRecDepth 100000
set_option maxHeartbeats 1000000
/-! DL23: things of any kind, judged. -/
namespace DL
open PySem L2
/-- a thing of small numbers; G: the class of its instances -/
inductive ThN (N : Nat) (G : Addr) : D → Prop
  | non : ThN N G .non
  | bl (b : Bool) : ThN N G (.bl b)
  | int {i : Int} (h : i.natAbs ≤ N) : ThN N G (.int i)
  | str (x : Str) : ThN N G (.str x)
  | tup {ds : List D} (hl : ds.length ≤ 100) (h : ∀ d ∈ ds, ThN N G d) : ThN N G (.tup ds)
  | lst {ds : List D} (hl : ds.length ≤ 100) (h : ∀ d ∈ ds, ThN N G d) : ThN N G (.lst ds)
  | dct (ks : List Key) (ds : List D) : ThN N G (.dct ks ds)
  | ins (ns : List Str) (ds : List D) : ThN N G (.ins G ns ds)
/-- .. or a great number -/
def TgN (N : Nat) (G : Addr) (d : D) : Prop := ThN N G d ∨ ∃ i, d = .int i
abbrev Th := ThN 12
abbrev Tg' := TgN 12
theorem ThN.tg {N : Nat} {G : Addr} {d : D} (h : ThN N G d) : TgN N G d := .inl h
section
variable {S : Store} {cs : List Addr} {c : String}
theorem isi_int' {i : Int} : oIsiI cs [.d (.int i), .d (.ty c)] S = oIsi [.d (.int i), .d (.ty c)] S := rfl
theorem isi_bl' {i : Bool} : oIsiI cs [.d (.bl i), .d (.ty c)] S = oIsi [.d (.bl i), .d (.ty c)] S := rfl
theorem isi_str' {i : Str} : oIsiI cs [.d (.str i), .d (.ty c)] S = oIsi [.d (.str i), .d (.ty c)] S := rfl
theorem isi_non' : oIsiI cs [.d .non, .d (.ty c)] S = oIsi [.d .non, .d (.ty c)] S := rfl
theorem isi_tup' {ds : List D} : oIsiI cs [.d (.tup ds), .d (.ty c)] S = oIsi [.d (.tup ds), .d (.ty c)] S := rfl
theorem isi_lst' {ds : List D} : oIsiI cs [.d (.lst ds), .d (.ty c)] S = oIsi [.d (.lst ds), .d (.ty c)] S := rfl
theorem isi_dct' {ks : List Key} {ds : List D} : oIsiI cs [.d (.dct ks ds), .d (.ty c)] S = oIsi [.d (.dct ks ds), .d (.ty c)] S := rfl
theorem isi_U' {us : Unit'} : oIsiI cs [.d (encU us), .d (.ty c)] S = oIsi [.d (encU us), .d (.ty c)] S := rfl
theorem isi_F' {p : Int × Int} : oIsiI cs [.d (encF p), .d (.ty c)] S = oIsi [.d (encF p), .d (.ty c)] S := rfl
theorem isi_ins' {G : Addr} {ns : List Str} {ds : List D} (h : c ∈ tyCs) : oIsiI [G] [.d (.ins G ns ds), .d (.ty c)] S = some (.ok (.d (.bl false)), S) := by
  show (if G ∈ [G] ∧ c ∈ tyCs then some (Except.ok (W.d (.bl false)), S) else none) = _
  rw [if_pos ⟨by simp, h⟩]
theorem ty_dct {ks : List Key} {ds : List D} : tyN S (.d (.dct ks ds)) = some "dict" := rfl
end
theorem tc_int : "int" ∈ tyCs := by decide
theorem tc_bool : "bool" ∈ tyCs := by decide
theorem tc_tuple : "tuple" ∈ tyCs := by decide
theorem isi_bi : isiB "bool" "int" = some true := by decide
theorem isi_bb : isiB "bool" "bool" = some true := by decide
theorem isi_bt : isiB "bool" "tuple" = some false := by decide
theorem isi_si : isiB "str" "int" = some false := by decide
theorem isi_sb : isiB "str" "bool" = some false := by decide
theorem isi_st : isiB "str" "tuple" = some false := by decide
theorem isi_ni : isiB "NoneType" "int" = some false := by decide
theorem isi_nb : isiB "NoneType" "bool" = some false := by decide
theorem isi_nt : isiB "NoneType" "tuple" = some false := by decide
theorem isi_li : isiB "list" "int" = some false := by decide
theorem isi_lb : isiB "list" "bool" = some false := by decide
theorem isi_lt : isiB "list" "tuple" = some false := by decide
theorem isi_di : isiB "dict" "int" = some false := by decide
theorem isi_db : isiB "dict" "bool" = some false := by decide
theorem isi_dt : isiB "dict" "tuple" = some false := by decide
/-! ### judges -/
def intB : D → Bool
  | .int _ => true
  | _ => false
def tupB : D → Bool
  | .tup _ => true
  | _ => false
def fracB : D → Bool
  | .tup [.int t, .int b] => decide (1 ≤ b) && decide (gcd t b = 1)
  | _ => false
def unitB (n : Int) : D → Bool
  | .tup ds => decide ((ds.length : Int) = n) && ds.all fracB
  | _ => false
def anyB : D → Bool
  | .tup ds => decide (1 ≤ ds.length ∧ ds.length ≤ 3) && ds.all fracB
  | _ => false
def aboveB : D → Bool
  | .tup [.int t, .int b] => fracB (.tup [.int t, .int b]) && decide (0 < t)
  | _ => false
def rootsB (n : Int) : D → Bool
  | .tup ds => decide ((ds.length : Int) = n) && ds.all aboveB
  | _ => false
theorem fracB_of {d : D} (h : fracB d = true) : ∃ p : Int × Int, d = encF p ∧ Fr p := by
  unfold fracB at h
  split at h
  · rename_i t b
    rw [Bool.and_eq_true, decide_eq_true_eq, decide_eq_true_eq] at h
    refine ⟨(t, b), rfl, by show 0 < b; omega, ?_⟩
    have := h.2
    unfold gcd at this
    show Int.gcd t b = 1
    omega
  · cases h
theorem fracB_F {p : Int × Int} (h : Fr p) : fracB (encF p) = true := by
  have h1 := h.1
  have h2 := h.2
  show (decide (1 ≤ p.2) && decide (gcd p.1 p.2 = 1)) = true
  rw [Bool.and_eq_true, decide_eq_true_eq, decide_eq_true_eq]
  exact ⟨by omega, by unfold gcd; rw [h2]; rfl⟩
theorem all_frac {ds : List D} (h : ds.all fracB = true) : ∃ us : Unit', ds = us.map encF ∧ ∀ p ∈ us, Fr p := by
  rw [List.all_eq_true] at h
  exact all_encG fun d hd => fracB_of (h d hd)
theorem aboveB_of {d : D} (h : aboveB d = true) : ∃ p : Int × Int, d = encF p ∧ Fr p ∧ 0 < p.1 := by
  unfold aboveB at h
  split at h
  · rename_i t b
    rw [Bool.and_eq_true, decide_eq_true_eq] at h
    obtain ⟨p, e, hp⟩ := fracB_of h.1
    have e' : D.tup [.int t, .int b] = .tup [.int p.1, .int p.2] := e
    injection e' with e1
    injection e1 with e2 e3
    injection e2 with e4
    exact ⟨p, e, hp, by have := h.2; omega⟩
  · cases h
theorem all_above {ds : List D} (h : ds.all aboveB = true) : ∃ us : Unit', ds = us.map encF ∧ ∀ p ∈ us, Fr p ∧ 0 < p.1 := by
  rw [List.all_eq_true] at h
  exact all_encG fun d hd => aboveB_of (h d hd)
theorem low_same {t b : Int} (hb : 1 ≤ b) : decide (low t b = (t, b)) = decide (gcd t b = 1) := by
  refine decide_eq_decide.mpr ⟨fun e => ?_, fun e => ?_⟩
  · have h2 : (low t b).2 * gcd t b = b := Int.ediv_mul_cancel (Int.gcd_dvd_right t b)
    rw [e] at h2
    have h3 : b * gcd t b = b * 1 := by rw [Int.mul_one]; exact h2
    exact Int.eq_of_mul_eq_mul_left (by omega) h3
  · unfold low
    rw [e, Int.ediv_one, Int.ediv_one]
theorem ThN.frac {N : Nat} {G : Addr} {p : Int × Int} (h : ThN N G (encF p)) : p.1.natAbs ≤ N ∧ p.2.natAbs ≤ N := by
  have h' : ThN N G (.tup [.int p.1, .int p.2]) := h
  cases h' with
  | tup _ h => exact ⟨by cases h (.int p.1) (by simp) with | int h => exact h, by cases h (.int p.2) (by simp) with | int h => exact h⟩
theorem ThN.items {N : Nat} {G : Addr} {ds : List D} (h : ThN N G (.tup ds)) : ds.length ≤ 100 ∧ ∀ d ∈ ds, ThN N G d := by
  cases h with
  | tup hl h => exact ⟨hl, h⟩
theorem th_F {N : Nat} {G : Addr} {p : Int × Int} (h1 : p.1.natAbs ≤ N) (h2 : p.2.natAbs ≤ N) : ThN N G (encF p) := .tup (by simp) fun d hd => by
  simp at hd
  rcases hd with rfl | rfl
  · exact .int h1
  · exact .int h2
theorem all_eqOn {α : Type} {p q : α → Bool} {xs : List α} (h : ∀ x ∈ xs, p x = q x) : xs.all p = xs.all q := by
  induction xs with
  | nil => rfl
  | cons x xs ih => rw [List.all_cons, List.all_cons, h x List.mem_cons_self, ih fun y hy => h y (List.mem_cons_of_mem _ hy)]
theorem aboveB_F {p : Int × Int} (h : Fr p) : aboveB (encF p) = decide (0 < p.1) := by
  show (fracB (encF p) && decide (0 < p.1)) = _
  rw [fracB_F h, Bool.true_and]
theorem pl_str (x : Str) (h : PyData.canLay0 (.str x) = true) : Pl 0 (.str x) := ⟨.str x, by rw [toP], h, by simp [PyData.depth], by simp [PyData.eqv]⟩
theorem ne_str {S : Store} (x : Str) (h : PyData.canLay0 (.str x) = true) : oNe (.d (.str x)) (.d (.str x)) S = some (.ok (.d (.bl false)), S) := oNe_refl (pl_str x h) (by decide)
theorem ne_bl {S : Store} (x : Bool) : oNe (.d (.bl x)) (.d (.bl x)) S = some (.ok (.d (.bl false)), S) := oNe_refl (pl_bl x) (by decide)
theorem mkLoc2 {S : Store} {a0 a1 : W} : mkLoc [a0, a1] S = some (.ok (.loc S.length), S ++ [.lst [a0, a1]]) := rfl
theorem mkLoc7 {S : Store} {a0 a1 a2 a3 a4 a5 a6 : W} : mkLoc [a0, a1, a2, a3, a4, a5, a6] S = some (.ok (.loc S.length), S ++ [.lst [a0, a1, a2, a3, a4, a5, a6]]) := rfl
theorem mkLoc8 {S : Store} {a0 a1 a2 a3 a4 a5 a6 a7 : W} : mkLoc [a0, a1, a2, a3, a4, a5, a6, a7] S = some (.ok (.loc S.length), S ++ [.lst [a0, a1, a2, a3, a4, a5, a6, a7]]) := rfl
theorem mkLoc9 {S : Store} {a0 a1 a2 a3 a4 a5 a6 a7 a8 : W} : mkLoc [a0, a1, a2, a3, a4, a5, a6, a7, a8] S = some (.ok (.loc S.length), S ++ [.lst [a0, a1, a2, a3, a4, a5, a6, a7, a8]]) := rfl
theorem mkLoc11 {S : Store} {a0 a1 a2 a3 a4 a5 a6 a7 a8 a9 a10 : W} : mkLoc [a0, a1, a2, a3, a4, a5, a6, a7, a8, a9, a10] S = some (.ok (.loc S.length), S ++ [.lst [a0, a1, a2, a3, a4, a5, a6, a7, a8, a9, a10]]) := rfl
theorem mkLoc17 {S : Store} {a0 a1 a2 a3 a4 a5 a6 a7 a8 a9 a10 a11 a12 a13 a14 a15 a16 : W} : mkLoc [a0, a1, a2, a3, a4, a5, a6, a7, a8, a9, a10, a11, a12, a13, a14, a15, a16] S = some (.ok (.loc S.length), S ++ [.lst [a0, a1, a2, a3, a4, a5, a6, a7, a8, a9, a10, a11, a12, a13, a14, a15, a16]]) := rfl
theorem mkLoc25 {S : Store} {a0 a1 a2 a3 a4 a5 a6 a7 a8 a9 a10 a11 a12 a13 a14 a15 a16 a17 a18 a19 a20 a21 a22 a23 a24 : W} : mkLoc [a0, a1, a2, a3, a4, a5, a6, a7, a8, a9, a10, a11, a12, a13, a14, a15, a16, a17, a18, a19, a20, a21, a22, a23, a24] S = some (.ok (.loc S.length), S ++ [.lst [a0, a1, a2, a3, a4, a5, a6, a7, a8, a9, a10, a11, a12, a13, a14, a15, a16, a17, a18, a19, a20, a21, a22, a23, a24]]) := rfl
theorem mkLoc32 {S : Store} {a0 a1 a2 a3 a4 a5 a6 a7 a8 a9 a10 a11 a12 a13 a14 a15 a16 a17 a18 a19 a20 a21 a22 a23 a24 a25 a26 a27 a28 a29 a30 a31 : W} : mkLoc [a0, a1, a2, a3, a4, a5, a6, a7, a8, a9, a10, a11, a12, a13, a14, a15, a16, a17, a18, a19, a20, a21, a22, a23, a24, a25, a26, a27, a28, a29, a30, a31] S = some (.ok (.loc S.length), S ++ [.lst [a0, a1, a2, a3, a4, a5, a6, a7, a8, a9, a10, a11, a12, a13, a14, a15, a16, a17, a18, a19, a20, a21, a22, a23, a24, a25, a26, a27, a28, a29, a30, a31]]) := rfl
theorem cat_tup {S : Store} {a b : List D} (h : a.length + b.length ≤ 1000) : oCat (.d (.tup a)) (.d (.tup b)) S = some (.ok (.d (.tup (a ++ b))), S) := by
  show (if a.length + b.length ≤ sizeLine then some (Except.ok (W.d (.tup (a ++ b))), S) else none) = _
  rw [if_pos (Nat.le_trans h (by decide))]
theorem ix_loc {S : Store} {n : Nat} {ds : List D} (h : S[n]? = some (.lst (ds.map W.d))) {i : Int} (h0 : 0 ≤ i) (h1 : i < (ds.length : Int)) : ∃ d ∈ ds, oIx (.loc n) (.d (.int i)) S = some (.ok (.d d), S) := by
  have hi : i.toNat < ds.length := by omega
  have e : atI (ds.map W.d) ((i.toNat : Nat) : Int) = some (W.d ds[i.toNat]) := atI_nat (by simp [hi])
  have ei : ((i.toNat : Nat) : Int) = i := by omega
  rw [ei] at e
  refine ⟨ds[i.toNat], List.getElem_mem hi, ?_⟩
  simp only [oIx, seqW, h, e]
theorem ix_lstD {S : Store} {ds : List D} {i : Int} (h0 : 0 ≤ i) (h1 : i < (ds.length : Int)) : ∃ d ∈ ds, oIx (.d (.lst ds)) (.d (.int i)) S = some (.ok (.d d), S) := by
  have hi : i.toNat < ds.length := by omega
  have e : atI (ds.map W.d) ((i.toNat : Nat) : Int) = some (W.d ds[i.toNat]) := atI_nat (by simp [hi])
  have ei : ((i.toNat : Nat) : Int) = i := by omega
  rw [ei] at e
  refine ⟨ds[i.toNat], List.getElem_mem hi, ?_⟩
  simp only [oIx, seqW, e]
theorem len_loc {S : Store} {n : Nat} {ws : List W} (h : S[n]? = some (.lst ws)) : oLen (.loc n) S = some (.ok (.d (.int (ws.length : Int))), S) := by
  simp only [oLen, seqW, h]
/-! ### try -/
theorem try_ok {cs : List Str} {sub : Str → Str → Bool} {body : FS} {l : List (Str × FS)} {δ δ1 : DEnv} {S S1 : Store} (h : body δ S = some (.ok (.nx δ1), S1)) : sTry cs sub body l δ S = some (.ok (.nx δ1), S1) := by
  unfold sTry
  rw [h]
theorem try_bad {cs : List Str} {sub : Str → Str → Bool} {body : FS} {l : List (Str × FS)} {x : Ex} {δ δ1 : DEnv} {S S1 : Store} (h : body δ S = some (.error (x, δ1), S1)) (hm : x.cls ∈ cs) : sTry cs sub body l δ S = sHandle sub l x δ1 S1 := by
  unfold sTry
  rw [h]
  dsimp only
  rw [if_pos hm]
end DL
set_option Elab.async false
set_option linter.all false
set_option maxRecDepth 100000
set_option maxHeartbeats 1000000
/-! DL24: things of any kind with small pairs, judged as places, cells, rows, numbers. -/
namespace DL
open PySem L2
/-- a thing whose pairs of whole numbers are small; G: the class of its instances -/
inductive Tk (N : Nat) (G : Addr) : D → Prop
  | non : Tk N G .non
  | bl (b : Bool) : Tk N G (.bl b)
  | int {i : Int} : Tk N G (.int i)
  | str (x : Str) : Tk N G (.str x)
  | tup {ds : List D} (hl : ds.length ≤ 100) (h : ∀ d ∈ ds, Tk N G d) (hb : ∀ t u : Int, ds = [.int t, .int u] → t.natAbs ≤ N ∧ u.natAbs ≤ N) : Tk N G (.tup ds)
  | lst {ds : List D} (hl : ds.length ≤ 100) (h : ∀ d ∈ ds, Tk N G d) : Tk N G (.lst ds)
  | dct (ks : List Key) (ds : List D) : Tk N G (.dct ks ds)
  | ins (ns : List Str) (ds : List D) : Tk N G (.ins G ns ds)
def TgK (N : Nat) (G : Addr) (d : D) : Prop := Tk N G d ∨ ∃ i, d = .int i
section
variable {N : Nat} {G : Addr} {d : D}
theorem Tk.tg (h : Tk N G d) : TgK N G d := .inl h
theorem TgK.tk (h : TgK N G d) : Tk N G d := by
  rcases h with h | ⟨i, rfl⟩
  · exact h
  · exact .int
theorem TgK.pair {t u : Int} (h : TgK N G (.tup [.int t, .int u])) : t.natAbs ≤ N ∧ u.natAbs ≤ N := by
  cases h.tk with
  | tup hl h hb => exact hb t u rfl
theorem TgN.pair {t u : Int} (h : TgN N G (.tup [.int t, .int u])) : t.natAbs ≤ N ∧ u.natAbs ≤ N := by
  rcases h with h | ⟨i, e⟩
  · exact ThN.frac (p := (t, u)) h
  · cases e
theorem Tk.frac {p : Int × Int} (h : Tk N G (encF p)) : p.1.natAbs ≤ N ∧ p.2.natAbs ≤ N := TgK.pair (N := N) (G := G) (t := p.1) (u := p.2) h.tg
theorem Tk.items {ds : List D} (h : Tk N G (.tup ds)) : ds.length ≤ 100 ∧ ∀ d ∈ ds, Tk N G d := by
  cases h with
  | tup hl h hb => exact ⟨hl, h⟩
theorem tk_0 : Tk N G (.tup []) := .tup (by simp) (by simp) (by simp)
theorem tk_1 {a : D} (h : Tk N G a) : Tk N G (.tup [a]) := .tup (by simp) (fun d hd => by simp at hd; rw [hd]; exact h) (by simp)
theorem tk_2 {a b : D} (h : Tk N G a) (k : Tk N G b) (hb : ∀ t u : Int, a = .int t → b = .int u → t.natAbs ≤ N ∧ u.natAbs ≤ N) : Tk N G (.tup [a, b]) := .tup (by simp) (fun d hd => by
  simp at hd
  rcases hd with rfl | rfl
  · exact h
  · exact k) (fun t u e => by simp at e; exact hb t u e.1 e.2)
theorem tk_F {t u : Int} (h : t.natAbs ≤ N) (k : u.natAbs ≤ N) : Tk N G (.tup [.int t, .int u]) := tk_2 .int .int fun t' u' e e' => by
  injection e with e; injection e' with e'
  subst e e'
  exact ⟨h, k⟩
theorem tk_n {ds : List D} (h : ∀ d ∈ ds, Tk N G d) (hl : ds.length ≤ 100) (h2 : ∀ d ∈ ds, intB d = false) : Tk N G (.tup ds) := .tup hl h fun t u e => by
  subst e
  have := h2 (.int t) (by simp)
  cases this
theorem tk_enc {p : Int × Int} (h : p.1.natAbs ≤ N ∧ p.2.natAbs ≤ N) : Tk N G (encF p) := tk_F h.1 h.2
end
/-! ### judges -/
def plB (lo hi : Int) : D → Bool
  | .int i => decide (lo ≤ i) && decide (i ≤ hi)
  | _ => false
def smB : D → Bool
  | .tup [.int t, .int b] => decide ((t.natAbs : Int) ≤ 6) && decide (b ≤ 4)
  | _ => false
def cellB (b : Int) : D → Bool
  | .non => true
  | .tup ds => unitB b (.tup ds) && ds.all smB
  | _ => false
def zB : D → Bool
  | .tup [.int t, .int b] => decide ((t, b) = ((0 : Int), (1 : Int)))
  | _ => false
def fitB (c : Option Unit') (d : D) : Bool := fracB d && (c.isSome || zB d)
def its : D → List D
  | .tup es => es
  | _ => []
def rowB (n : Int) : D → Bool
  | .tup es => decide ((es.length : Int) = n)
  | _ => false
def rowsB (m n : Int) : D → Bool
  | .tup ds => decide ((ds.length : Int) = m) && ds.all (rowB n)
  | _ => false
def fitsR (rs : List (List (Option Unit'))) (ds : List D) : Bool := (rs.zip ds).all fun z => (z.1.zip (its z.2)).all fun y => fitB y.1 y.2
def numsB (m n : Int) (rs : List (List (Option Unit'))) (x : D) : Bool := rowsB m n x && fitsR rs (its x)
theorem rowB_of {n : Int} {d : D} (h : rowB n d = true) : ∃ es, d = .tup es ∧ (es.length : Int) = n := by
  cases d with
  | tup es => exact ⟨es, rfl, of_decide_eq_true h⟩
  | _ => cases h
theorem rowsB_of {m n : Int} {x : D} (h : rowsB m n x = true) : ∃ ds, x = .tup ds ∧ (ds.length : Int) = m ∧ ∀ d ∈ ds, rowB n d = true := by
  cases x with
  | tup ds =>
    have h' : (decide ((ds.length : Int) = m) && ds.all (rowB n)) = true := h
    rw [Bool.and_eq_true, decide_eq_true_eq, List.all_eq_true] at h'
    exact ⟨ds, rfl, h'.1, h'.2⟩
  | _ => cases h
theorem smB_F (p : Int × Int) : smB (encF p) = (decide ((p.1.natAbs : Int) ≤ 6) && decide (p.2 ≤ 4)) := rfl
theorem fitB_F (c : Option Unit') {p : Int × Int} (h : Fr p) : fitB c (encF p) = (c.isSome || decide (p = (0, 1))) := by
  unfold fitB
  rw [fracB_F h, Bool.true_and]
  rfl
theorem fitB_of {c : Option Unit'} {d : D} (h : fitB c d = true) : ∃ p, d = encF p ∧ Fr p ∧ (c = none → p = (0, 1)) := by
  unfold fitB at h
  rw [Bool.and_eq_true] at h
  obtain ⟨p, rfl, hp⟩ := fracB_of h.1
  refine ⟨p, rfl, hp, fun e => ?_⟩
  subst e
  exact of_decide_eq_true h.2
/-- what is a cell, once judged -/
theorem cellB_of {b : Nat} {x : D} (h : cellB (b : Int) x = true) : ∃ c, x = encC c ∧ CellOk b c := by
  cases x with
  | non => exact ⟨none, rfl, trivial⟩
  | tup ds =>
    have h' : ((decide ((ds.length : Int) = (b : Int)) && ds.all fracB) && ds.all smB) = true := h
    rw [Bool.and_eq_true, Bool.and_eq_true, decide_eq_true_eq] at h'
    obtain ⟨⟨hl, hf⟩, hs⟩ := h'
    obtain ⟨us, rfl, hu⟩ := all_frac hf
    rw [List.all_eq_true] at hs
    refine ⟨some us, rfl, by rw [List.length_map] at hl; omega, fun p hp => ?_⟩
    have s := hs _ (List.mem_map_of_mem hp)
    rw [smB_F, Bool.and_eq_true, decide_eq_true_eq, decide_eq_true_eq] at s
    have f := hu p hp
    have f1 := f.1
    exact ⟨⟨f, by unfold Bd; omega, by unfold Bd; omega⟩, by omega, s.2⟩
  | _ => cases h
theorem numsB_of {N : Nat} {G : Addr} {b m n nb : Nat} {rs : List (List (Option Unit'))} {x : D} (g : GrOk b m n rs) (hN : N < 2 ^ nb) (hx : Tk N G x) (h : numsB (m : Int) (n : Int) rs x = true) : ∃ ns, x = encN ns ∧ NumsOk nb rs ns := by
  unfold numsB at h
  rw [Bool.and_eq_true] at h
  obtain ⟨hr, hf⟩ := h
  obtain ⟨ds, rfl, hl, hd⟩ := rowsB_of hr
  have hf' : ((rs.zip ds).all fun z => (z.1.zip (its z.2)).all fun y => fitB y.1 y.2) = true := hf
  rw [List.all_eq_true] at hf'
  have key : ∀ z ∈ rs.zip ds, ∃ l : List Num, z.2 = encU l ∧ l.length = z.1.length ∧ ∀ y ∈ z.1.zip l, NumOk nb y.1 y.2 := by
    intro z hz
    have hm := List.of_mem_zip (show (z.1, z.2) ∈ rs.zip ds from hz)
    obtain ⟨es, ee, hel⟩ := rowB_of (hd _ hm.2)
    have q := hf' z hz
    rw [ee] at q
    have q' : ((z.1.zip es).all fun y => fitB y.1 y.2) = true := q
    rw [List.all_eq_true] at q'
    have hrl : z.1.length = n := (g.rows.2 _ hm.1).1
    have hz2 : Tk N G (.tup es) := by rw [← ee]; exact hx.items.2 _ hm.2
    have each : ∀ e ∈ es, ∃ p : Num, e = encF p ∧ FrB nb p := by
      intro e he
      obtain ⟨i, hi, rfl⟩ := List.mem_iff_getElem.mp he
      have hi2 : i < (z.1.zip es).length := by rw [List.length_zip]; omega
      have w := q' _ (List.getElem_mem hi2)
      rw [List.getElem_zip] at w
      obtain ⟨p, ep, fp, _⟩ := fitB_of w
      have bp : p.1.natAbs ≤ N ∧ p.2.natAbs ≤ N := Tk.frac (G := G) (by rw [← ep]; exact hz2.items.2 _ he)
      exact ⟨p, ep, fp, by unfold Bd; omega, by unfold Bd; omega⟩
    obtain ⟨l, rfl, hl2⟩ := all_encG each
    rw [List.length_map] at hel
    refine ⟨l, ee, by omega, fun y hy => ?_⟩
    have hy' : (y.1, encF y.2) ∈ z.1.zip (l.map encF) := by
      rw [List.zip_map_right]
      exact List.mem_map.mpr ⟨y, hy, rfl⟩
    obtain ⟨p, ep, fp, z0⟩ := fitB_of (q' _ hy')
    have e : y.2 = p := by
      have e1 : D.tup [.int y.2.1, .int y.2.2] = .tup [.int p.1, .int p.2] := ep
      injection e1 with e1
      injection e1 with e2 e3
      injection e3 with e3
      injection e2 with e2
      injection e3 with e3
      exact Prod.ext e2 e3
    exact ⟨hl2 _ (List.of_mem_zip (show (y.1, y.2) ∈ z.1.zip l from hy)).2, fun ec => by rw [e]; exact z0 ec⟩
  have lz : rs.length = ds.length := by rw [g.rows.1]; omega
  have each : ∀ d ∈ ds, ∃ l : List Num, d = encU l ∧ True := by
    intro d hd'
    obtain ⟨i, hi, rfl⟩ := List.mem_iff_getElem.mp hd'
    have hi2 : i < (rs.zip ds).length := by rw [List.length_zip]; omega
    obtain ⟨l, e, _⟩ := key _ (List.getElem_mem hi2)
    rw [List.getElem_zip] at e
    exact ⟨l, e, trivial⟩
  obtain ⟨ns, rfl, _⟩ := all_encG each
  refine ⟨ns, rfl, by rw [lz, List.length_map], fun z hz => ?_⟩
  have hz' : (z.1, encU z.2) ∈ rs.zip (ns.map encU) := by
    rw [List.zip_map_right]
    exact List.mem_map.mpr ⟨z, hz, rfl⟩
  obtain ⟨l, e, h1, h2⟩ := key _ hz'
  have el : z.2 = l := by
    obtain ⟨f, t1, t2⟩ := eqE_U
    have q1 := t1 z.2
    have q2 := t1 l
    have e' : encU z.2 = encU l := e
    rw [e', q2] at q1
    have := Option.some.inj q1
    exact (t2.eqv _ _).mp (by rw [← this]; exact (t2.eqv _ _).mpr rfl)
  rw [el]
  exact ⟨h1, fun y hy => h2 y hy⟩
section
variable {S : Store} {cs : List Addr} {c : String}
theorem isi_N' {ns : List (List Num)} : oIsiI cs [.d (encN ns), .d (.ty c)] S = oIsi [.d (encN ns), .d (.ty c)] S := rfl
theorem isi_Row' {r : List (Option Unit')} : oIsiI cs [.d (encRow r), .d (.ty c)] S = oIsi [.d (encRow r), .d (.ty c)] S := rfl
theorem isi_R' {rs : List (List (Option Unit'))} : oIsiI cs [.d (encR rs), .d (.ty c)] S = oIsi [.d (encR rs), .d (.ty c)] S := rfl
end
end DL
set_option Elab.async false
set_option linter.all false
set_option maxRecDepth 100000
set_option maxHeartbeats 1000000
/-! DL25: odd things, rows of things, draws over lists. -/
namespace DL
open PySem L2
theorem Tk.mono {N M : Nat} {G : Addr} {d : D} (hN : N ≤ M) (h : Tk N G d) : Tk M G d := by
  induction h with
  | non => exact .non
  | bl b => exact .bl b
  | int => exact .int
  | str x => exact .str x
  | tup hl h hb ih => exact .tup hl ih fun t u e => by have := hb t u e; omega
  | lst hl h ih => exact .lst hl ih
  | dct ks ds => exact .dct ks ds
  | ins ns ds => exact .ins ns ds
theorem TgK.mono {N M : Nat} {G : Addr} {d : D} (hN : N ≤ M) (h : TgK N G d) : TgK M G d := (h.tk.mono hN).tg
/-- an odd thing: small pairs, and not too great itself -/
def Od (G : Addr) (d : D) : Prop := Tk 24 G d ∧ ∀ i, d = .int i → i.natAbs ≤ 10000000000000000000000000000000000000000
theorem Od.tg {G : Addr} {d : D} (h : Od G d) : TgK 24 G d := h.1.tg
theorem od_of {G : Addr} {d : D} (h : Tk 24 G d) (hi : intB d = false) : Od G d := ⟨h, fun i e => by subst e; cases hi⟩
theorem od_int {G : Addr} {i : Int} (h : i.natAbs ≤ 10000000000000000000000000000000000000000) : Od G (.int i) := ⟨.int, fun j e => by injection e with e; subst e; exact h⟩
def deepD : Nat → D
  | 0 => .tup [.int 0, .int 1]
  | n + 1 => .tup [deepD n]
section
variable {S : Store} {a : W}
theorem mkTup0 : mkTup [] S = some (.ok (.d (.tup [])), S) := rfl
theorem mkLst0 : mkLst [] S = some (.ok (.d (.lst [])), S) := rfl
theorem mkLst1 {d : D} : mkLst [.d d] S = some (.ok (.d (.lst [d])), S) := rfl
theorem neg1 : oNeg (.d (.int 1)) S = some (.ok (.d (.int (-1))), S) := rfl
end
def L1 : List D := [.non, .bl true, .bl false, .int 0, .int (-1), .int 1000000000000000000000000000000000000000, .str "", .str "1", .str "star", .tup [], .lst [], .dct [] [], .tup [.int 1], .lst [.int 1], .dct [.inl 0] [.int 1], .tup [.int 0, .int 1], .lst [.tup [.int 0, .int 1]]]
def L2' : List D := [.tup [.tup [.int 0, .int 1]], .tup [.tup [.int 0, .int 1], .tup [.int 0, .int 1]], .tup [.tup [.int 1, .int 1], .non], .tup [.tup [.int 2, .int 2]], .tup [.tup [.int 1, .int 0]], .tup [.tup [.int 1, .int (-1)]], .tup [.tup [.bl true, .int 1]], deepD 36]
def L3 (C : Str → Addr) : List D := [.lst [deepD 36], gridD C 1 [[none]], .tup [gridD C 2 [[none]]], .tup [.tup [.int 0, .int 1], .lst [.int 0, .int 1]], .tup [.tup [.int 0, .int 1], .tup [.int 0, .int 1], .tup [.int 0, .int 1], .tup [.int 0, .int 1]], .tup [.str "1", .str "1"], .tup [.int 1, .int 2]]
theorem grok1 {b : Nat} (h1 : 1 ≤ b) (h3 : b ≤ 3) : GrOk b 1 1 [[none]] := ⟨h1, h3, by decide, by decide, by decide, by decide, rfl, fun r hr => by
  simp at hr
  subst hr
  exact ⟨rfl, fun c hc => by simp at hc; subst hc; trivial⟩⟩
section
variable {N : Nat} {G : Addr}
theorem tk_lst1 {a : D} (h : Tk N G a) : Tk N G (.lst [a]) := .lst (by simp) fun d hd => by simp at hd; rw [hd]; exact h
theorem tk_two {a b : D} (h : Tk N G a) (k : Tk N G b) (ha : intB a = false) : Tk N G (.tup [a, b]) := tk_2 h k fun t u e _ => by subst e; cases ha
theorem deep_tk (hN : 2 ≤ N) : ∀ n, Tk N G (deepD n)
  | 0 => tk_F (by show 0 ≤ N; omega) (by show 1 ≤ N; omega)
  | n + 1 => tk_1 (deep_tk hN n)
end
theorem th_L1 {G : Addr} : ∀ d ∈ L1, Od G d := fun d hd => by
  unfold L1 at hd
  simp only [List.mem_cons, List.not_mem_nil, or_false] at hd
  have f01 : Tk 24 G (.tup [.int 0, .int 1]) := tk_F (by decide) (by decide)
  rcases hd with rfl | rfl | rfl | rfl | rfl | rfl | rfl | rfl | rfl | rfl | rfl | rfl | rfl | rfl | rfl | rfl | rfl
  · exact od_of .non rfl
  · exact od_of (.bl _) rfl
  · exact od_of (.bl _) rfl
  · exact od_int (by decide)
  · exact od_int (by decide)
  · exact od_int (by decide)
  · exact od_of (.str _) rfl
  · exact od_of (.str _) rfl
  · exact od_of (.str _) rfl
  · exact od_of tk_0 rfl
  · exact od_of (.lst (by simp) (by simp)) rfl
  · exact od_of (.dct _ _) rfl
  · exact od_of (tk_1 .int) rfl
  · exact od_of (tk_lst1 .int) rfl
  · exact od_of (.dct _ _) rfl
  · exact od_of f01 rfl
  · exact od_of (tk_lst1 f01) rfl
theorem th_L2 {G : Addr} : ∀ d ∈ L2', Od G d := fun d hd => by
  unfold L2' at hd
  simp only [List.mem_cons, List.not_mem_nil, or_false] at hd
  rcases hd with rfl | rfl | rfl | rfl | rfl | rfl | rfl | rfl
  · exact od_of (tk_1 (tk_F (by decide) (by decide))) rfl
  · exact od_of (tk_two (tk_F (by decide) (by decide)) (tk_F (by decide) (by decide)) rfl) rfl
  · exact od_of (tk_two (tk_F (by decide) (by decide)) .non rfl) rfl
  · exact od_of (tk_1 (tk_F (by decide) (by decide))) rfl
  · exact od_of (tk_1 (tk_F (by decide) (by decide))) rfl
  · exact od_of (tk_1 (tk_F (by decide) (by decide))) rfl
  · exact od_of (tk_1 (tk_two (.bl _) .int rfl)) rfl
  · exact od_of (deep_tk (by decide) 36) rfl
theorem th_L3 {C : Str → Addr} : ∀ d ∈ L3 C, Od (C "Grid") d := fun d hd => by
  unfold L3 at hd
  simp only [List.mem_cons, List.not_mem_nil, or_false] at hd
  have f01 : Tk 24 (C "Grid") (.tup [.int 0, .int 1]) := tk_F (by decide) (by decide)
  rcases hd with rfl | rfl | rfl | rfl | rfl | rfl | rfl
  · exact od_of (tk_lst1 (deep_tk (by decide) 36)) rfl
  · exact od_of (.ins _ _) rfl
  · exact od_of (tk_1 (.ins _ _)) rfl
  · exact od_of (tk_two f01 (.lst (by simp) fun d hd => by
      simp at hd
      rcases hd with rfl | rfl <;> exact .int) rfl) rfl
  · exact od_of (tk_n (fun d hd => by simp at hd; rw [hd]; exact f01) (by simp) (fun d hd => by simp at hd; rw [hd]; rfl)) rfl
  · exact od_of (tk_two (.str _) (.str _) rfl) rfl
  · exact od_of (tk_F (by decide) (by decide)) rfl
/-! ### parts of tuples -/
section
variable {S : Store} {ds : List D} {lo hi : Option Int} {d : D}
theorem sl_any : oSlA (.d (.tup ds)) lo hi S = some (.ok (.d (.tup (cutD ds lo hi))), S) := rfl
theorem cutD_mem (h : d ∈ cutD ds lo hi) : d ∈ ds := List.mem_of_mem_drop (List.mem_of_mem_take h)
theorem cutD_len : (cutD ds lo hi).length ≤ ds.length := by
  unfold cutD
  rw [List.length_take, List.length_drop]
  omega
theorem ix_neg (h : 0 < ds.length) : ∃ d ∈ ds, oIx (.d (.tup ds)) (.d (.int (-1))) S = some (.ok (.d d), S) := by
  have hi : ds.length - 1 < ds.length := by omega
  have e : atI (ds.map W.d) (-1) = some (W.d ds[ds.length - 1]) := by
    have e2 : ixN ds.length (-1) = some (ds.length - 1) := by
      unfold ixN
      rw [if_neg (by decide), if_pos (by omega)]
      congr 1
      omega
    unfold atI
    rw [List.length_map, e2]
    simp [hi]
  refine ⟨ds[ds.length - 1], List.getElem_mem hi, ?_⟩
  simp only [oIx, seqW, e]
theorem list_tup : oList (.d (.tup ds)) S = some (.ok (.d (.lst ds)), S) := by
  show (match pure? (ds.map W.d) with
    | some ds => (some (Except.ok (W.d (.lst ds)), S) : Rs W)
    | none => none) = _
  rw [pure?_map]
theorem set_two {xs : List D} {i : Nat} {z : D} (h : i < xs.length) : cutD xs none (some (i : Int)) ++ [z] ++ cutD xs (some ((i : Int) + 1)) none = xs.set i z := by
  rw [show ((i : Int) + 1) = ((i + 1 : Nat) : Int) by omega, cut_hi (by omega), cut_lo (by omega)]
  exact set_split h
end
/-- rows of odd things -/
def RowK (n : Nat) (G : Addr) (d : D) : Prop := ∃ es, d = .tup es ∧ es.length = n ∧ ∀ e ∈ es, Od G e
def RowsK (m n : Nat) (G : Addr) (ds : List D) : Prop := ds.length = m ∧ ∀ d ∈ ds, RowK n G d
section
variable {G : Addr} {m n : Nat} {ds es : List D} {d : D}
theorem odRow (h : ∀ e ∈ es, Od G e) (hl : es.length ≤ 100) : Tk 10000000000000000000000000000000000000000 G (.tup es) := .tup hl (fun e he => (h e he).1.mono (by decide)) fun t u e => by
  subst e
  exact ⟨(h (.int t) (by simp)).2 t rfl, (h (.int u) (by simp)).2 u rfl⟩
theorem RowK.tk (h : RowK n G d) (hn : n ≤ 100) : Tk 10000000000000000000000000000000000000000 G d := by
  obtain ⟨es, rfl, hl, he⟩ := h
  exact odRow he (by omega)
theorem RowK.nint (h : RowK n G d) : intB d = false := by
  obtain ⟨es, rfl, _⟩ := h
  rfl
theorem RowsK.set {i j : Nat} {z : D} (h : RowsK m n G ds) (hi : i < ds.length) {es : List D} (he : ds[i] = .tup es) (hz : Od G z) : RowsK m n G (ds.set i (.tup (es.set j z))) := by
  refine ⟨by rw [List.length_set]; exact h.1, fun d hd => ?_⟩
  rcases List.mem_or_eq_of_mem_set hd with y | y
  · exact h.2 d y
  · subst y
    obtain ⟨es', e, hl, ho⟩ := h.2 _ (List.getElem_mem hi)
    rw [he] at e
    injection e with e
    subst e
    refine ⟨_, rfl, by rw [List.length_set]; exact hl, fun x hx => ?_⟩
    rcases List.mem_or_eq_of_mem_set hx with y | y
    · exact ho x y
    · rw [y]; exact hz
end
/-! ### draws over a list -/
theorem dLc_drawL {α β : Type} (e : α → D) (Q : α → Prop) {fi : FI} {tf : Tg} {fe : FE} {vs : List Nat} {δ : DEnv} {T : Store} {m : M} {xs : List β} {wf : β → W} (hn : xs.length ≤ 1000) (hm : DrSt m)
    (hi : fi δ (m :: T) = some (.ok (xs.map wf, none), m :: T)) (h : ∀ x ∈ xs, ∀ m, DrSt m → ∃ δ1 a m', tf (wf x) (wipeE δ vs) (m :: T) = some (δ1, m :: T) ∧ fe δ1 (m :: T) = some (.ok (.d (e a)), m' :: T) ∧ DrSt m' ∧ Q a) :
    ∃ (as : List α) (m' : M), dLc lcF fi tf ftYes fe vs δ (m :: T) = some (.ok (.d (.lst (as.map e))), m' :: T) ∧ as.length = xs.length ∧ (∀ a ∈ as, Q a) ∧ DrSt m' := by
  obtain ⟨ds, m', e1, hm', hds, hd⟩ := lcL_thread (tf := tf) (fe := fe) (δ := wipeE δ vs) (T := T) (Pm := DrSt) (Pd := fun d => ∃ a, d = e a ∧ Q a) (ws := xs.map wf) (acc := []) hm (by
    intro w hw m hm
    obtain ⟨x, hx, rfl⟩ := List.mem_map.mp hw
    obtain ⟨δ1, a, m', e1, e2, e3, e4⟩ := h x hx m hm
    exact ⟨δ1, _, m', e1, e2, e3, a, rfl, e4⟩)
  obtain ⟨as, rfl, ha⟩ := all_encG hd
  refine ⟨as, m', ?_, by simpa using hds, ha, hm'⟩
  have hz : (xs.map wf).length ≤ sizeLine := Nat.le_trans (by rw [List.length_map]; exact hn) (by decide)
  unfold dLc
  rw [hi, bind_ok]
  dsimp only
  rw [if_pos hz, e1, bind_ok, List.nil_append]
  unfold lcF
  rw [pure?_map]
end DL
set_option Elab.async false
set_option linter.all false
set_option maxRecDepth 100000
set_option maxHeartbeats 4000000
namespace P07
open PySem PySem.Spec PyProof.Rows L2 DL
def top (i : Nat) : Stmt := PySem.Challenge.pw_unitgrids_k07_grids_refused.main.body.getD i (.Pass ⟨0, 0, 0, 0⟩)
def inner (i j : Nat) : Stmt := match top i with
  | .ClassDef _ _ _ body _ _ _ _ _ _ _ => body.getD j (.Pass ⟨0, 0, 0, 0⟩)
  | _ => .Pass ⟨0, 0, 0, 0⟩
abbrev s_is_integer : Stmt := top 8
abbrev s_is_within : Stmt := top 9
abbrev s_divisor : Stmt := top 10
abbrev s_multiple : Stmt := top 11
abbrev s_lowest : Stmt := top 12
abbrev s_is_fraction : Stmt := top 13
abbrev s_is_above : Stmt := top 14
abbrev s_times : Stmt := top 15
abbrev s_raised : Stmt := top 16
abbrev s_is_unit_of : Stmt := top 17
abbrev s_are_rows : Stmt := top 18
abbrev s_check_roots : Stmt := top 20
abbrev s_raw_factor : Stmt := top 21
abbrev s_is_part : Stmt := top 27
abbrev s_is_cell : Stmt := top 28
abbrev s_check_rows : Stmt := top 29
abbrev s_Grid__init__ : Stmt := inner 30 0
abbrev s_Grid__eq__ : Stmt := inner 30 1
abbrev s_sizes_of : Stmt := top 31
abbrev s_check_cell : Stmt := top 32
abbrev s_cell : Stmt := top 33
abbrev s_with_cell : Stmt := top 34
abbrev s_retold : Stmt := top 35
abbrev s_units_in : Stmt := top 36
abbrev s_bottom : Stmt := top 37
abbrev s_fits : Stmt := top 38
abbrev s_are_numbers : Stmt := top 39
abbrev s_are_values : Stmt := top 40
abbrev s_raw_renumbered : Stmt := top 41
abbrev s_renumbered : Stmt := top 42
abbrev s__law_is_integer : Stmt := top 44
abbrev s__law_state : Stmt := top 45
abbrev s__law_mixed : Stmt := top 46
abbrev s__law_draw : Stmt := top 47
abbrev s__law_low : Stmt := top 48
abbrev s__law_exponent : Stmt := top 49
abbrev s__law_unit : Stmt := top 50
abbrev s__law_cell : Stmt := top 52
abbrev s__law_with : Stmt := top 53
abbrev s__law_is_fraction : Stmt := top 54
abbrev s__law_is_unit : Stmt := top 55
abbrev s__law_is_cell : Stmt := top 56
abbrev s__law_are_numbers : Stmt := top 57
abbrev s__law_odd : Stmt := top 58
abbrev s__law_place : Stmt := top 59
abbrev s__law_is_place : Stmt := top 60
abbrev s__law_item : Stmt := top 61
abbrev s__law_numbers : Stmt := top 62
abbrev s__law_some_roots : Stmt := top 63
abbrev s__law_are_values : Stmt := top 64
abbrev s__law_called : Stmt := top 65
abbrev s__law_found : Stmt := top 66
abbrev s__law_thing : Stmt := top 67
abbrev s__law_rows : Stmt := top 51
abbrev s_law : Stmt := top 68
def excs : List Str := ["NoRoots", "NoCell", "NoUnit", "NoNumbers"]
def hdls : List Str := ["NoCell", "NoUnit", "NoNumbers", "NoRoots", "GridError"]
def subE (c h : Str) : Bool := decide ((c, h) ∈ ([("NoRoots", "NoRoots"), ("NoRoots", "GridError"), ("NoCell", "NoCell"), ("NoCell", "GridError"), ("NoUnit", "NoUnit"), ("NoUnit", "GridError"), ("NoNumbers", "NoNumbers"), ("NoNumbers", "GridError")] : List (Str × Str)))
/-! what each def does -/
noncomputable def F_is_integer (C : Str → Addr) : FS :=
  sRet (dAndV (dCB (oIsiI [C "Grid"]) (aCons (dVar 0) (aCons (dC (.ty "int")) (aNil)))) (dNotV (dCB (oIsiI [C "Grid"]) (aCons (dVar 0) (aCons (dC (.ty "bool")) (aNil))))))
noncomputable def g_is_integer (C : Str → Addr) : Fn := dDef giveS 1 1 (F_is_integer C)
noncomputable def F_is_within (C : Str → Addr) : FS :=
  sRet (dAndV (dCall 1 (g_is_integer C) (aCons (dVar 0) (aNil))) (dChain oLe oLe (dVar 1) (dVar 0) (dVar 2)))
noncomputable def g_is_within (C : Str → Addr) : Fn := dDef giveS 3 3 (F_is_within C)
noncomputable def F_divisor (C : Str → Addr) : FS :=
  sSeq (sPar 0 1 (dCB (b1 oAbs) (aCons (dVar 0) (aNil))) (dCB (b1 oAbs) (aCons (dVar 1) (aNil))))
    (sSeq (dWhile (dB (d2 oGt (dVar 1) (dC (.int 0)))) (sPar 0 1 (dVar 1) (d2 oMod (dVar 0) (dVar 1))))
    (sRet (dVar 0)))
noncomputable def g_divisor (C : Str → Addr) : Fn := dDef giveS 2 2 (F_divisor C)
noncomputable def F_multiple (C : Str → Addr) : FS :=
  sRet (d2 oMul (d2 oDiv (dVar 0) (dCall 2 (g_divisor C) (aCons (dVar 0) (aCons (dVar 1) (aNil))))) (dVar 1))
noncomputable def g_multiple (C : Str → Addr) : Fn := dDef giveS 2 2 (F_multiple C)
noncomputable def F_lowest (C : Str → Addr) : FS :=
  sSeq (sSet 2 (dCall 2 (g_divisor C) (aCons (dVar 0) (aCons (dVar 1) (aNil)))))
    (sSeq (sIf (dB (d2 oLt (dVar 1) (dC (.int 0)))) (sSet 2 (d1 oNeg (dVar 2))) (sNx))
    (sRet (dTup (aCons (d2 oDiv (dVar 0) (dVar 2)) (aCons (d2 oDiv (dVar 1) (dVar 2)) (aNil))))))
noncomputable def g_lowest (C : Str → Addr) : Fn := dDef giveS 2 3 (F_lowest C)
noncomputable def F_is_fraction (C : Str → Addr) : FS :=
  sSeq (sIf (dOr (dNot (dTru (dCB (oIsiI [C "Grid"]) (aCons (dVar 0) (aCons (dC (.ty "tuple")) (aNil)))))) (dOr (dB (d2 oNe (dCB (b1 oLen) (aCons (dVar 0) (aNil))) (dC (.int 2)))) (dOr (dNot (dTru (dCall 1 (g_is_integer C) (aCons (d2 oIx (dVar 0) (dC (.int 0))) (aNil))))) (dNot (dTru (dCall 1 (g_is_integer C) (aCons (d2 oIx (dVar 0) (dC (.int 1))) (aNil)))))))) (sRet (dC (.bl false))) (sNx))
    (sRet (dAndV (d2 oGe (d2 oIx (dVar 0) (dC (.int 1))) (dC (.int 1))) (d2 oEq (dCall 2 (g_divisor C) (aCons (d2 oIx (dVar 0) (dC (.int 0))) (aCons (d2 oIx (dVar 0) (dC (.int 1))) (aNil)))) (dC (.int 1)))))
noncomputable def g_is_fraction (C : Str → Addr) : Fn := dDef giveS 1 1 (F_is_fraction C)
noncomputable def F_is_above (C : Str → Addr) : FS :=
  sRet (dAndV (dCall 1 (g_is_fraction C) (aCons (dVar 0) (aNil))) (d2 oGt (d2 oIx (dVar 0) (dC (.int 0))) (dC (.int 0))))
noncomputable def g_is_above (C : Str → Addr) : Fn := dDef giveS 1 1 (F_is_above C)
noncomputable def F_times (C : Str → Addr) : FS :=
  sRet (dCall 2 (g_lowest C) (aCons (d2 oMul (d2 oIx (dVar 0) (dC (.int 0))) (d2 oIx (dVar 1) (dC (.int 0)))) (aCons (d2 oMul (d2 oIx (dVar 0) (dC (.int 1))) (d2 oIx (dVar 1) (dC (.int 1)))) (aNil))))
noncomputable def g_times (C : Str → Addr) : Fn := dDef giveS 2 2 (F_times C)
noncomputable def F_raised (C : Str → Addr) : FS :=
  sSeq (sSet 2 (dIf (dB (d2 oGe (dVar 1) (dC (.int 0)))) (dVar 0) (dTup (aCons (d2 oIx (dVar 0) (dC (.int 1))) (aCons (d2 oIx (dVar 0) (dC (.int 0))) (aNil))))))
    (sSeq (sSet 3 (dCB (b1 oAbs) (aCons (dVar 1) (aNil))))
    (sSeq (sSet 4 (dTup (aCons (dC (.int 1)) (aCons (dC (.int 1)) (aNil)))))
    (sSeq (dWhile (dB (d2 oGt (dVar 3) (dC (.int 0)))) (sSeq (sIf (dB (d2 oEq (d2 oMod (dVar 3) (dC (.int 2))) (dC (.int 1)))) (sSet 4 (dTup (aCons (d2 oMul (d2 oIx (dVar 4) (dC (.int 0))) (d2 oIx (dVar 2) (dC (.int 0)))) (aCons (d2 oMul (d2 oIx (dVar 4) (dC (.int 1))) (d2 oIx (dVar 2) (dC (.int 1)))) (aNil))))) (sNx))
    (sSeq (sSet 2 (dTup (aCons (d2 oMul (d2 oIx (dVar 2) (dC (.int 0))) (d2 oIx (dVar 2) (dC (.int 0)))) (aCons (d2 oMul (d2 oIx (dVar 2) (dC (.int 1))) (d2 oIx (dVar 2) (dC (.int 1)))) (aNil)))))
    (sSet 3 (d2 oDiv (dVar 3) (dC (.int 2)))))))
    (sRet (dVar 4)))))
noncomputable def g_raised (C : Str → Addr) : Fn := dDef giveS 2 5 (F_raised C)
noncomputable def F_is_unit_of (C : Str → Addr) : FS :=
  sRet (dAndV (dCB (oIsiI [C "Grid"]) (aCons (dVar 1) (aCons (dC (.ty "tuple")) (aNil)))) (dAndV (d2 oEq (dCB (b1 oLen) (aCons (dVar 1) (aNil))) (dVar 0)) (dCB (b1 oAll) (aCons (dLc lcF (dSeq (dVar 1)) (tgN 2) (ftYes) (dCall 1 (g_is_fraction C) (aCons (dVar 2) (aNil))) [2]) (aNil)))))
noncomputable def g_is_unit_of (C : Str → Addr) : Fn := dDef giveS 2 3 (F_is_unit_of C)
noncomputable def F_are_rows (C : Str → Addr) : FS :=
  sSeq (sIf (dOr (dNot (dTru (dCB (oIsiI [C "Grid"]) (aCons (dVar 0) (aCons (dC (.ty "tuple")) (aNil)))))) (dB (d2 oNe (dCB (b1 oLen) (aCons (dVar 0) (aNil))) (dVar 1)))) (sRet (dC (.bl false))) (sNx))
    (sRet (dCB (b1 oAll) (aCons (dLc lcF (dSeq (dVar 0)) (tgN 3) (ftYes) (dAndV (dCB (oIsiI [C "Grid"]) (aCons (dVar 3) (aCons (dC (.ty "tuple")) (aNil)))) (d2 oEq (dCB (b1 oLen) (aCons (dVar 3) (aNil))) (dVar 2))) [3]) (aNil))))
noncomputable def g_are_rows (C : Str → Addr) : Fn := dDef giveS 3 4 (F_are_rows C)
noncomputable def F_check_roots (C : Str → Addr) : FS :=
  sIf (dOr (dNot (dTru (dCB (oIsiI [C "Grid"]) (aCons (dVar 1) (aCons (dC (.ty "tuple")) (aNil)))))) (dOr (dB (d2 oNe (dCB (b1 oLen) (aCons (dVar 1) (aNil))) (dVar 0))) (dNot (dTru (dCB (b1 oAll) (aCons (dLc lcF (dSeq (dVar 1)) (tgN 2) (ftYes) (dCall 1 (g_is_above C) (aCons (dVar 2) (aNil))) [2]) (aNil))))))) (sRaise "NoRoots") (sNx)
noncomputable def g_check_roots (C : Str → Addr) : Fn := dDef giveS 2 3 (F_check_roots C)
noncomputable def F_raw_factor (C : Str → Addr) : FS :=
  sSeq (sSet 3 (dTup (aCons (dC (.int 1)) (aCons (dC (.int 1)) (aNil)))))
    (sSeq (dFor (dIt oZip (aCons (dVar 0) (aCons (dVar 1) (aNil)))) (tgT 2 (tgCons (tgT 2 (tgCons (tgN 5) (tgCons (tgN 6) (tgNil)))) (tgCons (tgN 4) (tgNil)))) (sSet 3 (dCall 2 (g_times C) (aCons (dVar 3) (aCons (dCall 2 (g_raised C) (aCons (dVar 4) (aCons (d2 oDiv (d2 oMul (dVar 5) (dVar 2)) (dVar 6)) (aNil)))) (aNil))))))
    (sRet (dVar 3)))
noncomputable def g_raw_factor (C : Str → Addr) : Fn := dDef giveS 3 7 (F_raw_factor C)
noncomputable def F_is_part (C : Str → Addr) : FS :=
  sRet (dAndV (dCB (oIsiI [C "Grid"]) (aCons (dVar 0) (aCons (dC (.ty "tuple")) (aNil)))) (dChain oLe oLe (dC (.int 1)) (dCB (b1 oLen) (aCons (dVar 0) (aNil))) (dC (.int 10))))
noncomputable def g_is_part (C : Str → Addr) : Fn := dDef giveS 1 1 (F_is_part C)
noncomputable def F_is_cell (C : Str → Addr) : FS :=
  sSeq (sIf (dB (d2 oIsN (dVar 1) (dC .non))) (sRet (dC (.bl true))) (sNx))
    (sSeq (sIf (dNot (dTru (dCall 2 (g_is_unit_of C) (aCons (dVar 0) (aCons (dVar 1) (aNil)))))) (sRet (dC (.bl false))) (sNx))
    (sRet (dCB (b1 oAll) (aCons (dLc lcF (dSeq (dVar 1)) (tgT 2 (tgCons (tgN 2) (tgCons (tgN 3) (tgNil)))) (ftYes) (dAndV (d2 oLe (dCB (b1 oAbs) (aCons (dVar 2) (aNil))) (dC (.int 6))) (d2 oLe (dVar 3) (dC (.int 4)))) [2, 3]) (aNil)))))
noncomputable def g_is_cell (C : Str → Addr) : Fn := dDef giveS 2 4 (F_is_cell C)
noncomputable def F_check_rows (C : Str → Addr) : FS :=
  sSeq (dFor (dIt oEnum (aCons (dVar 1) (aNil))) (tgT 2 (tgCons (tgN 2) (tgCons (tgN 3) (tgNil)))) (sIf (dOr (dNot (dTru (dCall 1 (g_is_part C) (aCons (dVar 3) (aNil))))) (dB (d2 oNe (dCB (b1 oLen) (aCons (dVar 3) (aNil))) (dCB (b1 oLen) (aCons (d2 oIx (dVar 1) (dC (.int 0))) (aNil)))))) (sNever) (sNx)))
    (dFor (dIt oEnum (aCons (dVar 1) (aNil))) (tgT 2 (tgCons (tgN 2) (tgCons (tgN 3) (tgNil)))) (dFor (dIt oEnum (aCons (dVar 3) (aNil))) (tgT 2 (tgCons (tgN 4) (tgCons (tgN 5) (tgNil)))) (sIf (dNot (dTru (dCall 2 (g_is_cell C) (aCons (dVar 0) (aCons (dVar 5) (aNil)))))) (sNever) (sNx))))
noncomputable def g_check_rows (C : Str → Addr) : Fn := dDef giveS 2 6 (F_check_rows C)
noncomputable def F_Grid__init__ (C : Str → Addr) : FS :=
  sSeq (sIf (dNot (dTru (dCall 3 (g_is_within C) (aCons (dVar 1) (aCons (dC (.int 1)) (aCons (dC (.int 3)) (aNil))))))) (sNever) (sNx))
    (sSeq (sIf (dNot (dTru (dCall 1 (g_is_part C) (aCons (dVar 2) (aNil))))) (sNever) (sNx))
    (sSeq (sDrop (dCall 2 (g_check_rows C) (aCons (dVar 1) (aCons (dVar 2) (aNil)))))
    (sSeq (sFldPut (C "Grid") "bases" (dVar 1) (dVar 0))
    (sFldPut (C "Grid") "rows" (dVar 2) (dVar 0)))))
noncomputable def g_Grid__init__ (C : Str → Addr) : Fn := dDef giveS 3 3 (F_Grid__init__ C)
noncomputable def F_Grid__eq__ (C : Str → Addr) : FS :=
  sRet (dAndV (dCB (oIsiI [C "Grid"]) (aCons (dVar 1) (aCons (dC (.ref (C "Grid"))) (aNil)))) (dAndV (d2 oEq (dFld (C "Grid") "bases" (dVar 0)) (dFld (C "Grid") "bases" (dVar 1))) (d2 oEq (dFld (C "Grid") "rows" (dVar 0)) (dFld (C "Grid") "rows" (dVar 1)))))
noncomputable def g_Grid__eq__ (C : Str → Addr) : Fn := dDef giveS 2 2 (F_Grid__eq__ C)
noncomputable def F_sizes_of (C : Str → Addr) : FS :=
  sRet (dTup (aCons (dCB (b1 oLen) (aCons (dFld (C "Grid") "rows" (dVar 0)) (aNil))) (aCons (dCB (b1 oLen) (aCons (d2 oIx (dFld (C "Grid") "rows" (dVar 0)) (dC (.int 0))) (aNil))) (aNil))))
noncomputable def g_sizes_of (C : Str → Addr) : Fn := dDef giveS 1 1 (F_sizes_of C)
noncomputable def F_check_cell (C : Str → Addr) : FS :=
  sIf (dOr (dNot (dTru (dCall 3 (g_is_within C) (aCons (dVar 1) (aCons (dC (.int 0)) (aCons (d2 oSub (d2 oIx (dVar 0) (dC (.int 0))) (dC (.int 1))) (aNil))))))) (dNot (dTru (dCall 3 (g_is_within C) (aCons (dVar 2) (aCons (dC (.int 0)) (aCons (d2 oSub (d2 oIx (dVar 0) (dC (.int 1))) (dC (.int 1))) (aNil)))))))) (sRaise "NoCell") (sNx)
noncomputable def g_check_cell (C : Str → Addr) : Fn := dDef giveS 3 3 (F_check_cell C)
noncomputable def F_cell (C : Str → Addr) : FS :=
  sSeq (sDrop (dCall 3 (g_check_cell C) (aCons (dCall 1 (g_sizes_of C) (aCons (dVar 0) (aNil))) (aCons (dVar 1) (aCons (dVar 2) (aNil))))))
    (sRet (d2 oIx (d2 oIx (dFld (C "Grid") "rows" (dVar 0)) (dVar 1)) (dVar 2)))
noncomputable def g_cell (C : Str → Addr) : Fn := dDef giveS 3 3 (F_cell C)
noncomputable def F_with_cell (C : Str → Addr) : FS :=
  sSeq (sSet 4 (d2 oCat (d2 oCat (dSl oSlA (d2 oIx (dVar 0) (dVar 1)) (dNoPt) (dPt (dVar 2))) (dTup (aCons (dVar 3) (aNil)))) (dSl oSlA (d2 oIx (dVar 0) (dVar 1)) (dPt (d2 oAdd (dVar 2) (dC (.int 1)))) (dNoPt))))
    (sRet (d2 oCat (d2 oCat (dSl oSlA (dVar 0) (dNoPt) (dPt (dVar 1))) (dTup (aCons (dVar 4) (aNil)))) (dSl oSlA (dVar 0) (dPt (d2 oAdd (dVar 1) (dC (.int 1)))) (dNoPt))))
noncomputable def g_with_cell (C : Str → Addr) : Fn := dDef giveS 4 5 (F_with_cell C)
noncomputable def F_retold (C : Str → Addr) : FS :=
  sSeq (sDrop (dCall 3 (g_check_cell C) (aCons (dCall 1 (g_sizes_of C) (aCons (dVar 0) (aNil))) (aCons (dVar 1) (aCons (dVar 2) (aNil))))))
    (sSeq (sIf (dNot (dTru (dCall 2 (g_is_cell C) (aCons (dFld (C "Grid") "bases" (dVar 0)) (aCons (dVar 3) (aNil)))))) (sRaise "NoUnit") (sNx))
    (sRet (dMake (C "Grid") 3 (g_Grid__init__ C) (aCons (dFld (C "Grid") "bases" (dVar 0)) (aCons (dCall 4 (g_with_cell C) (aCons (dFld (C "Grid") "rows" (dVar 0)) (aCons (dVar 1) (aCons (dVar 2) (aCons (dVar 3) (aNil)))))) (aNil))))))
noncomputable def g_retold (C : Str → Addr) : Fn := dDef giveS 4 4 (F_retold C)
noncomputable def F_units_in (C : Str → Addr) : FS :=
  sSeq (sSet 1 (dLoc (aNil)))
    (sSeq (dFor (dSeq (dFld (C "Grid") "rows" (dVar 0))) (tgN 2) (sDrop (dExt (dVar 1) (dLc lcM (dSeq (dVar 2)) (tgN 3) (dB (d2 oNotN (dVar 3) (dC .non))) (dVar 3) [3]))))
    (sRet (dVar 1)))
noncomputable def g_units_in (C : Str → Addr) : Fn := dDef giveS 1 4 (F_units_in C)
noncomputable def F_bottom (C : Str → Addr) : FS :=
  sSeq (sSet 1 (dC (.int 1)))
    (sSeq (dFor (dSeq (dCall 1 (g_units_in C) (aCons (dVar 0) (aNil)))) (tgN 2) (dFor (dSeq (dVar 2)) (tgT 2 (tgCons (tgN 3) (tgCons (tgN 4) (tgNil)))) (sSet 1 (dCall 2 (g_multiple C) (aCons (dVar 1) (aCons (dVar 4) (aNil)))))))
    (sRet (dVar 1)))
noncomputable def g_bottom (C : Str → Addr) : Fn := dDef giveS 1 5 (F_bottom C)
noncomputable def F_fits (C : Str → Addr) : FS :=
  sRet (dAndV (dCall 1 (g_is_fraction C) (aCons (dVar 1) (aNil))) (dOrV (d2 oNotN (dVar 0) (dC .non)) (d2 oEq (dVar 1) (dTup (aCons (dC (.int 0)) (aCons (dC (.int 1)) (aNil)))))))
noncomputable def g_fits (C : Str → Addr) : Fn := dDef giveS 2 2 (F_fits C)
noncomputable def F_are_numbers (C : Str → Addr) : FS :=
  sSeq (sIf (dNot (dTru (dCall 3 (g_are_rows C) (aCons (dVar 1) (aCons (dCB (b1 oLen) (aCons (dFld (C "Grid") "rows" (dVar 0)) (aNil))) (aCons (dCB (b1 oLen) (aCons (d2 oIx (dFld (C "Grid") "rows" (dVar 0)) (dC (.int 0))) (aNil))) (aNil))))))) (sRet (dC (.bl false))) (sNx))
    (sSeq (dFor (dIt oZip (aCons (dFld (C "Grid") "rows" (dVar 0)) (aCons (dVar 1) (aNil)))) (tgT 2 (tgCons (tgN 2) (tgCons (tgN 3) (tgNil)))) (sIf (dNot (dTru (dCB (b1 oAll) (aCons (dLc lcF (dIt oZip (aCons (dVar 2) (aCons (dVar 3) (aNil)))) (tgT 2 (tgCons (tgN 4) (tgCons (tgN 5) (tgNil)))) (ftYes) (dCall 2 (g_fits C) (aCons (dVar 4) (aCons (dVar 5) (aNil)))) [4, 5]) (aNil))))) (sRet (dC (.bl false))) (sNx)))
    (sRet (dC (.bl true))))
noncomputable def g_are_numbers (C : Str → Addr) : Fn := dDef giveS 2 6 (F_are_numbers C)
noncomputable def F_are_values (C : Str → Addr) : FS :=
  sSeq (sIf (dNot (dTru (dCall 2 (g_are_numbers C) (aCons (dVar 0) (aCons (dVar 1) (aNil)))))) (sRet (dC (.bl false))) (sNx))
    (sSeq (dFor (dIt oZip (aCons (dFld (C "Grid") "rows" (dVar 0)) (aCons (dVar 1) (aNil)))) (tgT 2 (tgCons (tgN 2) (tgCons (tgN 3) (tgNil)))) (sIf (dNot (dTru (dCB (b1 oAll) (aCons (dLc lcF (dIt oZip (aCons (dVar 2) (aCons (dVar 3) (aNil)))) (tgT 2 (tgCons (tgN 4) (tgCons (tgN 5) (tgNil)))) (ftYes) (dOrV (d2 oIsN (dVar 4) (dC .non)) (d2 oGt (d2 oIx (dVar 5) (dC (.int 0))) (dC (.int 0)))) [4, 5]) (aNil))))) (sRet (dC (.bl false))) (sNx)))
    (sRet (dC (.bl true))))
noncomputable def g_are_values (C : Str → Addr) : Fn := dDef giveS 2 6 (F_are_values C)
noncomputable def F_raw_renumbered (C : Str → Addr) : FS :=
  sSeq (sSet 4 (dLoc (aNil)))
    (sSeq (dFor (dIt oZip (aCons (dFld (C "Grid") "rows" (dVar 0)) (aCons (dVar 1) (aNil)))) (tgT 2 (tgCons (tgN 5) (tgCons (tgN 6) (tgNil)))) (sSeq (sSet 7 (dLoc (aNil)))
    (sSeq (dFor (dIt oZip (aCons (dVar 5) (aCons (dVar 6) (aNil)))) (tgT 2 (tgCons (tgN 8) (tgCons (tgN 9) (tgNil)))) (sDrop (dApp (dVar 7) (dIf (dB (d2 oIsN (dVar 8) (dC .non))) (dVar 9) (dCall 2 (g_times C) (aCons (dVar 9) (aCons (dCall 3 (g_raw_factor C) (aCons (dVar 8) (aCons (dVar 2) (aCons (dVar 3) (aNil))))) (aNil))))))))
    (sDrop (dApp (dVar 4) (dCB (b1 oTuple) (aCons (dVar 7) (aNil))))))))
    (sRet (dCB (b1 oTuple) (aCons (dVar 4) (aNil)))))
noncomputable def g_raw_renumbered (C : Str → Addr) : Fn := dDef giveS 4 10 (F_raw_renumbered C)
noncomputable def F_renumbered (C : Str → Addr) : FS :=
  sSeq (sIf (dNot (dTru (dCall 2 (g_are_numbers C) (aCons (dVar 0) (aCons (dVar 1) (aNil)))))) (sRaise "NoNumbers") (sNx))
    (sSeq (sDrop (dCall 2 (g_check_roots C) (aCons (dFld (C "Grid") "bases" (dVar 0)) (aCons (dVar 2) (aNil)))))
    (sRet (dCall 4 (g_raw_renumbered C) (aCons (dVar 0) (aCons (dVar 1) (aCons (dVar 2) (aCons (dCall 1 (g_bottom C) (aCons (dVar 0) (aNil))) (aNil))))))))
noncomputable def g_renumbered (C : Str → Addr) : Fn := dDef giveS 3 3 (F_renumbered C)
noncomputable def F__law_is_integer (C : Str → Addr) : FS :=
  sRet (dAndV (dCB (oIsiI [C "Grid"]) (aCons (dVar 0) (aCons (dC (.ty "int")) (aNil)))) (dNotV (dCB (oIsiI [C "Grid"]) (aCons (dVar 0) (aCons (dC (.ty "bool")) (aNil))))))
noncomputable def g__law_is_integer (C : Str → Addr) : Fn := dDef giveS 1 1 (F__law_is_integer C)
noncomputable def F__law_state (C : Str → Addr) : FS :=
  sRet (dLoc (aCons (dCB (b1 oList) (aCons (dVar 0) (aNil))) (aCons (dC (.int 0)) (aCons (dC (.int 0)) (aCons (d2 oAdd (dC (.int 1)) (dVar 1)) (aNil))))))
noncomputable def g__law_state (C : Str → Addr) : Fn := dDef giveM 2 2 (F__law_state C)
noncomputable def F__law_mixed (C : Str → Addr) : FS :=
  sSeq (sSet 0 (d2 oMod (dCB (b1 oInt) (aCons (d2 oAdd (d2 oAdd (d2 oMul (dVar 0) (dC (.int 48271))) (d2 oMul (d2 oMod (dCB (b1 oInt) (aCons (dVar 1) (aNil))) (dC (.int 1000003))) (dC (.int 16807)))) (dC (.int 30103))) (aNil))) (dC (.int 2147483647))))
    (sSeq (sSet 0 (d2 oMod (dCB (b1 oInt) (aCons (d2 oMul (dVar 0) (d2 oAdd (d2 oDiv (dVar 0) (dC (.int 1009))) (dC (.int 69621)))) (aNil))) (dC (.int 2147483629))))
    (sRet (d2 oMod (dCB (b1 oInt) (aCons (d2 oMul (dVar 0) (d2 oAdd (d2 oDiv (dVar 0) (dC (.int 2003))) (dC (.int 40692)))) (aNil))) (dC (.int 2147483399)))))
noncomputable def g__law_mixed (C : Str → Addr) : Fn := dDef giveS 2 2 (F__law_mixed C)
noncomputable def F__law_draw (C : Str → Addr) : FS :=
  sSeq (sIf (dAnd (dB (d2 oEq (d2 oIx (dVar 0) (dC (.int 2))) (dC (.int 0)))) (dB (d2 oLt (d2 oIx (dVar 0) (dC (.int 1))) (dCB (b1 oLen) (aCons (d2 oIx (dVar 0) (dC (.int 0))) (aNil)))))) (sSeq (sSet 2 (d2 oIx (d2 oIx (dVar 0) (dC (.int 0))) (d2 oIx (dVar 0) (dC (.int 1)))))
    (sSeq (sAsg (d2 oAdd (d2 oIx (dVar 0) (dC (.int 1))) (dC (.int 1))) (tgIx (dVar 0) (dC (.int 1))))
    (sIf (dB (d2 oGe (dVar 2) (d2 oPow (dC (.int 10)) (dC (.int 18))))) (sAsg (dVar 2) (tgIx (dVar 0) (dC (.int 2)))) (sAsg (dCall 2 (g__law_mixed C) (aCons (d2 oIx (dVar 0) (dC (.int 3))) (aCons (dVar 2) (aNil)))) (tgIx (dVar 0) (dC (.int 3))))))) (sNx))
    (sSeq (sIf (dB (d2 oGt (d2 oIx (dVar 0) (dC (.int 2))) (dC (.int 0)))) (sSeq (sSet 3 (d2 oMod (dCB (b1 oInt) (aCons (d2 oIx (dVar 0) (dC (.int 2))) (aNil))) (dVar 1)))
    (sSeq (sAsg (d2 oDiv (d2 oIx (dVar 0) (dC (.int 2))) (dVar 1)) (tgIx (dVar 0) (dC (.int 2))))
    (sRet (dVar 3)))) (sNx))
    (sSeq (sAsg (dCall 2 (g__law_mixed C) (aCons (d2 oIx (dVar 0) (dC (.int 3))) (aCons (d2 oIx (dVar 0) (dC (.int 1))) (aNil)))) (tgIx (dVar 0) (dC (.int 3))))
    (sRet (d2 oMod (d2 oDiv (dCB (b1 oInt) (aCons (d2 oIx (dVar 0) (dC (.int 3))) (aNil))) (dC (.int 16))) (dVar 1)))))
noncomputable def g__law_draw (C : Str → Addr) : Fn := dDef giveS 2 4 (F__law_draw C)
noncomputable def F__law_low (C : Str → Addr) : FS :=
  sSeq (sSet 2 (dCB (b1 oAbs) (aCons (dVar 0) (aNil))))
    (sSeq (sSet 3 (dCB (b1 oAbs) (aCons (dVar 1) (aNil))))
    (sSeq (dWhile (dB (d2 oGt (dVar 3) (dC (.int 0)))) (sSeq (sSet 4 (d2 oMod (dCB (b1 oInt) (aCons (dVar 2) (aNil))) (dVar 3)))
    (sSeq (sSet 2 (dVar 3))
    (sSet 3 (dVar 4)))))
    (sSeq (sIf (dB (d2 oLt (dVar 1) (dC (.int 0)))) (sSet 2 (d1 oNeg (dVar 2))) (sNx))
    (sRet (dTup (aCons (d2 oDiv (dVar 0) (dVar 2)) (aCons (d2 oDiv (dVar 1) (dVar 2)) (aNil))))))))
noncomputable def g__law_low (C : Str → Addr) : Fn := dDef giveS 2 5 (F__law_low C)
noncomputable def F__law_exponent (C : Str → Addr) : FS :=
  sSeq (sSet 1 (d2 oAdd (dC (.int 1)) (dCall 2 (g__law_draw C) (aCons (dVar 0) (aCons (dC (.int 4)) (aNil))))))
    (sRet (dCall 2 (g__law_low C) (aCons (d2 oSub (dCall 2 (g__law_draw C) (aCons (dVar 0) (aCons (dC (.int 13)) (aNil)))) (dC (.int 6))) (aCons (dVar 1) (aNil)))))
noncomputable def g__law_exponent (C : Str → Addr) : Fn := dDef giveS 1 2 (F__law_exponent C)
noncomputable def F__law_unit (C : Str → Addr) : FS :=
  sRet (dCB (b1 oTuple) (aCons (dLc lcF (dIt oRng1 (aCons (dVar 1) (aNil))) (tgN 2) (ftYes) (dCall 1 (g__law_exponent C) (aCons (dVar 0) (aNil))) [2]) (aNil)))
noncomputable def g__law_unit (C : Str → Addr) : Fn := dDef giveS 2 3 (F__law_unit C)
noncomputable def F__law_cell (C : Str → Addr) : FS :=
  sSeq (sIf (dB (d2 oEq (dCall 2 (g__law_draw C) (aCons (dVar 0) (aCons (dVar 2) (aNil)))) (dC (.int 0)))) (sRet (dC .non)) (sNx))
    (sRet (dCall 2 (g__law_unit C) (aCons (dVar 0) (aCons (dVar 1) (aNil)))))
noncomputable def g__law_cell (C : Str → Addr) : Fn := dDef giveS 3 3 (F__law_cell C)
noncomputable def F__law_with (C : Str → Addr) : FS :=
  sSeq (sSet 4 (d2 oCat (d2 oCat (dSl oSlA (d2 oIx (dVar 0) (dVar 1)) (dNoPt) (dPt (dVar 2))) (dTup (aCons (dVar 3) (aNil)))) (dSl oSlA (d2 oIx (dVar 0) (dVar 1)) (dPt (d2 oAdd (dVar 2) (dC (.int 1)))) (dNoPt))))
    (sRet (d2 oCat (d2 oCat (dSl oSlA (dVar 0) (dNoPt) (dPt (dVar 1))) (dTup (aCons (dVar 4) (aNil)))) (dSl oSlA (dVar 0) (dPt (d2 oAdd (dVar 1) (dC (.int 1)))) (dNoPt))))
noncomputable def g__law_with (C : Str → Addr) : Fn := dDef giveS 4 5 (F__law_with C)
noncomputable def F__law_is_fraction (C : Str → Addr) : FS :=
  sSeq (sIf (dOr (dNot (dTru (dCB (oIsiI [C "Grid"]) (aCons (dVar 0) (aCons (dC (.ty "tuple")) (aNil)))))) (dB (d2 oNe (dCB (b1 oLen) (aCons (dVar 0) (aNil))) (dC (.int 2))))) (sRet (dC (.bl false))) (sNx))
    (sSeq (sIf (dOr (dNot (dTru (dCall 1 (g__law_is_integer C) (aCons (d2 oIx (dVar 0) (dC (.int 0))) (aNil))))) (dOr (dNot (dTru (dCall 1 (g__law_is_integer C) (aCons (d2 oIx (dVar 0) (dC (.int 1))) (aNil))))) (dB (d2 oLt (d2 oIx (dVar 0) (dC (.int 1))) (dC (.int 1)))))) (sRet (dC (.bl false))) (sNx))
    (sRet (d2 oEq (dCall 2 (g__law_low C) (aCons (d2 oIx (dVar 0) (dC (.int 0))) (aCons (d2 oIx (dVar 0) (dC (.int 1))) (aNil)))) (dVar 0))))
noncomputable def g__law_is_fraction (C : Str → Addr) : Fn := dDef giveS 1 1 (F__law_is_fraction C)
noncomputable def F__law_is_unit (C : Str → Addr) : FS :=
  sSeq (sIf (dOr (dNot (dTru (dCB (oIsiI [C "Grid"]) (aCons (dVar 1) (aCons (dC (.ty "tuple")) (aNil)))))) (dB (d2 oNe (dCB (b1 oLen) (aCons (dVar 1) (aNil))) (dVar 0)))) (sRet (dC (.bl false))) (sNx))
    (sRet (dCB (b1 oAll) (aCons (dLc lcF (dSeq (dVar 1)) (tgN 2) (ftYes) (dCall 1 (g__law_is_fraction C) (aCons (dVar 2) (aNil))) [2]) (aNil))))
noncomputable def g__law_is_unit (C : Str → Addr) : Fn := dDef giveS 2 3 (F__law_is_unit C)
noncomputable def F__law_is_cell (C : Str → Addr) : FS :=
  sSeq (sIf (dB (d2 oIsN (dVar 1) (dC .non))) (sRet (dC (.bl true))) (sNx))
    (sSeq (sIf (dNot (dTru (dCall 2 (g__law_is_unit C) (aCons (dVar 0) (aCons (dVar 1) (aNil)))))) (sRet (dC (.bl false))) (sNx))
    (sRet (dCB (b1 oAll) (aCons (dLc lcF (dSeq (dVar 1)) (tgN 2) (ftYes) (dAndV (d2 oLe (dCB (b1 oAbs) (aCons (d2 oIx (dVar 2) (dC (.int 0))) (aNil))) (dC (.int 6))) (d2 oLe (d2 oIx (dVar 2) (dC (.int 1))) (dC (.int 4)))) [2]) (aNil)))))
noncomputable def g__law_is_cell (C : Str → Addr) : Fn := dDef giveS 2 3 (F__law_is_cell C)
noncomputable def F__law_are_numbers (C : Str → Addr) : FS :=
  sSeq (sIf (dOr (dNot (dTru (dCB (oIsiI [C "Grid"]) (aCons (dVar 1) (aCons (dC (.ty "tuple")) (aNil)))))) (dB (d2 oNe (dCB (b1 oLen) (aCons (dVar 1) (aNil))) (dCB (b1 oLen) (aCons (dVar 0) (aNil)))))) (sRet (dC (.bl false))) (sNx))
    (sSeq (dFor (dIt oRng1 (aCons (dCB (b1 oLen) (aCons (dVar 0) (aNil))) (aNil))) (tgN 2) (sSeq (sIf (dOr (dNot (dTru (dCB (oIsiI [C "Grid"]) (aCons (d2 oIx (dVar 1) (dVar 2)) (aCons (dC (.ty "tuple")) (aNil)))))) (dB (d2 oNe (dCB (b1 oLen) (aCons (d2 oIx (dVar 1) (dVar 2)) (aNil))) (dCB (b1 oLen) (aCons (d2 oIx (dVar 0) (dVar 2)) (aNil)))))) (sRet (dC (.bl false))) (sNx))
    (dFor (dIt oRng1 (aCons (dCB (b1 oLen) (aCons (d2 oIx (dVar 0) (dVar 2)) (aNil))) (aNil))) (tgN 3) (sIf (dOr (dNot (dTru (dCall 1 (g__law_is_fraction C) (aCons (d2 oIx (d2 oIx (dVar 1) (dVar 2)) (dVar 3)) (aNil))))) (dAnd (dB (d2 oIsN (d2 oIx (d2 oIx (dVar 0) (dVar 2)) (dVar 3)) (dC .non))) (dB (d2 oNe (d2 oIx (d2 oIx (dVar 1) (dVar 2)) (dVar 3)) (dTup (aCons (dC (.int 0)) (aCons (dC (.int 1)) (aNil)))))))) (sRet (dC (.bl false))) (sNx)))))
    (sRet (dC (.bl true))))
noncomputable def g__law_are_numbers (C : Str → Addr) : Fn := dDef giveS 2 4 (F__law_are_numbers C)
noncomputable def F__law_odd (C : Str → Addr) : FS :=
  sSeq (sSet 1 (dTup (aCons (dC (.int 0)) (aCons (dC (.int 1)) (aNil)))))
    (sSeq (dFor (dIt oRng1 (aCons (dC (.int 36)) (aNil))) (tgN 2) (sSet 1 (dTup (aCons (dVar 1) (aNil)))))
    (sSeq (sSet 3 (dLoc (aCons (dC .non) (aCons (dC (.bl true)) (aCons (dC (.bl false)) (aCons (dC (.int 0)) (aCons (d1 oNeg (dC (.int 1))) (aCons (d2 oPow (dC (.int 10)) (dC (.int 39))) (aCons (dC (.str "")) (aCons (dC (.str "1")) (aCons (dC (.str "star")) (aCons (dTup (aNil)) (aCons (dLst (aNil)) (aCons (dDct [] []) (aCons (dTup (aCons (dC (.int 1)) (aNil))) (aCons (dLst (aCons (dC (.int 1)) (aNil))) (aCons (dDct [.inl 0] [.int 1]) (aCons (dTup (aCons (dC (.int 0)) (aCons (dC (.int 1)) (aNil)))) (aCons (dLst (aCons (dTup (aCons (dC (.int 0)) (aCons (dC (.int 1)) (aNil)))) (aNil))) (aNil))))))))))))))))))))
    (sSeq (sSet 4 (dLoc (aCons (dTup (aCons (dTup (aCons (dC (.int 0)) (aCons (dC (.int 1)) (aNil)))) (aNil))) (aCons (dTup (aCons (dTup (aCons (dC (.int 0)) (aCons (dC (.int 1)) (aNil)))) (aCons (dTup (aCons (dC (.int 0)) (aCons (dC (.int 1)) (aNil)))) (aNil)))) (aCons (dTup (aCons (dTup (aCons (dC (.int 1)) (aCons (dC (.int 1)) (aNil)))) (aCons (dC .non) (aNil)))) (aCons (dTup (aCons (dTup (aCons (dC (.int 2)) (aCons (dC (.int 2)) (aNil)))) (aNil))) (aCons (dTup (aCons (dTup (aCons (dC (.int 1)) (aCons (dC (.int 0)) (aNil)))) (aNil))) (aCons (dTup (aCons (dTup (aCons (dC (.int 1)) (aCons (d1 oNeg (dC (.int 1))) (aNil)))) (aNil))) (aCons (dTup (aCons (dTup (aCons (dC (.bl true)) (aCons (dC (.int 1)) (aNil)))) (aNil))) (aCons (dVar 1) (aNil)))))))))))
    (sSeq (sSet 5 (dLoc (aCons (dLst (aCons (dVar 1) (aNil))) (aCons (dMake (C "Grid") 3 (g_Grid__init__ C) (aCons (dC (.int 1)) (aCons (dTup (aCons (dTup (aCons (dC .non) (aNil))) (aNil))) (aNil)))) (aCons (dTup (aCons (dMake (C "Grid") 3 (g_Grid__init__ C) (aCons (dC (.int 2)) (aCons (dTup (aCons (dTup (aCons (dC .non) (aNil))) (aNil))) (aNil)))) (aNil))) (aCons (dTup (aCons (dTup (aCons (dC (.int 0)) (aCons (dC (.int 1)) (aNil)))) (aCons (dLst (aCons (dC (.int 0)) (aCons (dC (.int 1)) (aNil)))) (aNil)))) (aCons (d2 oRepA (dTup (aCons (dTup (aCons (dC (.int 0)) (aCons (dC (.int 1)) (aNil)))) (aNil))) (dC (.int 4))) (aCons (dTup (aCons (dC (.str "1")) (aCons (dC (.str "1")) (aNil)))) (aCons (dTup (aCons (dC (.int 1)) (aCons (dC (.int 2)) (aNil)))) (aNil))))))))))
    (sSeq (sSet 6 (d2 oCatL (d2 oCatL (dVar 3) (dVar 4)) (dVar 5)))
    (sRet (d2 oIx (dVar 6) (dCall 2 (g__law_draw C) (aCons (dVar 0) (aCons (dCB (b1 oLen) (aCons (dVar 6) (aNil))) (aNil)))))))))))
noncomputable def g__law_odd (C : Str → Addr) : Fn := dDef giveS 1 7 (F__law_odd C)
noncomputable def F__law_place (C : Str → Addr) : FS :=
  sSeq (sSet 2 (dCall 2 (g__law_draw C) (aCons (dVar 0) (aCons (dC (.int 8)) (aNil)))))
    (sSeq (sIf (dB (d2 oEq (dVar 2) (dC (.int 0)))) (sRet (dCall 1 (g__law_odd C) (aCons (dVar 0) (aNil)))) (sNx))
    (sSeq (sIf (dB (d2 oEq (dVar 2) (dC (.int 1)))) (sRet (d2 oIx (dLst (aCons (d1 oNeg (dC (.int 1))) (aCons (dVar 1) (aCons (d2 oAdd (dVar 1) (dC (.int 1))) (aCons (d2 oPow (dC (.int 10)) (dC (.int 39))) (aNil)))))) (dCall 2 (g__law_draw C) (aCons (dVar 0) (aCons (dC (.int 4)) (aNil)))))) (sNx))
    (sRet (dCall 2 (g__law_draw C) (aCons (dVar 0) (aCons (dVar 1) (aNil)))))))
noncomputable def g__law_place (C : Str → Addr) : Fn := dDef giveS 2 3 (F__law_place C)
noncomputable def F__law_is_place (C : Str → Addr) : FS :=
  sRet (dAndV (dCall 1 (g__law_is_integer C) (aCons (dVar 0) (aNil))) (dChain oLe oLt (dC (.int 0)) (dVar 0) (dVar 1)))
noncomputable def g__law_is_place (C : Str → Addr) : Fn := dDef giveS 2 2 (F__law_is_place C)
noncomputable def F__law_item (C : Str → Addr) : FS :=
  sSeq (sSet 1 (dCall 2 (g__law_draw C) (aCons (dVar 0) (aCons (dC (.int 6)) (aNil)))))
    (sSeq (sIf (dB (d2 oEq (dVar 1) (dC (.int 0)))) (sRet (dCall 1 (g__law_odd C) (aCons (dVar 0) (aNil)))) (sNx))
    (sSeq (sSet 2 (d2 oAdd (dC (.int 1)) (dCall 2 (g__law_draw C) (aCons (dVar 0) (aCons (dC (.int 9)) (aNil))))))
    (sRet (d2 oIx (dLst (aCons (dTup (aCons (d1 oNeg (dVar 2)) (aCons (dC (.int 1)) (aNil)))) (aCons (dTup (aCons (d2 oMul (dC (.int 2)) (dVar 2)) (aCons (dC (.int 2)) (aNil)))) (aCons (dTup (aCons (dC (.int 0)) (aCons (dC (.int 1)) (aNil)))) (aCons (dTup (aCons (dVar 2) (aCons (dC (.int 1)) (aNil)))) (aCons (dLst (aCons (dVar 2) (aCons (dC (.int 1)) (aNil)))) (aNil))))))) (d2 oSub (dVar 1) (dC (.int 1)))))))
noncomputable def g__law_item (C : Str → Addr) : Fn := dDef giveS 1 3 (F__law_item C)
noncomputable def F__law_numbers (C : Str → Addr) : FS :=
  sSeq (sSet 2 (dCB (b1 oTuple) (aCons (dLc lcF (dSeq (dVar 1)) (tgN 6) (ftYes) (dCB (b1 oTuple) (aCons (dLc lcF (dSeq (dVar 6)) (tgN 7) (ftYes) (dIf (dB (d2 oIsN (dVar 7) (dC .non))) (dTup (aCons (dC (.int 0)) (aCons (dC (.int 1)) (aNil)))) (dTup (aCons (d2 oAdd (dC (.int 1)) (dCall 2 (g__law_draw C) (aCons (dVar 0) (aCons (dC (.int 9)) (aNil))))) (aCons (dC (.int 1)) (aNil))))) [7]) (aNil))) [6]) (aNil))))
    (sSeq (dFor (dIt oRng1 (aCons (dCall 2 (g__law_draw C) (aCons (dVar 0) (aCons (dC (.int 3)) (aNil)))) (aNil))) (tgN 3) (sSeq (sSet 5 (dCall 2 (g__law_draw C) (aCons (dVar 0) (aCons (dCB (b1 oLen) (aCons (dVar 1) (aNil))) (aNil)))))
    (sSet 2 (dCall 4 (g__law_with C) (aCons (dVar 2) (aCons (dVar 5) (aCons (dCall 2 (g__law_draw C) (aCons (dVar 0) (aCons (dCB (b1 oLen) (aCons (d2 oIx (dVar 1) (dVar 5)) (aNil))) (aNil)))) (aCons (dCall 1 (g__law_item C) (aCons (dVar 0) (aNil))) (aNil)))))))))
    (sSeq (sSet 4 (dCall 2 (g__law_draw C) (aCons (dVar 0) (aCons (dC (.int 10)) (aNil)))))
    (sSeq (sIf (dB (d2 oEq (dVar 4) (dC (.int 0)))) (sRet (dCall 1 (g__law_odd C) (aCons (dVar 0) (aNil)))) (sNx))
    (sSeq (sIf (dB (d2 oEq (dVar 4) (dC (.int 1)))) (sRet (dCB (b1 oList) (aCons (dVar 2) (aNil)))) (sNx))
    (sSeq (sIf (dB (d2 oEq (dVar 4) (dC (.int 2)))) (sRet (dSl oSlA (dVar 2) (dPt (dC (.int 1))) (dNoPt))) (sNx))
    (sSeq (sIf (dB (d2 oEq (dVar 4) (dC (.int 3)))) (sRet (d2 oCat (dSl oSlA (dVar 2) (dNoPt) (dPt (d1 oNeg (dC (.int 1))))) (dTup (aCons (dCB (b1 oList) (aCons (d2 oIx (dVar 2) (d1 oNeg (dC (.int 1)))) (aNil))) (aNil))))) (sNx))
    (sSeq (sIf (dB (d2 oEq (dVar 4) (dC (.int 4)))) (sRet (d2 oCat (dSl oSlA (dVar 2) (dNoPt) (dPt (d1 oNeg (dC (.int 1))))) (dTup (aCons (dSl oSlA (d2 oIx (dVar 2) (d1 oNeg (dC (.int 1)))) (dNoPt) (dPt (d1 oNeg (dC (.int 1))))) (aNil))))) (sNx))
    (sRet (dVar 2)))))))))
noncomputable def g__law_numbers (C : Str → Addr) : Fn := dDef giveS 2 8 (F__law_numbers C)
noncomputable def F__law_some_roots (C : Str → Addr) : FS :=
  sSeq (sSet 2 (dCB (b1 oTuple) (aCons (dLc lcF (dIt oRng1 (aCons (dVar 1) (aNil))) (tgN 5) (ftYes) (dTup (aCons (d2 oAdd (dC (.int 1)) (dCall 2 (g__law_draw C) (aCons (dVar 0) (aCons (dC (.int 9)) (aNil))))) (aCons (dC (.int 1)) (aNil)))) [5]) (aNil))))
    (sSeq (sSet 3 (dCall 2 (g__law_draw C) (aCons (dVar 0) (aCons (dC (.int 6)) (aNil)))))
    (sSeq (sIf (dB (d2 oEq (dVar 3) (dC (.int 0)))) (sRet (dCall 1 (g__law_odd C) (aCons (dVar 0) (aNil)))) (sNx))
    (sSeq (sIf (dB (d2 oEq (dVar 3) (dC (.int 1)))) (sSeq (sSet 4 (dCall 2 (g__law_draw C) (aCons (dVar 0) (aCons (dVar 1) (aNil)))))
    (sRet (d2 oCat (d2 oCat (dSl oSlA (dVar 2) (dNoPt) (dPt (dVar 4))) (dTup (aCons (dCall 1 (g__law_item C) (aCons (dVar 0) (aNil))) (aNil)))) (dSl oSlA (dVar 2) (dPt (d2 oAdd (dVar 4) (dC (.int 1)))) (dNoPt))))) (sNx))
    (sSeq (sIf (dB (d2 oEq (dVar 3) (dC (.int 2)))) (sRet (d2 oCat (dVar 2) (dTup (aCons (dTup (aCons (dC (.int 1)) (aCons (dC (.int 1)) (aNil)))) (aNil))))) (sNx))
    (sRet (dVar 2))))))
noncomputable def g__law_some_roots (C : Str → Addr) : Fn := dDef giveS 2 6 (F__law_some_roots C)
noncomputable def F__law_are_values (C : Str → Addr) : FS :=
  sSeq (sIf (dNot (dTru (dCall 2 (g__law_are_numbers C) (aCons (dVar 0) (aCons (dVar 1) (aNil)))))) (sRet (dC (.bl false))) (sNx))
    (sSeq (dFor (dIt oRng1 (aCons (dCB (b1 oLen) (aCons (dVar 0) (aNil))) (aNil))) (tgN 2) (dFor (dIt oRng1 (aCons (dCB (b1 oLen) (aCons (d2 oIx (dVar 0) (dVar 2)) (aNil))) (aNil))) (tgN 3) (sIf (dAnd (dB (d2 oNotN (d2 oIx (d2 oIx (dVar 0) (dVar 2)) (dVar 3)) (dC .non))) (dB (d2 oLe (d2 oIx (d2 oIx (d2 oIx (dVar 1) (dVar 2)) (dVar 3)) (dC (.int 0))) (dC (.int 0))))) (sRet (dC (.bl false))) (sNx))))
    (sRet (dC (.bl true))))
noncomputable def g__law_are_values (C : Str → Addr) : Fn := dDef giveS 2 4 (F__law_are_values C)
noncomputable def F__law_called (C : Str → Addr) : FS :=
  sSeq (sIf (dB (d2 oEq (dVar 0) (dC (.int 0)))) (sRet (dCall 3 (g_cell C) (aCons (dVar 1) (aCons (dVar 2) (aCons (dVar 3) (aNil)))))) (sNx))
    (sSeq (sIf (dB (d2 oEq (dVar 0) (dC (.int 1)))) (sRet (dCall 4 (g_retold C) (aCons (dVar 1) (aCons (dVar 2) (aCons (dVar 3) (aCons (dVar 4) (aNil))))))) (sNx))
    (sRet (dCall 3 (g_renumbered C) (aCons (dVar 1) (aCons (dVar 2) (aCons (dVar 3) (aNil)))))))
noncomputable def g__law_called (C : Str → Addr) : Fn := dDef giveS 5 5 (F__law_called C)
noncomputable def F__law_found (C : Str → Addr) : FS :=
  sSeq (sSet 5 (dC (.str "none")))
    (sSeq (sTry excs subE (sDrop (dCall 5 (g__law_called C) (aCons (dVar 0) (aCons (dVar 1) (aCons (dVar 2) (aCons (dVar 3) (aCons (dVar 4) (aNil)))))))) [("NoCell", sSet 5 (dC (.str "cell"))), ("NoUnit", sSet 5 (dC (.str "unit"))), ("NoNumbers", sSet 5 (dC (.str "numbers"))), ("NoRoots", sSet 5 (dC (.str "roots"))), ("GridError", sSet 5 (dC (.str "other")))])
    (sRet (dVar 5)))
noncomputable def g__law_found (C : Str → Addr) : Fn := dDef giveS 5 6 (F__law_found C)
noncomputable def F__law_thing (C : Str → Addr) : FS :=
  sSeq (sSet 2 (dCall 2 (g__law_draw C) (aCons (dVar 0) (aCons (dC (.int 5)) (aNil)))))
    (sSeq (sIf (dB (d2 oEq (dVar 2) (dC (.int 0)))) (sRet (dCall 1 (g__law_odd C) (aCons (dVar 0) (aNil)))) (sNx))
    (sSeq (sIf (dB (d2 oEq (dVar 2) (dC (.int 1)))) (sRet (dCall 2 (g__law_unit C) (aCons (dVar 0) (aCons (d2 oAdd (dC (.int 1)) (dCall 2 (g__law_draw C) (aCons (dVar 0) (aCons (dC (.int 3)) (aNil))))) (aNil))))) (sNx))
    (sSeq (sSet 3 (d2 oIx (dLst (aCons (dTup (aCons (dC (.int 7)) (aCons (dC (.int 1)) (aNil)))) (aCons (dTup (aCons (dC (.int 6)) (aCons (dC (.int 1)) (aNil)))) (aCons (dTup (aCons (d1 oNeg (dC (.int 6))) (aCons (dC (.int 1)) (aNil)))) (aCons (dTup (aCons (d1 oNeg (dC (.int 7))) (aCons (dC (.int 1)) (aNil)))) (aCons (dTup (aCons (dC (.int 1)) (aCons (dC (.int 4)) (aNil)))) (aCons (dTup (aCons (dC (.int 1)) (aCons (dC (.int 5)) (aNil)))) (aCons (dTup (aCons (d1 oNeg (dC (.int 5))) (aCons (dC (.int 4)) (aNil)))) (aCons (dTup (aCons (dC (.int 2)) (aCons (dC (.int 4)) (aNil)))) (aNil)))))))))) (dCall 2 (g__law_draw C) (aCons (dVar 0) (aCons (dC (.int 8)) (aNil))))))
    (sSeq (sSet 4 (dCall 2 (g__law_unit C) (aCons (dVar 0) (aCons (dVar 1) (aNil)))))
    (sRet (dIf (dB (d2 oEq (dVar 2) (dC (.int 2)))) (d2 oCat (dSl oSlA (dVar 4) (dNoPt) (dPt (d1 oNeg (dC (.int 1))))) (dTup (aCons (dVar 3) (aNil)))) (dVar 4)))))))
noncomputable def g__law_thing (C : Str → Addr) : Fn := dDef giveS 2 5 (F__law_thing C)
noncomputable def F__law_rows (C : Str → Addr) : FS :=
  sRet (dCB (b1 oTuple) (aCons (dLc lcF (dIt oRng1 (aCons (dVar 2) (aNil))) (tgN 5) (ftYes) (dCB (b1 oTuple) (aCons (dLc lcF (dIt oRng1 (aCons (dVar 3) (aNil))) (tgN 6) (ftYes) (dCall 3 (g__law_cell C) (aCons (dVar 0) (aCons (dVar 1) (aCons (dVar 4) (aNil))))) [6]) (aNil))) [5]) (aNil)))
noncomputable def g__law_rows (C : Str → Addr) : Fn := dDef giveS 5 7 (F__law_rows C)
noncomputable def F_law (C : Str → Addr) : FS :=
  sSeq (sSet 1 (dCall 2 (g__law_state C) (aCons (dVar 0) (aCons (dC (.int 7)) (aNil)))))
    (sSeq (sSet 2 (d2 oAdd (dC (.int 1)) (dCall 2 (g__law_draw C) (aCons (dVar 1) (aCons (dC (.int 3)) (aNil))))))
    (sSeq (sSet 3 (d2 oAdd (dC (.int 1)) (dCall 2 (g__law_draw C) (aCons (dVar 1) (aCons (dC (.int 4)) (aNil))))))
    (sSeq (sSet 4 (d2 oAdd (dC (.int 1)) (dCall 2 (g__law_draw C) (aCons (dVar 1) (aCons (dC (.int 4)) (aNil))))))
    (sSeq (sSet 5 (dCall 5 (g__law_rows C) (aCons (dVar 1) (aCons (dVar 2) (aCons (dVar 3) (aCons (dVar 4) (aCons (dC (.int 2)) (aNil))))))))
    (sSeq (sSet 6 (dMake (C "Grid") 3 (g_Grid__init__ C) (aCons (dVar 2) (aCons (dVar 5) (aNil)))))
    (sSeq (dFor (dIt oRng1 (aCons (dC (.int 3)) (aNil))) (tgN 7) (sSeq (sSet 8 (dCall 2 (g__law_place C) (aCons (dVar 1) (aCons (dVar 3) (aNil)))))
    (sSeq (sSet 9 (dCall 2 (g__law_place C) (aCons (dVar 1) (aCons (dVar 4) (aNil)))))
    (sSeq (sSet 10 (dCall 2 (g__law_thing C) (aCons (dVar 1) (aCons (dVar 2) (aNil)))))
    (sSeq (sSet 11 (dIf (dAnd (dTru (dCall 2 (g__law_is_place C) (aCons (dVar 8) (aCons (dVar 3) (aNil))))) (dTru (dCall 2 (g__law_is_place C) (aCons (dVar 9) (aCons (dVar 4) (aNil)))))) (dC (.str "none")) (dC (.str "cell"))))
    (sSeq (sIf (dB (d2 oNe (dCall 5 (g__law_found C) (aCons (dC (.int 0)) (aCons (dVar 6) (aCons (dVar 8) (aCons (dVar 9) (aCons (dC .non) (aNil))))))) (dVar 11))) (sRet (dC (.bl false))) (sNx))
    (sSeq (sIf (dAnd (dB (d2 oEq (dVar 11) (dC (.str "none")))) (dNot (dTru (dCall 2 (g__law_is_cell C) (aCons (dVar 2) (aCons (dVar 10) (aNil))))))) (sSet 11 (dC (.str "unit"))) (sNx))
    (sSeq (sIf (dB (d2 oNe (dCall 5 (g__law_found C) (aCons (dC (.int 1)) (aCons (dVar 6) (aCons (dVar 8) (aCons (dVar 9) (aCons (dVar 10) (aNil))))))) (dVar 11))) (sRet (dC (.bl false))) (sNx))
    (sSeq (sSet 12 (dCall 2 (g__law_numbers C) (aCons (dVar 1) (aCons (dVar 5) (aNil)))))
    (sSeq (sSet 13 (dCall 2 (g__law_some_roots C) (aCons (dVar 1) (aCons (dVar 2) (aNil)))))
    (sSeq (sSet 14 (dLst (aCons (dCall 2 (g_are_numbers C) (aCons (dVar 6) (aCons (dVar 12) (aNil)))) (aCons (dCall 2 (g_are_values C) (aCons (dVar 6) (aCons (dVar 12) (aNil)))) (aNil)))))
    (sSeq (sIf (dOr (dB (d2 oNe (dVar 14) (dLst (aCons (dCall 2 (g__law_are_numbers C) (aCons (dVar 5) (aCons (dVar 12) (aNil)))) (aCons (dCall 2 (g__law_are_values C) (aCons (dVar 5) (aCons (dVar 12) (aNil)))) (aNil)))))) (dNot (dTru (dCB (oIsiI [C "Grid"]) (aCons (d2 oIx (dVar 14) (dC (.int 1))) (aCons (dC (.ty "bool")) (aNil))))))) (sRet (dC (.bl false))) (sNx))
    (sSeq (sIf (dNot (dTru (dCB (oIsiI [C "Grid"]) (aCons (d2 oIx (dVar 14) (dC (.int 0))) (aCons (dC (.ty "bool")) (aNil)))))) (sRet (dC (.bl false))) (sNx))
    (sSeq (sSet 11 (dIf (dAnd (dTru (dCall 2 (g__law_is_unit C) (aCons (dVar 2) (aCons (dVar 13) (aNil))))) (dTru (dCB (b1 oAll) (aCons (dLc lcF (dSeq (dVar 13)) (tgN 15) (ftYes) (d2 oGt (d2 oIx (dVar 15) (dC (.int 0))) (dC (.int 0))) [15]) (aNil))))) (dC (.str "none")) (dC (.str "roots"))))
    (sSeq (sIf (dNot (dTru (d2 oIx (dVar 14) (dC (.int 0))))) (sSet 11 (dC (.str "numbers"))) (sNx))
    (sIf (dB (d2 oNe (dCall 5 (g__law_found C) (aCons (dC (.int 2)) (aCons (dVar 6) (aCons (dVar 12) (aCons (dVar 13) (aCons (dC .non) (aNil))))))) (dVar 11))) (sRet (dC (.bl false))) (sNx)))))))))))))))))
    (sRet (dAndV (d2 oEq (dFld (C "Grid") "rows" (dVar 6)) (dVar 5)) (d2 oEq (dFld (C "Grid") "bases" (dVar 6)) (dVar 2))))))))))
noncomputable def g_law (C : Str → Addr) : Fn := dDef giveS 1 16 (F_law C)
theorem q_is_integer (C : Str → Addr) (S : Store) (a0 : W) : g_is_integer C [a0] S = dEnd giveS S (F_is_integer C [some a0] S) := dDef_eq rfl
theorem q_is_within (C : Str → Addr) (S : Store) (a0 a1 a2 : W) : g_is_within C [a0, a1, a2] S = dEnd giveS S (F_is_within C [some a0, some a1, some a2] S) := dDef_eq rfl
theorem q_divisor (C : Str → Addr) (S : Store) (a0 a1 : W) : g_divisor C [a0, a1] S = dEnd giveS S (F_divisor C [some a0, some a1] S) := dDef_eq rfl
theorem q_multiple (C : Str → Addr) (S : Store) (a0 a1 : W) : g_multiple C [a0, a1] S = dEnd giveS S (F_multiple C [some a0, some a1] S) := dDef_eq rfl
theorem q_lowest (C : Str → Addr) (S : Store) (a0 a1 : W) : g_lowest C [a0, a1] S = dEnd giveS S (F_lowest C [some a0, some a1, none] S) := dDef_eq rfl
theorem q_is_fraction (C : Str → Addr) (S : Store) (a0 : W) : g_is_fraction C [a0] S = dEnd giveS S (F_is_fraction C [some a0] S) := dDef_eq rfl
theorem q_is_above (C : Str → Addr) (S : Store) (a0 : W) : g_is_above C [a0] S = dEnd giveS S (F_is_above C [some a0] S) := dDef_eq rfl
theorem q_times (C : Str → Addr) (S : Store) (a0 a1 : W) : g_times C [a0, a1] S = dEnd giveS S (F_times C [some a0, some a1] S) := dDef_eq rfl
theorem q_raised (C : Str → Addr) (S : Store) (a0 a1 : W) : g_raised C [a0, a1] S = dEnd giveS S (F_raised C [some a0, some a1, none, none, none] S) := dDef_eq rfl
theorem q_is_unit_of (C : Str → Addr) (S : Store) (a0 a1 : W) : g_is_unit_of C [a0, a1] S = dEnd giveS S (F_is_unit_of C [some a0, some a1, none] S) := dDef_eq rfl
theorem q_are_rows (C : Str → Addr) (S : Store) (a0 a1 a2 : W) : g_are_rows C [a0, a1, a2] S = dEnd giveS S (F_are_rows C [some a0, some a1, some a2, none] S) := dDef_eq rfl
theorem q_check_roots (C : Str → Addr) (S : Store) (a0 a1 : W) : g_check_roots C [a0, a1] S = dEnd giveS S (F_check_roots C [some a0, some a1, none] S) := dDef_eq rfl
theorem q_raw_factor (C : Str → Addr) (S : Store) (a0 a1 a2 : W) : g_raw_factor C [a0, a1, a2] S = dEnd giveS S (F_raw_factor C [some a0, some a1, some a2, none, none, none, none] S) := dDef_eq rfl
theorem q_is_part (C : Str → Addr) (S : Store) (a0 : W) : g_is_part C [a0] S = dEnd giveS S (F_is_part C [some a0] S) := dDef_eq rfl
theorem q_is_cell (C : Str → Addr) (S : Store) (a0 a1 : W) : g_is_cell C [a0, a1] S = dEnd giveS S (F_is_cell C [some a0, some a1, none, none] S) := dDef_eq rfl
theorem q_check_rows (C : Str → Addr) (S : Store) (a0 a1 : W) : g_check_rows C [a0, a1] S = dEnd giveS S (F_check_rows C [some a0, some a1, none, none, none, none] S) := dDef_eq rfl
theorem q_Grid__init__ (C : Str → Addr) (S : Store) (a0 a1 a2 : W) : g_Grid__init__ C [a0, a1, a2] S = dEnd giveS S (F_Grid__init__ C [some a0, some a1, some a2] S) := dDef_eq rfl
theorem q_Grid__eq__ (C : Str → Addr) (S : Store) (a0 a1 : W) : g_Grid__eq__ C [a0, a1] S = dEnd giveS S (F_Grid__eq__ C [some a0, some a1] S) := dDef_eq rfl
theorem q_sizes_of (C : Str → Addr) (S : Store) (a0 : W) : g_sizes_of C [a0] S = dEnd giveS S (F_sizes_of C [some a0] S) := dDef_eq rfl
theorem q_check_cell (C : Str → Addr) (S : Store) (a0 a1 a2 : W) : g_check_cell C [a0, a1, a2] S = dEnd giveS S (F_check_cell C [some a0, some a1, some a2] S) := dDef_eq rfl
theorem q_cell (C : Str → Addr) (S : Store) (a0 a1 a2 : W) : g_cell C [a0, a1, a2] S = dEnd giveS S (F_cell C [some a0, some a1, some a2] S) := dDef_eq rfl
theorem q_with_cell (C : Str → Addr) (S : Store) (a0 a1 a2 a3 : W) : g_with_cell C [a0, a1, a2, a3] S = dEnd giveS S (F_with_cell C [some a0, some a1, some a2, some a3, none] S) := dDef_eq rfl
theorem q_retold (C : Str → Addr) (S : Store) (a0 a1 a2 a3 : W) : g_retold C [a0, a1, a2, a3] S = dEnd giveS S (F_retold C [some a0, some a1, some a2, some a3] S) := dDef_eq rfl
theorem q_units_in (C : Str → Addr) (S : Store) (a0 : W) : g_units_in C [a0] S = dEnd giveS S (F_units_in C [some a0, none, none, none] S) := dDef_eq rfl
theorem q_bottom (C : Str → Addr) (S : Store) (a0 : W) : g_bottom C [a0] S = dEnd giveS S (F_bottom C [some a0, none, none, none, none] S) := dDef_eq rfl
theorem q_fits (C : Str → Addr) (S : Store) (a0 a1 : W) : g_fits C [a0, a1] S = dEnd giveS S (F_fits C [some a0, some a1] S) := dDef_eq rfl
theorem q_are_numbers (C : Str → Addr) (S : Store) (a0 a1 : W) : g_are_numbers C [a0, a1] S = dEnd giveS S (F_are_numbers C [some a0, some a1, none, none, none, none] S) := dDef_eq rfl
theorem q_are_values (C : Str → Addr) (S : Store) (a0 a1 : W) : g_are_values C [a0, a1] S = dEnd giveS S (F_are_values C [some a0, some a1, none, none, none, none] S) := dDef_eq rfl
theorem q_raw_renumbered (C : Str → Addr) (S : Store) (a0 a1 a2 a3 : W) : g_raw_renumbered C [a0, a1, a2, a3] S = dEnd giveS S (F_raw_renumbered C [some a0, some a1, some a2, some a3, none, none, none, none, none, none] S) := dDef_eq rfl
theorem q_renumbered (C : Str → Addr) (S : Store) (a0 a1 a2 : W) : g_renumbered C [a0, a1, a2] S = dEnd giveS S (F_renumbered C [some a0, some a1, some a2] S) := dDef_eq rfl
theorem q__law_is_integer (C : Str → Addr) (S : Store) (a0 : W) : g__law_is_integer C [a0] S = dEnd giveS S (F__law_is_integer C [some a0] S) := dDef_eq rfl
theorem q__law_state (C : Str → Addr) (S : Store) (a0 a1 : W) : g__law_state C [a0, a1] S = dEnd giveM S (F__law_state C [some a0, some a1] S) := dDef_eq rfl
theorem q__law_mixed (C : Str → Addr) (S : Store) (a0 a1 : W) : g__law_mixed C [a0, a1] S = dEnd giveS S (F__law_mixed C [some a0, some a1] S) := dDef_eq rfl
theorem q__law_draw (C : Str → Addr) (S : Store) (a0 a1 : W) : g__law_draw C [a0, a1] S = dEnd giveS S (F__law_draw C [some a0, some a1, none, none] S) := dDef_eq rfl
theorem q__law_low (C : Str → Addr) (S : Store) (a0 a1 : W) : g__law_low C [a0, a1] S = dEnd giveS S (F__law_low C [some a0, some a1, none, none, none] S) := dDef_eq rfl
theorem q__law_exponent (C : Str → Addr) (S : Store) (a0 : W) : g__law_exponent C [a0] S = dEnd giveS S (F__law_exponent C [some a0, none] S) := dDef_eq rfl
theorem q__law_unit (C : Str → Addr) (S : Store) (a0 a1 : W) : g__law_unit C [a0, a1] S = dEnd giveS S (F__law_unit C [some a0, some a1, none] S) := dDef_eq rfl
theorem q__law_cell (C : Str → Addr) (S : Store) (a0 a1 a2 : W) : g__law_cell C [a0, a1, a2] S = dEnd giveS S (F__law_cell C [some a0, some a1, some a2] S) := dDef_eq rfl
theorem q__law_with (C : Str → Addr) (S : Store) (a0 a1 a2 a3 : W) : g__law_with C [a0, a1, a2, a3] S = dEnd giveS S (F__law_with C [some a0, some a1, some a2, some a3, none] S) := dDef_eq rfl
theorem q__law_is_fraction (C : Str → Addr) (S : Store) (a0 : W) : g__law_is_fraction C [a0] S = dEnd giveS S (F__law_is_fraction C [some a0] S) := dDef_eq rfl
theorem q__law_is_unit (C : Str → Addr) (S : Store) (a0 a1 : W) : g__law_is_unit C [a0, a1] S = dEnd giveS S (F__law_is_unit C [some a0, some a1, none] S) := dDef_eq rfl
theorem q__law_is_cell (C : Str → Addr) (S : Store) (a0 a1 : W) : g__law_is_cell C [a0, a1] S = dEnd giveS S (F__law_is_cell C [some a0, some a1, none] S) := dDef_eq rfl
theorem q__law_are_numbers (C : Str → Addr) (S : Store) (a0 a1 : W) : g__law_are_numbers C [a0, a1] S = dEnd giveS S (F__law_are_numbers C [some a0, some a1, none, none] S) := dDef_eq rfl
theorem q__law_odd (C : Str → Addr) (S : Store) (a0 : W) : g__law_odd C [a0] S = dEnd giveS S (F__law_odd C [some a0, none, none, none, none, none, none] S) := dDef_eq rfl
theorem q__law_place (C : Str → Addr) (S : Store) (a0 a1 : W) : g__law_place C [a0, a1] S = dEnd giveS S (F__law_place C [some a0, some a1, none] S) := dDef_eq rfl
theorem q__law_is_place (C : Str → Addr) (S : Store) (a0 a1 : W) : g__law_is_place C [a0, a1] S = dEnd giveS S (F__law_is_place C [some a0, some a1] S) := dDef_eq rfl
theorem q__law_item (C : Str → Addr) (S : Store) (a0 : W) : g__law_item C [a0] S = dEnd giveS S (F__law_item C [some a0, none, none] S) := dDef_eq rfl
theorem q__law_numbers (C : Str → Addr) (S : Store) (a0 a1 : W) : g__law_numbers C [a0, a1] S = dEnd giveS S (F__law_numbers C [some a0, some a1, none, none, none, none, none, none] S) := dDef_eq rfl
theorem q__law_some_roots (C : Str → Addr) (S : Store) (a0 a1 : W) : g__law_some_roots C [a0, a1] S = dEnd giveS S (F__law_some_roots C [some a0, some a1, none, none, none, none] S) := dDef_eq rfl
theorem q__law_are_values (C : Str → Addr) (S : Store) (a0 a1 : W) : g__law_are_values C [a0, a1] S = dEnd giveS S (F__law_are_values C [some a0, some a1, none, none] S) := dDef_eq rfl
theorem q__law_called (C : Str → Addr) (S : Store) (a0 a1 a2 a3 a4 : W) : g__law_called C [a0, a1, a2, a3, a4] S = dEnd giveS S (F__law_called C [some a0, some a1, some a2, some a3, some a4] S) := dDef_eq rfl
theorem q__law_found (C : Str → Addr) (S : Store) (a0 a1 a2 a3 a4 : W) : g__law_found C [a0, a1, a2, a3, a4] S = dEnd giveS S (F__law_found C [some a0, some a1, some a2, some a3, some a4, none] S) := dDef_eq rfl
theorem q__law_thing (C : Str → Addr) (S : Store) (a0 a1 : W) : g__law_thing C [a0, a1] S = dEnd giveS S (F__law_thing C [some a0, some a1, none, none, none] S) := dDef_eq rfl
theorem q__law_rows (C : Str → Addr) (S : Store) (a0 a1 a2 a3 a4 : W) : g__law_rows C [a0, a1, a2, a3, a4] S = dEnd giveS S (F__law_rows C [some a0, some a1, some a2, some a3, some a4, none, none] S) := dDef_eq rfl
theorem q_law (C : Str → Addr) (S : Store) (a0 : W) : g_law C [a0] S = dEnd giveS S (F_law C [some a0, none, none, none, none, none, none, none, none, none, none, none, none, none, none, none] S) := dDef_eq rfl
end P07
set_option Elab.async false
set_option linter.all false
set_option maxRecDepth 100000
set_option maxHeartbeats 1000000
namespace P07
open PySem L2 DL
local macro_rules | `(tactic| walk_at "ev") => `(tactic| simp (config := { decide := false, implicitDefEqProofs := false }) only [bind_ok, bind_err, sE_ok, sE_err, bnd_nx, bnd_rt, bnd_bk, bnd_ct, bnd_err, sSeq_eq, dEnd_rt, dEnd_nx, dEnd_err, giveS_d, giveS_dA, giveS_nil,
  dVar, dC, d2, d1, dB, dChain, dAnd, dOr, dNot, dTru, dAndV, dOrV, dNotV, dIf, aNil, aCons, dTup, dLst, dLoc, dCall, dCB, b1, dIt, sNx, sBk, sCt, sRet, sRetN, sDrop, sSet, sIf, sPar, truth_bl, asB_bl, oI0_eq, oIsi, ty_int, ty_bl, ty_str, ty_non, ty_tup, ty_lst, isi_ii, isi_ib, isi_it, isi_tt, isi_ti, isi_tb,
  oAbs, oInt, oNeg, oEq_int, oNe_int, dFld, dSl, dPt, dNoPt, asPt_int, isN_non, isN_tup, isN_U, notN_non, notN_tup, notN_U, dMake, sFldPut,
  List.map_cons, List.map_nil, List.length_cons, List.length_nil, List.getElem?_cons_zero, List.getElem?_cons_succ, List.set_cons_zero, List.set_cons_succ, List.cons_append, List.nil_append, List.append_nil, Nat.reduceAdd, Nat.reduceSub, Nat.zero_add, if_true, if_false, Bool.not_true, Bool.not_false, Bool.false_eq_true, reduceIte, List.replicate_zero, List.replicate_succ, Nat.sub_self, beq_self_eq_true, Int.reduceLT, Int.reduceLE, Int.reduceAdd, Int.reduceSub, Int.reduceMul, Int.reduceNeg, Int.reducePow, Int.reduceToNat, Int.reduceEq, Int.reduceBEq, decide_true, decide_false, mkTup1, mkTup2, mkTup3, mkLst2, mkLst5, ix20, ix21, ixF0, ixF1, len_tup, len_lst, lenF, tyF, lenU, tyU, oEqF, oEqU, oNeU, zipU, tgN, tgT, tgCons, tgNil, wipeE, Option.bind_some, tuple_lst, list_lst, st0, st1, st2, st3, se1, se2, se3, giveS_st, tgIx, sAsg, Option.map_some, oMod_eq, isi_int', isi_bl', isi_str', isi_non', isi_tup', isi_lst', isi_dct', isi_U', isi_F', isi_ins', tc_int, tc_bool, tc_tuple, ty_dct, isi_bi, isi_bb, isi_bt, isi_si, isi_sb, isi_st, isi_ni, isi_nb, isi_nt, isi_li, isi_lb, isi_lt, isi_di, isi_db, isi_dt, sRaise, dDct, mkLoc2, mkLoc7, mkLoc8, mkLoc9, mkLoc11, mkLoc17, mkLoc25, mkLoc32, oCatL, mkTup4, mkLst4])
local macro_rules | `(tactic| walk_at "evh") => `(tactic| simp (config := { decide := false, implicitDefEqProofs := false }) only [bind_ok, bind_err, sE_ok, sE_err, bnd_nx, bnd_rt, bnd_bk, bnd_ct, bnd_err, sSeq_eq, dEnd_rt, dEnd_nx, dEnd_err, giveS_d, giveS_dA, giveS_nil,
  dVar, dC, d2, d1, dB, dChain, dAnd, dOr, dNot, dTru, dAndV, dOrV, dNotV, dIf, aNil, aCons, dTup, dLst, dLoc, dCall, dCB, b1, dIt, sNx, sBk, sCt, sRet, sRetN, sDrop, sSet, sIf, sPar, truth_bl, asB_bl, oI0_eq, oIsi, ty_int, ty_bl, ty_str, ty_non, ty_tup, ty_lst, isi_ii, isi_ib, isi_it, isi_tt, isi_ti, isi_tb,
  oAbs, oInt, oNeg, oEq_int, oNe_int, dFld, dSl, dPt, dNoPt, asPt_int, isN_non, isN_tup, isN_U, notN_non, notN_tup, notN_U, dMake, sFldPut,
  List.map_cons, List.map_nil, List.length_cons, List.length_nil, List.getElem?_cons_zero, List.getElem?_cons_succ, List.set_cons_zero, List.set_cons_succ, List.cons_append, List.nil_append, List.append_nil, Nat.reduceAdd, Nat.reduceSub, Nat.zero_add, if_true, if_false, Bool.not_true, Bool.not_false, Bool.false_eq_true, reduceIte, List.replicate_zero, List.replicate_succ, Nat.sub_self, beq_self_eq_true, Int.reduceLT, Int.reduceLE, Int.reduceAdd, Int.reduceSub, Int.reduceMul, Int.reduceNeg, Int.reducePow, Int.reduceToNat, Int.reduceEq, Int.reduceBEq, decide_true, decide_false, mkTup1, mkTup2, mkTup3, mkLst2, mkLst5, ix20, ix21, ixF0, ixF1, len_tup, len_lst, lenF, tyF, lenU, tyU, oEqF, oEqU, oNeU, zipU, tgN, tgT, tgCons, tgNil, wipeE, Option.bind_some, tuple_lst, list_lst, st0, st1, st2, st3, se1, se2, se3, giveS_st, tgIx, sAsg, Option.map_some, oMod_eq, isi_int', isi_bl', isi_str', isi_non', isi_tup', isi_lst', isi_dct', isi_U', isi_F', isi_ins', tc_int, tc_bool, tc_tuple, ty_dct, isi_bi, isi_bb, isi_bt, isi_si, isi_sb, isi_st, isi_ni, isi_nb, isi_nt, isi_li, isi_lb, isi_lt, isi_di, isi_db, isi_dt, sRaise, dDct, mkLoc2, mkLoc7, mkLoc8, mkLoc9, mkLoc11, mkLoc17, mkLoc25, mkLoc32, oCatL, mkTup4, mkLst4, oMul_eq, oDiv_eq, oPow_eq, *])
theorem e_divisor (C : Str → Addr) (S : Store) (a b : Int) : g_divisor C [.d (.int a), .d (.int b)] S = some (.ok (.d (.int (gcd a b))), S) := by
  rw [q_divisor, F_divisor]
  walk_at "ev"
  simp only [abs_nat, gcd_while]
  walk_at "ev"
  rfl
theorem e_lowest (C : Str → Addr) (S : Store) {t b : Int} {n : Nat} (h : 0 < b) (hb : Bd n b) (h0 : 0 < n) (h9 : n ≤ 9000) : g_lowest C [.d (.int t), .d (.int b)] S = some (.ok (.d (encF (low t b))), S) := by
  rw [q_lowest, F_lowest]
  have hn : ¬ b < 0 := by omega
  have c1 := gcd_div (t := t) h hb h0 h9 t
  have c2 := gcd_div (t := t) h hb h0 h9 b
  have e := e_divisor C
  have d1 := decide_eq_false hn
  walk_at "evh"
  rfl
theorem e_mixed (C : Str → Addr) {n : Int} (k : Int) (h0 : 0 ≤ n) (h1 : n < 2 ^ 32) : ∃ r, (∀ S, g__law_mixed C [.d (.int n), .d (.int k)] S = some (.ok (.d (.int r)), S)) ∧ 0 ≤ r ∧ r < 2147483399 := by
  have key : ∀ (i m : Int), 0 < m → 0 ≤ i % m ∧ i % m < m := fun i m h => ⟨Int.emod_nonneg i (by omega), Int.emod_lt_of_pos i h⟩
  obtain ⟨k0, k1⟩ := key k 1000003 (by decide)
  obtain ⟨a0, a1⟩ := key (n * 48271 + k % 1000003 * 16807 + 30103) 2147483647 (by decide)
  have c1 : CMulW n 48271 := (bd_nn (n := 32) h0 h1).mulOk (bd_nn (n := 16) (by decide) (by decide))
  have c2 : CMulW (k % 1000003) 16807 := (bd_nn (n := 20) k0 (by omega)).mulOk (bd_nn (n := 15) (by decide) (by decide))
  generalize ha : (n * 48271 + k % 1000003 * 16807 + 30103) % 2147483647 = a at a0 a1
  obtain ⟨b0, b1⟩ := key (a * (a / 1009 + 69621)) 2147483629 (by decide)
  have c3 : CDivW a 1009 := wide_div (b := 10) (by decide) (by decide) (by decide) (by decide)
  have c4 : CMulW a (a / 1009 + 69621) := (bd_nn (n := 32) a0 (by omega)).mulOk (bd_nn (n := 32) (by omega) (by omega))
  generalize hb : (a * (a / 1009 + 69621)) % 2147483629 = b at b0 b1
  have c5 : CDivW b 2003 := wide_div (b := 11) (by decide) (by decide) (by decide) (by decide)
  have c6 : CMulW b (b / 2003 + 40692) := (bd_nn (n := 32) b0 (by omega)).mulOk (bd_nn (n := 32) (by omega) (by omega))
  refine ⟨(b * (b / 2003 + 40692)) % 2147483399, fun S => ?_, key _ _ (by decide)⟩
  rw [q__law_mixed, F__law_mixed]
  clear h0 h1 key k0 k1 a0 a1 b0 b1
  walk_at "evh"
theorem e_draw (C : Str → Addr) (T : Store) {m : M} (hm : DrSt m) {k : Int} (hk : 0 < k) (hkb : Bd 200 k) : ∃ r m', g__law_draw C [.loc 0, .d (.int k)] (m :: T) = some (.ok (.d (.int r)), m' :: T) ∧ 0 ≤ r ∧ r < k ∧ DrSt m' := by
  obtain ⟨ns, pos, big, num, rfl, hp, hb, hn0, hn1, hl⟩ := hm
  have c16 : ∀ i : Int, CDivW i 16 := fun i => wide_div (b := 5) (by decide) (by decide) (by decide) (by decide)
  have ck : ∀ i : Int, CDivW i k := fun i => wide_div hk hkb (by decide) (by decide)
  have p18 : CPow 10 18 := by decide
  have fin : ∀ i : Int, 0 ≤ i % k ∧ i % k < k := fun i => ⟨Int.emod_nonneg i (by omega), Int.emod_lt_of_pos i hk⟩
  have em := fun i : Int => e_mixed C i hn0 hn1
  rw [q__law_draw, F__law_draw]
  by_cases h1 : big = 0 ∧ pos < ns.length
  · obtain ⟨rfl, h2⟩ := h1
    have d2 : decide ((pos : Int) < ((ns.map D.int).length : Int)) = true := by simp [h2]
    have ix := fun S => ix_ints (S := S) h2
    generalize ht : ns[pos] = t at ix
    by_cases h3 : t ≥ 1000000000000000000
    · have d3 : decide ((1000000000000000000 : Int) ≤ t) = true := by simpa using h3
      have d4 : decide ((0 : Int) < t) = true := by simp; omega
      refine ⟨t % k, encSt ns ((pos + 1 : Nat) : Int) (t / k) num, ?_, (fin t).1, (fin t).2, ns, pos + 1, t / k, num, rfl, h2, Int.ediv_nonneg (by omega) (by omega), hn0, hn1, hl⟩
      have e1 : ((pos + 1 : Nat) : Int) = (pos : Int) + 1 := by simp
      rw [e1]
      clear fin em ht hn0 hn1 hp hb hl h2 h3
      walk_at "evh"
    · have d3 : decide ((1000000000000000000 : Int) ≤ t) = false := by simp; omega
      obtain ⟨r, er, r0, r1⟩ := em t
      obtain ⟨r2, er2, r20, r21⟩ := e_mixed C ((pos : Int) + 1) r0 (by omega)
      refine ⟨(r2 / 16) % k, encSt ns ((pos + 1 : Nat) : Int) 0 r2, ?_, (fin _).1, (fin _).2, ns, pos + 1, 0, r2, rfl, h2, by omega, r20, by omega, hl⟩
      have e1 : ((pos + 1 : Nat) : Int) = (pos : Int) + 1 := by simp
      rw [e1]
      clear fin em ht hn0 hn1 hp hb hl h2 h3 r0 r1 r20 r21
      walk_at "evh"
  · have d1 : (if (big == 0) = true then decide ((pos : Int) < ((ns.map D.int).length : Int)) else false) = false := by
      by_cases hz : big = 0
      · have : ¬ pos < ns.length := fun z => h1 ⟨hz, z⟩
        simp [hz]; omega
      · simp [hz]
    by_cases h4 : 0 < big
    · have d4 : decide ((0 : Int) < big) = true := by simpa using h4
      refine ⟨big % k, encSt ns pos (big / k) num, ?_, (fin _).1, (fin _).2, ns, pos, big / k, num, rfl, hp, Int.ediv_nonneg (by omega) (by omega), hn0, hn1, hl⟩
      have d5 : (big == 0) = false := by simp; omega
      clear fin em hn0 hn1 hp hb hl h1 h4 d1
      walk_at "evh"
    · have hz : big = 0 := by omega
      subst hz
      have d5 : decide ((pos : Int) < ((ns.map D.int).length : Int)) = false := by simpa using d1
      obtain ⟨r2, er2, r20, r21⟩ := em (pos : Int)
      refine ⟨(r2 / 16) % k, encSt ns pos 0 r2, ?_, (fin _).1, (fin _).2, ns, pos, 0, r2, rfl, hp, by omega, r20, by omega, hl⟩
      clear fin em hn0 hn1 hp hb hl h1 h4 d1 r20 r21
      walk_at "evh"
theorem gcd5_loop {S : Store} {t b : Option W} : ∀ (n : Nat) (x y : Nat) (r : Option W), y ≤ n → ∃ r', whileN (dB (d2 oGt (dVar 3) (dC (.int 0)))) (sSeq (sSet 4 (d2 oMod (dCB (b1 oInt) (aCons (dVar 2) (aNil))) (dVar 3))) (sSeq (sSet 2 (dVar 3)) (sSet 3 (dVar 4)))) (n + 1) [t, b, some (.d (.int x)), some (.d (.int y)), r] S = some (.ok (.nx [t, b, some (.d (.int (Nat.gcd x y : Nat))), some (.d (.int 0)), r']), S)
  | n, x, 0, r, _ => ⟨r, by simp [whileN, sE, dB, d2, dVar, dC, Rs.bind, oI0, asB]⟩
  | 0, x, y + 1, r, h => by omega
  | n + 1, x, y + 1, r, h => by
    have hlt : x % (y + 1) < y + 1 := Nat.mod_lt x (by omega)
    obtain ⟨r', ih⟩ := gcd5_loop (S := S) (t := t) (b := b) n (y + 1) (x % (y + 1)) (some (.d (.int ((x % (y + 1) : Nat) : Int)))) (by omega)
    have hpos : (0 : Int) < ((y + 1 : Nat) : Int) := by omega
    refine ⟨r', ?_⟩
    rw [whileN]
    have e1 : (dB (d2 oGt (dVar 3) (dC (.int 0)))) [t, b, some (.d (.int (x : Int))), some (.d (.int ((y + 1 : Nat) : Int))), r] S = some (.ok true, S) := by
      simp only [dB, d2, dVar, dC, Rs.bind, oI0, asB, List.getElem?_cons_succ, List.getElem?_cons_zero, decide_eq_true hpos]
    have e0 : ((x % (y + 1) : Nat) : Int) = (x : Int) % ((y + 1 : Nat) : Int) := rfl
    have e2 : (sSeq (sSet 4 (d2 oMod (dCB (b1 oInt) (aCons (dVar 2) (aNil))) (dVar 3))) (sSeq (sSet 2 (dVar 3)) (sSet 3 (dVar 4)))) [t, b, some (.d (.int (x : Int))), some (.d (.int ((y + 1 : Nat) : Int))), r] S = some (.ok (.nx [t, b, some (.d (.int ((y + 1 : Nat) : Int))), some (.d (.int ((x % (y + 1) : Nat) : Int))), some (.d (.int ((x % (y + 1) : Nat) : Int)))]), S) := by
      rw [e0]
      generalize ((y + 1 : Nat) : Int) = z at hpos
      walk_at "evh"
    rw [e1]
    simp only [sE, if_true, e2]
    rw [ih]
    have e3 : Nat.gcd (y + 1) (x % (y + 1)) = Nat.gcd x (y + 1) := by rw [Nat.gcd_comm, ← Nat.gcd_rec, Nat.gcd_comm]
    rw [e3]
theorem e_law_low (C : Str → Addr) (S : Store) {t b : Int} {n : Nat} (h : 0 < b) (hb : Bd n b) (h0 : 0 < n) (h9 : n ≤ 9000) : g__law_low C [.d (.int t), .d (.int b)] S = some (.ok (.d (encF (low t b))), S) := by
  rw [q__law_low, F__law_low]
  have hn : ¬ b < 0 := by omega
  have c1 := gcd_div (t := t) h hb h0 h9 t
  have c2 := gcd_div (t := t) h hb h0 h9 b
  have d1 := decide_eq_false hn
  obtain ⟨r', hw⟩ := gcd5_loop (S := S) (t := some (.d (.int t))) (b := some (.d (.int b))) b.natAbs t.natAbs b.natAbs none (Nat.le_refl _)
  have hw2 := dWhile_of hw
  have eg : ((Nat.gcd t.natAbs b.natAbs : Nat) : Int) = gcd t b := rfl
  rw [eg] at hw2
  have a1 := abs_nat t
  have a2 := abs_nat b
  clear hw hn h hb h0 h9 eg
  walk_at "evh"
  rfl
theorem e_times (C : Str → Addr) (S : Store) {n m : Nat} {x y : Int × Int} (hx : FrB n x) (hy : FrB m y) (h0 : 0 < n := by decide) (h1 : 0 < m := by decide) (h9 : n + m ≤ 8000 := by decide) : g_times C [.d (encF x), .d (encF y)] S = some (.ok (.d (encF (ftimes x y))), S) := by
  rw [q_times, F_times]
  have c1 := hx.b1.mulOk hy.b1 h0 h1 (by omega)
  have c3 := hx.b2.mulOk hy.b2 h0 h1 (by omega)
  have e := fun S => e_lowest C S (t := x.1 * y.1) (pos2 hx.fr hy.fr) (hx.b2.mul hy.b2) (by omega) (by omega)
  walk_at "evh"
  rfl
theorem all_true {α : Type} {xs : List α} : (xs.all fun _ => true) = true := by simp
theorem pw_even (f b : Int × Int) (q : Nat) : fmul f (pw (fmul b b) q) = fmul f (pw b (2 * q)) := by
  unfold pw fmul
  dsimp only
  rw [Int.pow_mul, Int.pow_mul, Int.pow_succ, Int.pow_succ, Int.pow_succ, Int.pow_succ]
  simp
theorem pw_odd (f b : Int × Int) (q : Nat) : fmul (fmul f b) (pw (fmul b b) q) = fmul f (pw b (2 * q + 1)) := by
  have e := pw_even f b q
  have e1 : pw b (2 * q + 1) = fmul b (pw b (2 * q)) := by
    unfold pw fmul
    dsimp only
    rw [Int.pow_succ, Int.pow_succ, Int.mul_comm, Int.mul_comm (b.2 ^ (2 * q))]
  have e2 : ∀ x y z : Int × Int, fmul (fmul x y) z = fmul y (fmul x z) := fun x y z => by
    unfold fmul
    refine Prod.ext ?_ ?_ <;> dsimp only <;> grind
  rw [e2, e, ← e2, e1, fmul_assoc]
theorem raised_loop {S : Store} {x0 x1 : Option W} : ∀ (n left : Nat) (f b : Int × Int) (kf kb : Nat), left ≤ n → Bd kf f.1 → Bd kf f.2 → Bd kb b.1 → Bd kb b.2 → 0 < kf → 0 < kb → kf + kb * left ≤ 300000 →
    ∃ b', whileN (dB (d2 oGt (dVar 3) (dC (.int 0)))) (sSeq (sIf (dB (d2 oEq (d2 oMod (dVar 3) (dC (.int 2))) (dC (.int 1)))) (sSet 4 (dTup (aCons (d2 oMul (d2 oIx (dVar 4) (dC (.int 0))) (d2 oIx (dVar 2) (dC (.int 0)))) (aCons (d2 oMul (d2 oIx (dVar 4) (dC (.int 1))) (d2 oIx (dVar 2) (dC (.int 1)))) (aNil))))) (sNx))
    (sSeq (sSet 2 (dTup (aCons (d2 oMul (d2 oIx (dVar 2) (dC (.int 0))) (d2 oIx (dVar 2) (dC (.int 0)))) (aCons (d2 oMul (d2 oIx (dVar 2) (dC (.int 1))) (d2 oIx (dVar 2) (dC (.int 1)))) (aNil)))))
    (sSet 3 (d2 oDiv (dVar 3) (dC (.int 2)))))) (n + 1) [x0, x1, some (.d (encF b)), some (.d (.int (left : Int))), some (.d (encF f))] S = some (.ok (.nx [x0, x1, b', some (.d (.int 0)), some (.d (encF (fmul f (pw b left))))]), S)
  | n, 0, f, b, kf, kb, _, _, _, _, _, _, _, _ => ⟨some (.d (encF b)), by
    have e : fmul f (pw b 0) = f := by simp [fmul, pw]
    rw [e]
    simp [whileN, sE, dB, d2, dVar, dC, Rs.bind, oI0, asB]⟩
  | 0, left + 1, _, _, _, _, h, _, _, _, _, _, _, _ => by omega
  | n + 1, left + 1, f, b, kf, kb, h, f1, f2, b1, b2, k0, k1, hk => by
    have hkb : kb ≤ kb * (left + 1) := Nat.le_mul_of_pos_right kb (by omega)
    have c1 := f1.mulOk b1 k0 k1 (by omega)
    have c2 := f2.mulOk b2 k0 k1 (by omega)
    have c3 := b1.mulOk b1 k1 k1 (by omega)
    have c4 := b2.mulOk b2 k1 k1 (by omega)
    have c5 : CDivW ((left + 1 : Nat) : Int) 2 := wide_div (b := 2) (by decide) (by decide) (by decide) (by decide)
    have hpos : (0 : Int) < ((left + 1 : Nat) : Int) := by omega
    have e0 : (((left + 1) / 2 : Nat) : Int) = ((left + 1 : Nat) : Int) / 2 := by omega
    rw [whileN]
    have e1 : (dB (d2 oGt (dVar 3) (dC (.int 0)))) [x0, x1, some (.d (encF b)), some (.d (.int ((left + 1 : Nat) : Int))), some (.d (encF f))] S = some (.ok true, S) := by
      simp only [dB, d2, dVar, dC, Rs.bind, oI0, asB, List.getElem?_cons_succ, List.getElem?_cons_zero, decide_eq_true hpos]
    rw [e1]
    simp only [sE, if_true]
    by_cases hp : (left + 1) % 2 = 1
    · have hq : left + 1 = 2 * ((left + 1) / 2) + 1 := by omega
      obtain ⟨b', ih⟩ := raised_loop (S := S) (x0 := x0) (x1 := x1) n ((left + 1) / 2) (fmul f b) (fmul b b) (kf + kb) (kb + kb) (by omega) (f1.mul b1) (f2.mul b2) (b1.mul b1) (b2.mul b2) (by omega) (by omega) (by
        have : kb * (left + 1) = kb * (2 * ((left + 1) / 2) + 1) := by rw [← hq]
        have : kb * (2 * ((left + 1) / 2) + 1) = (kb + kb) * ((left + 1) / 2) + kb := by grind
        omega)
      rw [pw_odd, ← hq] at ih
      refine ⟨b', ?_⟩
      have hpar : ((((left + 1 : Nat) : Int) % 2) == 1) = true := by
        have : ((left + 1 : Nat) : Int) % 2 = 1 := by omega
        rw [this]; rfl
      have e2 : (sSeq (sIf (dB (d2 oEq (d2 oMod (dVar 3) (dC (.int 2))) (dC (.int 1)))) (sSet 4 (dTup (aCons (d2 oMul (d2 oIx (dVar 4) (dC (.int 0))) (d2 oIx (dVar 2) (dC (.int 0)))) (aCons (d2 oMul (d2 oIx (dVar 4) (dC (.int 1))) (d2 oIx (dVar 2) (dC (.int 1)))) (aNil))))) (sNx)) (sSeq (sSet 2 (dTup (aCons (d2 oMul (d2 oIx (dVar 2) (dC (.int 0))) (d2 oIx (dVar 2) (dC (.int 0)))) (aCons (d2 oMul (d2 oIx (dVar 2) (dC (.int 1))) (d2 oIx (dVar 2) (dC (.int 1)))) (aNil))))) (sSet 3 (d2 oDiv (dVar 3) (dC (.int 2)))))) [x0, x1, some (.d (encF b)), some (.d (.int ((left + 1 : Nat) : Int))), some (.d (encF f))] S = some (.ok (.nx [x0, x1, some (.d (encF (fmul b b))), some (.d (.int (((left + 1) / 2 : Nat) : Int))), some (.d (encF (fmul f b)))]), S) := by
        rw [e0]
        clear ih e1 e0 hk hkb hp hq f1 f2 b1 b2 k0 k1 h
        generalize ((left + 1 : Nat) : Int) = z at *
        walk_at "evh"
        rfl
      rw [e2]
      exact ih
    · have hq : left + 1 = 2 * ((left + 1) / 2) := by omega
      obtain ⟨b', ih⟩ := raised_loop (S := S) (x0 := x0) (x1 := x1) n ((left + 1) / 2) f (fmul b b) kf (kb + kb) (by omega) f1 f2 (b1.mul b1) (b2.mul b2) (by omega) (by omega) (by
        have : kb * (left + 1) = kb * (2 * ((left + 1) / 2)) := by rw [← hq]
        have : kb * (2 * ((left + 1) / 2)) = (kb + kb) * ((left + 1) / 2) := by grind
        omega)
      rw [pw_even, ← hq] at ih
      refine ⟨b', ?_⟩
      have hpar : ((((left + 1 : Nat) : Int) % 2) == 1) = false := by
        have : ((left + 1 : Nat) : Int) % 2 = 0 := by omega
        rw [this]; rfl
      have e2 : (sSeq (sIf (dB (d2 oEq (d2 oMod (dVar 3) (dC (.int 2))) (dC (.int 1)))) (sSet 4 (dTup (aCons (d2 oMul (d2 oIx (dVar 4) (dC (.int 0))) (d2 oIx (dVar 2) (dC (.int 0)))) (aCons (d2 oMul (d2 oIx (dVar 4) (dC (.int 1))) (d2 oIx (dVar 2) (dC (.int 1)))) (aNil))))) (sNx)) (sSeq (sSet 2 (dTup (aCons (d2 oMul (d2 oIx (dVar 2) (dC (.int 0))) (d2 oIx (dVar 2) (dC (.int 0)))) (aCons (d2 oMul (d2 oIx (dVar 2) (dC (.int 1))) (d2 oIx (dVar 2) (dC (.int 1)))) (aNil))))) (sSet 3 (d2 oDiv (dVar 3) (dC (.int 2)))))) [x0, x1, some (.d (encF b)), some (.d (.int ((left + 1 : Nat) : Int))), some (.d (encF f))] S = some (.ok (.nx [x0, x1, some (.d (encF (fmul b b))), some (.d (.int (((left + 1) / 2 : Nat) : Int))), some (.d (encF f))]), S) := by
        rw [e0]
        clear ih e1 e0 hk hkb hp hq f1 f2 b1 b2 k0 k1 h
        generalize ((left + 1 : Nat) : Int) = z at *
        walk_at "evh"
        rfl
      rw [e2]
      exact ih
theorem fmul_one (p : Int × Int) : fmul (1, 1) p = p := by simp [fmul]
theorem e_raised (C : Str → Addr) (S : Store) {n : Nat} {r : Int × Int} {k : Int} (h1 : Bd n r.1) (h2 : Bd n r.2) (h0 : 0 < n) (hk : n * k.natAbs ≤ 200000) : g_raised C [.d (encF r), .d (.int k)] S = some (.ok (.d (encF (rz r k))), S) := by
  rw [q_raised, F_raised]
  obtain ⟨b', hw⟩ := raised_loop (S := S) (x0 := some (.d (encF r))) (x1 := some (.d (.int k))) k.natAbs k.natAbs (1, 1) (sw r k) 1 n (Nat.le_refl _) (by decide) (by decide) (bd_sw h1 h2 k).1 (bd_sw h1 h2 k).2 (by decide) h0 (by omega)
  have hw2 := dWhile_of hw
  rw [fmul_one] at hw2
  have er : pw (sw r k) k.natAbs = rz r k := rfl
  rw [er] at hw2
  have o1 : encF (1, 1) = .tup [.int 1, .int 1] := rfl
  rw [o1] at hw2
  have a1 := abs_nat k
  clear hw h1 h2 h0 hk er o1
  by_cases hn : k < 0
  · have d1 : decide ((0 : Int) ≤ k) = false := by simp; omega
    have es : encF (sw r k) = .tup [.int r.2, .int r.1] := by unfold sw; rw [if_pos hn]; rfl
    rw [es] at hw2
    clear es hn
    walk_at "evh"
  · have d1 : decide ((0 : Int) ≤ k) = true := by simp; omega
    have es : sw r k = r := by unfold sw; rw [if_neg hn]
    rw [es] at hw2
    clear es hn
    walk_at "evh"
theorem e_law_exponent (C : Str → Addr) (T : Store) {m : M} (hm : DrSt m) : ∃ p m', g__law_exponent C [.loc 0] (m :: T) = some (.ok (.d (encF p)), m' :: T) ∧ Ep p ∧ DrSt m' := by
  obtain ⟨b, m1, e1, b0, b1, h1⟩ := e_draw C T hm (k := 4) (by decide) (by decide)
  obtain ⟨t, m2, e2, t0, t1, h2⟩ := e_draw C T h1 (k := 13) (by decide) (by decide)
  have hb : 0 < 1 + b := by omega
  have bb : Bd 3 (1 + b) := bd_nn (by omega) (by omega)
  have bt : Bd 3 (t - 6) := by unfold Bd; omega
  have e := e_law_low C (m2 :: T) (t := t - 6) hb bb (by decide) (by decide)
  have lb := low_bd bt bb
  have gv := fun x => giveS_hd0 (m := m) (T := T) (x := x) (h2.below (n := (m :: T).length))
  have d1 : (low (t - 6) (1 + b)).1.natAbs ≤ (t - 6).natAbs := Int.natAbs_ediv_le_natAbs _ _
  have d2 : (low (t - 6) (1 + b)).2.natAbs ≤ (1 + b).natAbs := Int.natAbs_ediv_le_natAbs _ _
  refine ⟨low (t - 6) (1 + b), m2, ?_, ⟨⟨low_fr hb, lb.1, lb.2⟩, by omega, by omega⟩, h2⟩
  rw [q__law_exponent, F__law_exponent]
  clear b0 b1 t0 t1 hb bb bt lb d1 d2
  walk_at "evh"
theorem e_law_unit (C : Str → Addr) (T : Store) {m : M} (hm : DrSt m) {b : Int} (b1 : 1 ≤ b) (b3 : b ≤ 3) : ∃ us m', g__law_unit C [.loc 0, .d (.int b)] (m :: T) = some (.ok (.d (encU us)), m' :: T) ∧ (us.length : Int) = b ∧ (∀ p ∈ us, Ep p) ∧ DrSt m' := by
  obtain ⟨us, m', e, hl, hu, h'⟩ := dLc_drawn (fi := dIt oRng1 (aCons (dVar 1) (aNil))) (tf := tgN 2) (fe := dCall 1 (g__law_exponent C) (aCons (dVar 0) (aNil))) (vs := [2]) (δ := [some (.loc 0), some (.d (.int b)), none]) (T := T) (m := m) (b := b) (Q := Ep) (by omega) (by omega) hm (by
    have r2 := oRng1_eq (S := m :: T) (j := b) (by omega) (by omega)
    unfold dIt
    clear b1 b3 hm
    walk_at "evh") (fun w m hm => by
    obtain ⟨p, m', e, hp, h'⟩ := e_law_exponent C T hm
    refine ⟨_, p, m', rfl, ?_, h', hp⟩
    clear hp h' hm b1 b3
    walk_at "evh")
  have gv := fun x => giveS_hd0 (m := m) (T := T) (x := x) (h'.below (n := (m :: T).length))
  refine ⟨us, m', ?_, hl, hu, h'⟩
  have eu : D.tup (us.map encF) = encU us := rfl
  rw [q__law_unit, F__law_unit]
  clear hl hu b1 b3 hm
  walk_at "evh"
section
variable {k n M : Nat} {s : Int} {us rs : List (Int × Int)}
theorem e_raw_factor (C : Str → Addr) (S : Store) (h : FacOk k n M s us rs) : g_raw_factor C [.d (encU us), .d (encU rs), .d (.int s)] S = some (.ok (.d (encF (fac (fz s) (us.zip rs)))), S) := by
  rw [q_raw_factor, F_raw_factor]
  have hz : dIt oZip (aCons (dVar 0) (aCons (dVar 1) (aNil))) [some (.d (encU us)), some (.d (encU rs)), some (.d (.int s)), some (.d (.tup [.int 1, .int 1])), none, none, none] S = some (.ok ((us.zip rs).map fun p => W.d (.tup [encF p.1, encF p.2]), none), S) := by
    unfold dIt
    walk_at "ev"
  obtain ⟨δ', hf, x4, x5, x6, rfl⟩ := dFor_inv (P := fun i δ => ∃ x4 x5 x6, δ = [some (.d (encU us)), some (.d (encU rs)), some (.d (.int s)), some (.d (encF (fac (fz s) ((us.zip rs).take i)))), x4, x5, x6]) (tf := tgT 2 (tgCons (tgT 2 (tgCons (tgN 5) (tgCons (tgN 6) (tgNil)))) (tgCons (tgN 4) (tgNil)))) (fb := sSet 3 (dCall 2 (g_times C) (aCons (dVar 3) (aCons (dCall 2 (g_raised C) (aCons (dVar 4) (aCons (d2 oDiv (d2 oMul (dVar 5) (dVar 2)) (dVar 6)) (aNil)))) (aNil))))) (xs := us.zip rs) (wf := fun (p : (Int × Int) × (Int × Int)) => W.d (.tup [encF p.1, encF p.2])) hz (by
    rintro i hi δ ⟨x4, x5, x6, rfl⟩
    refine ⟨_, [some (.d (encU us)), some (.d (encU rs)), some (.d (.int s)), some (.d (encF (fac (fz s) ((us.zip rs).take (i + 1))))), some (.d (encF (us.zip rs)[i].2)), some (.d (.int (us.zip rs)[i].1.1)), some (.d (.int (us.zip rs)[i].1.2))], rfl, ?_, _, _, _, rfl⟩
    have hm := List.getElem_mem hi
    have m := h.mem hm
    rw [fac_step hi]
    have ha := h.acc hi
    have hb := h.fzb hm
    have e2 := e_times C S ha hb
    have nM := h.nM
    have e1 := e_raised C S (k := ex s (us.zip rs)[i].1) m.2.1.b1 m.2.1.b2 h.n0 (by have := Nat.mul_le_mul_left n m.2.2.2.2; omega)
    have c1 := m.1.b1.mulOk h.sb h.k0 (by decide) (by have := h.k9; omega)
    have c2 : CDivW ((us.zip rs)[i].1.1 * s) (us.zip rs)[i].1.2 := wide_div m.1.fr.1 m.1.b2 h.k0 (by have := h.k9; omega)
    unfold fz at e2 ⊢
    unfold ex at e1 e2 ⊢
    generalize (us.zip rs)[i] = z at *
    clear h m ha hb hm nM
    walk_at "evh") ⟨none, none, none, rfl⟩
  rw [List.take_length] at hf
  clear hz
  walk_at "evh"
end
theorem e_law_state (C : Str → Addr) (ns : List Int) : g__law_state C [.d (.lst (ns.map D.int)), .d (.int 3)] [] = some (.ok (.loc 0), [encSt ns 0 0 4]) := by
  rw [q__law_state, F__law_state]
  have k : mkLoc [W.d (.lst (ns.map D.int)), .d (.int 0), .d (.int 0), .d (.int 4)] [] = some (.ok (.loc 0), [encSt ns 0 0 4]) := rfl
  walk_at "evh"
  exact giveM_new (S := []) (ws := [.d (.lst (ns.map D.int)), .d (.int 0), .d (.int 0), .d (.int 4)]) (fun w hw => by
    simp at hw
    rcases hw with rfl | rfl | rfl <;> trivial)
/-! ### the judges -/
section
variable (C : Str → Addr) (S : Store) {x : D}
theorem i_int (h : TgK 10000000000000000000000000000000000000000 (C "Grid") x) : g_is_integer C [.d x] S = some (.ok (.d (.bl (intB x))), S) := by
  rw [q_is_integer, F_is_integer]
  rcases h with h | ⟨i, rfl⟩
  · cases h <;> (walk_at "ev"; rfl)
  · walk_at "ev"; rfl
theorem i_law_int (h : TgK 10000000000000000000000000000000000000000 (C "Grid") x) : g__law_is_integer C [.d x] S = some (.ok (.d (.bl (intB x))), S) := by
  rw [q__law_is_integer, F__law_is_integer]
  rcases h with h | ⟨i, rfl⟩
  · cases h <;> (walk_at "ev"; rfl)
  · walk_at "ev"; rfl
theorem intB_of {x : D} (h : intB x = true) : ∃ i, x = .int i := by
  cases x with
  | int i => exact ⟨i, rfl⟩
  | _ => cases h
theorem fracB_len {ds : List D} (h : ds.length ≠ 2) : fracB (.tup ds) = false := by
  unfold fracB
  split
  · rename_i t b e
    injection e with e
    subst e
    exact absurd rfl h
  · rfl
theorem fracB_two {a b : D} (h : intB a = false ∨ intB b = false) : fracB (.tup [a, b]) = false := by
  unfold fracB
  split
  · rename_i t u e
    injection e with e
    injection e with e1 e2
    injection e2 with e2
    subst e1 e2
    rcases h with h | h <;> cases h
  · rfl
theorem tup_or (h : TgK 10000000000000000000000000000000000000000 (C "Grid") x) : (∃ ds, x = .tup ds ∧ ds.length ≤ 100 ∧ ∀ d ∈ ds, Tk 10000000000000000000000000000000000000000 (C "Grid") d) ∨ (oIsiI [C "Grid"] [.d x, .d (.ty "tuple")] S = some (.ok (.d (.bl false)), S) ∧ tupB x = false) := by
  rcases h with h | ⟨i, rfl⟩
  · cases h with
    | tup hl h => exact .inl ⟨_, rfl, hl, h⟩
    | _ => exact .inr ⟨by walk_at "ev", rfl⟩
  · exact .inr ⟨by walk_at "ev", rfl⟩
theorem fracB_no {x : D} (h : tupB x = false) : fracB x = false := by cases x with | tup _ => cases h | _ => rfl
theorem unitB_no {x : D} {n : Int} (h : tupB x = false) : unitB n x = false := by cases x with | tup _ => cases h | _ => rfl
theorem rootsB_no {x : D} {n : Int} (h : tupB x = false) : rootsB n x = false := by cases x with | tup _ => cases h | _ => rfl
theorem two_of {ds : List D} (h : ds.length = 2) : ∃ a b, ds = [a, b] := by
  match ds, h with
  | [a, b], _ => exact ⟨a, b, rfl⟩
theorem i_frac (h : TgK 10000000000000000000000000000000000000000 (C "Grid") x) : g_is_fraction C [.d x] S = some (.ok (.d (.bl (fracB x))), S) := by
  rw [q_is_fraction, F_is_fraction]
  rcases tup_or C S h with ⟨ds, rfl, hl, hd⟩ | ⟨e, hx⟩
  · by_cases h2 : ds.length = 2
    · obtain ⟨a, b, rfl⟩ := two_of h2
      have c2 : ((2 : Nat) : Int) = 2 := rfl
      have ea := i_int C S (hd a (by simp)).tg
      have eb := i_int C S (hd b (by simp)).tg
      by_cases ha : intB a = true
      · by_cases hb : intB b = true
        · obtain ⟨t, rfl⟩ := intB_of ha
          obtain ⟨u, rfl⟩ := intB_of hb
          have ed := e_divisor C
          have ef : fracB (.tup [.int t, .int u]) = (decide (1 ≤ u) && decide (gcd t u = 1)) := rfl
          have eg : (gcd t u == 1) = decide (gcd t u = 1) := rfl
          rw [ef]
          clear h hl hd h2 ef
          by_cases h1 : 1 ≤ u
          · have d1 := decide_eq_true h1
            rw [d1, Bool.true_and]
            clear h1
            walk_at "evh"
          · have d1 := decide_eq_false h1
            rw [d1, Bool.false_and]
            clear h1
            walk_at "evh"
        · have hb' : intB b = false := by simpa using hb
          have ef := fracB_two (a := a) (b := b) (.inr hb')
          clear h hl hd h2 hb
          walk_at "evh"
      · have ha' : intB a = false := by simpa using ha
        have ef := fracB_two (a := a) (b := b) (.inl ha')
        clear h hl hd h2 ha
        walk_at "evh"
    · have ef := fracB_len h2
      have en : ((ds.length : Int) == 2) = false := by simp; omega
      clear h hl hd h2
      walk_at "evh"
  · have ef := fracB_no hx
    clear h
    walk_at "evh"
theorem i_law_frac (h : TgK 10000000000000000000000000000000000000000 (C "Grid") x) : g__law_is_fraction C [.d x] S = some (.ok (.d (.bl (fracB x))), S) := by
  rw [q__law_is_fraction, F__law_is_fraction]
  rcases tup_or C S h with ⟨ds, rfl, hl, hd⟩ | ⟨e, hx⟩
  · by_cases h2 : ds.length = 2
    · obtain ⟨a, b, rfl⟩ := two_of h2
      have c2 : ((2 : Nat) : Int) = 2 := rfl
      have ea := i_law_int C S (hd a (by simp)).tg
      have eb := i_law_int C S (hd b (by simp)).tg
      by_cases ha : intB a = true
      · by_cases hb : intB b = true
        · obtain ⟨t, rfl⟩ := intB_of ha
          obtain ⟨u, rfl⟩ := intB_of hb
          have bu := h.pair.2
          have ef : fracB (.tup [.int t, .int u]) = (decide (1 ≤ u) && decide (gcd t u = 1)) := rfl
          rw [ef]
          by_cases h1 : 1 ≤ u
          · have d1 := decide_eq_true h1
            have d2 : decide (u < 1) = false := by simp; omega
            have el := e_law_low C S (t := t) (b := u) (n := 134) (by omega) (by unfold Bd; omega) (by decide) (by decide)
            have ek : oEq (.d (encF (low t u))) (.d (.tup [.int t, .int u])) S = some (.ok (.d (.bl (decide (gcd t u = 1)))), S) := by
              have z := eqE_F.oEq (by decide) (low t u) (t, u) (S := S)
              rw [low_same h1] at z
              exact z
            rw [d1, Bool.true_and]
            clear h hl hd h2 ef h1 bu d1
            walk_at "evh"
          · have d1 := decide_eq_false h1
            have d2 : decide (u < 1) = true := by simp; omega
            rw [d1, Bool.false_and]
            clear h hl hd h2 ef h1 bu d1
            walk_at "evh"
        · have hb' : intB b = false := by simpa using hb
          have ef := fracB_two (a := a) (b := b) (.inr hb')
          clear h hl hd h2 hb
          walk_at "evh"
      · have ha' : intB a = false := by simpa using ha
        have ef := fracB_two (a := a) (b := b) (.inl ha')
        clear h hl hd h2 ha
        walk_at "evh"
    · have ef := fracB_len h2
      have en : ((ds.length : Int) == 2) = false := by simp; omega
      clear h hl hd h2
      walk_at "evh"
  · have ef := fracB_no hx
    clear h
    walk_at "evh"
theorem i_unit_of (n : Int) (h : TgK 10000000000000000000000000000000000000000 (C "Grid") x) : g_is_unit_of C [.d (.int n), .d x] S = some (.ok (.d (.bl (unitB n x))), S) := by
  rw [q_is_unit_of, F_is_unit_of]
  rcases tup_or C S h with ⟨ds, rfl, hl, hd⟩ | ⟨e, hx⟩
  · have a : ∀ δ2, dLc lcF (dSeq (dVar 1)) (tgN 2) ftYes (dCall 1 (g_is_fraction C) (aCons (dVar 2) aNil)) [2] [some (.d (.int n)), some (.d (.tup ds)), δ2] S = some (.ok (.d (.lst (ds.map fun d => D.bl (fracB d)))), S) := fun δ2 =>
      dLc_map (wf := W.d) (f := fun d => D.bl (fracB d)) (dSeq_tup rfl) (by omega) fun d hd' => by
        have e := i_frac C S (hd d hd').tg
        refine ⟨_, rfl, ?_⟩
        clear h hl hd hd'
        walk_at "evh"
    have al := all_lst (S := S) fracB ds
    have eu : unitB n (.tup ds) = (decide ((ds.length : Int) = n) && ds.all fracB) := rfl
    have eb : ((ds.length : Int) == n) = decide ((ds.length : Int) = n) := rfl
    rw [eu]
    clear h hl hd eu
    cases hn : decide ((ds.length : Int) = n) with
    | true => walk_at "evh"; rfl
    | false => walk_at "evh"; rfl
  · have ef := unitB_no (n := n) hx
    clear h
    walk_at "evh"
theorem i_law_unit (n : Int) (h : TgK 10000000000000000000000000000000000000000 (C "Grid") x) : g__law_is_unit C [.d (.int n), .d x] S = some (.ok (.d (.bl (unitB n x))), S) := by
  rw [q__law_is_unit, F__law_is_unit]
  rcases tup_or C S h with ⟨ds, rfl, hl, hd⟩ | ⟨e, hx⟩
  · have a : ∀ δ2, dLc lcF (dSeq (dVar 1)) (tgN 2) ftYes (dCall 1 (g__law_is_fraction C) (aCons (dVar 2) aNil)) [2] [some (.d (.int n)), some (.d (.tup ds)), δ2] S = some (.ok (.d (.lst (ds.map fun d => D.bl (fracB d)))), S) := fun δ2 =>
      dLc_map (wf := W.d) (f := fun d => D.bl (fracB d)) (dSeq_tup rfl) (by omega) fun d hd' => by
        have e := i_law_frac C S (hd d hd').tg
        refine ⟨_, rfl, ?_⟩
        clear h hl hd hd'
        walk_at "evh"
    have al := all_lst (S := S) fracB ds
    have eu : unitB n (.tup ds) = (decide ((ds.length : Int) = n) && ds.all fracB) := rfl
    have eb : ((ds.length : Int) == n) = decide ((ds.length : Int) = n) := rfl
    rw [eu]
    clear h hl hd eu
    cases hn : decide ((ds.length : Int) = n) with
    | true => walk_at "evh"; rfl
    | false => walk_at "evh"; rfl
  · have ef := unitB_no (n := n) hx
    clear h
    walk_at "evh"
end
abbrev bad (x : Str) (S : Store) : Rs W := some (.error ⟨x, [], []⟩, S)
section
variable (C : Str → Addr) (S : Store) {x y : D}
theorem i_above (h : Tk 10000000000000000000000000000000000000000 (C "Grid") x) : g_is_above C [.d x] S = some (.ok (.d (.bl (aboveB x))), S) := by
  have e := i_frac C S h.tg
  rw [q_is_above, F_is_above]
  by_cases hf : fracB x = true
  · obtain ⟨p, rfl, hp⟩ := fracB_of hf
    have ea : aboveB (encF p) = (fracB (encF p) && decide (0 < p.1)) := rfl
    rw [ea, hf, Bool.true_and]
    clear h ea
    walk_at "evh"
  · have hf' : fracB x = false := by simpa using hf
    have ea : aboveB x = false := by
      cases hx : aboveB x with
      | false => rfl
      | true => obtain ⟨p, rfl, hp, _⟩ := aboveB_of hx; rw [fracB_F hp] at hf'; cases hf'
    clear h hf
    walk_at "evh"
theorem c_roots (n : Int) (h : TgK 10000000000000000000000000000000000000000 (C "Grid") x) : g_check_roots C [.d (.int n), .d x] S = if rootsB n x = true then some (.ok (.d .non), S) else bad "NoRoots" S := by
  rw [q_check_roots, F_check_roots]
  rcases tup_or C S h with ⟨ds, rfl, hl, hd⟩ | ⟨e, hx⟩
  · have a : ∀ δ2, dLc lcF (dSeq (dVar 1)) (tgN 2) ftYes (dCall 1 (g_is_above C) (aCons (dVar 2) aNil)) [2] [some (.d (.int n)), some (.d (.tup ds)), δ2] S = some (.ok (.d (.lst (ds.map fun d => D.bl (aboveB d)))), S) := fun δ2 =>
      dLc_map (wf := W.d) (f := fun d => D.bl (aboveB d)) (dSeq_tup rfl) (by omega) fun d hd' => by
        have e := i_above C S (hd d hd')
        refine ⟨_, rfl, ?_⟩
        clear h hl hd hd'
        walk_at "evh"
    have al := all_lst (S := S) aboveB ds
    have eu : rootsB n (.tup ds) = (decide ((ds.length : Int) = n) && ds.all aboveB) := rfl
    have eb : ((ds.length : Int) == n) = decide ((ds.length : Int) = n) := rfl
    rw [eu]
    clear h hl hd eu
    cases hn : decide ((ds.length : Int) = n) with
    | true =>
      cases ha : ds.all aboveB with
      | true =>
        rw [Bool.true_and, if_pos rfl]
        walk_at "evh"
      | false =>
        rw [Bool.true_and, if_neg Bool.false_ne_true]
        walk_at "evh"
    | false =>
      rw [Bool.false_and, if_neg Bool.false_ne_true]
      walk_at "evh"
  · have ef := rootsB_no (n := n) hx
    rw [ef, if_neg Bool.false_ne_true]
    clear h
    walk_at "evh"
end
theorem e_is_integer (C : Str → Addr) (S : Store) (i : Int) : g_is_integer C [.d (.int i)] S = some (.ok (.d (.bl true)), S) := i_int C S (.inr ⟨i, rfl⟩)
theorem e_is_fraction (C : Str → Addr) (S : Store) {p : Int × Int} (h : Fr p) : g_is_fraction C [.d (encF p)] S = some (.ok (.d (.bl true)), S) := by
  rw [q_is_fraction, F_is_fraction]
  have e1 := e_is_integer C
  have e2 := e_divisor C
  have d1 : decide ((1 : Int) ≤ p.2) = true := by have := h.1; simp; omega
  have g1 : gcd p.1 p.2 = 1 := by unfold gcd; rw [h.2]; rfl
  clear h
  walk_at "evh"
theorem e_is_unit_of (C : Str → Addr) (S : Store) {us : List (Int × Int)} (h : ∀ p ∈ us, Fr p) (hl : us.length ≤ 3) : g_is_unit_of C [.d (.int (us.length : Int)), .d (encU us)] S = some (.ok (.d (.bl true)), S) := by
  rw [q_is_unit_of, F_is_unit_of]
  have e : ∀ δ2, dLc lcF (dSeq (dVar 1)) (tgN 2) ftYes (dCall 1 (g_is_fraction C) (aCons (dVar 2) aNil)) [2] [some (.d (.int (us.length : Int))), some (.d (encU us)), δ2] S = some (.ok (.d (.lst (us.map fun _ => D.bl true))), S) := fun δ2 =>
    dLc_map (wf := fun p => W.d (encF p)) (f := fun _ => D.bl true) (seqU rfl) (by omega) fun p hp => by
      have e := e_is_fraction C S (h p hp)
      refine ⟨_, rfl, ?_⟩
      walk_at "evh"
  have a := all_lst (S := S) (fun _ => true) us
  have t := all_true (xs := us)
  clear h hl
  walk_at "evh"
theorem e_is_within (C : Str → Addr) (S : Store) {i lo hi : Int} (h1 : lo ≤ i) (h2 : i ≤ hi) : g_is_within C [.d (.int i), .d (.int lo), .d (.int hi)] S = some (.ok (.d (.bl true)), S) := by
  rw [q_is_within, F_is_within]
  have e := e_is_integer C
  have d1 := decide_eq_true h1
  have d2 := decide_eq_true h2
  clear h1 h2
  walk_at "evh"
theorem e_is_part (C : Str → Addr) (S : Store) {ds : List D} (h1 : 1 ≤ ds.length) (h2 : ds.length ≤ 10) : g_is_part C [.d (.tup ds)] S = some (.ok (.d (.bl true)), S) := by
  rw [q_is_part, F_is_part]
  have d1 : decide ((1 : Int) ≤ (ds.length : Int)) = true := by simp; omega
  have d2 : decide ((ds.length : Int) ≤ 10) = true := by simp; omega
  clear h1 h2
  walk_at "evh"
theorem e_multiple (C : Str → Addr) (S : Store) {a b : Int} (h0 : 0 < b) (ha : Bd 8 a) (hb : Bd 8 b) : g_multiple C [.d (.int a), .d (.int b)] S = some (.ok (.d (.int (lcmI a b))), S) := by
  rw [q_multiple, F_multiple]
  have e := e_divisor C
  have c1 := gcd_div (t := a) h0 hb (by decide) (by decide) a
  have c2 : CMulW (a / gcd a b) b := (ha.le (Int.natAbs_ediv_le_natAbs _ _)).mulOk hb
  clear h0 ha hb
  walk_at "evh"
  rfl
theorem e_is_cell (C : Str → Addr) (S : Store) {b : Nat} {c : Option Unit'} (b3 : b ≤ 3) (h : CellOk b c) : g_is_cell C [.d (.int (b : Int)), .d (encC c)] S = some (.ok (.d (.bl true)), S) := by
  rw [q_is_cell, F_is_cell]
  cases c with
  | none =>
    have e : encC none = .non := rfl
    walk_at "evh"
  | some us =>
    obtain ⟨hl, hu⟩ := h
    have e : encC (some us) = encU us := rfl
    have u := e_is_unit_of C S (us := us) (fun p hp => (hu p hp).1.fr) (by omega)
    rw [hl] at u
    have a : ∀ x2 x3, dLc lcF (dSeq (dVar 1)) (tgT 2 (tgCons (tgN 2) (tgCons (tgN 3) tgNil))) ftYes (dAndV (d2 oLe (dCB (b1 oAbs) (aCons (dVar 2) aNil)) (dC (.int 6))) (d2 oLe (dVar 3) (dC (.int 4)))) [2, 3] [some (.d (.int (b : Int))), some (.d (encU us)), x2, x3] S = some (.ok (.d (.lst (us.map fun _ => D.bl true))), S) := fun x2 x3 =>
      dLc_map (wf := fun p => W.d (encF p)) (f := fun _ => D.bl true) (seqU rfl) (by omega) fun p hp => by
        have d1 : decide ((p.1.natAbs : Int) ≤ 6) = true := by have := (hu p hp).2.1; simp; omega
        have d2 : decide (p.2 ≤ 4) = true := by simpa using (hu p hp).2.2
        have a1 := abs_nat p.1
        refine ⟨_, rfl, ?_⟩
        clear hu u hp
        walk_at "evh"
    have al := all_lst (S := S) (fun _ => true) us
    have t := all_true (xs := us)
    clear hl hu b3
    walk_at "evh"
theorem e_check_rows (C : Str → Addr) (S : Store) {b m n : Nat} {rs : List (List (Option Unit'))} (b3 : b ≤ 3) (m1 : 1 ≤ m) (m10 : m ≤ 10) (n1 : 1 ≤ n) (n10 : n ≤ 10) (h : RowsOk b m n rs) : g_check_rows C [.d (.int (b : Int)), .d (encR rs)] S = some (.ok (.d .non), S) := by
  have hl := h.1
  have hr0 : 0 < rs.length := by omega
  have l0 : (rs[0].length : Int) = (n : Int) := by rw [(h.2 _ (List.getElem_mem hr0)).1]
  have en : oEnum [.d (encR rs)] S = some (.ok (rs.zipIdx.map fun p => W.d (.tup [.int (p.2 : Int), encRow p.1]), none), S) := enum_enc encRow rs
  have i0 := ix_rows0 (S := S) hr0
  have lr := fun r => len_row (S := S) r
  rw [q_check_rows, F_check_rows]
  obtain ⟨δ1, f1, x2, x3, x4, x5, rfl⟩ := dFor_inv (fi := dIt oEnum (aCons (dVar 1) aNil)) (tf := tgT 2 (tgCons (tgN 2) (tgCons (tgN 3) tgNil))) (fb := sIf (dOr (dNot (dTru (dCall 1 (g_is_part C) (aCons (dVar 3) (aNil))))) (dB (d2 oNe (dCB (b1 oLen) (aCons (dVar 3) (aNil))) (dCB (b1 oLen) (aCons (d2 oIx (dVar 1) (dC (.int 0))) (aNil)))))) sNever sNx) (S := S)
    (wf := fun p : List (Option Unit') × Nat => W.d (.tup [.int (p.2 : Int), encRow p.1])) (P := fun _ δ => ∃ x2 x3 x4 x5, δ = [some (.d (.int (b : Int))), some (.d (encR rs)), x2, x3, x4, x5]) (xs := rs.zipIdx) (δ := [some (.d (.int (b : Int))), some (.d (encR rs)), none, none, none, none]) (by walk_at "evh") (by
      rintro i hi δ ⟨x2, x3, x4, x5, rfl⟩
      have hi' : i < rs.length := by simpa using hi
      have q := (h.2 _ (List.getElem_mem hi')).1
      have ez : (rs.zipIdx)[i] = (rs[i], i) := by simp
      rw [ez]
      have p1 : g_is_part C [.d (encRow rs[i])] S = some (.ok (.d (.bl true)), S) := e_is_part C S (by simp [q]; omega) (by simp [q]; omega)
      have l1 : (rs[i].length : Int) = (n : Int) := by rw [q]
      refine ⟨_, _, rfl, ?_, some (.d (.int (i : Int))), some (.d (encRow rs[i])), x4, x5, rfl⟩
      clear h en b3 m1 m10 n1 n10 hl hi q ez
      walk_at "evh") ⟨none, none, none, none, rfl⟩
  obtain ⟨δ2, f2, y2, y3, y4, y5, rfl⟩ := dFor_inv (fi := dIt oEnum (aCons (dVar 1) aNil)) (tf := tgT 2 (tgCons (tgN 2) (tgCons (tgN 3) tgNil))) (fb := dFor (dIt oEnum (aCons (dVar 3) (aNil))) (tgT 2 (tgCons (tgN 4) (tgCons (tgN 5) (tgNil)))) (sIf (dNot (dTru (dCall 2 (g_is_cell C) (aCons (dVar 0) (aCons (dVar 5) (aNil)))))) (sNever) (sNx))) (S := S)
    (wf := fun p : List (Option Unit') × Nat => W.d (.tup [.int (p.2 : Int), encRow p.1])) (P := fun _ δ => ∃ x2 x3 x4 x5, δ = [some (.d (.int (b : Int))), some (.d (encR rs)), x2, x3, x4, x5]) (xs := rs.zipIdx) (δ := [some (.d (.int (b : Int))), some (.d (encR rs)), x2, x3, x4, x5]) (by walk_at "evh") (by
      rintro i hi δ ⟨x2, x3, x4, x5, rfl⟩
      have hi' : i < rs.length := by simpa using hi
      have q := (h.2 _ (List.getElem_mem hi')).2
      have ez : (rs.zipIdx)[i] = (rs[i], i) := by simp
      rw [ez]
      have er : oEnum [.d (encRow rs[i])] S = some (.ok (rs[i].zipIdx.map fun p => W.d (.tup [.int (p.2 : Int), encC p.1]), none), S) := enum_enc encC rs[i]
      generalize rs[i] = r at *
      obtain ⟨δ3, f3, z4, z5, rfl⟩ := dFor_inv (fi := dIt oEnum (aCons (dVar 3) (aNil))) (tf := tgT 2 (tgCons (tgN 4) (tgCons (tgN 5) (tgNil)))) (fb := sIf (dNot (dTru (dCall 2 (g_is_cell C) (aCons (dVar 0) (aCons (dVar 5) (aNil)))))) sNever sNx) (S := S)
        (wf := fun p : Option Unit' × Nat => W.d (.tup [.int (p.2 : Int), encC p.1])) (P := fun _ δ => ∃ x4 x5, δ = [some (.d (.int (b : Int))), some (.d (encR rs)), some (.d (.int (i : Int))), some (.d (encRow r)), x4, x5]) (xs := r.zipIdx) (δ := [some (.d (.int (b : Int))), some (.d (encR rs)), some (.d (.int (i : Int))), some (.d (encRow r)), x4, x5]) (by clear h en q ez lr f1; walk_at "evh") (by
          rintro j hj δ ⟨x4, x5, rfl⟩
          have hj' : j < r.length := by simpa using hj
          have ej : (r.zipIdx)[j] = (r[j], j) := by simp
          rw [ej]
          have c1 := e_is_cell C S b3 (q _ (List.getElem_mem hj'))
          refine ⟨_, _, rfl, ?_, some (.d (.int (j : Int))), some (.d (encC r[j])), rfl⟩
          clear h en q ez er lr ej b3 m1 m10 n1 n10 hl l0 i0 f1
          walk_at "evh") ⟨x4, x5, rfl⟩
      exact ⟨_, _, rfl, f3, some (.d (.int (i : Int))), some (.d (encRow r)), z4, z5, rfl⟩) ⟨x2, x3, x4, x5, rfl⟩
  clear h en lr i0 b3 m1 m10 n1 n10 hl l0
  walk_at "evh"
theorem e_init (C : Str → Addr) (S : Store) {b m n : Nat} {rs : List (List (Option Unit'))} (h : GrOk b m n rs) : g_Grid__init__ C [.loc S.length, .d (.int (b : Int)), .d (encR rs)] (S ++ [.ins (C "Grid") [] []]) = some (.ok (.d .non), S ++ [.ins (C "Grid") ["bases", "rows"] [.d (.int (b : Int)), .d (encR rs)]]) := by
  obtain ⟨b1, b3, m1, m10, n1, n10, hr⟩ := h
  have e1 := fun S => e_is_within C S (i := (b : Int)) (lo := 1) (hi := 3) (by omega) (by omega)
  have e2 : ∀ S, g_is_part C [.d (encR rs)] S = some (.ok (.d (.bl true)), S) := fun S => e_is_part C S (by simp [hr.1]; omega) (by simp [hr.1]; omega)
  have e3 := fun S => e_check_rows C S b3 m1 m10 n1 n10 hr
  have p1 : putM (C "Grid") "bases" (.loc S.length) (.d (.int (b : Int))) (S ++ [.ins (C "Grid") [] []]) = some (S ++ [.ins (C "Grid") ["bases"] [.d (.int (b : Int))]]) := put_last (by simp) (by simp)
  have p2 : putM (C "Grid") "rows" (.loc S.length) (.d (encR rs)) (S ++ [.ins (C "Grid") ["bases"] [.d (.int (b : Int))]]) = some (S ++ [.ins (C "Grid") ["bases", "rows"] [.d (.int (b : Int)), .d (encR rs)]]) := put_last (by decide) (by simp)
  have gv : giveS (S ++ [.ins (C "Grid") [] []]) (.d .non) (S ++ [.ins (C "Grid") ["bases", "rows"] [.d (.int (b : Int)), .d (encR rs)]]) = some (.ok (.d .non), S ++ [.ins (C "Grid") ["bases", "rows"] [.d (.int (b : Int)), .d (encR rs)]]) := giveS_last (by
    intro w hw
    simp at hw
    rcases hw with rfl | rfl <;> trivial)
  rw [q_Grid__init__, F_Grid__init__]
  clear hr b1 b3 m1 m10 n1 n10
  walk_at "evh"
theorem e_make (C : Str → Addr) (S : Store) {b m n : Nat} {rs : List (List (Option Unit'))} (h : GrOk b m n rs) : mkIns (C "Grid") S (g_Grid__init__ C [.loc S.length, .d (.int (b : Int)), .d (encR rs)] (S ++ [.ins (C "Grid") [] []])) = some (.ok (.d (gridD C b rs)), S) := by
  rw [e_init C S h, mkIns_two rfl]
  rfl
theorem e_sizes_of (C : Str → Addr) (S : Store) {b m n : Nat} {rs : List (List (Option Unit'))} (h : GrOk b m n rs) : g_sizes_of C [.d (gridD C b rs)] S = some (.ok (.d (.tup [.int (m : Int), .int (n : Int)])), S) := by
  have f := fld_rows C S (b := b) (rs := rs)
  have i0 := ix_rows0 (S := S) h.lt
  have l1 := len_rows (S := S) rs
  have l2 := len_row (S := S) (rs[0]'h.lt)
  rw [(h.rows.2 _ (List.getElem_mem h.lt)).1] at l2
  rw [h.rows.1] at l1
  rw [q_sizes_of, F_sizes_of]
  walk_at "evh"
theorem e_check_cell (C : Str → Addr) (S : Store) {m n i j : Nat} (hi : i < m) (hj : j < n) : g_check_cell C [.d (.tup [.int (m : Int), .int (n : Int)]), .d (.int (i : Int)), .d (.int (j : Int))] S = some (.ok (.d .non), S) := by
  have e1 := e_is_within C S (i := (i : Int)) (lo := 0) (hi := (m : Int) - 1) (by omega) (by omega)
  have e2 := e_is_within C S (i := (j : Int)) (lo := 0) (hi := (n : Int) - 1) (by omega) (by omega)
  rw [q_check_cell, F_check_cell]
  clear hi hj
  walk_at "evh"
theorem e_cell (C : Str → Addr) (S : Store) {b m n i j : Nat} {rs : List (List (Option Unit'))} (h : GrOk b m n rs) (hi : i < rs.length) (hj : j < rs[i].length) : g_cell C [.d (gridD C b rs), .d (.int (i : Int)), .d (.int (j : Int))] S = some (.ok (.d (encC rs[i][j])), S) := by
  have e1 := e_sizes_of C S h
  have e2 := e_check_cell C S (m := m) (n := n) (i := i) (j := j) (by rw [← h.rows.1]; exact hi) (by rw [← (h.rows.2 _ (List.getElem_mem hi)).1]; exact hj)
  have f := fld_rows C S (b := b) (rs := rs)
  have x1 := ix_rows (S := S) hi
  have x2 := ix_row (S := S) hj
  rw [q_cell, F_cell]
  clear h
  walk_at "evh"
theorem e_with_cell (C : Str → Addr) (S : Store) {rs : List (List (Option Unit'))} {i j : Nat} {c : Option Unit'} (hi : i < rs.length) (hj : j < rs[i].length) (h1 : rs.length ≤ 10) (h2 : rs[i].length ≤ 10) : g_with_cell C [.d (encR rs), .d (.int (i : Int)), .d (.int (j : Int)), .d (encC c)] S = some (.ok (.d (encR (setC rs i j c))), S) := by
  obtain ⟨a1, a2, a3, a4, a5, a6, a7, a8⟩ := with_core (S := S) (c := c) hi hj h1 h2
  have x1 := ix_rows (S := S) hi
  rw [q_with_cell, F_with_cell]
  clear h1 h2
  walk_at "evh"
theorem e_retold (C : Str → Addr) (S : Store) {b m n i j : Nat} {rs : List (List (Option Unit'))} {c : Option Unit'} (h : GrOk b m n rs) (hi : i < rs.length) (hj : j < rs[i].length) (hc : CellOk b c) : g_retold C [.d (gridD C b rs), .d (.int (i : Int)), .d (.int (j : Int)), .d (encC c)] S = some (.ok (.d (gridD C b (setC rs i j c))), S) := by
  have q := h.rows.2 _ (List.getElem_mem hi)
  have e1 := e_sizes_of C S h
  have e2 := e_check_cell C S (m := m) (n := n) (i := i) (j := j) (by rw [← h.rows.1]; exact hi) (by rw [← q.1]; exact hj)
  have f := fld_rows C S (b := b) (rs := rs)
  have f2 := fld_bases C S (b := b) (rs := rs)
  have e3 := e_is_cell C S h.b3 hc
  have e4 := e_with_cell C S (c := c) hi hj (by rw [h.rows.1]; exact h.m10) (by rw [q.1]; exact h.n10)
  have e5 := e_make C S (h.set (i := i) (j := j) hc)
  rw [q_retold, F_retold]
  clear h hc q
  walk_at "evh"
theorem e_units_in (C : Str → Addr) (S : Store) {b m n : Nat} {rs : List (List (Option Unit'))} (h : GrOk b m n rs) : g_units_in C [.d (gridD C b rs)] S = some (.ok (.d (.lst ((unitsR rs).map encU))), S) := by
  rw [q_units_in, F_units_in]
  have f := fun S => fld_rows C S (b := b) (rs := rs)
  have hm := h.m10
  have hl := h.rows.1
  have hn := h.n10
  have hr := h.rows.2
  have k : mkLoc [] S = some (.ok (.loc S.length), S ++ [.lst []]) := rfl
  have sq : dSeq (dFld (C "Grid") "rows" (dVar 0)) [some (.d (gridD C b rs)), some (.loc S.length), none, none] (S ++ [.lst []]) = some (.ok (rs.map fun r => W.d (encRow r), none), S ++ [.lst []]) := by
    rw [dSeq_tup (ds := rs.map encRow) (S1 := S ++ [.lst []]) (by have f2 := f (S ++ [.lst []]); have e : encR rs = .tup (rs.map encRow) := rfl; rw [← e]; clear hm hl hn hr h; walk_at "evh")]
    simp
  obtain ⟨δ', S', hf, G, x2, x3, rfl, rfl⟩ := dFor_invS (fi := dSeq (dFld (C "Grid") "rows" (dVar 0))) (tf := tgN 2) (fb := sDrop (dExt (dVar 1) (dLc lcM (dSeq (dVar 2)) (tgN 3) (dB (d2 oNotN (dVar 3) (dC .non))) (dVar 3) [3])))
    (wf := fun r => W.d (encRow r)) (P := fun i δ S' => ∃ G x2 x3, S' = S ++ .lst (((unitsR (rs.take i)).map encU).map W.d) :: G ∧ δ = [some (.d (gridD C b rs)), some (.loc S.length), x2, x3]) (xs := rs) sq (by
      rintro i hi δ S1 ⟨G, x2, x3, rfl, rfl⟩
      have q := hr _ (List.getElem_mem hi)
      have e1 : unitsR (rs.take (i + 1)) = unitsR (rs.take i) ++ rs[i].filterMap id := by
        unfold unitsR
        rw [List.take_succ_eq_append_getElem hi, List.flatMap_append]
        simp
      have l1 : (unitsR (rs.take i)).length ≤ i * 10 := by
        refine Nat.le_trans (unitsR_len (n := 10) fun r hr' => ?_) (by rw [List.length_take]; exact Nat.mul_le_mul_right _ (Nat.min_le_left _ _))
        rw [(hr r (List.mem_of_mem_take hr')).1]; exact hn
      have l2 := row_len (r := rs[i])
      have lc : dLc lcM (dSeq (dVar 2)) (tgN 3) (dB (d2 oNotN (dVar 3) (dC .non))) (dVar 3) [3] [some (.d (gridD C b rs)), some (.loc S.length), some (.d (encRow rs[i])), x3] (S ++ .lst (((unitsR (rs.take i)).map encU).map W.d) :: G) = some (.ok (.loc (S ++ .lst (((unitsR (rs.take i)).map encU).map W.d) :: G).length), (S ++ .lst (((unitsR (rs.take i)).map encU).map W.d) :: G) ++ [.lst (((rs[i].filterMap id).map encU).map W.d)]) := by
        generalize S ++ M.lst (((unitsR (rs.take i)).map encU).map W.d) :: G = S2
        rw [dLc_filter (xs := rs[i]) (wf := fun c => W.d (encC c)) (q := fun c => c.isSome) (f := fun c => W.d (encC c)) (by
          rw [dSeq_tup (ds := rs[i].map encC) (S := S2) (S1 := S2) rfl]
          simp) (by omega) (by
          intro c _
          refine ⟨_, rfl, ?_, fun _ => rfl⟩
          cases c with
          | none => rfl
          | some u => rfl)]
        rw [row_filter]
        rfl
      have ex := ext_own (S := S) (G := G) (us := (unitsR (rs.take i)).map encU) (vs := (rs[i].filterMap id).map encU) (by simp; omega)
      have il := isLst_own (S := S) (G := G) (ws := ((unitsR (rs.take i)).map encU).map W.d)
      refine ⟨_, _, _, _, rfl, ?_, G ++ [.lst (((rs[i].filterMap id).map encU).map W.d)], some (.d (encRow rs[i])), x3, rfl, rfl⟩
      rw [e1, List.map_append]
      generalize (unitsR (rs.take i)).map encU = us at *
      unfold dExt
      clear hm hl hn hr h q e1 l1 l2 f k sq
      walk_at "evh") ⟨[], none, none, rfl, rfl⟩
  rw [List.take_length] at hf
  have gv := giveS_own (S := S) (ds := (unitsR rs).map encU) (G := G)
  clear hm hl hn hr h f sq
  walk_at "evh"
theorem e_bottom (C : Str → Addr) (S : Store) {b m n : Nat} {rs : List (List (Option Unit'))} (h : GrOk b m n rs) : g_bottom C [.d (gridD C b rs)] S = some (.ok (.d (.int ((unitsR rs).foldl lcmU 1))), S) := by
  rw [q_bottom, F_bottom]
  have eu := e_units_in C S h
  have hu : ∀ us ∈ unitsR rs, UnOk b us := fun us hus => by
    obtain ⟨r, hr, hm⟩ := List.mem_flatMap.mp hus
    obtain ⟨c, hc, e⟩ := List.mem_filterMap.mp hm
    have e' : c = some us := e
    subst e'
    exact (h.rows.2 r hr).2 _ hc
  have sq : dSeq (dCall 1 (g_units_in C) (aCons (dVar 0) (aNil))) [some (.d (gridD C b rs)), some (.d (.int 1)), none, none, none] S = some (.ok ((unitsR rs).map fun us => W.d (encU us), none), S) := by
    rw [dSeq_lst (ds := (unitsR rs).map encU) (S1 := S) (by clear h hu; walk_at "evh")]
    simp
  generalize unitsR rs = uu at *
  obtain ⟨δ', hf, x2, x3, x4, rfl⟩ := dFor_inv (fi := dSeq (dCall 1 (g_units_in C) (aCons (dVar 0) (aNil)))) (tf := tgN 2) (fb := dFor (dSeq (dVar 2)) (tgT 2 (tgCons (tgN 3) (tgCons (tgN 4) (tgNil)))) (sSet 1 (dCall 2 (g_multiple C) (aCons (dVar 1) (aCons (dVar 4) (aNil)))))) (S := S)
    (wf := fun us => W.d (encU us)) (P := fun i δ => ∃ x2 x3 x4, δ = [some (.d (gridD C b rs)), some (.d (.int ((uu.take i).foldl lcmU 1))), x2, x3, x4]) (xs := uu) sq (by
      rintro i hi δ ⟨x2, x3, x4, rfl⟩
      have q := hu _ (List.getElem_mem hi)
      have i12 : In12 ((uu.take i).foldl lcmU 1) := foldl_inv (fun a us hus ha => in12_U ha (hu us (List.mem_of_mem_take hus))) (.inl rfl)
      rw [foldl_step hi]
      generalize (uu.take i).foldl lcmU 1 = a0 at *
      generalize uu[i] = us at *
      obtain ⟨δ2, hf2, y3, y4, rfl⟩ := dFor_inv (fi := dSeq (dVar 2)) (tf := tgT 2 (tgCons (tgN 3) (tgCons (tgN 4) (tgNil)))) (fb := sSet 1 (dCall 2 (g_multiple C) (aCons (dVar 1) (aCons (dVar 4) (aNil))))) (S := S)
        (wf := fun p => W.d (encF p)) (P := fun j δ => ∃ x3 x4, δ = [some (.d (gridD C b rs)), some (.d (.int ((us.take j).foldl (fun a p => lcmI a p.2) a0))), some (.d (encU us)), x3, x4]) (xs := us) (δ := [some (.d (gridD C b rs)), some (.d (.int a0)), some (.d (encU us)), x3, x4]) (seqU rfl) (by
          rintro j hj δ ⟨x3, x4, rfl⟩
          have p := q.2 _ (List.getElem_mem hj)
          have j12 : In12 ((us.take j).foldl (fun a p => lcmI a p.2) a0) := foldl_inv (fun a z hz ha => in12_lcm ha (q.2 z (List.mem_of_mem_take hz)).1.fr.1 (q.2 z (List.mem_of_mem_take hz)).2.2) i12
          rw [foldl_step hj]
          generalize (us.take j).foldl (fun a p => lcmI a p.2) a0 = a1 at *
          generalize us[j] = z at *
          have e := e_multiple C S p.1.fr.1 (j12.bd.up (by decide)) (p.1.b2.up (by decide))
          refine ⟨_, _, rfl, ?_, some (.d (.int z.1)), some (.d (.int z.2)), rfl⟩
          clear h hu sq eu q p i12 j12
          walk_at "evh") ⟨x3, x4, rfl⟩
      rw [List.take_length] at hf2
      exact ⟨_, _, rfl, hf2, some (.d (encU us)), y3, y4, rfl⟩) ⟨none, none, none, rfl⟩
  rw [List.take_length] at hf
  clear h hu sq eu
  walk_at "evh"
theorem e_law_cell (C : Str → Addr) (T : Store) {m : M} (hm : DrSt m) {b : Nat} {sh : Int} (b1 : 1 ≤ b) (b3 : b ≤ 3) (s1 : 0 < sh) (s9 : Bd 200 sh) : ∃ c m', g__law_cell C [.loc 0, .d (.int (b : Int)), .d (.int sh)] (m :: T) = some (.ok (.d (encC c)), m' :: T) ∧ CellOk b c ∧ DrSt m' := by
  obtain ⟨r, m1, e1, r0, r1, h1⟩ := e_draw C T hm s1 s9
  rw [q__law_cell, F__law_cell]
  by_cases hr : r = 0
  · subst hr
    have gv := fun x => giveS_hd0 (m := m) (T := T) (x := x) (h1.below (n := (m :: T).length))
    refine ⟨none, m1, ?_, trivial, h1⟩
    have e : encC none = .non := rfl
    clear r0 r1 s1 s9 b1 b3
    walk_at "evh"
  · obtain ⟨us, m2, e2, l2, u2, h2⟩ := e_law_unit C T h1 (b := (b : Int)) (by omega) (by omega)
    have gv := fun x => giveS_hd0 (m := m) (T := T) (x := x) (h2.below (n := (m :: T).length))
    refine ⟨some us, m2, ?_, ⟨by omega, u2⟩, h2⟩
    have e : encC (some us) = encU us := rfl
    have d : (r == 0) = false := by simpa using hr
    clear r0 r1 s1 s9 b1 b3 l2 u2 hr
    walk_at "evh"
theorem e_law_rows (C : Str → Addr) (T : Store) {m : M} (hm : DrSt m) {b k n : Nat} {sh : Int} (hb1 : 1 ≤ b) (b3 : b ≤ 3) (k9 : k ≤ 10) (n9 : n ≤ 10) (s1 : 0 < sh) (s9 : Bd 200 sh) :
    ∃ rs m', g__law_rows C [.loc 0, .d (.int (b : Int)), .d (.int (k : Int)), .d (.int (n : Int)), .d (.int sh)] (m :: T) = some (.ok (.d (encR rs)), m' :: T) ∧ RowsOk b k n rs ∧ DrSt m' := by
  have inner : ∀ (x5 : Option W) (m : M), DrSt m → ∃ (r : List (Option Unit')) (m' : M), dLc lcF (dIt oRng1 (aCons (dVar 3) (aNil))) (tgN 6) (ftYes) (dCall 3 (g__law_cell C) (aCons (dVar 0) (aCons (dVar 1) (aCons (dVar 4) (aNil))))) [6] [some (.loc 0), some (.d (.int (b : Int))), some (.d (.int (k : Int))), some (.d (.int (n : Int))), some (.d (.int sh)), x5, none] (m :: T) = some (.ok (.d (.lst (r.map encC))), m' :: T) ∧ r.length = n ∧ (∀ c ∈ r, CellOk b c) ∧ DrSt m' := fun x5 m hm =>
    dLc_draw encC (CellOk b) (by omega) hm (by
      have r2 := oRng1_eq (S := m :: T) (j := (n : Int)) (by omega) (by omega)
      rw [Int.toNat_natCast] at r2
      clear hm hb1 b3 k9 n9 s1 s9
      walk_at "evh") (fun w m hm => by
      obtain ⟨c, m', e, hc, h'⟩ := e_law_cell C T hm hb1 b3 s1 s9
      refine ⟨_, c, m', rfl, ?_, h', hc⟩
      clear hm h' hc hb1 b3 k9 n9 s1 s9
      walk_at "evh")
  obtain ⟨rs, m', e, hl, hr, h'⟩ := dLc_draw (fi := dIt oRng1 (aCons (dVar 2) (aNil))) (tf := tgN 5) (fe := dCB (b1 oTuple) (aCons (dLc lcF (dIt oRng1 (aCons (dVar 3) (aNil))) (tgN 6) (ftYes) (dCall 3 (g__law_cell C) (aCons (dVar 0) (aCons (dVar 1) (aCons (dVar 4) (aNil))))) [6]) (aNil))) (vs := [5]) (δ := [some (.loc 0), some (.d (.int (b : Int))), some (.d (.int (k : Int))), some (.d (.int (n : Int))), some (.d (.int sh)), none, none]) (T := T) (m := m) (n := k) encRow (fun r => r.length = n ∧ ∀ c ∈ r, CellOk b c) (by omega) hm (by
    have r2 := oRng1_eq (S := m :: T) (j := (k : Int)) (by omega) (by omega)
    rw [Int.toNat_natCast] at r2
    clear hm inner hb1 b3 k9 n9 s1 s9
    walk_at "evh") (fun w m hm => by
    obtain ⟨r, m', e, hl, hc, h'⟩ := inner (some w) m hm
    refine ⟨_, r, m', rfl, ?_, h', hl, hc⟩
    have er : D.tup (r.map encC) = encRow r := rfl
    clear hm inner h' hl hc hb1 b3 k9 n9 s1 s9
    walk_at "evh")
  have gv := fun x => giveS_hd0 (m := m) (T := T) (x := x) (h'.below (n := (m :: T).length))
  refine ⟨rs, m', ?_, ⟨hl, hr⟩, h'⟩
  have er : D.tup (rs.map encRow) = encR rs := rfl
  rw [q__law_rows, F__law_rows]
  clear inner hl hr hb1 b3 k9 n9 s1 s9 hm
  walk_at "evh"
end P07
set_option Elab.async false
set_option linter.all false
set_option maxRecDepth 100000
set_option maxHeartbeats 1000000
namespace P07
open PySem L2 DL
local macro_rules | `(tactic| walk_at "ev") => `(tactic| simp (config := { decide := false, implicitDefEqProofs := false }) only [bind_ok, bind_err, sE_ok, sE_err, bnd_nx, bnd_rt, bnd_bk, bnd_ct, bnd_err, sSeq_eq, dEnd_rt, dEnd_nx, dEnd_err, giveS_d, giveS_dA, giveS_nil,
  dVar, dC, d2, d1, dB, dChain, dAnd, dOr, dNot, dTru, dAndV, dOrV, dNotV, dIf, aNil, aCons, dTup, dLst, dLoc, dCall, dCB, b1, dIt, sNx, sBk, sCt, sRet, sRetN, sDrop, sSet, sIf, sPar, truth_bl, asB_bl, oI0_eq, oIsi, ty_int, ty_bl, ty_str, ty_non, ty_tup, ty_lst, isi_ii, isi_ib, isi_it, isi_tt, isi_ti, isi_tb,
  oAbs, oInt, oNeg, oEq_int, oNe_int, dFld, dSl, dPt, dNoPt, asPt_int, isN_non, isN_tup, isN_U, notN_non, notN_tup, notN_U, dMake, sFldPut,
  List.map_cons, List.map_nil, List.length_cons, List.length_nil, List.getElem?_cons_zero, List.getElem?_cons_succ, List.set_cons_zero, List.set_cons_succ, List.cons_append, List.nil_append, List.append_nil, Nat.reduceAdd, Nat.reduceSub, Nat.zero_add, if_true, if_false, Bool.not_true, Bool.not_false, Bool.false_eq_true, reduceIte, List.replicate_zero, List.replicate_succ, Nat.sub_self, beq_self_eq_true, Int.reduceLT, Int.reduceLE, Int.reduceAdd, Int.reduceSub, Int.reduceMul, Int.reduceNeg, Int.reducePow, Int.reduceToNat, Int.reduceEq, Int.reduceBEq, decide_true, decide_false, mkTup1, mkTup2, mkTup3, mkLst2, mkLst5, ix20, ix21, ixF0, ixF1, len_tup, len_lst, lenF, tyF, lenU, tyU, oEqF, oEqU, oNeU, zipU, tgN, tgT, tgCons, tgNil, wipeE, Option.bind_some, tuple_lst, list_lst, st0, st1, st2, st3, se1, se2, se3, giveS_st, tgIx, sAsg, Option.map_some, oMod_eq, isi_int', isi_bl', isi_str', isi_non', isi_tup', isi_lst', isi_dct', isi_U', isi_F', isi_ins', tc_int, tc_bool, tc_tuple, ty_dct, isi_bi, isi_bb, isi_bt, isi_si, isi_sb, isi_st, isi_ni, isi_nb, isi_nt, isi_li, isi_lb, isi_lt, isi_di, isi_db, isi_dt, sRaise, dDct, mkLoc2, mkLoc7, mkLoc8, mkLoc9, mkLoc11, mkLoc17, mkLoc25, mkLoc32, oCatL, mkTup4, mkLst4])
local macro_rules | `(tactic| walk_at "evh") => `(tactic| simp (config := { decide := false, implicitDefEqProofs := false }) only [bind_ok, bind_err, sE_ok, sE_err, bnd_nx, bnd_rt, bnd_bk, bnd_ct, bnd_err, sSeq_eq, dEnd_rt, dEnd_nx, dEnd_err, giveS_d, giveS_dA, giveS_nil,
  dVar, dC, d2, d1, dB, dChain, dAnd, dOr, dNot, dTru, dAndV, dOrV, dNotV, dIf, aNil, aCons, dTup, dLst, dLoc, dCall, dCB, b1, dIt, sNx, sBk, sCt, sRet, sRetN, sDrop, sSet, sIf, sPar, truth_bl, asB_bl, oI0_eq, oIsi, ty_int, ty_bl, ty_str, ty_non, ty_tup, ty_lst, isi_ii, isi_ib, isi_it, isi_tt, isi_ti, isi_tb,
  oAbs, oInt, oNeg, oEq_int, oNe_int, dFld, dSl, dPt, dNoPt, asPt_int, isN_non, isN_tup, isN_U, notN_non, notN_tup, notN_U, dMake, sFldPut,
  List.map_cons, List.map_nil, List.length_cons, List.length_nil, List.getElem?_cons_zero, List.getElem?_cons_succ, List.set_cons_zero, List.set_cons_succ, List.cons_append, List.nil_append, List.append_nil, Nat.reduceAdd, Nat.reduceSub, Nat.zero_add, if_true, if_false, Bool.not_true, Bool.not_false, Bool.false_eq_true, reduceIte, List.replicate_zero, List.replicate_succ, Nat.sub_self, beq_self_eq_true, Int.reduceLT, Int.reduceLE, Int.reduceAdd, Int.reduceSub, Int.reduceMul, Int.reduceNeg, Int.reducePow, Int.reduceToNat, Int.reduceEq, Int.reduceBEq, decide_true, decide_false, mkTup1, mkTup2, mkTup3, mkLst2, mkLst5, ix20, ix21, ixF0, ixF1, len_tup, len_lst, lenF, tyF, lenU, tyU, oEqF, oEqU, oNeU, zipU, tgN, tgT, tgCons, tgNil, wipeE, Option.bind_some, tuple_lst, list_lst, st0, st1, st2, st3, se1, se2, se3, giveS_st, tgIx, sAsg, Option.map_some, oMod_eq, isi_int', isi_bl', isi_str', isi_non', isi_tup', isi_lst', isi_dct', isi_U', isi_F', isi_ins', tc_int, tc_bool, tc_tuple, ty_dct, isi_bi, isi_bb, isi_bt, isi_si, isi_sb, isi_st, isi_ni, isi_nb, isi_nt, isi_li, isi_lb, isi_lt, isi_di, isi_db, isi_dt, sRaise, dDct, mkLoc2, mkLoc7, mkLoc8, mkLoc9, mkLoc11, mkLoc17, mkLoc25, mkLoc32, oCatL, mkTup4, mkLst4, oMul_eq, oDiv_eq, oPow_eq, *])
section
variable (C : Str → Addr) (S : Store) {x y : D} {b m n : Nat} {rs : List (List (Option Unit'))}
theorem plB_int {lo hi : Int} {x : D} (h : intB x = false) : plB lo hi x = false := by
  cases x with
  | int i => cases h
  | _ => rfl
theorem i_within (lo hi : Int) (h : TgK 10000000000000000000000000000000000000000 (C "Grid") x) : g_is_within C [.d x, .d (.int lo), .d (.int hi)] S = some (.ok (.d (.bl (plB lo hi x))), S) := by
  have e := i_int C S h
  rw [q_is_within, F_is_within]
  by_cases hi : intB x = true
  · obtain ⟨i, rfl⟩ := intB_of hi
    have ep : ∀ lo hi, plB lo hi (.int i) = (decide (lo ≤ i) && decide (i ≤ hi)) := fun _ _ => rfl
    rw [ep]
    clear h ep
    by_cases h1 : lo ≤ i
    · have d1 := decide_eq_true h1
      rw [d1, Bool.true_and]
      walk_at "evh"
    · have d1 := decide_eq_false h1
      rw [d1, Bool.false_and]
      walk_at "evh"
  · have hi' : intB x = false := by simpa using hi
    rw [plB_int hi']
    clear h hi
    walk_at "evh"
theorem i_law_place (n : Int) (h : TgK 10000000000000000000000000000000000000000 (C "Grid") x) : g__law_is_place C [.d x, .d (.int n)] S = some (.ok (.d (.bl (plB 0 (n - 1) x))), S) := by
  have e := i_law_int C S h
  rw [q__law_is_place, F__law_is_place]
  by_cases hi : intB x = true
  · obtain ⟨i, rfl⟩ := intB_of hi
    have ep : plB 0 (n - 1) (.int i) = (decide (0 ≤ i) && decide (i < n)) := by
      show (decide (0 ≤ i) && decide (i ≤ n - 1)) = _
      have : decide (i ≤ n - 1) = decide (i < n) := decide_eq_decide.mpr (by omega)
      rw [this]
    rw [ep]
    clear h ep
    by_cases h1 : 0 ≤ i
    · have d1 := decide_eq_true h1
      rw [d1, Bool.true_and]
      walk_at "evh"
    · have d1 := decide_eq_false h1
      rw [d1, Bool.false_and]
      walk_at "evh"
  · have hi' : intB x = false := by simpa using hi
    rw [plB_int hi']
    clear h hi
    walk_at "evh"
theorem cellB_no (h1 : x ≠ .non) (h : unitB (b : Int) x = false) : cellB (b : Int) x = false := by
  cases x with
  | non => exact absurd rfl h1
  | tup ds =>
    show (unitB (b : Int) (.tup ds) && ds.all smB) = false
    rw [h, Bool.false_and]
  | _ => rfl
theorem isN_no (h1 : x ≠ .non) : oIsN (.d x) (.d .non) S = some (.ok (.d (.bl false)), S) := by
  cases x with
  | non => exact absurd rfl h1
  | _ => rfl
theorem unitB_of {k : Int} (h : unitB k x = true) : ∃ us : Unit', x = encU us ∧ (us.length : Int) = k ∧ ∀ p ∈ us, Fr p := by
  cases x with
  | tup ds =>
    have h' : (decide ((ds.length : Int) = k) && ds.all fracB) = true := h
    rw [Bool.and_eq_true, decide_eq_true_eq] at h'
    obtain ⟨us, rfl, hu⟩ := all_frac h'.2
    exact ⟨us, rfl, by rw [← h'.1, List.length_map], hu⟩
  | _ => cases h
theorem cellB_U {us : Unit'} (h : unitB (b : Int) (encU us) = true) : cellB (b : Int) (encU us) = us.all fun p => decide ((p.1.natAbs : Int) ≤ 6) && decide (p.2 ≤ 4) := by
  show (unitB (b : Int) (encU us) && (us.map encF).all smB) = _
  rw [h, Bool.true_and, List.all_map]
  rfl
theorem i_cell (h : TgK 10000000000000000000000000000000000000000 (C "Grid") x) (b3 : b ≤ 3) : g_is_cell C [.d (.int (b : Int)), .d x] S = some (.ok (.d (.bl (cellB (b : Int) x))), S) := by
  have e := i_unit_of C S (b : Int) h
  rw [q_is_cell, F_is_cell]
  by_cases h0 : x = .non
  · subst h0
    have ec : cellB (b : Int) .non = true := rfl
    clear e
    walk_at "evh"
  · have en := isN_no S h0
    by_cases hu : unitB (b : Int) x = true
    · obtain ⟨us, rfl, hl, hf⟩ := unitB_of hu
      rw [cellB_U hu]
      have a : ∀ x2 x3, dLc lcF (dSeq (dVar 1)) (tgT 2 (tgCons (tgN 2) (tgCons (tgN 3) tgNil))) ftYes (dAndV (d2 oLe (dCB (b1 oAbs) (aCons (dVar 2) aNil)) (dC (.int 6))) (d2 oLe (dVar 3) (dC (.int 4)))) [2, 3] [some (.d (.int (b : Int))), some (.d (encU us)), x2, x3] S = some (.ok (.d (.lst (us.map fun p => D.bl (decide ((p.1.natAbs : Int) ≤ 6) && decide (p.2 ≤ 4))))), S) := fun x2 x3 =>
        dLc_map (wf := fun p => W.d (encF p)) (f := fun p => D.bl (decide ((p.1.natAbs : Int) ≤ 6) && decide (p.2 ≤ 4))) (seqU rfl) (by omega) fun p hp => by
          have a1 := abs_nat p.1
          refine ⟨_, rfl, ?_⟩
          clear h h0 hu hl hf hp en e
          cases d1 : decide ((p.1.natAbs : Int) ≤ 6) with
          | true => walk_at "evh"; rfl
          | false => walk_at "evh"; rfl
      have al := all_lst (S := S) (fun p : Int × Int => decide ((p.1.natAbs : Int) ≤ 6) && decide (p.2 ≤ 4)) us
      clear h h0 hl hf
      walk_at "evh"
    · have hu' : unitB (b : Int) x = false := by simpa using hu
      have ec := cellB_no h0 hu'
      clear h h0 hu
      walk_at "evh"
theorem i_law_cell (h : TgK 10000000000000000000000000000000000000000 (C "Grid") x) (b3 : b ≤ 3) : g__law_is_cell C [.d (.int (b : Int)), .d x] S = some (.ok (.d (.bl (cellB (b : Int) x))), S) := by
  have e := i_law_unit C S (b : Int) h
  rw [q__law_is_cell, F__law_is_cell]
  by_cases h0 : x = .non
  · subst h0
    have ec : cellB (b : Int) .non = true := rfl
    clear e
    walk_at "evh"
  · have en := isN_no S h0
    by_cases hu : unitB (b : Int) x = true
    · obtain ⟨us, rfl, hl, hf⟩ := unitB_of hu
      rw [cellB_U hu]
      have a : ∀ x2, dLc lcF (dSeq (dVar 1)) (tgN 2) (ftYes) (dAndV (d2 oLe (dCB (b1 oAbs) (aCons (d2 oIx (dVar 2) (dC (.int 0))) (aNil))) (dC (.int 6))) (d2 oLe (d2 oIx (dVar 2) (dC (.int 1))) (dC (.int 4)))) [2] [some (.d (.int (b : Int))), some (.d (encU us)), x2] S = some (.ok (.d (.lst (us.map fun p => D.bl (decide ((p.1.natAbs : Int) ≤ 6) && decide (p.2 ≤ 4))))), S) := fun x2 =>
        dLc_map (wf := fun p => W.d (encF p)) (f := fun p => D.bl (decide ((p.1.natAbs : Int) ≤ 6) && decide (p.2 ≤ 4))) (seqU rfl) (by omega) fun p hp => by
          have a1 := abs_nat p.1
          refine ⟨_, rfl, ?_⟩
          clear h h0 hu hl hf hp en e
          cases d1 : decide ((p.1.natAbs : Int) ≤ 6) with
          | true => walk_at "evh"; rfl
          | false => walk_at "evh"; rfl
      have al := all_lst (S := S) (fun p : Int × Int => decide ((p.1.natAbs : Int) ≤ 6) && decide (p.2 ≤ 4)) us
      clear h h0 hl hf
      walk_at "evh"
    · have hu' : unitB (b : Int) x = false := by simpa using hu
      have ec := cellB_no h0 hu'
      clear h h0 hu
      walk_at "evh"
/-! ### places -/
def atB (m n : Nat) (x y : D) : Bool := plB 0 ((m : Int) - 1) x && plB 0 ((n : Int) - 1) y
theorem i_check_cell (hx : TgK 10000000000000000000000000000000000000000 (C "Grid") x) (hy : TgK 10000000000000000000000000000000000000000 (C "Grid") y) : g_check_cell C [.d (.tup [.int (m : Int), .int (n : Int)]), .d x, .d y] S = if atB m n x y = true then some (.ok (.d .non), S) else bad "NoCell" S := by
  have e1 := i_within C S 0 ((m : Int) - 1) hx
  have e2 := i_within C S 0 ((n : Int) - 1) hy
  rw [q_check_cell, F_check_cell]
  unfold atB
  clear hx hy
  cases p1 : plB 0 ((m : Int) - 1) x with
  | true => cases p2 : plB 0 ((n : Int) - 1) y with
    | true =>
      rw [Bool.true_and, if_pos rfl]
      walk_at "evh"
    | false =>
      rw [Bool.true_and, if_neg Bool.false_ne_true]
      walk_at "evh"
  | false =>
    rw [Bool.false_and, if_neg Bool.false_ne_true]
    clear e2
    walk_at "evh"
theorem plB_of {lo hi : Int} (h : plB lo hi x = true) : ∃ i, x = .int i ∧ lo ≤ i ∧ i ≤ hi := by
  cases x with
  | int i =>
    have h' : (decide (lo ≤ i) && decide (i ≤ hi)) = true := h
    rw [Bool.and_eq_true, decide_eq_true_eq, decide_eq_true_eq] at h'
    exact ⟨i, rfl, h'⟩
  | _ => cases h
theorem at_of (h : atB m n x y = true) : ∃ i j : Nat, x = .int (i : Int) ∧ y = .int (j : Int) ∧ i < m ∧ j < n := by
  unfold atB at h
  rw [Bool.and_eq_true] at h
  obtain ⟨i, rfl, i0, i1⟩ := plB_of h.1
  obtain ⟨j, rfl, j0, j1⟩ := plB_of h.2
  exact ⟨i.toNat, j.toNat, by rw [Int.toNat_of_nonneg i0], by rw [Int.toNat_of_nonneg j0], by omega, by omega⟩
theorem cell_ok (g : GrOk b m n rs) (h : atB m n x y = true) : ∃ r, g_cell C [.d (gridD C b rs), .d x, .d y] S = some (.ok (.d r), S) := by
  obtain ⟨i, j, rfl, rfl, hi, hj⟩ := at_of h
  have hi' : i < rs.length := by rw [g.rows.1]; exact hi
  exact ⟨_, e_cell C S g hi' (by rw [(g.rows.2 _ (List.getElem_mem hi')).1]; exact hj)⟩
theorem cell_bad (g : GrOk b m n rs) (hx : TgK 10000000000000000000000000000000000000000 (C "Grid") x) (hy : TgK 10000000000000000000000000000000000000000 (C "Grid") y) (h : atB m n x y = false) : g_cell C [.d (gridD C b rs), .d x, .d y] S = bad "NoCell" S := by
  have e1 := e_sizes_of C S g
  have e2 := i_check_cell C S (m := m) (n := n) hx hy
  rw [h, if_neg Bool.false_ne_true] at e2
  rw [q_cell, F_cell]
  clear g hx hy h
  walk_at "evh"
theorem retold_ok {z : D} (g : GrOk b m n rs) (h : atB m n x y = true) (hz : cellB (b : Int) z = true) : ∃ r, g_retold C [.d (gridD C b rs), .d x, .d y, .d z] S = some (.ok (.d r), S) := by
  obtain ⟨i, j, rfl, rfl, hi, hj⟩ := at_of h
  obtain ⟨c, rfl, hc⟩ := cellB_of hz
  have hi' : i < rs.length := by rw [g.rows.1]; exact hi
  exact ⟨_, e_retold C S g hi' (by rw [(g.rows.2 _ (List.getElem_mem hi')).1]; exact hj) hc⟩
theorem retold_cell {z : D} (g : GrOk b m n rs) (hx : TgK 10000000000000000000000000000000000000000 (C "Grid") x) (hy : TgK 10000000000000000000000000000000000000000 (C "Grid") y) (h : atB m n x y = false) : g_retold C [.d (gridD C b rs), .d x, .d y, .d z] S = bad "NoCell" S := by
  have e1 := e_sizes_of C S g
  have e2 := i_check_cell C S (m := m) (n := n) hx hy
  rw [h, if_neg Bool.false_ne_true] at e2
  rw [q_retold, F_retold]
  clear g hx hy h
  walk_at "evh"
theorem retold_unit {z : D} (g : GrOk b m n rs) (hx : TgK 10000000000000000000000000000000000000000 (C "Grid") x) (hy : TgK 10000000000000000000000000000000000000000 (C "Grid") y) (hz : TgK 10000000000000000000000000000000000000000 (C "Grid") z) (h : atB m n x y = true) (hc : cellB (b : Int) z = false) : g_retold C [.d (gridD C b rs), .d x, .d y, .d z] S = bad "NoUnit" S := by
  have e1 := e_sizes_of C S g
  have e2 := i_check_cell C S (m := m) (n := n) hx hy
  rw [h, if_pos rfl] at e2
  have e3 := i_cell C S hz g.b3
  have f1 := fld_bases C S (b := b) (rs := rs)
  rw [q_retold, F_retold]
  clear g hx hy h hz
  walk_at "evh"
end
end P07
set_option Elab.async false
set_option linter.all false
set_option maxRecDepth 100000
set_option maxHeartbeats 1000000
namespace P07
open PySem L2 DL
local macro_rules | `(tactic| walk_at "ev") => `(tactic| simp (config := { decide := false, implicitDefEqProofs := false }) only [bind_ok, bind_err, sE_ok, sE_err, bnd_nx, bnd_rt, bnd_bk, bnd_ct, bnd_err, sSeq_eq, dEnd_rt, dEnd_nx, dEnd_err, giveS_d, giveS_dA, giveS_nil,
  dVar, dC, d2, d1, dB, dChain, dAnd, dOr, dNot, dTru, dAndV, dOrV, dNotV, dIf, aNil, aCons, dTup, dLst, dLoc, dCall, dCB, b1, dIt, sNx, sBk, sCt, sRet, sRetN, sDrop, sSet, sIf, sPar, truth_bl, asB_bl, oI0_eq, oIsi, ty_int, ty_bl, ty_str, ty_non, ty_tup, ty_lst, isi_ii, isi_ib, isi_it, isi_tt, isi_ti, isi_tb,
  oAbs, oInt, oNeg, oEq_int, oNe_int, dFld, dSl, dPt, dNoPt, asPt_int, isN_non, isN_tup, isN_U, notN_non, notN_tup, notN_U, dMake, sFldPut,
  List.map_cons, List.map_nil, List.length_cons, List.length_nil, List.getElem?_cons_zero, List.getElem?_cons_succ, List.set_cons_zero, List.set_cons_succ, List.cons_append, List.nil_append, List.append_nil, Nat.reduceAdd, Nat.reduceSub, Nat.zero_add, if_true, if_false, Bool.not_true, Bool.not_false, Bool.false_eq_true, reduceIte, List.replicate_zero, List.replicate_succ, Nat.sub_self, beq_self_eq_true, Int.reduceLT, Int.reduceLE, Int.reduceAdd, Int.reduceSub, Int.reduceMul, Int.reduceNeg, Int.reducePow, Int.reduceToNat, Int.reduceEq, Int.reduceBEq, decide_true, decide_false, mkTup1, mkTup2, mkTup3, mkLst2, mkLst5, ix20, ix21, ixF0, ixF1, len_tup, len_lst, lenF, tyF, lenU, tyU, oEqF, oEqU, oNeU, zipU, tgN, tgT, tgCons, tgNil, wipeE, Option.bind_some, tuple_lst, list_lst, st0, st1, st2, st3, se1, se2, se3, giveS_st, tgIx, sAsg, Option.map_some, oMod_eq, isi_int', isi_bl', isi_str', isi_non', isi_tup', isi_lst', isi_dct', isi_U', isi_F', isi_ins', tc_int, tc_bool, tc_tuple, ty_dct, isi_bi, isi_bb, isi_bt, isi_si, isi_sb, isi_st, isi_ni, isi_nb, isi_nt, isi_li, isi_lb, isi_lt, isi_di, isi_db, isi_dt, sRaise, dDct, mkLoc2, mkLoc7, mkLoc8, mkLoc9, mkLoc11, mkLoc17, mkLoc25, mkLoc32, oCatL, mkTup4, mkLst4, isi_N', isi_Row', isi_R'])
local macro_rules | `(tactic| walk_at "evh") => `(tactic| simp (config := { decide := false, implicitDefEqProofs := false }) only [bind_ok, bind_err, sE_ok, sE_err, bnd_nx, bnd_rt, bnd_bk, bnd_ct, bnd_err, sSeq_eq, dEnd_rt, dEnd_nx, dEnd_err, giveS_d, giveS_dA, giveS_nil,
  dVar, dC, d2, d1, dB, dChain, dAnd, dOr, dNot, dTru, dAndV, dOrV, dNotV, dIf, aNil, aCons, dTup, dLst, dLoc, dCall, dCB, b1, dIt, sNx, sBk, sCt, sRet, sRetN, sDrop, sSet, sIf, sPar, truth_bl, asB_bl, oI0_eq, oIsi, ty_int, ty_bl, ty_str, ty_non, ty_tup, ty_lst, isi_ii, isi_ib, isi_it, isi_tt, isi_ti, isi_tb,
  oAbs, oInt, oNeg, oEq_int, oNe_int, dFld, dSl, dPt, dNoPt, asPt_int, isN_non, isN_tup, isN_U, notN_non, notN_tup, notN_U, dMake, sFldPut,
  List.map_cons, List.map_nil, List.length_cons, List.length_nil, List.getElem?_cons_zero, List.getElem?_cons_succ, List.set_cons_zero, List.set_cons_succ, List.cons_append, List.nil_append, List.append_nil, Nat.reduceAdd, Nat.reduceSub, Nat.zero_add, if_true, if_false, Bool.not_true, Bool.not_false, Bool.false_eq_true, reduceIte, List.replicate_zero, List.replicate_succ, Nat.sub_self, beq_self_eq_true, Int.reduceLT, Int.reduceLE, Int.reduceAdd, Int.reduceSub, Int.reduceMul, Int.reduceNeg, Int.reducePow, Int.reduceToNat, Int.reduceEq, Int.reduceBEq, decide_true, decide_false, mkTup1, mkTup2, mkTup3, mkLst2, mkLst5, ix20, ix21, ixF0, ixF1, len_tup, len_lst, lenF, tyF, lenU, tyU, oEqF, oEqU, oNeU, zipU, tgN, tgT, tgCons, tgNil, wipeE, Option.bind_some, tuple_lst, list_lst, st0, st1, st2, st3, se1, se2, se3, giveS_st, tgIx, sAsg, Option.map_some, oMod_eq, isi_int', isi_bl', isi_str', isi_non', isi_tup', isi_lst', isi_dct', isi_U', isi_F', isi_ins', tc_int, tc_bool, tc_tuple, ty_dct, isi_bi, isi_bb, isi_bt, isi_si, isi_sb, isi_st, isi_ni, isi_nb, isi_nt, isi_li, isi_lb, isi_lt, isi_di, isi_db, isi_dt, sRaise, dDct, mkLoc2, mkLoc7, mkLoc8, mkLoc9, mkLoc11, mkLoc17, mkLoc25, mkLoc32, oCatL, mkTup4, mkLst4, isi_N', isi_Row', isi_R', oMul_eq, oDiv_eq, oPow_eq, *])
theorem nums_get {n : Nat} {rs : List (List (Option Unit'))} {ns : List (List Num)} (h : NumsOk n rs ns) {l : List Num} (hl : l ∈ ns) : ∃ r ∈ rs, l.length = r.length ∧ ∀ y ∈ r.zip l, NumOk n y.1 y.2 := by
  obtain ⟨i, hi, rfl⟩ := List.mem_iff_getElem.mp hl
  have hr : i < rs.length := by rw [← h.1]; exact hi
  have hz : i < (rs.zip ns).length := by simp [List.length_zip]; omega
  have e : (rs.zip ns)[i] = (rs[i], ns[i]) := List.getElem_zip
  have q := h.2 _ (List.getElem_mem hz)
  rw [e] at q
  exact ⟨rs[i], List.getElem_mem hr, q⟩
theorem zip_len {n : Nat} {rs : List (List (Option Unit'))} {ns : List (List Num)} (h : NumsOk n rs ns) : (rs.zip ns).length = rs.length := by rw [List.length_zip, h.1]; exact Nat.min_self _
theorem zip_lenR {r : List (Option Unit')} {l : List Num} (h : l.length = r.length) : (r.zip l).length = r.length := by rw [List.length_zip, h]; exact Nat.min_self _
theorem zip_RN {S : Store} (rs : List (List (Option Unit'))) (ns : List (List Num)) : oZip [.d (encR rs), .d (encN ns)] S = some (.ok ((rs.zip ns).map fun z => W.d (.tup [encRow z.1, encU z.2]), none), S) := by
  show some (Except.ok (zipD (rs.map encRow) (ns.map encU), none), S) = _
  simp [zipD, List.zip_map]
theorem zip_CN {S : Store} (r : List (Option Unit')) (l : List Num) : oZip [.d (encRow r), .d (encU l)] S = some (.ok ((r.zip l).map fun y => W.d (.tup [encC y.1, encF y.2]), none), S) := by
  show some (Except.ok (zipD (r.map encC) (l.map encF), none), S) = _
  simp [zipD, List.zip_map]
theorem len_N {S : Store} (ns : List (List Num)) : oLen (.d (encN ns)) S = some (.ok (.d (.int (ns.length : Int))), S) := len_enc encU ns
theorem ty_N {S : Store} (ns : List (List Num)) : tyN S (.d (encN ns)) = some "tuple" := rfl
theorem ix_N {S : Store} {ns : List (List Num)} {i : Nat} (h : i < ns.length) : oIx (.d (encN ns)) (.d (.int (i : Int))) S = some (.ok (.d (encU ns[i])), S) := oIx_enc encU h
theorem eq_01 {S : Store} (p : Num) : oEq (.d (encF p)) (.d (.tup [.int 0, .int 1])) S = some (.ok (.d (.bl (decide (p = (0, 1))))), S) := eqE_F.oEq (by decide) p (0, 1)
theorem ne_01 {S : Store} (p : Num) : oNe (.d (encF p)) (.d (.tup [.int 0, .int 1])) S = some (.ok (.d (.bl (!decide (p = (0, 1))))), S) := eqE_F.oNe (by decide) p (0, 1)
theorem notN_C {S : Store} (us : Unit') : oNotN (.d (encC (some us))) (.d .non) S = some (.ok (.d (.bl true)), S) := rfl
theorem isN_C {S : Store} (us : Unit') : oIsN (.d (encC (some us))) (.d .non) S = some (.ok (.d (.bl false)), S) := rfl
theorem notN_C0 {S : Store} : oNotN (.d (encC none)) (.d .non) S = some (.ok (.d (.bl false)), S) := rfl
theorem isN_C0 {S : Store} : oIsN (.d (encC none)) (.d .non) S = some (.ok (.d (.bl true)), S) := rfl
theorem e_fits (C : Str → Addr) (S : Store) {n : Nat} {c : Option Unit'} {p : Num} (h : NumOk n c p) : g_fits C [.d (encC c), .d (encF p)] S = some (.ok (.d (.bl true)), S) := by
  have e1 := e_is_fraction C S h.1.fr
  rw [q_fits, F_fits]
  cases c with
  | none =>
    have k := notN_C0 (S := S)
    have k2 := eq_01 (S := S) p
    have d := decide_eq_true (h.2 rfl)
    clear h
    walk_at "evh"
  | some us =>
    have k := notN_C (S := S) us
    clear h
    walk_at "evh"
theorem e_are_rows (C : Str → Addr) (S : Store) {b m n nb : Nat} {rs : List (List (Option Unit'))} {ns : List (List Num)} (g : GrOk b m n rs) (h : NumsOk nb rs ns) : g_are_rows C [.d (encN ns), .d (.int (m : Int)), .d (.int (n : Int))] S = some (.ok (.d (.bl true)), S) := by
  have l1 := len_N (S := S) ns
  rw [h.1, g.rows.1] at l1
  have t1 := ty_N (S := S) ns
  have a : dLc lcF (dSeq (dVar 0)) (tgN 3) (ftYes) (dAndV (dCB (oIsiI [C "Grid"]) (aCons (dVar 3) (aCons (dC (.ty "tuple")) (aNil)))) (d2 oEq (dCB (b1 oLen) (aCons (dVar 3) (aNil))) (dVar 2))) [3] [some (.d (encN ns)), some (.d (.int (m : Int))), some (.d (.int (n : Int))), none] S = some (.ok (.d (.lst (ns.map fun _ => D.bl true))), S) :=
    dLc_map (wf := fun l => W.d (encU l)) (f := fun _ => D.bl true) (by rw [dSeq_tup (ds := ns.map encU) (S := S) (S1 := S) rfl]; simp) (by rw [h.1, g.rows.1]; have := g.m10; omega) fun l hl => by
      obtain ⟨r, hr, hlen, _⟩ := nums_get h hl
      have l2 : (l.length : Int) = (n : Int) := by rw [hlen, (g.rows.2 r hr).1]
      have t2 := tyU (S := S) (us := l)
      refine ⟨_, rfl, ?_⟩
      clear h g hr hlen hl
      walk_at "evh"
  have al := all_lst (S := S) (fun _ => true) ns
  have t := all_true (xs := ns)
  rw [q_are_rows, F_are_rows]
  clear h g
  walk_at "evh"
theorem e_are_numbers (C : Str → Addr) (S : Store) {b m n nb : Nat} {rs : List (List (Option Unit'))} {ns : List (List Num)} (g : GrOk b m n rs) (h : NumsOk nb rs ns) : g_are_numbers C [.d (gridD C b rs), .d (encN ns)] S = some (.ok (.d (.bl true)), S) := by
  have e1 := e_are_rows C S g h
  have f := fld_rows C S (b := b) (rs := rs)
  have l1 := len_rows (S := S) rs
  rw [g.rows.1] at l1
  have i0 := ix_rows0 (S := S) g.lt
  have l2 := len_row (S := S) (rs[0]'g.lt)
  rw [(g.rows.2 _ (List.getElem_mem g.lt)).1] at l2
  have z1 := zip_RN (S := S) rs ns
  obtain ⟨δ', hf, x2, x3, rfl⟩ := dFor_inv (fi := dIt oZip (aCons (dFld (C "Grid") "rows" (dVar 0)) (aCons (dVar 1) (aNil)))) (tf := tgT 2 (tgCons (tgN 2) (tgCons (tgN 3) (tgNil)))) (fb := sIf (dNot (dTru (dCB (b1 oAll) (aCons (dLc lcF (dIt oZip (aCons (dVar 2) (aCons (dVar 3) (aNil)))) (tgT 2 (tgCons (tgN 4) (tgCons (tgN 5) (tgNil)))) (ftYes) (dCall 2 (g_fits C) (aCons (dVar 4) (aCons (dVar 5) (aNil)))) [4, 5]) (aNil))))) (sRet (dC (.bl false))) (sNx)) (S := S)
    (wf := fun z : List (Option Unit') × List Num => W.d (.tup [encRow z.1, encU z.2])) (P := fun _ δ => ∃ x2 x3, δ = [some (.d (gridD C b rs)), some (.d (encN ns)), x2, x3, none, none]) (xs := rs.zip ns) (δ := [some (.d (gridD C b rs)), some (.d (encN ns)), none, none, none, none]) (by clear h e1 l1 i0 l2; walk_at "evh") (by
      rintro i hi δ ⟨x2, x3, rfl⟩
      have q := h.2 _ (List.getElem_mem hi)
      have q1 := g.rows.2 _ (zip_fst (List.getElem_mem hi))
      generalize (rs.zip ns)[i] = z at *
      obtain ⟨r, l⟩ := z
      have z2 := zip_CN (S := S) r l
      have a : dLc lcF (dIt oZip (aCons (dVar 2) (aCons (dVar 3) (aNil)))) (tgT 2 (tgCons (tgN 4) (tgCons (tgN 5) (tgNil)))) (ftYes) (dCall 2 (g_fits C) (aCons (dVar 4) (aCons (dVar 5) (aNil)))) [4, 5] [some (.d (gridD C b rs)), some (.d (encN ns)), some (.d (encRow r)), some (.d (encU l)), none, none] S = some (.ok (.d (.lst ((r.zip l).map fun _ => D.bl true))), S) :=
        dLc_map (wf := fun y : Option Unit' × Num => W.d (.tup [encC y.1, encF y.2])) (f := fun _ => D.bl true) (by clear g h e1 l1 i0 l2 z1 q q1 f; walk_at "evh") (by rw [List.length_zip]; have := g.n10; have := q1.1; dsimp only at this; omega) fun y hy => by
          have e := e_fits C S (q.2 y hy)
          refine ⟨_, rfl, ?_⟩
          clear g h e1 l1 i0 l2 z1 q q1 f hy
          walk_at "evh"
      have al := all_lst (S := S) (fun _ => true) (r.zip l)
      have t := all_true (xs := r.zip l)
      refine ⟨_, _, rfl, ?_, some (.d (encRow r)), some (.d (encU l)), rfl⟩
      clear g h e1 l1 i0 l2 z1 q q1 f
      walk_at "evh") ⟨none, none, rfl⟩
  rw [q_are_numbers, F_are_numbers]
  clear h z1
  walk_at "evh"
theorem e_are_values (C : Str → Addr) (S : Store) {b m n nb : Nat} {rs : List (List (Option Unit'))} {ns : List (List Num)} (g : GrOk b m n rs) (h : NumsOk nb rs ns) : g_are_values C [.d (gridD C b rs), .d (encN ns)] S = some (.ok (.d (.bl (valB rs ns))), S) := by
  have e1 := e_are_numbers C S g h
  have f := fld_rows C S (b := b) (rs := rs)
  have z1 := zip_RN (S := S) rs ns
  obtain ⟨h1, h2⟩ := dFor_all (fi := dIt oZip (aCons (dFld (C "Grid") "rows" (dVar 0)) (aCons (dVar 1) (aNil)))) (tf := tgT 2 (tgCons (tgN 2) (tgCons (tgN 3) (tgNil)))) (fb := sIf (dNot (dTru (dCB (b1 oAll) (aCons (dLc lcF (dIt oZip (aCons (dVar 2) (aCons (dVar 3) (aNil)))) (tgT 2 (tgCons (tgN 4) (tgCons (tgN 5) (tgNil)))) (ftYes) (dOrV (d2 oIsN (dVar 4) (dC .non)) (d2 oGt (d2 oIx (dVar 5) (dC (.int 0))) (dC (.int 0)))) [4, 5]) (aNil))))) (sRet (dC (.bl false))) (sNx)) (S := S)
    (wf := fun z : List (Option Unit') × List Num => W.d (.tup [encRow z.1, encU z.2])) (q := fun z => (z.1.zip z.2).all valC) (w := .d (.bl false)) (P := fun _ δ => ∃ x2 x3, δ = [some (.d (gridD C b rs)), some (.d (encN ns)), x2, x3, none, none]) (xs := rs.zip ns) (δ := [some (.d (gridD C b rs)), some (.d (encN ns)), none, none, none, none]) (by clear h e1; walk_at "evh") (by
      rintro i hi δ ⟨x2, x3, rfl⟩
      have q1 := g.rows.2 _ (zip_fst (List.getElem_mem hi))
      generalize (rs.zip ns)[i] = z at *
      obtain ⟨r, l⟩ := z
      have z2 := zip_CN (S := S) r l
      have a : dLc lcF (dIt oZip (aCons (dVar 2) (aCons (dVar 3) (aNil)))) (tgT 2 (tgCons (tgN 4) (tgCons (tgN 5) (tgNil)))) (ftYes) (dOrV (d2 oIsN (dVar 4) (dC .non)) (d2 oGt (d2 oIx (dVar 5) (dC (.int 0))) (dC (.int 0)))) [4, 5] [some (.d (gridD C b rs)), some (.d (encN ns)), some (.d (encRow r)), some (.d (encU l)), none, none] S = some (.ok (.d (.lst ((r.zip l).map fun y => D.bl (valC y)))), S) :=
        dLc_map (wf := fun y : Option Unit' × Num => W.d (.tup [encC y.1, encF y.2])) (f := fun y => D.bl (valC y)) (by clear g h e1 z1 q1 f; walk_at "evh") (by rw [List.length_zip]; have := g.n10; have := q1.1; dsimp only at this; omega) fun y hy => by
          obtain ⟨c, p⟩ := y
          refine ⟨_, rfl, ?_⟩
          clear g h e1 z1 q1 f hy
          cases c with
          | none =>
            have k := isN_C0 (S := S)
            have v : valC ((none : Option Unit'), p) = true := rfl
            walk_at "evh"
          | some us =>
            have k := isN_C (S := S) us
            have v : valC ((some us : Option Unit'), p) = decide (0 < p.1) := rfl
            walk_at "evh"
      have al := all_lst (S := S) valC (r.zip l)
      refine ⟨_, rfl, fun hq => ⟨_, ?_, some (.d (encRow r)), some (.d (encU l)), rfl⟩, fun hq => ?_⟩
      · dsimp only at hq
        clear g h e1 z1 q1 f
        walk_at "evh"
      · dsimp only at hq
        clear g h e1 z1 q1 f
        walk_at "evh") ⟨none, none, rfl⟩
  have ev : valB rs ns = (rs.zip ns).all fun z => (z.1.zip z.2).all valC := rfl
  rw [q_are_values, F_are_values]
  cases hv : valB rs ns with
  | true =>
    rw [ev] at hv
    obtain ⟨δ', hf, x2, x3, rfl⟩ := h1 hv
    clear h h1 h2 z1 ev hv
    walk_at "evh"
  | false =>
    rw [ev] at hv
    have hf := h2 hv
    clear h h1 h2 z1 ev hv
    walk_at "evh"
theorem take_map {α β : Type} {xs : List α} {g : α → β} {i : Nat} (h : i < xs.length) : (xs.take (i + 1)).map g = (xs.take i).map g ++ [g xs[i]] := by
  rw [List.take_succ_eq_append_getElem h, List.map_append]
  rfl
theorem e_raw_renumbered (C : Str → Addr) (S : Store) {b m n nb k : Nat} {rs : List (List (Option Unit'))} {ns : List (List Num)} {ms : List Num} (g : GrOk b m n rs) (h : NumsOk nb rs ns) (q : RtOk b k ms) (nb0 : 0 < nb) (hb : nb + (1 + 3 * (k * 72 + 1)) ≤ 8000) :
    g_raw_renumbered C [.d (gridD C b rs), .d (encN ns), .d (encU ms), .d (.int (lcmR rs))] S = some (.ok (.d (encN (renum (fU (lcmR rs) ms) rs ns))), S) := by
  have f := fun S => fld_rows C S (b := b) (rs := rs)
  have z1 := fun S => zip_RN (S := S) rs ns
  have k0 : ∀ T : Store, mkLoc [] T = some (.ok (.loc T.length), T ++ [.lst []]) := fun T => rfl
  have key : ∀ z ∈ rs.zip ns, ∀ y ∈ z.1.zip z.2, ∀ us, y.1 = some us → ∀ S, g_raw_factor C [.d (encU us), .d (encU ms), .d (.int (lcmR rs))] S = some (.ok (.d (encF (fU (lcmR rs) ms us))), S) ∧ g_times C [.d (encF y.2), .d (encF (fU (lcmR rs) ms us))] S = some (.ok (.d (encF (ftimes y.2 (fU (lcmR rs) ms us)))), S) := fun z hz y hy us e S => by
    have fo := facOk_cell g q (zip_fst hz) (by rw [← e]; exact zip_fst hy : some us ∈ z.1)
    exact ⟨e_raw_factor C S fo, e_times C S ((h.2 z hz).2 y hy).1 fo.bd3 nb0 (by omega) hb⟩
  have zl := zip_len h
  rw [q_raw_renumbered, F_raw_renumbered]
  obtain ⟨δ', S', hf, G, x5, x6, x7, x8, x9, rfl, rfl⟩ := dFor_invS (fi := dIt oZip (aCons (dFld (C "Grid") "rows" (dVar 0)) (aCons (dVar 1) (aNil)))) (tf := tgT 2 (tgCons (tgN 5) (tgCons (tgN 6) (tgNil)))) (fb := sSeq (sSet 7 (dLoc (aNil)))
    (sSeq (dFor (dIt oZip (aCons (dVar 5) (aCons (dVar 6) (aNil)))) (tgT 2 (tgCons (tgN 8) (tgCons (tgN 9) (tgNil)))) (sDrop (dApp (dVar 7) (dIf (dB (d2 oIsN (dVar 8) (dC .non))) (dVar 9) (dCall 2 (g_times C) (aCons (dVar 9) (aCons (dCall 3 (g_raw_factor C) (aCons (dVar 8) (aCons (dVar 2) (aCons (dVar 3) (aNil))))) (aNil))))))))
    (sDrop (dApp (dVar 4) (dCB (b1 oTuple) (aCons (dVar 7) (aNil)))))))
    (wf := fun z : List (Option Unit') × List Num => W.d (.tup [encRow z.1, encU z.2])) (P := fun i δ S' => ∃ G x5 x6 x7 x8 x9, S' = S ++ .lst (((((rs.zip ns).take i).map (rowF (fU (lcmR rs) ms))).map encU).map W.d) :: G ∧ δ = [some (.d (gridD C b rs)), some (.d (encN ns)), some (.d (encU ms)), some (.d (.int (lcmR rs))), some (.loc S.length), x5, x6, x7, x8, x9]) (xs := rs.zip ns)
    (δ := [some (.d (gridD C b rs)), some (.d (encN ns)), some (.d (encU ms)), some (.d (.int (lcmR rs))), some (.loc S.length), none, none, none, none, none]) (S := S ++ [.lst []]) (S0 := S ++ [.lst []]) (by clear g h q hb key zl; walk_at "evh") (by
      rintro i hi δ S1 ⟨G, x5, x6, x7, x8, x9, rfl, rfl⟩
      have kz := key _ (List.getElem_mem hi)
      have qz := h.2 _ (List.getElem_mem hi)
      have q1 := g.rows.2 _ (zip_fst (List.getElem_mem hi))
      rw [take_map hi, List.map_append, List.map_append]
      have lF : (((((rs.zip ns).take i).map (rowF (fU (lcmR rs) ms))).map encU).map W.d).length ≤ 1000 := by simp; have := g.m10; have := g.rows.1; omega
      generalize ((((rs.zip ns).take i).map (rowF (fU (lcmR rs) ms))).map encU).map W.d = F at *
      generalize (rs.zip ns)[i] = z at *
      obtain ⟨r, l⟩ := z
      dsimp only at qz q1 kz
      have z2 := fun S => zip_CN (S := S) r l
      obtain ⟨T, hT⟩ : ∃ T, T = S ++ .lst F :: G := ⟨_, rfl⟩
      obtain ⟨δ2, S2, hf2, y8, y9, rfl, rfl⟩ := dFor_invS (fi := dIt oZip (aCons (dVar 5) (aCons (dVar 6) (aNil)))) (tf := tgT 2 (tgCons (tgN 8) (tgCons (tgN 9) (tgNil)))) (fb := sDrop (dApp (dVar 7) (dIf (dB (d2 oIsN (dVar 8) (dC .non))) (dVar 9) (dCall 2 (g_times C) (aCons (dVar 9) (aCons (dCall 3 (g_raw_factor C) (aCons (dVar 8) (aCons (dVar 2) (aCons (dVar 3) (aNil))))) (aNil)))))))
        (wf := fun y : Option Unit' × Num => W.d (.tup [encC y.1, encF y.2])) (P := fun j δ S' => ∃ x8 x9, S' = T ++ [.lst (((((r.zip l).take j).map fun y => cellF (fU (lcmR rs) ms) y.1 y.2).map encF).map W.d)] ∧ δ = [some (.d (gridD C b rs)), some (.d (encN ns)), some (.d (encU ms)), some (.d (.int (lcmR rs))), some (.loc S.length), some (.d (encRow r)), some (.d (encU l)), some (.loc T.length), x8, x9]) (xs := r.zip l)
        (δ := [some (.d (gridD C b rs)), some (.d (encN ns)), some (.d (encU ms)), some (.d (.int (lcmR rs))), some (.loc S.length), some (.d (encRow r)), some (.d (encU l)), some (.loc T.length), x8, x9]) (S := T ++ [.lst []]) (S0 := T ++ [.lst []]) (by clear g h q hb key zl kz qz q1 hT hi f z1; walk_at "evh") (by
          rintro j hj δ S1 ⟨x8, x9, rfl, rfl⟩
          have ky := kz _ (List.getElem_mem hj)
          rw [take_map hj, List.map_append, List.map_append]
          have lL : (((((r.zip l).take j).map fun y => cellF (fU (lcmR rs) ms) y.1 y.2).map encF).map W.d).length ≤ 1000 := by simp; have := g.n10; have := q1.1; omega
          generalize ((((r.zip l).take j).map fun y => cellF (fU (lcmR rs) ms) y.1 y.2).map encF).map W.d = L at *
          generalize (r.zip l)[j] = y at *
          obtain ⟨c, p⟩ := y
          dsimp only at ky ⊢
          have ap := app_last (T := T) (w := W.d (encF (cellF (fU (lcmR rs) ms) c p))) lL
          have il : isLst (T ++ [.lst L]) T.length = true := isLst_own
          refine ⟨_, _, _, _, rfl, ?_, some (.d (encC c)), some (.d (encF p)), rfl, rfl⟩
          unfold sDrop
          rw [dApp_loc (n := T.length) (w := W.d (encF (cellF (fU (lcmR rs) ms) c p))) (S1 := T ++ [.lst L]) rfl il (by
            cases c with
            | none =>
              have k := isN_C0 (S := T ++ [.lst L])
              have ec : cellF (fU (lcmR rs) ms) none p = p := rfl
              clear g h q hb key zl kz qz q1 hT hi f z1 ky ap il lL lF
              walk_at "evh"
            | some us =>
              have k := isN_C (S := T ++ [.lst L]) us
              have ec : cellF (fU (lcmR rs) ms) (some us) p = ftimes p (fU (lcmR rs) ms us) := rfl
              have eu : encC (some us) = encU us := rfl
              obtain ⟨r1, r2⟩ := ky us rfl (T ++ [.lst L])
              clear g h q hb key zl kz qz q1 hT hi f z1 ky ap il lL lF
              walk_at "evh"), ap]
          rfl) ⟨x8, x9, rfl, rfl⟩
      rw [List.take_length] at hf2
      have tp := tuple_own (S := T) (G := []) (ds := ((r.zip l).map fun y => cellF (fU (lcmR rs) ms) y.1 y.2).map encF)
      have et : D.tup (((r.zip l).map fun y => cellF (fU (lcmR rs) ms) y.1 y.2).map encF) = encU (rowF (fU (lcmR rs) ms) (r, l)) := rfl
      rw [et] at tp
      simp only [List.map_cons, List.map_nil]
      generalize encU (rowF (fU (lcmR rs) ms) (r, l)) = w at *
      generalize (((r.zip l).map fun y => cellF (fU (lcmR rs) ms) y.1 y.2).map encF).map W.d = L at *
      have kT := k0 T
      refine ⟨_, _, _, _, rfl, ?_, G ++ [.lst L], some (.d (encRow r)), some (.d (encU l)), some (.loc T.length), y8, y9, rfl, rfl⟩
      have ap : appAt S.length (W.d w) (T ++ [.lst L]) = some (.ok (.d .non), S ++ .lst (F ++ [W.d w]) :: (G ++ [.lst L])) := by
        rw [hT, List.append_assoc]
        exact app_mid lF
      have il : isLst (T ++ [.lst L]) S.length = true := by rw [hT, List.append_assoc]; exact isLst_own
      rw [← hT]
      have da : dApp (dVar 4) (dCB (b1 oTuple) (aCons (dVar 7) (aNil))) [some (.d (gridD C b rs)), some (.d (encN ns)), some (.d (encU ms)), some (.d (.int (lcmR rs))), some (.loc S.length), some (.d (encRow r)), some (.d (encU l)), some (.loc T.length), y8, y9] (T ++ [.lst L]) = some (.ok (.d .non), S ++ .lst (F ++ [W.d w]) :: (G ++ [.lst L])) := by
        rw [dApp_loc (n := S.length) (w := W.d w) (S1 := T ++ [.lst L]) rfl il (by
          clear g h q hb key zl kz qz q1 hT hi f z1 lF z2 et k0 il ap hf2
          walk_at "evh"), ap]
      clear g h q hb key zl kz qz q1 hT hi f z1 lF z2 et k0 il ap tp
      walk_at "evh") ⟨[], none, none, none, none, none, rfl, rfl⟩
  rw [List.take_length] at hf
  have tp := tuple_own (S := S) (G := G) (ds := ((rs.zip ns).map (rowF (fU (lcmR rs) ms))).map encU)
  have et : D.tup (((rs.zip ns).map (rowF (fU (lcmR rs) ms))).map encU) = encN (renum (fU (lcmR rs) ms) rs ns) := rfl
  rw [et] at tp
  have kS := k0 S
  clear g h q hb key zl f z1 et k0
  walk_at "evh"
section
variable {b m n nb : Nat} {rs : List (List (Option Unit'))} {ns : List (List Num)}
theorem ns_lt (h : NumsOk nb rs ns) {i : Nat} (hi : i < rs.length) : i < ns.length := by rw [h.1]; exact hi
theorem ns_row (h : NumsOk nb rs ns) {i : Nat} (hi : i < rs.length) : (ns[i]'(ns_lt h hi)).length = rs[i].length ∧ ∀ y ∈ rs[i].zip (ns[i]'(ns_lt h hi)), NumOk nb y.1 y.2 := by
  have hz : i < (rs.zip ns).length := by rw [zip_len h]; exact hi
  have q := h.2 _ (List.getElem_mem hz)
  have e : (rs.zip ns)[i] = (rs[i], ns[i]'(ns_lt h hi)) := List.getElem_zip
  rw [e] at q
  exact q
theorem ns_cell {r : List (Option Unit')} {l : List Num} (h : ∀ y ∈ r.zip l, NumOk nb y.1 y.2) (hl : l.length = r.length) {j : Nat} (hj : j < r.length) : NumOk nb r[j] (l[j]'(by rw [hl]; exact hj)) := by
  have hz : j < (r.zip l).length := by rw [zip_lenR hl]; exact hj
  have q := h _ (List.getElem_mem hz)
  have e : (r.zip l)[j] = (r[j], l[j]'(by rw [hl]; exact hj)) := List.getElem_zip
  rw [e] at q
  exact q
end
theorem e_law_are_values (C : Str → Addr) (S : Store) {b m n nb : Nat} {rs : List (List (Option Unit'))} {ns : List (List Num)} (g : GrOk b m n rs) (h : NumsOk nb rs ns) (en : g__law_are_numbers C [.d (encR rs), .d (encN ns)] S = some (.ok (.d (.bl true)), S)) : g__law_are_values C [.d (encR rs), .d (encN ns)] S = some (.ok (.d (.bl (valB rs ns))), S) := by
  have l2 := len_rows (S := S) rs
  have r1 := oRng1_nat (S := S) (n := rs.length) (by have := g.rows.1; have := g.m10; omega)
  have zl := zip_len h
  rw [← zl, rng_idx (rs.zip ns)] at r1
  rw [← zl] at l2
  obtain ⟨h1, h2⟩ := dFor_all (fi := dIt oRng1 (aCons (dCB (b1 oLen) (aCons (dVar 0) (aNil))) (aNil))) (tf := tgN 2) (fb := dFor (dIt oRng1 (aCons (dCB (b1 oLen) (aCons (d2 oIx (dVar 0) (dVar 2)) (aNil))) (aNil))) (tgN 3) (sIf (dAnd (dB (d2 oNotN (d2 oIx (d2 oIx (dVar 0) (dVar 2)) (dVar 3)) (dC .non))) (dB (d2 oLe (d2 oIx (d2 oIx (d2 oIx (dVar 1) (dVar 2)) (dVar 3)) (dC (.int 0))) (dC (.int 0))))) (sRet (dC (.bl false))) (sNx))) (S := S)
    (wf := fun z : (List (Option Unit') × List Num) × Nat => W.d (.int (z.2 : Int))) (q := fun z => (z.1.1.zip z.1.2).all valC) (w := .d (.bl false)) (P := fun _ δ => ∃ x2 x3, δ = [some (.d (encR rs)), some (.d (encN ns)), x2, x3]) (xs := (rs.zip ns).zipIdx) (δ := [some (.d (encR rs)), some (.d (encN ns)), none, none]) (by clear g h zl; walk_at "evh") (by
      rintro i hi δ ⟨x2, x3, rfl⟩
      have hi' : i < rs.length := by rw [← zl]; simpa using hi
      have hz : i < (rs.zip ns).length := by rw [zl]; exact hi'
      obtain ⟨hl, hy⟩ := ns_row h hi'
      have ez : (rs.zip ns).zipIdx[i] = ((rs[i], ns[i]'(ns_lt h hi')), i) := by simp
      rw [ez]
      have y1 := ix_rows (S := S) hi'
      have y2 := ix_N (S := S) (ns_lt h hi')
      have q1 := g.rows.2 _ (List.getElem_mem hi')
      clear ez
      generalize rs[i] = r at *
      generalize ns[i]'(ns_lt h hi') = l at *
      have l4 := len_row (S := S) r
      have r2 := oRng1_nat (S := S) (n := r.length) (by have := g.n10; omega)
      have zr := zip_lenR hl
      rw [← zr] at l4 r2
      rw [rng_idx (r.zip l)] at r2
      obtain ⟨k1, k2⟩ := dFor_all (fi := dIt oRng1 (aCons (dCB (b1 oLen) (aCons (d2 oIx (dVar 0) (dVar 2)) (aNil))) (aNil))) (tf := tgN 3) (fb := sIf (dAnd (dB (d2 oNotN (d2 oIx (d2 oIx (dVar 0) (dVar 2)) (dVar 3)) (dC .non))) (dB (d2 oLe (d2 oIx (d2 oIx (d2 oIx (dVar 1) (dVar 2)) (dVar 3)) (dC (.int 0))) (dC (.int 0))))) (sRet (dC (.bl false))) (sNx)) (S := S)
        (wf := fun z : (Option Unit' × Num) × Nat => W.d (.int (z.2 : Int))) (q := fun z => valC z.1) (w := .d (.bl false)) (P := fun _ δ => ∃ x3, δ = [some (.d (encR rs)), some (.d (encN ns)), some (.d (.int (i : Int))), x3]) (xs := (r.zip l).zipIdx) (δ := [some (.d (encR rs)), some (.d (encN ns)), some (.d (.int (i : Int))), x3]) (by clear g h zl q1 hl hy zr r1 l2; walk_at "evh") (by
          rintro j hj δ ⟨x3, rfl⟩
          have hj' : j < r.length := by rw [← zr]; simpa using hj
          have ez : (r.zip l).zipIdx[j] = ((r[j], l[j]'(by rw [hl]; exact hj')), j) := by simp
          rw [ez]
          have v1 := ix_row (S := S) hj'
          have v2 := ixU (S := S) (us := l) (k := j) (by rw [hl]; exact hj')
          clear ez
          generalize r[j] = c at *
          generalize l[j]'(by rw [hl]; exact hj') = p at *
          dsimp only
          cases c with
          | none =>
            have k := notN_C0 (S := S)
            refine ⟨_, rfl, fun _ => ⟨_, ?_, some (.d (.int (j : Int))), rfl⟩, fun z => ?_⟩
            · clear g h zl q1 hl hy zr r1 l2
              walk_at "evh"
            · exact absurd z (by simp [valC])
          | some us =>
            have k := notN_C (S := S) us
            have e : valC ((some us : Option Unit'), p) = decide (0 < p.1) := rfl
            rw [e]
            refine ⟨_, rfl, fun z => ⟨_, ?_, some (.d (.int (j : Int))), rfl⟩, fun z => ?_⟩
            · have d : decide (p.1 ≤ 0) = false := by have := of_decide_eq_true z; simp; omega
              clear g h zl q1 hl hy zr r1 l2 z
              walk_at "evh"
            · have d : decide (p.1 ≤ 0) = true := by have := of_decide_eq_false z; simp; omega
              clear g h zl q1 hl hy zr r1 l2 z
              walk_at "evh") ⟨x3, rfl⟩
      rw [all_idx valC (r.zip l)] at k1 k2
      refine ⟨_, rfl, fun z => ?_, fun z => ?_⟩
      · obtain ⟨δ2, e2, z3, rfl⟩ := k1 z
        exact ⟨_, e2, some (.d (.int (i : Int))), z3, rfl⟩
      · exact k2 z) ⟨none, none, rfl⟩
  have ev : valB rs ns = (rs.zip ns).all fun z => (z.1.zip z.2).all valC := rfl
  have ea := all_idx (fun z : List (Option Unit') × List Num => (z.1.zip z.2).all valC) (rs.zip ns)
  rw [ea, ← ev] at h1 h2
  rw [q__law_are_values, F__law_are_values]
  cases hv : valB rs ns with
  | true =>
    obtain ⟨δ', hf, x2, x3, rfl⟩ := h1 hv
    clear g h h1 h2 ev ea r1 l2
    walk_at "evh"
  | false =>
    have hf := h2 hv
    clear g h h1 h2 ev ea r1 l2
    walk_at "evh"
section
variable (C : Str → Addr) (S : Store) {x y d : D} {b m n : Nat} {rs : List (List (Option Unit'))}
theorem zip_D {as bs : List D} : oZip [.d (.tup as), .d (.tup bs)] S = some (.ok ((as.zip bs).map fun z => W.d (.tup [z.1, z.2]), none), S) := by
  show some (Except.ok (zipD as bs, none), S) = _
  simp [zipD]
theorem zip_RD (rs : List (List (Option Unit'))) (ds : List D) : oZip [.d (encR rs), .d (.tup ds)] S = some (.ok ((rs.zip ds).map fun z => W.d (.tup [encRow z.1, z.2]), none), S) := by
  show oZip [.d (.tup (rs.map encRow)), .d (.tup ds)] S = _
  rw [zip_D]
  simp [List.zip_map_left]
theorem zip_CD (r : List (Option Unit')) (ds : List D) : oZip [.d (encRow r), .d (.tup ds)] S = some (.ok ((r.zip ds).map fun z => W.d (.tup [encC z.1, z.2]), none), S) := by
  show oZip [.d (.tup (r.map encC)), .d (.tup ds)] S = _
  rw [zip_D]
  simp [List.zip_map_left]
theorem rowB_no {n : Int} (h : tupB d = false) : rowB n d = false := by cases d with | tup _ => cases h | _ => rfl
theorem rowsB_no {m n : Int} (h : tupB d = false) : rowsB m n d = false := by cases d with | tup _ => cases h | _ => rfl
theorem i_are_rows (m n : Int) (h : TgK 10000000000000000000000000000000000000000 (C "Grid") x) : g_are_rows C [.d x, .d (.int m), .d (.int n)] S = some (.ok (.d (.bl (rowsB m n x))), S) := by
  rw [q_are_rows, F_are_rows]
  rcases tup_or C S h with ⟨ds, rfl, hl, hd⟩ | ⟨e, hx⟩
  · have a : ∀ δ3, dLc lcF (dSeq (dVar 0)) (tgN 3) (ftYes) (dAndV (dCB (oIsiI [C "Grid"]) (aCons (dVar 3) (aCons (dC (.ty "tuple")) (aNil)))) (d2 oEq (dCB (b1 oLen) (aCons (dVar 3) (aNil))) (dVar 2))) [3] [some (.d (.tup ds)), some (.d (.int m)), some (.d (.int n)), δ3] S = some (.ok (.d (.lst (ds.map fun d => D.bl (rowB n d)))), S) := fun δ3 =>
      dLc_map (wf := W.d) (f := fun d => D.bl (rowB n d)) (dSeq_tup rfl) (by omega) fun d hd' => by
        refine ⟨_, rfl, ?_⟩
        rcases tup_or C S (hd d hd').tg with ⟨es, rfl, _, _⟩ | ⟨e2, hx2⟩
        · have er : rowB n (.tup es) = decide ((es.length : Int) = n) := rfl
          have eb : ((es.length : Int) == n) = decide ((es.length : Int) = n) := rfl
          rw [er]
          clear h hl hd hd' er
          walk_at "evh"
        · rw [rowB_no hx2]
          clear h hl hd hd'
          walk_at "evh"
    have al := all_lst (S := S) (rowB n) ds
    have eu : rowsB m n (.tup ds) = (decide ((ds.length : Int) = m) && ds.all (rowB n)) := rfl
    have eb : ((ds.length : Int) == m) = decide ((ds.length : Int) = m) := rfl
    rw [eu]
    clear h hl hd eu
    cases hn : decide ((ds.length : Int) = m) with
    | true => walk_at "evh"; rfl
    | false => walk_at "evh"; rfl
  · rw [rowsB_no hx]
    clear h
    walk_at "evh"
theorem i_fits (c : Option Unit') (h : TgK 10000000000000000000000000000000000000000 (C "Grid") d) : g_fits C [.d (encC c), .d d] S = some (.ok (.d (.bl (fitB c d))), S) := by
  have e1 := i_frac C S h
  rw [q_fits, F_fits]
  by_cases hf : fracB d = true
  · obtain ⟨p, rfl, hp⟩ := fracB_of hf
    rw [fitB_F c hp]
    have k2 := eq_01 (S := S) p
    cases c with
    | none =>
      have k := notN_C0 (S := S)
      have z : ((none : Option Unit').isSome || decide (p = (0, 1))) = decide (p = (0, 1)) := rfl
      rw [z]
      clear h hp
      walk_at "evh"
    | some us =>
      have k := notN_C (S := S) us
      have z : ((some us : Option Unit').isSome || decide (p = (0, 1))) = true := rfl
      rw [z]
      clear h hp
      walk_at "evh"
  · have hf' : fracB d = false := by simpa using hf
    have z : fitB c d = false := by unfold fitB; rw [hf', Bool.false_and]
    rw [z]
    clear h hf
    walk_at "evh"
theorem i_are_numbers (g : GrOk b m n rs) (h : TgK 10000000000000000000000000000000000000000 (C "Grid") x) : g_are_numbers C [.d (gridD C b rs), .d x] S = some (.ok (.d (.bl (numsB (m : Int) (n : Int) rs x))), S) := by
  have e1 := i_are_rows C S (m : Int) (n : Int) h
  have f := fld_rows C S (b := b) (rs := rs)
  have l1 := len_rows (S := S) rs
  rw [g.rows.1] at l1
  have i0 := ix_rows0 (S := S) g.lt
  have l2 := len_row (S := S) (rs[0]'g.lt)
  rw [(g.rows.2 _ (List.getElem_mem g.lt)).1] at l2
  rw [q_are_numbers, F_are_numbers]
  by_cases hr : rowsB (m : Int) (n : Int) x = true
  · obtain ⟨ds, rfl, hl, hd⟩ := rowsB_of hr
    have hk := h.tk.items
    have z1 := zip_RD S rs ds
    obtain ⟨h1, h2⟩ := dFor_all (fi := dIt oZip (aCons (dFld (C "Grid") "rows" (dVar 0)) (aCons (dVar 1) (aNil)))) (tf := tgT 2 (tgCons (tgN 2) (tgCons (tgN 3) (tgNil)))) (fb := sIf (dNot (dTru (dCB (b1 oAll) (aCons (dLc lcF (dIt oZip (aCons (dVar 2) (aCons (dVar 3) (aNil)))) (tgT 2 (tgCons (tgN 4) (tgCons (tgN 5) (tgNil)))) (ftYes) (dCall 2 (g_fits C) (aCons (dVar 4) (aCons (dVar 5) (aNil)))) [4, 5]) (aNil))))) (sRet (dC (.bl false))) (sNx)) (S := S)
      (wf := fun z : List (Option Unit') × D => W.d (.tup [encRow z.1, z.2])) (q := fun z => (z.1.zip (its z.2)).all fun y => fitB y.1 y.2) (w := .d (.bl false)) (P := fun _ δ => ∃ x2 x3, δ = [some (.d (gridD C b rs)), some (.d (.tup ds)), x2, x3, none, none]) (xs := rs.zip ds) (δ := [some (.d (gridD C b rs)), some (.d (.tup ds)), none, none, none, none]) (by clear h e1 l1 i0 l2 hr hl hd hk; walk_at "evh") (by
        rintro i hi δ ⟨x2, x3, rfl⟩
        have q1 := g.rows.2 _ (zip_fst (List.getElem_mem hi))
        have hm := List.of_mem_zip (show ((rs.zip ds)[i].1, (rs.zip ds)[i].2) ∈ rs.zip ds from List.getElem_mem hi)
        generalize (rs.zip ds)[i] = z at *
        obtain ⟨r, d⟩ := z
        obtain ⟨es, ee, hel⟩ := rowB_of (hd d hm.2)
        subst ee
        have hke := (hk.2 _ hm.2).items
        have z2 := zip_CD S r es
        have a : dLc lcF (dIt oZip (aCons (dVar 2) (aCons (dVar 3) (aNil)))) (tgT 2 (tgCons (tgN 4) (tgCons (tgN 5) (tgNil)))) (ftYes) (dCall 2 (g_fits C) (aCons (dVar 4) (aCons (dVar 5) (aNil)))) [4, 5] [some (.d (gridD C b rs)), some (.d (.tup ds)), some (.d (encRow r)), some (.d (.tup es)), none, none] S = some (.ok (.d (.lst ((r.zip es).map fun y => D.bl (fitB y.1 y.2)))), S) :=
          dLc_map (wf := fun y : Option Unit' × D => W.d (.tup [encC y.1, y.2])) (f := fun y => D.bl (fitB y.1 y.2)) (by clear g h e1 l1 i0 l2 z1 q1 f hr hl hd hk hm hke hel; walk_at "evh") (by rw [List.length_zip]; have := g.n10; have := q1.1; dsimp only at this; omega) fun y hy => by
            have e := i_fits C S y.1 (hke.2 y.2 (List.of_mem_zip (show (y.1, y.2) ∈ r.zip es from hy)).2).tg
            refine ⟨_, rfl, ?_⟩
            clear g h e1 l1 i0 l2 z1 q1 f hy hr hl hd hk hm hke hel
            walk_at "evh"
        have al := all_lst (S := S) (fun y : Option Unit' × D => fitB y.1 y.2) (r.zip es)
        have ei : its (.tup es) = es := rfl
        refine ⟨_, rfl, fun hq => ⟨_, ?_, some (.d (encRow r)), some (.d (.tup es)), rfl⟩, fun hq => ?_⟩
        · dsimp only at hq
          rw [ei] at hq
          clear g h e1 l1 i0 l2 z1 q1 f hr hl hd hk hm hke hel
          walk_at "evh"
        · dsimp only at hq
          rw [ei] at hq
          clear g h e1 l1 i0 l2 z1 q1 f hr hl hd hk hm hke hel
          walk_at "evh") ⟨none, none, rfl⟩
    have ev : numsB (m : Int) (n : Int) rs (.tup ds) = (rs.zip ds).all fun z => (z.1.zip (its z.2)).all fun y => fitB y.1 y.2 := by unfold numsB; rw [hr, Bool.true_and]; rfl
    cases hv : numsB (m : Int) (n : Int) rs (.tup ds) with
    | true =>
      rw [ev] at hv
      obtain ⟨δ', hf, x2, x3, rfl⟩ := h1 hv
      clear h h1 h2 z1 ev hv hl hd hk
      walk_at "evh"
    | false =>
      rw [ev] at hv
      have hf := h2 hv
      clear h h1 h2 z1 ev hv hl hd hk
      walk_at "evh"
  · have hr' : rowsB (m : Int) (n : Int) x = false := by simpa using hr
    have ev : numsB (m : Int) (n : Int) rs x = false := by unfold numsB; rw [hr', Bool.false_and]
    rw [ev]
    clear h hr ev
    walk_at "evh"
theorem ix_D {ds : List D} {i : Nat} (h : i < ds.length) : oIx (.d (.tup ds)) (.d (.int (i : Int))) S = some (.ok (.d ds[i]), S) := oIx_tupN h
def qRow (z : List (Option Unit') × D) : Bool := rowB (z.1.length : Int) z.2 && (z.1.zip (its z.2)).all fun y => fitB y.1 y.2
theorem numsB_q (g : GrOk b m n rs) {ds : List D} (hl : ds.length = rs.length) : numsB (m : Int) (n : Int) rs (.tup ds) = (rs.zip ds).all qRow := by
  have h1 : ds.all (rowB (n : Int)) = (rs.zip ds).all fun z => rowB (z.1.length : Int) z.2 := by
    have e : ds = (rs.zip ds).map Prod.snd := (List.map_snd_zip (by omega)).symm
    conv => lhs; rw [e]
    rw [List.all_map]
    exact all_eqOn fun z hz => by
      have := (g.rows.2 _ (zip_fst hz)).1
      show rowB (n : Int) z.2 = rowB (z.1.length : Int) z.2
      rw [this]
  show ((decide ((ds.length : Int) = (m : Int)) && ds.all (rowB (n : Int))) && fitsR rs ds) = _
  rw [decide_eq_true (by rw [hl, g.rows.1]), Bool.true_and, h1]
  unfold fitsR
  generalize rs.zip ds = zs
  induction zs with
  | nil => rfl
  | cons z zs ih =>
    rw [List.all_cons, List.all_cons, List.all_cons, ← ih]
    unfold qRow
    cases rowB (z.1.length : Int) z.2 <;> cases (z.1.zip (its z.2)).all (fun y => fitB y.1 y.2) <;> cases zs.all (fun z => rowB (z.1.length : Int) z.2) <;> rfl
theorem i_law_are_numbers (g : GrOk b m n rs) (h : TgK 10000000000000000000000000000000000000000 (C "Grid") x) : g__law_are_numbers C [.d (encR rs), .d x] S = some (.ok (.d (.bl (numsB (m : Int) (n : Int) rs x))), S) := by
  rw [q__law_are_numbers, F__law_are_numbers]
  rcases tup_or C S h with ⟨ds, rfl, hl, hd⟩ | ⟨e, hx⟩
  · have l2 := len_rows (S := S) rs
    by_cases hlen : ds.length = rs.length
    · have r1 := oRng1_nat (S := S) (n := rs.length) (by have := g.rows.1; have := g.m10; omega)
      have zl : (rs.zip ds).length = rs.length := by rw [List.length_zip, hlen]; exact Nat.min_self _
      have l0 : oLen (.d (.tup ds)) S = some (.ok (.d (.int (rs.length : Int))), S) := by rw [len_tup, hlen]
      rw [← zl, rng_idx (rs.zip ds)] at r1
      rw [← zl] at l2 l0
      rw [numsB_q g hlen]
      obtain ⟨h1, h2⟩ := dFor_all (fi := dIt oRng1 (aCons (dCB (b1 oLen) (aCons (dVar 0) (aNil))) (aNil))) (tf := tgN 2) (fb := sSeq (sIf (dOr (dNot (dTru (dCB (oIsiI [C "Grid"]) (aCons (d2 oIx (dVar 1) (dVar 2)) (aCons (dC (.ty "tuple")) (aNil)))))) (dB (d2 oNe (dCB (b1 oLen) (aCons (d2 oIx (dVar 1) (dVar 2)) (aNil))) (dCB (b1 oLen) (aCons (d2 oIx (dVar 0) (dVar 2)) (aNil)))))) (sRet (dC (.bl false))) (sNx))
        (dFor (dIt oRng1 (aCons (dCB (b1 oLen) (aCons (d2 oIx (dVar 0) (dVar 2)) (aNil))) (aNil))) (tgN 3) (sIf (dOr (dNot (dTru (dCall 1 (g__law_is_fraction C) (aCons (d2 oIx (d2 oIx (dVar 1) (dVar 2)) (dVar 3)) (aNil))))) (dAnd (dB (d2 oIsN (d2 oIx (d2 oIx (dVar 0) (dVar 2)) (dVar 3)) (dC .non))) (dB (d2 oNe (d2 oIx (d2 oIx (dVar 1) (dVar 2)) (dVar 3)) (dTup (aCons (dC (.int 0)) (aCons (dC (.int 1)) (aNil)))))))) (sRet (dC (.bl false))) (sNx)))) (S := S)
        (wf := fun z : (List (Option Unit') × D) × Nat => W.d (.int (z.2 : Int))) (q := fun z => qRow z.1) (w := .d (.bl false)) (P := fun _ δ => ∃ x2 x3, δ = [some (.d (encR rs)), some (.d (.tup ds)), x2, x3]) (xs := (rs.zip ds).zipIdx) (δ := [some (.d (encR rs)), some (.d (.tup ds)), none, none]) (by clear g h zl hl hd hlen l0; walk_at "evh") (by
          rintro i hi δ ⟨x2, x3, rfl⟩
          have hi' : i < rs.length := by rw [← zl]; simpa using hi
          have hi2 : i < ds.length := by rw [hlen]; exact hi'
          have ez : (rs.zip ds).zipIdx[i] = ((rs[i], ds[i]), i) := by simp
          rw [ez]
          have y1 := ix_rows (S := S) hi'
          have y2 := ix_D S hi2
          have q1 := g.rows.2 _ (List.getElem_mem hi')
          have hdi := hd _ (List.getElem_mem hi2)
          clear ez
          generalize rs[i] = r at *
          generalize ds[i] = d at *
          have l4 := len_row (S := S) r
          dsimp only
          rcases tup_or C S hdi.tg with ⟨es, rfl, hel, hed⟩ | ⟨e2, hx2⟩
          · by_cases he : es.length = r.length
            · have zr : (r.zip es).length = r.length := by rw [List.length_zip, he]; exact Nat.min_self _
              have r2 := oRng1_nat (S := S) (n := r.length) (by have := g.n10; omega)
              have l5 : oLen (.d (.tup es)) S = some (.ok (.d (.int (r.length : Int))), S) := by rw [len_tup, he]
              rw [← zr] at l4 r2 l5
              rw [rng_idx (r.zip es)] at r2
              have eq : qRow (r, .tup es) = (r.zip es).all fun y => fitB y.1 y.2 := by
                show (decide ((es.length : Int) = (r.length : Int)) && (r.zip es).all fun y => fitB y.1 y.2) = _
                rw [decide_eq_true (by rw [he]), Bool.true_and]
              rw [eq]
              obtain ⟨k1, k2⟩ := dFor_all (fi := dIt oRng1 (aCons (dCB (b1 oLen) (aCons (d2 oIx (dVar 0) (dVar 2)) (aNil))) (aNil))) (tf := tgN 3) (fb := sIf (dOr (dNot (dTru (dCall 1 (g__law_is_fraction C) (aCons (d2 oIx (d2 oIx (dVar 1) (dVar 2)) (dVar 3)) (aNil))))) (dAnd (dB (d2 oIsN (d2 oIx (d2 oIx (dVar 0) (dVar 2)) (dVar 3)) (dC .non))) (dB (d2 oNe (d2 oIx (d2 oIx (dVar 1) (dVar 2)) (dVar 3)) (dTup (aCons (dC (.int 0)) (aCons (dC (.int 1)) (aNil)))))))) (sRet (dC (.bl false))) (sNx)) (S := S)
                (wf := fun z : (Option Unit' × D) × Nat => W.d (.int (z.2 : Int))) (q := fun z => fitB z.1.1 z.1.2) (w := .d (.bl false)) (P := fun _ δ => ∃ x3, δ = [some (.d (encR rs)), some (.d (.tup ds)), some (.d (.int (i : Int))), x3]) (xs := (r.zip es).zipIdx) (δ := [some (.d (encR rs)), some (.d (.tup ds)), some (.d (.int (i : Int))), x3]) (by clear g h zl q1 hl hd hlen l0 r1 l2 hdi hel hed he zr eq l5; walk_at "evh") (by
                  rintro j hj δ ⟨x3, rfl⟩
                  have hj' : j < r.length := by rw [← zr]; simpa using hj
                  have hj2 : j < es.length := by rw [he]; exact hj'
                  have ez : (r.zip es).zipIdx[j] = ((r[j], es[j]), j) := by simp
                  rw [ez]
                  have v1 := ix_row (S := S) hj'
                  have v2 := ix_D S hj2
                  have hej := hed _ (List.getElem_mem hj2)
                  clear ez
                  generalize r[j] = c at *
                  generalize es[j] = d at *
                  have e1 := i_law_frac C S hej.tg
                  dsimp only
                  clear g h zl q1 hl hd hlen l0 r1 l2 hdi hel hed he zr eq l5 hej l4 r2
                  by_cases hf : fracB d = true
                  · obtain ⟨p, rfl, hp⟩ := fracB_of hf
                    have k2 := ne_01 (S := S) p
                    rw [fitB_F c hp]
                    clear hp
                    cases c with
                    | none =>
                      have k := isN_C0 (S := S)
                      have z : ((none : Option Unit').isSome || decide (p = (0, 1))) = decide (p = (0, 1)) := rfl
                      rw [z]
                      clear z
                      refine ⟨_, rfl, fun z => ⟨_, ?_, some (.d (.int (j : Int))), rfl⟩, fun z => ?_⟩
                      · rw [z] at k2
                        clear z
                        walk_at "evh"
                      · rw [z] at k2
                        clear z
                        walk_at "evh"
                    | some us =>
                      have k := isN_C (S := S) us
                      have z : ((some us : Option Unit').isSome || decide (p = (0, 1))) = true := rfl
                      rw [z]
                      clear z
                      refine ⟨_, rfl, fun z => ⟨_, ?_, some (.d (.int (j : Int))), rfl⟩, fun z => nomatch z⟩
                      walk_at "evh"
                  · have hf' : fracB d = false := by simpa using hf
                    have z : fitB c d = false := by unfold fitB; rw [hf', Bool.false_and]
                    rw [z]
                    clear hf z
                    refine ⟨_, rfl, fun z => (nomatch z), fun z => ?_⟩
                    walk_at "evh") ⟨x3, rfl⟩
              rw [all_idx (fun y : Option Unit' × D => fitB y.1 y.2) (r.zip es)] at k1 k2
              refine ⟨_, rfl, fun z => ?_, fun z => ?_⟩
              · obtain ⟨δ2, e2, z3, rfl⟩ := k1 z
                refine ⟨_, ?_, some (.d (.int (i : Int))), z3, rfl⟩
                clear g h zl q1 hl hd hlen l0 r1 l2 hdi hel hed he zr eq k1 k2 z r2
                walk_at "evh"
              · have e2 := k2 z
                clear g h zl q1 hl hd hlen l0 r1 l2 hdi hel hed he zr eq k1 k2 z r2
                walk_at "evh"
            · have eq : qRow (r, .tup es) = false := by
                show (decide ((es.length : Int) = (r.length : Int)) && _) = _
                rw [decide_eq_false (by omega), Bool.false_and]
              have en : ((es.length : Int) == (r.length : Int)) = false := by simp; omega
              rw [eq]
              refine ⟨_, rfl, fun z => (nomatch z), fun z => ?_⟩
              clear g h zl q1 hl hd hlen l0 r1 l2 hdi hel hed he eq z
              walk_at "evh"
          · have eq : qRow (r, d) = false := by
              show (rowB (r.length : Int) d && _) = _
              rw [rowB_no hx2, Bool.false_and]
            rw [eq]
            refine ⟨_, rfl, fun z => (nomatch z), fun z => ?_⟩
            clear g h zl q1 hl hd hlen l0 r1 l2 hdi eq z hx2
            walk_at "evh") ⟨none, none, rfl⟩
      rw [all_idx qRow (rs.zip ds)] at h1 h2
      have en : ((ds.length : Int) == ((rs.zip ds).length : Int)) = true := by rw [zl, hlen]; simp
      cases hv : (rs.zip ds).all qRow with
      | true =>
        obtain ⟨δ', hf, x2, x3, rfl⟩ := h1 hv
        clear g h h1 h2 zl hl hd hlen r1 hv
        walk_at "evh"
      | false =>
        have hf := h2 hv
        clear g h h1 h2 zl hl hd hlen r1 hv
        walk_at "evh"
    · have hne : numsB (m : Int) (n : Int) rs (.tup ds) = false := by
        show ((decide ((ds.length : Int) = (m : Int)) && ds.all (rowB (n : Int))) && fitsR rs ds) = _
        rw [decide_eq_false (by have := g.rows.1; omega), Bool.false_and, Bool.false_and]
      have en : ((ds.length : Int) == (rs.length : Int)) = false := by simp; omega
      rw [hne]
      clear g h hl hd hlen hne
      walk_at "evh"
  · have hne : numsB (m : Int) (n : Int) rs x = false := by unfold numsB; rw [rowsB_no hx, Bool.false_and]
    rw [hne]
    clear g h hx hne
    walk_at "evh"
end
end P07
set_option Elab.async false
set_option linter.all false
set_option maxRecDepth 100000
set_option maxHeartbeats 1000000
namespace P07
open PySem L2 DL
local macro_rules | `(tactic| walk_at "ev") => `(tactic| simp (config := { decide := false, implicitDefEqProofs := false }) only [bind_ok, bind_err, sE_ok, sE_err, bnd_nx, bnd_rt, bnd_bk, bnd_ct, bnd_err, sSeq_eq, dEnd_rt, dEnd_nx, dEnd_err, giveS_d, giveS_dA, giveS_nil,
  dVar, dC, d2, d1, dB, dChain, dAnd, dOr, dNot, dTru, dAndV, dOrV, dNotV, dIf, aNil, aCons, dTup, dLst, dLoc, dCall, dCB, b1, dIt, sNx, sBk, sCt, sRet, sRetN, sDrop, sSet, sIf, sPar, truth_bl, asB_bl, oI0_eq, oIsi, ty_int, ty_bl, ty_str, ty_non, ty_tup, ty_lst, isi_ii, isi_ib, isi_it, isi_tt, isi_ti, isi_tb,
  oAbs, oInt, oNeg, oEq_int, oNe_int, dFld, dSl, dPt, dNoPt, asPt_int, isN_non, isN_tup, isN_U, notN_non, notN_tup, notN_U, dMake, sFldPut,
  List.map_cons, List.map_nil, List.length_cons, List.length_nil, List.getElem?_cons_zero, List.getElem?_cons_succ, List.set_cons_zero, List.set_cons_succ, List.cons_append, List.nil_append, List.append_nil, Nat.reduceAdd, Nat.reduceSub, Nat.zero_add, if_true, if_false, Bool.not_true, Bool.not_false, Bool.false_eq_true, reduceIte, List.replicate_zero, List.replicate_succ, Nat.sub_self, beq_self_eq_true, Int.reduceLT, Int.reduceLE, Int.reduceAdd, Int.reduceSub, Int.reduceMul, Int.reduceNeg, Int.reducePow, Int.reduceToNat, Int.reduceEq, Int.reduceBEq, decide_true, decide_false, mkTup1, mkTup2, mkTup3, mkLst2, mkLst5, ix20, ix21, ixF0, ixF1, len_tup, len_lst, lenF, tyF, lenU, tyU, oEqF, oEqU, oNeU, zipU, tgN, tgT, tgCons, tgNil, wipeE, Option.bind_some, tuple_lst, list_lst, st0, st1, st2, st3, se1, se2, se3, giveS_st, tgIx, sAsg, Option.map_some, oMod_eq, isi_int', isi_bl', isi_str', isi_non', isi_tup', isi_lst', isi_dct', isi_U', isi_F', isi_ins', tc_int, tc_bool, tc_tuple, ty_dct, isi_bi, isi_bb, isi_bt, isi_si, isi_sb, isi_st, isi_ni, isi_nb, isi_nt, isi_li, isi_lb, isi_lt, isi_di, isi_db, isi_dt, sRaise, dDct, mkLoc2, mkLoc7, mkLoc8, mkLoc9, mkLoc11, mkLoc17, mkLoc25, mkLoc32, oCatL, mkTup4, mkLst4, isi_N', isi_Row', isi_R'])
local macro_rules | `(tactic| walk_at "evh") => `(tactic| simp (config := { decide := false, implicitDefEqProofs := false }) only [bind_ok, bind_err, sE_ok, sE_err, bnd_nx, bnd_rt, bnd_bk, bnd_ct, bnd_err, sSeq_eq, dEnd_rt, dEnd_nx, dEnd_err, giveS_d, giveS_dA, giveS_nil,
  dVar, dC, d2, d1, dB, dChain, dAnd, dOr, dNot, dTru, dAndV, dOrV, dNotV, dIf, aNil, aCons, dTup, dLst, dLoc, dCall, dCB, b1, dIt, sNx, sBk, sCt, sRet, sRetN, sDrop, sSet, sIf, sPar, truth_bl, asB_bl, oI0_eq, oIsi, ty_int, ty_bl, ty_str, ty_non, ty_tup, ty_lst, isi_ii, isi_ib, isi_it, isi_tt, isi_ti, isi_tb,
  oAbs, oInt, oNeg, oEq_int, oNe_int, dFld, dSl, dPt, dNoPt, asPt_int, isN_non, isN_tup, isN_U, notN_non, notN_tup, notN_U, dMake, sFldPut,
  List.map_cons, List.map_nil, List.length_cons, List.length_nil, List.getElem?_cons_zero, List.getElem?_cons_succ, List.set_cons_zero, List.set_cons_succ, List.cons_append, List.nil_append, List.append_nil, Nat.reduceAdd, Nat.reduceSub, Nat.zero_add, if_true, if_false, Bool.not_true, Bool.not_false, Bool.false_eq_true, reduceIte, List.replicate_zero, List.replicate_succ, Nat.sub_self, beq_self_eq_true, Int.reduceLT, Int.reduceLE, Int.reduceAdd, Int.reduceSub, Int.reduceMul, Int.reduceNeg, Int.reducePow, Int.reduceToNat, Int.reduceEq, Int.reduceBEq, decide_true, decide_false, mkTup1, mkTup2, mkTup3, mkLst2, mkLst5, ix20, ix21, ixF0, ixF1, len_tup, len_lst, lenF, tyF, lenU, tyU, oEqF, oEqU, oNeU, zipU, tgN, tgT, tgCons, tgNil, wipeE, Option.bind_some, tuple_lst, list_lst, st0, st1, st2, st3, se1, se2, se3, giveS_st, tgIx, sAsg, Option.map_some, oMod_eq, isi_int', isi_bl', isi_str', isi_non', isi_tup', isi_lst', isi_dct', isi_U', isi_F', isi_ins', tc_int, tc_bool, tc_tuple, ty_dct, isi_bi, isi_bb, isi_bt, isi_si, isi_sb, isi_st, isi_ni, isi_nb, isi_nt, isi_li, isi_lb, isi_lt, isi_di, isi_db, isi_dt, sRaise, dDct, mkLoc2, mkLoc7, mkLoc8, mkLoc9, mkLoc11, mkLoc17, mkLoc25, mkLoc32, oCatL, mkTup4, mkLst4, isi_N', isi_Row', isi_R', oMul_eq, oDiv_eq, oPow_eq, *])
noncomputable def b_law_6 (C : Str → Addr) : FS := sSeq (sSet 8 (dCall 2 (g__law_place C) (aCons (dVar 1) (aCons (dVar 3) (aNil))))) (sSeq (sSet 9 (dCall 2 (g__law_place C) (aCons (dVar 1) (aCons (dVar 4) (aNil))))) (sSeq (sSet 10 (dCall 2 (g__law_thing C) (aCons (dVar 1) (aCons (dVar 2) (aNil))))) (sSeq (sSet 11 (dIf (dAnd (dTru (dCall 2 (g__law_is_place C) (aCons (dVar 8) (aCons (dVar 3) (aNil))))) (dTru (dCall 2 (g__law_is_place C) (aCons (dVar 9) (aCons (dVar 4) (aNil)))))) (dC (.str "none")) (dC (.str "cell")))) (sSeq (sIf (dB (d2 oNe (dCall 5 (g__law_found C) (aCons (dC (.int 0)) (aCons (dVar 6) (aCons (dVar 8) (aCons (dVar 9) (aCons (dC .non) (aNil))))))) (dVar 11))) (sRet (dC (.bl false))) (sNx)) (sSeq (sIf (dAnd (dB (d2 oEq (dVar 11) (dC (.str "none")))) (dNot (dTru (dCall 2 (g__law_is_cell C) (aCons (dVar 2) (aCons (dVar 10) (aNil))))))) (sSet 11 (dC (.str "unit"))) (sNx)) (sSeq (sIf (dB (d2 oNe (dCall 5 (g__law_found C) (aCons (dC (.int 1)) (aCons (dVar 6) (aCons (dVar 8) (aCons (dVar 9) (aCons (dVar 10) (aNil))))))) (dVar 11))) (sRet (dC (.bl false))) (sNx)) (sSeq (sSet 12 (dCall 2 (g__law_numbers C) (aCons (dVar 1) (aCons (dVar 5) (aNil))))) (sSeq (sSet 13 (dCall 2 (g__law_some_roots C) (aCons (dVar 1) (aCons (dVar 2) (aNil))))) (sSeq (sSet 14 (dLst (aCons (dCall 2 (g_are_numbers C) (aCons (dVar 6) (aCons (dVar 12) (aNil)))) (aCons (dCall 2 (g_are_values C) (aCons (dVar 6) (aCons (dVar 12) (aNil)))) (aNil))))) (sSeq (sIf (dOr (dB (d2 oNe (dVar 14) (dLst (aCons (dCall 2 (g__law_are_numbers C) (aCons (dVar 5) (aCons (dVar 12) (aNil)))) (aCons (dCall 2 (g__law_are_values C) (aCons (dVar 5) (aCons (dVar 12) (aNil)))) (aNil)))))) (dNot (dTru (dCB (oIsiI [C "Grid"]) (aCons (d2 oIx (dVar 14) (dC (.int 1))) (aCons (dC (.ty "bool")) (aNil))))))) (sRet (dC (.bl false))) (sNx)) (sSeq (sIf (dNot (dTru (dCB (oIsiI [C "Grid"]) (aCons (d2 oIx (dVar 14) (dC (.int 0))) (aCons (dC (.ty "bool")) (aNil)))))) (sRet (dC (.bl false))) (sNx)) (sSeq (sSet 11 (dIf (dAnd (dTru (dCall 2 (g__law_is_unit C) (aCons (dVar 2) (aCons (dVar 13) (aNil))))) (dTru (dCB (b1 oAll) (aCons (dLc lcF (dSeq (dVar 13)) (tgN 15) (ftYes) (d2 oGt (d2 oIx (dVar 15) (dC (.int 0))) (dC (.int 0))) [15]) (aNil))))) (dC (.str "none")) (dC (.str "roots")))) (sSeq (sIf (dNot (dTru (d2 oIx (dVar 14) (dC (.int 0))))) (sSet 11 (dC (.str "numbers"))) (sNx)) (sIf (dB (d2 oNe (dCall 5 (g__law_found C) (aCons (dC (.int 2)) (aCons (dVar 6) (aCons (dVar 12) (aCons (dVar 13) (aCons (dC .non) (aNil))))))) (dVar 11))) (sRet (dC (.bl false))) (sNx)))))))))))))))
noncomputable def l_law_6 (C : Str → Addr) : FS := dFor (dIt oRng1 (aCons (dC (.int 3)) (aNil))) (tgN 7) (b_law_6 C)
noncomputable def p_law_0 (C : Str → Addr) (rest : FS) : FS := sSeq (sSet 1 (dCall 2 (g__law_state C) (aCons (dVar 0) (aCons (dC (.int 7)) (aNil))))) (sSeq (sSet 2 (d2 oAdd (dC (.int 1)) (dCall 2 (g__law_draw C) (aCons (dVar 1) (aCons (dC (.int 3)) (aNil)))))) (sSeq (sSet 3 (d2 oAdd (dC (.int 1)) (dCall 2 (g__law_draw C) (aCons (dVar 1) (aCons (dC (.int 4)) (aNil)))))) (sSeq (sSet 4 (d2 oAdd (dC (.int 1)) (dCall 2 (g__law_draw C) (aCons (dVar 1) (aCons (dC (.int 4)) (aNil)))))) (sSeq (sSet 5 (dCall 5 (g__law_rows C) (aCons (dVar 1) (aCons (dVar 2) (aCons (dVar 3) (aCons (dVar 4) (aCons (dC (.int 2)) (aNil)))))))) (rest)))))
noncomputable def p_law_1 (C : Str → Addr) (rest : FS) : FS := sSeq (sSet 6 (dMake (C "Grid") 3 (g_Grid__init__ C) (aCons (dVar 2) (aCons (dVar 5) (aNil))))) (rest)
noncomputable def p_law_2 (C : Str → Addr) (rest : FS) : FS := sSeq (l_law_6 C) (rest)
noncomputable def p_law_3 (C : Str → Addr) : FS := sRet (dAndV (d2 oEq (dFld (C "Grid") "rows" (dVar 6)) (dVar 5)) (d2 oEq (dFld (C "Grid") "bases" (dVar 6)) (dVar 2)))
theorem parts_law (C : Str → Addr) : F_law C = p_law_0 C (p_law_1 C (p_law_2 C (p_law_3 C))) := rfl
noncomputable def p_b_law_6_0 (C : Str → Addr) (rest : FS) : FS := sSeq (sSet 8 (dCall 2 (g__law_place C) (aCons (dVar 1) (aCons (dVar 3) (aNil))))) (sSeq (sSet 9 (dCall 2 (g__law_place C) (aCons (dVar 1) (aCons (dVar 4) (aNil))))) (sSeq (sSet 10 (dCall 2 (g__law_thing C) (aCons (dVar 1) (aCons (dVar 2) (aNil))))) (rest)))
noncomputable def p_b_law_6_1 (C : Str → Addr) (rest : FS) : FS := sSeq (sSet 11 (dIf (dAnd (dTru (dCall 2 (g__law_is_place C) (aCons (dVar 8) (aCons (dVar 3) (aNil))))) (dTru (dCall 2 (g__law_is_place C) (aCons (dVar 9) (aCons (dVar 4) (aNil)))))) (dC (.str "none")) (dC (.str "cell")))) (rest)
noncomputable def p_b_law_6_2 (C : Str → Addr) (rest : FS) : FS := sSeq (sIf (dB (d2 oNe (dCall 5 (g__law_found C) (aCons (dC (.int 0)) (aCons (dVar 6) (aCons (dVar 8) (aCons (dVar 9) (aCons (dC .non) (aNil))))))) (dVar 11))) (sRet (dC (.bl false))) (sNx)) (sSeq (sIf (dAnd (dB (d2 oEq (dVar 11) (dC (.str "none")))) (dNot (dTru (dCall 2 (g__law_is_cell C) (aCons (dVar 2) (aCons (dVar 10) (aNil))))))) (sSet 11 (dC (.str "unit"))) (sNx)) (sSeq (sIf (dB (d2 oNe (dCall 5 (g__law_found C) (aCons (dC (.int 1)) (aCons (dVar 6) (aCons (dVar 8) (aCons (dVar 9) (aCons (dVar 10) (aNil))))))) (dVar 11))) (sRet (dC (.bl false))) (sNx)) (rest)))
noncomputable def p_b_law_6_3 (C : Str → Addr) (rest : FS) : FS := sSeq (sSet 12 (dCall 2 (g__law_numbers C) (aCons (dVar 1) (aCons (dVar 5) (aNil))))) (sSeq (sSet 13 (dCall 2 (g__law_some_roots C) (aCons (dVar 1) (aCons (dVar 2) (aNil))))) (rest))
noncomputable def p_b_law_6_4 (C : Str → Addr) (rest : FS) : FS := sSeq (sSet 14 (dLst (aCons (dCall 2 (g_are_numbers C) (aCons (dVar 6) (aCons (dVar 12) (aNil)))) (aCons (dCall 2 (g_are_values C) (aCons (dVar 6) (aCons (dVar 12) (aNil)))) (aNil))))) (sSeq (sIf (dOr (dB (d2 oNe (dVar 14) (dLst (aCons (dCall 2 (g__law_are_numbers C) (aCons (dVar 5) (aCons (dVar 12) (aNil)))) (aCons (dCall 2 (g__law_are_values C) (aCons (dVar 5) (aCons (dVar 12) (aNil)))) (aNil)))))) (dNot (dTru (dCB (oIsiI [C "Grid"]) (aCons (d2 oIx (dVar 14) (dC (.int 1))) (aCons (dC (.ty "bool")) (aNil))))))) (sRet (dC (.bl false))) (sNx)) (sSeq (sIf (dNot (dTru (dCB (oIsiI [C "Grid"]) (aCons (d2 oIx (dVar 14) (dC (.int 0))) (aCons (dC (.ty "bool")) (aNil)))))) (sRet (dC (.bl false))) (sNx)) (rest)))
noncomputable def p_b_law_6_5 (C : Str → Addr) : FS := sSeq (sSet 11 (dIf (dAnd (dTru (dCall 2 (g__law_is_unit C) (aCons (dVar 2) (aCons (dVar 13) (aNil))))) (dTru (dCB (b1 oAll) (aCons (dLc lcF (dSeq (dVar 13)) (tgN 15) (ftYes) (d2 oGt (d2 oIx (dVar 15) (dC (.int 0))) (dC (.int 0))) [15]) (aNil))))) (dC (.str "none")) (dC (.str "roots")))) (sSeq (sIf (dNot (dTru (d2 oIx (dVar 14) (dC (.int 0))))) (sSet 11 (dC (.str "numbers"))) (sNx)) ((sIf (dB (d2 oNe (dCall 5 (g__law_found C) (aCons (dC (.int 2)) (aCons (dVar 6) (aCons (dVar 12) (aCons (dVar 13) (aCons (dC .non) (aNil))))))) (dVar 11))) (sRet (dC (.bl false))) (sNx))))
theorem parts_b_law_6 (C : Str → Addr) : b_law_6 C = p_b_law_6_0 C (p_b_law_6_1 C (p_b_law_6_2 C (p_b_law_6_3 C (p_b_law_6_4 C (p_b_law_6_5 C))))) := rfl
section
variable (C : Str → Addr) (S : Store) {x y z d : D} {b m n : Nat} {rs : List (List (Option Unit'))}
theorem i_values (g : GrOk b m n rs) (h : TgK 10000000000000000000000000000000000000000 (C "Grid") x) : ∃ k, g_are_values C [.d (gridD C b rs), .d x] S = some (.ok (.d (.bl k)), S) ∧ g__law_are_values C [.d (encR rs), .d x] S = some (.ok (.d (.bl k)), S) := by
  have e1 := i_are_numbers C S g h
  have e2 := i_law_are_numbers C S g h
  cases hn : numsB (m : Int) (n : Int) rs x with
  | true =>
    obtain ⟨ns, rfl, hk⟩ := numsB_of (nb := 134) g (by decide) h.tk hn
    rw [hn] at e2
    exact ⟨_, e_are_values C S g hk, e_law_are_values C S g hk e2⟩
  | false =>
    refine ⟨false, ?_, ?_⟩
    · rw [q_are_values, F_are_values]
      clear g h e2
      walk_at "evh"
    · rw [q__law_are_values, F__law_are_values]
      clear g h e1
      walk_at "evh"
theorem rootsB_of {G : Addr} (hy : TgK 24 G y) (h : rootsB (b : Int) y = true) : ∃ ms, y = encU ms ∧ RtOk b 5 ms := by
  cases y with
  | tup ds =>
    have h' : (decide ((ds.length : Int) = (b : Int)) && ds.all aboveB) = true := h
    rw [Bool.and_eq_true, decide_eq_true_eq] at h'
    obtain ⟨ms, rfl, hm⟩ := all_above h'.2
    have hl := h'.1
    rw [List.length_map] at hl
    refine ⟨ms, rfl, by omega, fun r hr => ?_, by decide, by decide⟩
    have hb := Tk.frac (hy.tk.items.2 _ (List.mem_map_of_mem hr))
    exact ⟨⟨(hm r hr).1, by have := hb.1; unfold Bd; omega, by have := hb.2; unfold Bd; omega⟩, (hm r hr).2⟩
  | _ => cases h
theorem renum_1 (g : GrOk b m n rs) (h : TgK 10000000000000000000000000000000000000000 (C "Grid") x) (hn : numsB (m : Int) (n : Int) rs x = false) : g_renumbered C [.d (gridD C b rs), .d x, .d y] S = bad "NoNumbers" S := by
  have e1 := i_are_numbers C S g h
  rw [q_renumbered, F_renumbered]
  clear g h
  walk_at "evh"
theorem renum_2 (g : GrOk b m n rs) (h : TgK 10000000000000000000000000000000000000000 (C "Grid") x) (hy : TgK 24 (C "Grid") y) (hn : numsB (m : Int) (n : Int) rs x = true) (hr : rootsB (b : Int) y = false) : g_renumbered C [.d (gridD C b rs), .d x, .d y] S = bad "NoRoots" S := by
  have e1 := i_are_numbers C S g h
  have e2 := c_roots C S (b : Int) (hy.mono (by decide))
  rw [hr, if_neg Bool.false_ne_true] at e2
  have f := fld_bases C S (b := b) (rs := rs)
  rw [q_renumbered, F_renumbered]
  clear g h hy
  walk_at "evh"
theorem renum_3 (g : GrOk b m n rs) (h : TgK 10000000000000000000000000000000000000000 (C "Grid") x) (hy : TgK 24 (C "Grid") y) (hn : numsB (m : Int) (n : Int) rs x = true) (hr : rootsB (b : Int) y = true) : ∃ r, g_renumbered C [.d (gridD C b rs), .d x, .d y] S = some (.ok (.d r), S) := by
  have e1 := i_are_numbers C S g h
  have e2 := c_roots C S (b : Int) (hy.mono (by decide))
  rw [hr, if_pos rfl] at e2
  rw [hn] at e1
  obtain ⟨ns, rfl, hk⟩ := numsB_of (nb := 134) g (by decide) h.tk hn
  obtain ⟨ms, rfl, q⟩ := rootsB_of hy hr
  have e3 := e_bottom C S g
  rw [unitsR_fold] at e3
  have e4 := e_raw_renumbered C S g hk q (by decide) (by decide)
  have ek : rs.foldl (fun a r => r.foldl lcmC a) 1 = lcmR rs := rfl
  rw [ek] at e3
  have f := fld_bases C S (b := b) (rs := rs)
  refine ⟨encN (renum (fU (lcmR rs) ms) rs ns), ?_⟩
  rw [q_renumbered, F_renumbered]
  clear g h hk q hy hn hr ek
  walk_at "evh"
/-! ### found -/
abbrev HL : List (Str × FS) := [("NoCell", sSet 5 (dC (.str "cell"))), ("NoUnit", sSet 5 (dC (.str "unit"))), ("NoNumbers", sSet 5 (dC (.str "numbers"))), ("NoRoots", sSet 5 (dC (.str "roots"))), ("GridError", sSet 5 (dC (.str "other")))]
variable {w : Int} {gd : D}
theorem found_bad {nm wd : Str} (hc : g__law_called C [.d (.int w), .d gd, .d x, .d y, .d z] S = bad nm S) (hm : nm ∈ excs) (hs : ∀ a b c d e f, sHandle subE HL ⟨nm, [], []⟩ [a, b, c, d, e, f] S = some (.ok (.nx [a, b, c, d, e, some (.d (.str wd))]), S)) : g__law_found C [.d (.int w), .d gd, .d x, .d y, .d z] S = some (.ok (.d (.str wd)), S) := by
  have ht := try_bad (cs := excs) (sub := subE) (body := sDrop (dCall 5 (g__law_called C) (aCons (dVar 0) (aCons (dVar 1) (aCons (dVar 2) (aCons (dVar 3) (aCons (dVar 4) (aNil)))))))) (l := HL) (x := ⟨nm, [], []⟩) (δ := [some (.d (.int w)), some (.d gd), some (.d x), some (.d y), some (.d z), some (.d (.str "none"))]) (δ1 := [some (.d (.int w)), some (.d gd), some (.d x), some (.d y), some (.d z), some (.d (.str "none"))]) (S := S) (S1 := S) (by walk_at "evh") hm
  rw [hs] at ht
  rw [q__law_found, F__law_found]
  clear hs hc hm
  walk_at "evh"
theorem found_ok {r : D} (hc : g__law_called C [.d (.int w), .d gd, .d x, .d y, .d z] S = some (.ok (.d r), S)) : g__law_found C [.d (.int w), .d gd, .d x, .d y, .d z] S = some (.ok (.d (.str "none")), S) := by
  have ht := try_ok (cs := excs) (sub := subE) (body := sDrop (dCall 5 (g__law_called C) (aCons (dVar 0) (aCons (dVar 1) (aCons (dVar 2) (aCons (dVar 3) (aCons (dVar 4) (aNil)))))))) (l := HL) (δ := [some (.d (.int w)), some (.d gd), some (.d x), some (.d y), some (.d z), some (.d (.str "none"))]) (δ1 := [some (.d (.int w)), some (.d gd), some (.d x), some (.d y), some (.d z), some (.d (.str "none"))]) (S := S) (S1 := S) (by walk_at "evh")
  rw [q__law_found, F__law_found]
  clear hc
  walk_at "evh"
theorem found_cell (hc : g__law_called C [.d (.int w), .d gd, .d x, .d y, .d z] S = bad "NoCell" S) : g__law_found C [.d (.int w), .d gd, .d x, .d y, .d z] S = some (.ok (.d (.str "cell")), S) :=
  found_bad C S hc (by decide) fun a b c d e f => by
    rw [sHandle, if_pos (by decide)]
    rfl
theorem found_unit (hc : g__law_called C [.d (.int w), .d gd, .d x, .d y, .d z] S = bad "NoUnit" S) : g__law_found C [.d (.int w), .d gd, .d x, .d y, .d z] S = some (.ok (.d (.str "unit")), S) :=
  found_bad C S hc (by decide) fun a b c d e f => by
    rw [sHandle, if_neg (by decide), sHandle, if_pos (by decide)]
    rfl
theorem found_numbers (hc : g__law_called C [.d (.int w), .d gd, .d x, .d y, .d z] S = bad "NoNumbers" S) : g__law_found C [.d (.int w), .d gd, .d x, .d y, .d z] S = some (.ok (.d (.str "numbers")), S) :=
  found_bad C S hc (by decide) fun a b c d e f => by
    rw [sHandle, if_neg (by decide), sHandle, if_neg (by decide), sHandle, if_pos (by decide)]
    rfl
theorem found_roots (hc : g__law_called C [.d (.int w), .d gd, .d x, .d y, .d z] S = bad "NoRoots" S) : g__law_found C [.d (.int w), .d gd, .d x, .d y, .d z] S = some (.ok (.d (.str "roots")), S) :=
  found_bad C S hc (by decide) fun a b c d e f => by
    rw [sHandle, if_neg (by decide), sHandle, if_neg (by decide), sHandle, if_neg (by decide), sHandle, if_pos (by decide)]
    rfl
theorem called_0 {R : Except Ex W} (h : g_cell C [.d gd, .d x, .d y] S = some (R, S)) (hr : (∃ nm, R = .error ⟨nm, [], []⟩) ∨ ∃ r, R = .ok (.d r)) : g__law_called C [.d (.int 0), .d gd, .d x, .d y, .d z] S = some (R, S) := by
  rw [q__law_called, F__law_called]
  rcases hr with ⟨nm, rfl⟩ | ⟨r, rfl⟩ <;> walk_at "evh"
theorem called_1 {R : Except Ex W} (h : g_retold C [.d gd, .d x, .d y, .d z] S = some (R, S)) (hr : (∃ nm, R = .error ⟨nm, [], []⟩) ∨ ∃ r, R = .ok (.d r)) : g__law_called C [.d (.int 1), .d gd, .d x, .d y, .d z] S = some (R, S) := by
  rw [q__law_called, F__law_called]
  rcases hr with ⟨nm, rfl⟩ | ⟨r, rfl⟩ <;> walk_at "evh"
theorem called_2 {R : Except Ex W} (h : g_renumbered C [.d gd, .d x, .d y] S = some (R, S)) (hr : (∃ nm, R = .error ⟨nm, [], []⟩) ∨ ∃ r, R = .ok (.d r)) : g__law_called C [.d (.int 2), .d gd, .d x, .d y, .d z] S = some (R, S) := by
  rw [q__law_called, F__law_called]
  rcases hr with ⟨nm, rfl⟩ | ⟨r, rfl⟩ <;> walk_at "evh"
theorem er (nm : Str) : (∃ nm', (Except.error ⟨nm, [], []⟩ : Except Ex W) = .error ⟨nm', [], []⟩) ∨ ∃ r, (Except.error ⟨nm, [], []⟩ : Except Ex W) = .ok (.d r) := .inl ⟨nm, rfl⟩
theorem ok' (r : D) : (∃ nm', (Except.ok (.d r) : Except Ex W) = .error ⟨nm', [], []⟩) ∨ ∃ r', (Except.ok (.d r) : Except Ex W) = .ok (.d r') := .inr ⟨r, rfl⟩
def due0 (a : Bool) : Str := if a = true then "none" else "cell"
def due1 (a c : Bool) : Str := if a = true then (if c = true then "none" else "unit") else "cell"
def due2 (n r : Bool) : Str := if n = true then (if r = true then "none" else "roots") else "numbers"
theorem found_0 (g : GrOk b m n rs) (hx : TgK 10000000000000000000000000000000000000000 (C "Grid") x) (hy : TgK 10000000000000000000000000000000000000000 (C "Grid") y) : g__law_found C [.d (.int 0), .d (gridD C b rs), .d x, .d y, .d z] S = some (.ok (.d (.str (due0 (atB m n x y)))), S) := by
  cases h : atB m n x y with
  | true =>
    obtain ⟨r, e⟩ := cell_ok C S g h
    exact found_ok C S (called_0 C S e (ok' r))
  | false => exact found_cell C S (called_0 C S (cell_bad C S g hx hy h) (er _))
theorem found_1 (g : GrOk b m n rs) (hx : TgK 10000000000000000000000000000000000000000 (C "Grid") x) (hy : TgK 10000000000000000000000000000000000000000 (C "Grid") y) (hz : TgK 10000000000000000000000000000000000000000 (C "Grid") z) : g__law_found C [.d (.int 1), .d (gridD C b rs), .d x, .d y, .d z] S = some (.ok (.d (.str (due1 (atB m n x y) (cellB (b : Int) z)))), S) := by
  cases h : atB m n x y with
  | true =>
    cases hc : cellB (b : Int) z with
    | true =>
      obtain ⟨r, e⟩ := retold_ok C S g h hc
      exact found_ok C S (called_1 C S e (ok' r))
    | false => exact found_unit C S (called_1 C S (retold_unit C S g hx hy hz h hc) (er _))
  | false => exact found_cell C S (called_1 C S (retold_cell C S g hx hy h) (er _))
theorem found_2 (g : GrOk b m n rs) (hx : TgK 10000000000000000000000000000000000000000 (C "Grid") x) (hy : TgK 24 (C "Grid") y) : g__law_found C [.d (.int 2), .d (gridD C b rs), .d x, .d y, .d z] S = some (.ok (.d (.str (due2 (numsB (m : Int) (n : Int) rs x) (rootsB (b : Int) y)))), S) := by
  cases h : numsB (m : Int) (n : Int) rs x with
  | true =>
    cases hc : rootsB (b : Int) y with
    | true =>
      obtain ⟨r, e⟩ := renum_3 C S g hx hy h hc
      exact found_ok C S (called_2 C S e (ok' r))
    | false => exact found_roots C S (called_2 C S (renum_2 C S g hx hy h hc) (er _))
  | false => exact found_numbers C S (called_2 C S (renum_1 C S g hx h) (er _))
/-! ### the round's parts -/
variable {x0 x7 x11 x12 x13 x14 x15 : Option W} {rest : FS}
theorem eq_nn : oEq (.d (.str "none")) (.d (.str "none")) S = some (.ok (.d (.bl true)), S) := oEq_refl (pl_str "none" (by decide +kernel)) (by decide)
theorem eq_cn : oEq (.d (.str "cell")) (.d (.str "none")) S = some (.ok (.d (.bl false)), S) := by
  have e : eqW (.d (.str "cell")) (.d (.str "none")) = some false := by decide +kernel
  simp [oEq, e]
theorem ne_none : oNe (.d (.str "none")) (.d (.str "none")) S = some (.ok (.d (.bl false)), S) := ne_str "none" (by decide +kernel)
theorem ne_cell : oNe (.d (.str "cell")) (.d (.str "cell")) S = some (.ok (.d (.bl false)), S) := ne_str "cell" (by decide +kernel)
theorem ne_unit : oNe (.d (.str "unit")) (.d (.str "unit")) S = some (.ok (.d (.bl false)), S) := ne_str "unit" (by decide +kernel)
theorem ne_numbers : oNe (.d (.str "numbers")) (.d (.str "numbers")) S = some (.ok (.d (.bl false)), S) := ne_str "numbers" (by decide +kernel)
theorem ne_roots : oNe (.d (.str "roots")) (.d (.str "roots")) S = some (.ok (.d (.bl false)), S) := ne_str "roots" (by decide +kernel)
theorem part12 (g : GrOk b m n rs) (hx : TgK 10000000000000000000000000000000000000000 (C "Grid") x) (hy : TgK 10000000000000000000000000000000000000000 (C "Grid") y) (hz : TgK 10000000000000000000000000000000000000000 (C "Grid") z) : ∃ y11,
    p_b_law_6_1 C (p_b_law_6_2 C rest) [x0, some (.loc 0), some (.d (.int (b : Int))), some (.d (.int (m : Int))), some (.d (.int (n : Int))), some (.d (encR rs)), some (.d (gridD C b rs)), x7, some (.d x), some (.d y), some (.d z), x11, x12, x13, x14, x15] S =
    rest [x0, some (.loc 0), some (.d (.int (b : Int))), some (.d (.int (m : Int))), some (.d (.int (n : Int))), some (.d (encR rs)), some (.d (gridD C b rs)), x7, some (.d x), some (.d y), some (.d z), some (.d (.str y11)), x12, x13, x14, x15] S := by
  have e1 := i_law_place C S (m : Int) hx
  have e2 := i_law_place C S (n : Int) hy
  have e3 := found_0 C S (z := .non) g hx hy
  have e4 := found_1 C S g hx hy hz
  have e5 := i_law_cell C S hz g.b3
  have n1 := ne_none S
  have n2 := ne_cell S
  have n3 := ne_unit S
  have q1 := eq_nn S
  have q2 := eq_cn S
  unfold atB at e3 e4
  unfold p_b_law_6_1 p_b_law_6_2
  clear g hx hy hz
  cases p1 : plB 0 ((m : Int) - 1) x with
  | true =>
    cases p2 : plB 0 ((n : Int) - 1) y with
    | true =>
      rw [p1, p2] at e3 e4
      have d0 : due0 (true && true) = "none" := rfl
      rw [d0] at e3
      cases hc : cellB (b : Int) z with
      | true =>
        rw [hc] at e4
        have d1 : due1 (true && true) true = "none" := rfl
        rw [d1] at e4
        refine ⟨"none", ?_⟩
        clear d0 d1
        walk_at "evh"
      | false =>
        rw [hc] at e4
        have d1 : due1 (true && true) false = "unit" := rfl
        rw [d1] at e4
        refine ⟨"unit", ?_⟩
        clear d0 d1
        walk_at "evh"
    | false =>
      rw [p1, p2] at e3 e4
      have d0 : due0 (true && false) = "cell" := rfl
      have d1 : due1 (true && false) (cellB (b : Int) z) = "cell" := rfl
      rw [d0] at e3
      rw [d1] at e4
      refine ⟨"cell", ?_⟩
      clear d0 d1
      walk_at "evh"
  | false =>
    rw [p1] at e3 e4
    have d0 : due0 (false && plB 0 ((n : Int) - 1) y) = "cell" := rfl
    have d1 : due1 (false && plB 0 ((n : Int) - 1) y) (cellB (b : Int) z) = "cell" := rfl
    rw [d0] at e3
    rw [d1] at e4
    refine ⟨"cell", ?_⟩
    clear d0 d1 e2
    walk_at "evh"
theorem part4 (g : GrOk b m n rs) {x : D} (hx : TgK 10000000000000000000000000000000000000000 (C "Grid") x) {x8 x9 x10 : Option W} : ∃ k : Bool,
    p_b_law_6_4 C rest [x0, some (.loc 0), some (.d (.int (b : Int))), some (.d (.int (m : Int))), some (.d (.int (n : Int))), some (.d (encR rs)), some (.d (gridD C b rs)), x7, x8, x9, x10, x11, some (.d x), x13, x14, x15] S =
    rest [x0, some (.loc 0), some (.d (.int (b : Int))), some (.d (.int (m : Int))), some (.d (.int (n : Int))), some (.d (encR rs)), some (.d (gridD C b rs)), x7, x8, x9, x10, x11, some (.d x), x13, some (.d (.lst [.bl (numsB (m : Int) (n : Int) rs x), .bl k])), x15] S := by
  have e1 := i_are_numbers C S g hx
  have e2 := i_law_are_numbers C S g hx
  obtain ⟨k, e3, e4⟩ := i_values C S g hx
  generalize numsB (m : Int) (n : Int) rs x = j at *
  have q : oNe (.d (.lst [.bl j, .bl k])) (.d (.lst [.bl j, .bl k])) S = some (.ok (.d (.bl false)), S) := oNe_refl (n := 1) (pl_lst fun d hd => by
    simp at hd
    rcases hd with rfl | rfl
    · exact pl_bl j
    · exact pl_bl k) (by decide)
  have i0 : oIx (.d (.lst [.bl j, .bl k])) (.d (.int 0)) S = some (.ok (.d (.bl j)), S) := rfl
  have i1 : oIx (.d (.lst [.bl j, .bl k])) (.d (.int 1)) S = some (.ok (.d (.bl k)), S) := rfl
  have t : isiB "bool" "bool" = some true := by decide
  refine ⟨k, ?_⟩
  unfold p_b_law_6_4
  clear g hx
  walk_at "evh"
theorem roots_due {y : D} (hy : TgK 24 (C "Grid") y) {a0 a1 a3 a4 a5 a6 a7 a8 a9 a10 a11 a12 a14 a15 : Option W} :
    dAnd (dTru (dCall 2 (g__law_is_unit C) (aCons (dVar 2) (aCons (dVar 13) (aNil))))) (dTru (dCB (b1 oAll) (aCons (dLc lcF (dSeq (dVar 13)) (tgN 15) (ftYes) (d2 oGt (d2 oIx (dVar 15) (dC (.int 0))) (dC (.int 0))) [15]) (aNil)))) [a0, a1, some (.d (.int (b : Int))), a3, a4, a5, a6, a7, a8, a9, a10, a11, a12, some (.d y), a14, a15] S = some (.ok (rootsB (b : Int) y), S) := by
  have e := i_law_unit C S (b : Int) (hy.mono (by decide))
  by_cases hu : unitB (b : Int) y = true
  · obtain ⟨us, rfl, hl, hf⟩ := unitB_of hu
    have hl3 : us.length ≤ 100 := by
      have := (hy.tk : Tk 24 _ (.tup (us.map encF))).items.1
      simpa using this
    have a : dLc lcF (dSeq (dVar 13)) (tgN 15) (ftYes) (d2 oGt (d2 oIx (dVar 15) (dC (.int 0))) (dC (.int 0))) [15] [a0, a1, some (.d (.int (b : Int))), a3, a4, a5, a6, a7, a8, a9, a10, a11, a12, some (.d (encU us)), a14, a15] S = some (.ok (.d (.lst (us.map fun p => D.bl (decide (0 < p.1))))), S) :=
      dLc_map (wf := fun p => W.d (encF p)) (f := fun p => D.bl (decide (0 < p.1))) (seqU rfl) (by omega) fun p hp => by
        refine ⟨_, rfl, ?_⟩
        clear hy hl hl3 hf hu e hp
        walk_at "evh"
    have al := all_lst (S := S) (fun p : Int × Int => decide (0 < p.1)) us
    have ev : rootsB (b : Int) (encU us) = us.all fun p => decide (0 < p.1) := by
      show (decide (((us.map encF).length : Int) = (b : Int)) && (us.map encF).all aboveB) = _
      rw [decide_eq_true (by rw [List.length_map]; exact hl), Bool.true_and, List.all_map]
      exact all_eqOn fun p hp => aboveB_F (hf p hp)
    rw [ev]
    clear hy hl hl3 hf ev
    walk_at "evh"
  · have hu' : unitB (b : Int) y = false := by simpa using hu
    have ef : rootsB (b : Int) y = false := by
      cases hx : rootsB (b : Int) y with
      | false => rfl
      | true =>
        exfalso
        obtain ⟨ms, rfl, q⟩ := rootsB_of hy hx
        apply hu
        show (decide (((ms.map encF).length : Int) = (b : Int)) && (ms.map encF).all fracB) = true
        rw [Bool.and_eq_true]
        refine ⟨decide_eq_true (by rw [List.length_map, q.len]), ?_⟩
        rw [List.all_eq_true]
        intro d hd
        obtain ⟨p, hp, rfl⟩ := List.mem_map.mp hd
        exact fracB_F (q.ok p hp).1.fr
    rw [ef]
    clear hy hu
    walk_at "evh"
theorem part5 (g : GrOk b m n rs) {x y : D} (hx : TgK 10000000000000000000000000000000000000000 (C "Grid") x) (hy : TgK 24 (C "Grid") y) {k : Bool} {x8 x9 x10 : Option W} : ∃ y11,
    p_b_law_6_5 C [x0, some (.loc 0), some (.d (.int (b : Int))), some (.d (.int (m : Int))), some (.d (.int (n : Int))), some (.d (encR rs)), some (.d (gridD C b rs)), x7, x8, x9, x10, x11, some (.d x), some (.d y), some (.d (.lst [.bl (numsB (m : Int) (n : Int) rs x), .bl k])), x15] S =
    some (.ok (.nx [x0, some (.loc 0), some (.d (.int (b : Int))), some (.d (.int (m : Int))), some (.d (.int (n : Int))), some (.d (encR rs)), some (.d (gridD C b rs)), x7, x8, x9, x10, y11, some (.d x), some (.d y), some (.d (.lst [.bl (numsB (m : Int) (n : Int) rs x), .bl k])), x15]), S) := by
  have e1 := fun {a0 a1 a3 a4 a5 a6 a7 a8 a9 a10 a11 a12 a14 a15} => roots_due C S (b := b) hy (a0 := a0) (a1 := a1) (a3 := a3) (a4 := a4) (a5 := a5) (a6 := a6) (a7 := a7) (a8 := a8) (a9 := a9) (a10 := a10) (a11 := a11) (a12 := a12) (a14 := a14) (a15 := a15)
  have e2 := found_2 C S (z := .non) g hx hy
  have n1 := ne_none S
  have n2 := ne_numbers S
  have n3 := ne_roots S
  generalize numsB (m : Int) (n : Int) rs x = j at *
  have i0 : oIx (.d (.lst [.bl j, .bl k])) (.d (.int 0)) S = some (.ok (.d (.bl j)), S) := rfl
  unfold p_b_law_6_5
  unfold due2 at e2
  clear g hx hy
  generalize hf : dAnd (dTru (dCall 2 (g__law_is_unit C) (aCons (dVar 2) (aCons (dVar 13) (aNil))))) (dTru (dCB (b1 oAll) (aCons (dLc lcF (dSeq (dVar 13)) (tgN 15) (ftYes) (d2 oGt (d2 oIx (dVar 15) (dC (.int 0))) (dC (.int 0))) [15]) (aNil)))) = fA at *
  clear hf
  cases hr : rootsB (b : Int) y with
  | true =>
    rw [hr] at e2 e1
    cases j with
    | true =>
      rw [if_pos rfl, if_pos rfl] at e2
      refine ⟨some (.d (.str "none")), ?_⟩
      walk_at "evh"
    | false =>
      rw [if_neg Bool.false_ne_true] at e2
      refine ⟨some (.d (.str "numbers")), ?_⟩
      walk_at "evh"
  | false =>
    rw [hr] at e2 e1
    cases j with
    | true =>
      rw [if_pos rfl, if_neg Bool.false_ne_true] at e2
      refine ⟨some (.d (.str "roots")), ?_⟩
      walk_at "evh"
    | false =>
      rw [if_neg Bool.false_ne_true] at e2
      refine ⟨some (.d (.str "numbers")), ?_⟩
      walk_at "evh"
end
end P07
set_option Elab.async false
set_option linter.all false
set_option maxRecDepth 100000
set_option maxHeartbeats 1000000
namespace P07
open PySem L2 DL
local macro_rules | `(tactic| walk_at "ev") => `(tactic| simp (config := { decide := false, implicitDefEqProofs := false }) only [bind_ok, bind_err, sE_ok, sE_err, bnd_nx, bnd_rt, bnd_bk, bnd_ct, bnd_err, sSeq_eq, dEnd_rt, dEnd_nx, dEnd_err, giveS_d, giveS_dA, giveS_nil,
  dVar, dC, d2, d1, dB, dChain, dAnd, dOr, dNot, dTru, dAndV, dOrV, dNotV, dIf, aNil, aCons, dTup, dLst, dLoc, dCall, dCB, b1, dIt, sNx, sBk, sCt, sRet, sRetN, sDrop, sSet, sIf, sPar, truth_bl, asB_bl, oI0_eq, oIsi, ty_int, ty_bl, ty_str, ty_non, ty_tup, ty_lst, isi_ii, isi_ib, isi_it, isi_tt, isi_ti, isi_tb,
  oAbs, oInt, oNeg, oEq_int, oNe_int, dFld, dSl, dPt, dNoPt, asPt_int, isN_non, isN_tup, isN_U, notN_non, notN_tup, notN_U, dMake, sFldPut,
  List.map_cons, List.map_nil, List.length_cons, List.length_nil, List.getElem?_cons_zero, List.getElem?_cons_succ, List.set_cons_zero, List.set_cons_succ, List.cons_append, List.nil_append, List.append_nil, Nat.reduceAdd, Nat.reduceSub, Nat.zero_add, if_true, if_false, Bool.not_true, Bool.not_false, Bool.false_eq_true, reduceIte, List.replicate_zero, List.replicate_succ, Nat.sub_self, beq_self_eq_true, Int.reduceLT, Int.reduceLE, Int.reduceAdd, Int.reduceSub, Int.reduceMul, Int.reduceNeg, Int.reducePow, Int.reduceToNat, Int.reduceEq, Int.reduceBEq, decide_true, decide_false, mkTup1, mkTup2, mkTup3, mkLst2, mkLst5, ix20, ix21, ixF0, ixF1, len_tup, len_lst, lenF, tyF, lenU, tyU, oEqF, oEqU, oNeU, zipU, tgN, tgT, tgCons, tgNil, wipeE, Option.bind_some, tuple_lst, list_lst, st0, st1, st2, st3, se1, se2, se3, giveS_st, tgIx, sAsg, Option.map_some, oMod_eq, isi_int', isi_bl', isi_str', isi_non', isi_tup', isi_lst', isi_dct', isi_U', isi_F', isi_ins', tc_int, tc_bool, tc_tuple, ty_dct, isi_bi, isi_bb, isi_bt, isi_si, isi_sb, isi_st, isi_ni, isi_nb, isi_nt, isi_li, isi_lb, isi_lt, isi_di, isi_db, isi_dt, sRaise, dDct, mkLoc2, mkLoc7, mkLoc8, mkLoc9, mkLoc11, mkLoc17, mkLoc25, mkLoc32, oCatL, mkTup4, mkLst4, isi_N', isi_Row', isi_R'])
local macro_rules | `(tactic| walk_at "evh") => `(tactic| simp (config := { decide := false, implicitDefEqProofs := false }) only [bind_ok, bind_err, sE_ok, sE_err, bnd_nx, bnd_rt, bnd_bk, bnd_ct, bnd_err, sSeq_eq, dEnd_rt, dEnd_nx, dEnd_err, giveS_d, giveS_dA, giveS_nil,
  dVar, dC, d2, d1, dB, dChain, dAnd, dOr, dNot, dTru, dAndV, dOrV, dNotV, dIf, aNil, aCons, dTup, dLst, dLoc, dCall, dCB, b1, dIt, sNx, sBk, sCt, sRet, sRetN, sDrop, sSet, sIf, sPar, truth_bl, asB_bl, oI0_eq, oIsi, ty_int, ty_bl, ty_str, ty_non, ty_tup, ty_lst, isi_ii, isi_ib, isi_it, isi_tt, isi_ti, isi_tb,
  oAbs, oInt, oNeg, oEq_int, oNe_int, dFld, dSl, dPt, dNoPt, asPt_int, isN_non, isN_tup, isN_U, notN_non, notN_tup, notN_U, dMake, sFldPut,
  List.map_cons, List.map_nil, List.length_cons, List.length_nil, List.getElem?_cons_zero, List.getElem?_cons_succ, List.set_cons_zero, List.set_cons_succ, List.cons_append, List.nil_append, List.append_nil, Nat.reduceAdd, Nat.reduceSub, Nat.zero_add, if_true, if_false, Bool.not_true, Bool.not_false, Bool.false_eq_true, reduceIte, List.replicate_zero, List.replicate_succ, Nat.sub_self, beq_self_eq_true, Int.reduceLT, Int.reduceLE, Int.reduceAdd, Int.reduceSub, Int.reduceMul, Int.reduceNeg, Int.reducePow, Int.reduceToNat, Int.reduceEq, Int.reduceBEq, decide_true, decide_false, mkTup1, mkTup2, mkTup3, mkLst2, mkLst5, ix20, ix21, ixF0, ixF1, len_tup, len_lst, lenF, tyF, lenU, tyU, oEqF, oEqU, oNeU, zipU, tgN, tgT, tgCons, tgNil, wipeE, Option.bind_some, tuple_lst, list_lst, st0, st1, st2, st3, se1, se2, se3, giveS_st, tgIx, sAsg, Option.map_some, oMod_eq, isi_int', isi_bl', isi_str', isi_non', isi_tup', isi_lst', isi_dct', isi_U', isi_F', isi_ins', tc_int, tc_bool, tc_tuple, ty_dct, isi_bi, isi_bb, isi_bt, isi_si, isi_sb, isi_st, isi_ni, isi_nb, isi_nt, isi_li, isi_lb, isi_lt, isi_di, isi_db, isi_dt, sRaise, dDct, mkLoc2, mkLoc7, mkLoc8, mkLoc9, mkLoc11, mkLoc17, mkLoc25, mkLoc32, oCatL, mkTup4, mkLst4, isi_N', isi_Row', isi_R', oMul_eq, oDiv_eq, oPow_eq, *])
noncomputable def b__law_odd_1 (C : Str → Addr) : FS := sSet 1 (dTup (aCons (dVar 1) (aNil)))
noncomputable def l__law_odd_1 (C : Str → Addr) : FS := dFor (dIt oRng1 (aCons (dC (.int 36)) (aNil))) (tgN 2) (b__law_odd_1 C)
noncomputable def p__law_odd_0 (C : Str → Addr) (rest : FS) : FS := sSeq (sSet 1 (dTup (aCons (dC (.int 0)) (aCons (dC (.int 1)) (aNil))))) (sSeq (l__law_odd_1 C) (rest))
noncomputable def p__law_odd_1 (C : Str → Addr) (rest : FS) : FS := sSeq (sSet 3 (dLoc (aCons (dC .non) (aCons (dC (.bl true)) (aCons (dC (.bl false)) (aCons (dC (.int 0)) (aCons (d1 oNeg (dC (.int 1))) (aCons (d2 oPow (dC (.int 10)) (dC (.int 39))) (aCons (dC (.str "")) (aCons (dC (.str "1")) (aCons (dC (.str "star")) (aCons (dTup (aNil)) (aCons (dLst (aNil)) (aCons (dDct [] []) (aCons (dTup (aCons (dC (.int 1)) (aNil))) (aCons (dLst (aCons (dC (.int 1)) (aNil))) (aCons (dDct [.inl 0] [.int 1]) (aCons (dTup (aCons (dC (.int 0)) (aCons (dC (.int 1)) (aNil)))) (aCons (dLst (aCons (dTup (aCons (dC (.int 0)) (aCons (dC (.int 1)) (aNil)))) (aNil))) (aNil)))))))))))))))))))) (rest)
noncomputable def p__law_odd_2 (C : Str → Addr) (rest : FS) : FS := sSeq (sSet 4 (dLoc (aCons (dTup (aCons (dTup (aCons (dC (.int 0)) (aCons (dC (.int 1)) (aNil)))) (aNil))) (aCons (dTup (aCons (dTup (aCons (dC (.int 0)) (aCons (dC (.int 1)) (aNil)))) (aCons (dTup (aCons (dC (.int 0)) (aCons (dC (.int 1)) (aNil)))) (aNil)))) (aCons (dTup (aCons (dTup (aCons (dC (.int 1)) (aCons (dC (.int 1)) (aNil)))) (aCons (dC .non) (aNil)))) (aCons (dTup (aCons (dTup (aCons (dC (.int 2)) (aCons (dC (.int 2)) (aNil)))) (aNil))) (aCons (dTup (aCons (dTup (aCons (dC (.int 1)) (aCons (dC (.int 0)) (aNil)))) (aNil))) (aCons (dTup (aCons (dTup (aCons (dC (.int 1)) (aCons (d1 oNeg (dC (.int 1))) (aNil)))) (aNil))) (aCons (dTup (aCons (dTup (aCons (dC (.bl true)) (aCons (dC (.int 1)) (aNil)))) (aNil))) (aCons (dVar 1) (aNil))))))))))) (rest)
noncomputable def p__law_odd_3 (C : Str → Addr) (rest : FS) : FS := sSeq (sSet 5 (dLoc (aCons (dLst (aCons (dVar 1) (aNil))) (aCons (dMake (C "Grid") 3 (g_Grid__init__ C) (aCons (dC (.int 1)) (aCons (dTup (aCons (dTup (aCons (dC .non) (aNil))) (aNil))) (aNil)))) (aCons (dTup (aCons (dMake (C "Grid") 3 (g_Grid__init__ C) (aCons (dC (.int 2)) (aCons (dTup (aCons (dTup (aCons (dC .non) (aNil))) (aNil))) (aNil)))) (aNil))) (aCons (dTup (aCons (dTup (aCons (dC (.int 0)) (aCons (dC (.int 1)) (aNil)))) (aCons (dLst (aCons (dC (.int 0)) (aCons (dC (.int 1)) (aNil)))) (aNil)))) (aCons (d2 oRepA (dTup (aCons (dTup (aCons (dC (.int 0)) (aCons (dC (.int 1)) (aNil)))) (aNil))) (dC (.int 4))) (aCons (dTup (aCons (dC (.str "1")) (aCons (dC (.str "1")) (aNil)))) (aCons (dTup (aCons (dC (.int 1)) (aCons (dC (.int 2)) (aNil)))) (aNil)))))))))) (rest)
noncomputable def p__law_odd_4 (C : Str → Addr) : FS := sSeq (sSet 6 (d2 oCatL (d2 oCatL (dVar 3) (dVar 4)) (dVar 5))) ((sRet (d2 oIx (dVar 6) (dCall 2 (g__law_draw C) (aCons (dVar 0) (aCons (dCB (b1 oLen) (aCons (dVar 6) (aNil))) (aNil)))))))
theorem parts__law_odd (C : Str → Addr) : F__law_odd C = p__law_odd_0 C (p__law_odd_1 C (p__law_odd_2 C (p__law_odd_3 C (p__law_odd_4 C)))) := rfl
section
variable {C : Str → Addr} {m : M} {rest : FS} {x2 : Option W}
theorem o_0 : ∃ x2, p__law_odd_0 C rest [some (.loc 0), none, none, none, none, none, none] [m] = rest [some (.loc 0), some (.d (deepD 36)), x2, none, none, none, none] [m] := by
  have r := oRng1_nat (S := [m]) (n := 36) (by decide)
  obtain ⟨δ', hf, x2, rfl⟩ := dFor_inv (fi := dIt oRng1 (aCons (dC (.int 36)) (aNil))) (tf := tgN 2) (fb := b__law_odd_1 C) (S := [m])
    (wf := fun k : Nat => W.d (.int (k : Int))) (P := fun i δ => ∃ x2, δ = [some (.loc 0), some (.d (deepD i)), x2, none, none, none, none]) (xs := List.range 36) (δ := [some (.loc 0), some (.d (deepD 0)), none, none, none, none, none]) (by
      rw [show (36 : Int) = ((36 : Nat) : Int) from rfl]
      walk_at "evh") (by
      rintro i hi δ ⟨x2, rfl⟩
      refine ⟨_, _, rfl, ?_, some (.d (.int (((List.range 36)[i] : Nat) : Int))), rfl⟩
      unfold b__law_odd_1
      have e : deepD (i + 1) = .tup [deepD i] := rfl
      clear r
      walk_at "evh") ⟨none, rfl⟩
  refine ⟨x2, ?_⟩
  have hf' : l__law_odd_1 C [some (.loc 0), some (.d (deepD 0)), none, none, none, none, none] [m] = some (.ok (.nx [some (.loc 0), some (.d (deepD 36)), x2, none, none, none, none]), [m]) := by
    unfold l__law_odd_1
    exact hf
  have e0 : D.tup [.int 0, .int 1] = deepD 0 := rfl
  unfold p__law_odd_0
  clear r hf
  walk_at "evh"
theorem o_1 : p__law_odd_1 C rest [some (.loc 0), some (.d (deepD 36)), x2, none, none, none, none] [m] = rest [some (.loc 0), some (.d (deepD 36)), x2, some (.loc 1), none, none, none] [m, .lst (L1.map W.d)] := by
  have c : CPow 10 39 := by decide
  have e : L1.map W.d = [.d .non, .d (.bl true), .d (.bl false), .d (.int 0), .d (.int (-1)), .d (.int 1000000000000000000000000000000000000000), .d (.str ""), .d (.str "1"), .d (.str "star"), .d (.tup []), .d (.lst []), .d (.dct [] []), .d (.tup [.int 1]), .d (.lst [.int 1]), .d (.dct [.inl 0] [.int 1]), .d (.tup [.int 0, .int 1]), .d (.lst [.tup [.int 0, .int 1]])] := rfl
  have t0 := fun S => mkTup0 (S := S)
  have l0 := fun S => mkLst0 (S := S)
  have l1 := fun S d => mkLst1 (S := S) (d := d)
  have n1 := fun S => neg1 (S := S)
  unfold p__law_odd_1
  walk_at "evh"
theorem o_2 : p__law_odd_2 C rest [some (.loc 0), some (.d (deepD 36)), x2, some (.loc 1), none, none, none] [m, .lst (L1.map W.d)] = rest [some (.loc 0), some (.d (deepD 36)), x2, some (.loc 1), some (.loc 2), none, none] [m, .lst (L1.map W.d), .lst (L2'.map W.d)] := by
  have e : L2'.map W.d = [.d (.tup [.tup [.int 0, .int 1]]), .d (.tup [.tup [.int 0, .int 1], .tup [.int 0, .int 1]]), .d (.tup [.tup [.int 1, .int 1], .non]), .d (.tup [.tup [.int 2, .int 2]]), .d (.tup [.tup [.int 1, .int 0]]), .d (.tup [.tup [.int 1, .int (-1)]]), .d (.tup [.tup [.bl true, .int 1]]), .d (deepD 36)] := rfl
  have n1 := fun S => neg1 (S := S)
  generalize L1.map W.d = l1
  unfold p__law_odd_2
  walk_at "evh"
theorem o_3 : p__law_odd_3 C rest [some (.loc 0), some (.d (deepD 36)), x2, some (.loc 1), some (.loc 2), none, none] [m, .lst (L1.map W.d), .lst (L2'.map W.d)] = rest [some (.loc 0), some (.d (deepD 36)), x2, some (.loc 1), some (.loc 2), some (.loc 3), none] [m, .lst (L1.map W.d), .lst (L2'.map W.d), .lst ((L3 C).map W.d)] := by
  have e : (L3 C).map W.d = [.d (.lst [deepD 36]), .d (gridD C 1 [[none]]), .d (.tup [gridD C 2 [[none]]]), .d (.tup [.tup [.int 0, .int 1], .lst [.int 0, .int 1]]), .d (.tup [.tup [.int 0, .int 1], .tup [.int 0, .int 1], .tup [.int 0, .int 1], .tup [.int 0, .int 1]]), .d (.tup [.str "1", .str "1"]), .d (.tup [.int 1, .int 2])] := rfl
  have l1 := fun S d => mkLst1 (S := S) (d := d)
  generalize L1.map W.d = z1
  generalize L2'.map W.d = z2
  have k1 : mkIns (C "Grid") [m, .lst z1, .lst z2] (g_Grid__init__ C [.loc 3, .d (.int 1), .d (.tup [.tup [.non]])] [m, .lst z1, .lst z2, .ins (C "Grid") [] []]) = some (.ok (.d (gridD C 1 [[none]])), [m, .lst z1, .lst z2]) := e_make C [m, .lst z1, .lst z2] (grok1 (b := 1) (by decide) (by decide))
  have k2 : mkIns (C "Grid") [m, .lst z1, .lst z2] (g_Grid__init__ C [.loc 3, .d (.int 2), .d (.tup [.tup [.non]])] [m, .lst z1, .lst z2, .ins (C "Grid") [] []]) = some (.ok (.d (gridD C 2 [[none]])), [m, .lst z1, .lst z2]) := e_make C [m, .lst z1, .lst z2] (grok1 (b := 2) (by decide) (by decide))
  have r4 := fun S => repA_one (S := S) (x := .tup [.int 0, .int 1]) (k := 4) (by decide) (by decide)
  unfold p__law_odd_3
  walk_at "evh"
end
theorem e_law_odd (C : Str → Addr) {m : M} (hm : DrSt m) : ∃ d m', g__law_odd C [.loc 0] [m] = some (.ok (.d d), [m']) ∧ Od (C "Grid") d ∧ DrSt m' := by
  rw [q__law_odd, parts__law_odd]
  obtain ⟨x2, e0⟩ := o_0 (C := C) (m := m) (rest := p__law_odd_1 C (p__law_odd_2 C (p__law_odd_3 C (p__law_odd_4 C))))
  rw [e0, o_1, o_2, o_3]
  clear e0
  obtain ⟨r, m', e1, r0, r1, h1⟩ := e_draw C [.lst (L1.map W.d), .lst (L2'.map W.d), .lst ((L3 C).map W.d), .lst (L1.map W.d ++ L2'.map W.d), .lst ((L1.map W.d ++ L2'.map W.d) ++ (L3 C).map W.d)] hm (k := 32) (by decide) (by decide)
  have hg : [M.lst (L1.map W.d), .lst (L2'.map W.d), .lst ((L3 C).map W.d), .lst (L1.map W.d ++ L2'.map W.d), .lst ((L1.map W.d ++ L2'.map W.d) ++ (L3 C).map W.d)][4]? = some (.lst ((L1 ++ L2' ++ L3 C).map W.d)) := by simp
  obtain ⟨d, hd, e2⟩ := ix_loc (S := [m', .lst (L1.map W.d), .lst (L2'.map W.d), .lst ((L3 C).map W.d), .lst (L1.map W.d ++ L2'.map W.d), .lst ((L1.map W.d ++ L2'.map W.d) ++ (L3 C).map W.d)]) (n := 5) (ds := L1 ++ L2' ++ L3 C) (i := r) hg r0 r1
  refine ⟨d, m', ?_, ?_, h1⟩
  · have el : oLen (.loc 5) [m, .lst (L1.map W.d), .lst (L2'.map W.d), .lst ((L3 C).map W.d), .lst (L1.map W.d ++ L2'.map W.d), .lst ((L1.map W.d ++ L2'.map W.d) ++ (L3 C).map W.d)] = some (.ok (.d (.int 32)), [m, .lst (L1.map W.d), .lst (L2'.map W.d), .lst ((L3 C).map W.d), .lst (L1.map W.d ++ L2'.map W.d), .lst ((L1.map W.d ++ L2'.map W.d) ++ (L3 C).map W.d)]) := rfl
    have c1 : mkLoc (L1.map W.d ++ L2'.map W.d) [m, .lst (L1.map W.d), .lst (L2'.map W.d), .lst ((L3 C).map W.d)] = some (.ok (.loc 4), [m, .lst (L1.map W.d), .lst (L2'.map W.d), .lst ((L3 C).map W.d), .lst (L1.map W.d ++ L2'.map W.d)]) := rfl
    have c2 : mkLoc ((L1.map W.d ++ L2'.map W.d) ++ (L3 C).map W.d) [m, .lst (L1.map W.d), .lst (L2'.map W.d), .lst ((L3 C).map W.d), .lst (L1.map W.d ++ L2'.map W.d)] = some (.ok (.loc 5), [m, .lst (L1.map W.d), .lst (L2'.map W.d), .lst ((L3 C).map W.d), .lst (L1.map W.d ++ L2'.map W.d), .lst ((L1.map W.d ++ L2'.map W.d) ++ (L3 C).map W.d)]) := rfl
    have gv : giveS [m] (.d d) [m', .lst (L1.map W.d), .lst (L2'.map W.d), .lst ((L3 C).map W.d), .lst (L1.map W.d ++ L2'.map W.d), .lst ((L1.map W.d ++ L2'.map W.d) ++ (L3 C).map W.d)] = some (.ok (.d d), [m']) := giveS_hd (m := m) (T := []) h1.below
    unfold p__law_odd_4
    clear hg r0 r1 hd
    generalize L1.map W.d = z1 at *
    generalize L2'.map W.d = z2 at *
    generalize (L3 C).map W.d = z3 at *
    walk_at "evh"
  · rcases List.mem_append.mp hd with z | z
    · rcases List.mem_append.mp z with z | z
      · exact th_L1 d z
      · exact th_L2 d z
    · exact th_L3 d z

theorem e_law_place (C : Str → Addr) {m : M} (hm : DrSt m) {k : Int} (k0 : 0 < k) (k9 : k ≤ 10) : ∃ d m', g__law_place C [.loc 0, .d (.int k)] [m] = some (.ok (.d d), [m']) ∧ Od (C "Grid") d ∧ DrSt m' := by
  obtain ⟨r, m1, e1, r0, r1, hm1⟩ := e_draw C [] hm (k := 8) (by decide) (by decide)
  rw [q__law_place, F__law_place]
  by_cases d0 : r = 0
  · subst d0
    obtain ⟨d, m2, e2, hd, hm2⟩ := e_law_odd C hm1
    have gv := fun (x : D) => giveS_hd0 (m := m) (m' := m2) (T := []) (x := x) hm2.below
    refine ⟨d, m2, ?_, hd, hm2⟩
    clear r0 r1 hd hm hm1 hm2 k0 k9
    walk_at "evh"
  · have n0 : (r == 0) = false := by simpa using d0
    by_cases d1 : r = 1
    · subst d1
      obtain ⟨q, m2, e2, q0, q1, hm2⟩ := e_draw C [] hm1 (k := 4) (by decide) (by decide)
      have gv := fun (x : D) => giveS_hd0 (m := m) (m' := m2) (T := []) (x := x) hm2.below
      obtain ⟨x, hx, e6⟩ := ix_lstD (S := [m2]) (ds := [.int (-1), .int k, .int (k + 1), .int 1000000000000000000000000000000000000000]) (i := q) q0 q1
      have c : CPow 10 39 := by decide
      have n1 := fun S => neg1 (S := S)
      refine ⟨x, m2, ?_, ?_, hm2⟩
      · clear r0 r1 q0 q1 hm hm1 hm2 hx d0 k0 k9
        walk_at "evh"
      · simp only [List.mem_cons, List.not_mem_nil, or_false] at hx
        rcases hx with rfl | rfl | rfl | rfl
        · exact od_int (by decide)
        · exact od_int (by omega)
        · exact od_int (by omega)
        · exact od_int (by decide)
    · have n1 : (r == 1) = false := by simpa using d1
      obtain ⟨q, m2, e2, q0, q1, hm2⟩ := e_draw C [] hm1 (k := k) k0 (by unfold Bd; omega)
      have gv := fun (x : D) => giveS_hd0 (m := m) (m' := m2) (T := []) (x := x) hm2.below
      refine ⟨.int q, m2, ?_, od_int (by omega), hm2⟩
      clear r0 r1 q0 q1 hm hm1 hm2 d0 d1 k0 k9
      walk_at "evh"
theorem e_law_item (C : Str → Addr) {m : M} (hm : DrSt m) : ∃ d m', g__law_item C [.loc 0] [m] = some (.ok (.d d), [m']) ∧ Od (C "Grid") d ∧ DrSt m' := by
  obtain ⟨r, m1, e1, r0, r1, hm1⟩ := e_draw C [] hm (k := 6) (by decide) (by decide)
  rw [q__law_item, F__law_item]
  by_cases d0 : r = 0
  · subst d0
    obtain ⟨d, m2, e2, hd, hm2⟩ := e_law_odd C hm1
    have gv := fun (x : D) => giveS_hd0 (m := m) (m' := m2) (T := []) (x := x) hm2.below
    refine ⟨d, m2, ?_, hd, hm2⟩
    clear r0 r1 hd hm hm1 hm2
    walk_at "evh"
  · have n0 : (r == 0) = false := by simpa using d0
    obtain ⟨t, m2, e2, t0, t1, hm2⟩ := e_draw C [] hm1 (k := 9) (by decide) (by decide)
    have gv := fun (x : D) => giveS_hd0 (m := m) (m' := m2) (T := []) (x := x) hm2.below
    obtain ⟨x, hx, e6⟩ := ix_lstD (S := [m2]) (ds := [.tup [.int (-(1 + t)), .int 1], .tup [.int (2 * (1 + t)), .int 2], .tup [.int 0, .int 1], .tup [.int (1 + t), .int 1], .lst [.int (1 + t), .int 1]]) (i := r - 1) (by omega) (by simp; omega)
    have c2 : CMulW 2 (1 + t) := (show Bd 2 2 by decide).mulOk (show Bd 5 (1 + t) by unfold Bd; omega)
    refine ⟨x, m2, ?_, ?_, hm2⟩
    · clear r0 r1 t0 t1 hm hm1 hm2 hx d0
      walk_at "evh"
    · simp only [List.mem_cons, List.not_mem_nil, or_false] at hx
      rcases hx with rfl | rfl | rfl | rfl | rfl
      · exact od_of (tk_F (by omega) (by decide)) rfl
      · exact od_of (tk_F (by omega) (by decide)) rfl
      · exact od_of (tk_F (by decide) (by decide)) rfl
      · exact od_of (tk_F (by omega) (by decide)) rfl
      · exact od_of (.lst (by simp) fun d hd => by
          simp at hd
          rcases hd with rfl | rfl <;> exact .int) rfl
theorem tkU {G : Addr} {us : Unit'} (hl : us.length ≤ 100) (h : ∀ p ∈ us, Ep p) : ∀ d ∈ us.map encF, Tk 24 G d ∧ intB d = false := fun d hd => by
  obtain ⟨p, hp, rfl⟩ := List.mem_map.mp hd
  have := h p hp
  have h2 := this.2.1
  have h3 := this.2.2
  have h4 := this.1.fr.1
  exact ⟨tk_F (by omega) (by omega), rfl⟩
theorem e_law_thing (C : Str → Addr) {m : M} (hm : DrSt m) {b : Nat} (hb1 : 1 ≤ b) (b3 : b ≤ 3) : ∃ d m', g__law_thing C [.loc 0, .d (.int (b : Int))] [m] = some (.ok (.d d), [m']) ∧ TgK 24 (C "Grid") d ∧ DrSt m' := by
  obtain ⟨r, m1, e1, r0, r1, hm1⟩ := e_draw C [] hm (k := 5) (by decide) (by decide)
  rw [q__law_thing, F__law_thing]
  by_cases d0 : r = 0
  · subst d0
    obtain ⟨d, m2, e2, hd, hm2⟩ := e_law_odd C hm1
    have gv := fun (x : D) => giveS_hd0 (m := m) (m' := m2) (T := []) (x := x) hm2.below
    refine ⟨d, m2, ?_, hd.tg, hm2⟩
    clear r0 r1 hd hm hm1 hm2 hb1 b3
    walk_at "evh"
  · have n0 : (r == 0) = false := by simpa using d0
    by_cases d1 : r = 1
    · subst d1
      obtain ⟨q, m2, e2, q0, q1, hm2⟩ := e_draw C [] hm1 (k := 3) (by decide) (by decide)
      obtain ⟨us, m3, e3, hl, hu, hm3⟩ := e_law_unit C [] hm2 (b := 1 + q) (by omega) (by omega)
      have gv := fun (x : D) => giveS_hd0 (m := m) (m' := m3) (T := []) (x := x) hm3.below
      have hk := tkU (G := C "Grid") (us := us) (by omega) hu
      refine ⟨encU us, m3, ?_, (tk_n (fun d hd => (hk d hd).1) (by rw [List.length_map]; omega) fun d hd => (hk d hd).2).tg, hm3⟩
      clear r0 r1 q0 q1 hl hu hk hm hm1 hm2 hm3 hb1 b3 d0
      walk_at "evh"
    · have n1 : (r == 1) = false := by simpa using d1
      obtain ⟨q, m2, e2, q0, q1, hm2⟩ := e_draw C [] hm1 (k := 8) (by decide) (by decide)
      obtain ⟨x, hx, e6⟩ := ix_lstD (S := [m2]) (ds := [.tup [.int 7, .int 1], .tup [.int 6, .int 1], .tup [.int (-6), .int 1], .tup [.int (-7), .int 1], .tup [.int 1, .int 4], .tup [.int 1, .int 5], .tup [.int (-5), .int 4], .tup [.int 2, .int 4]]) (i := q) q0 q1
      have l8 : ∀ S, mkLst [.d (.tup [.int 7, .int 1]), .d (.tup [.int 6, .int 1]), .d (.tup [.int (-6), .int 1]), .d (.tup [.int (-7), .int 1]), .d (.tup [.int 1, .int 4]), .d (.tup [.int 1, .int 5]), .d (.tup [.int (-5), .int 4]), .d (.tup [.int 2, .int 4])] S = some (.ok (.d (.lst [.tup [.int 7, .int 1], .tup [.int 6, .int 1], .tup [.int (-6), .int 1], .tup [.int (-7), .int 1], .tup [.int 1, .int 4], .tup [.int 1, .int 5], .tup [.int (-5), .int 4], .tup [.int 2, .int 4]])), S) := fun S => rfl
      have n6 : ∀ S, oNeg (.d (.int 6)) S = some (.ok (.d (.int (-6))), S) := fun S => rfl
      have n7 : ∀ S, oNeg (.d (.int 7)) S = some (.ok (.d (.int (-7))), S) := fun S => rfl
      have n5 : ∀ S, oNeg (.d (.int 5)) S = some (.ok (.d (.int (-5))), S) := fun S => rfl
      have n1' := fun S => neg1 (S := S)
      have hxk : Tk 24 (C "Grid") x ∧ intB x = false := by
        simp only [List.mem_cons, List.not_mem_nil, or_false] at hx
        rcases hx with rfl | rfl | rfl | rfl | rfl | rfl | rfl | rfl <;> exact ⟨tk_F (by decide) (by decide), rfl⟩
      obtain ⟨us, m3, e3, hl, hu, hm3⟩ := e_law_unit C [] hm2 (b := (b : Int)) (by omega) (by omega)
      have gv := fun (x : D) => giveS_hd0 (m := m) (m' := m3) (T := []) (x := x) hm3.below
      have hk := tkU (G := C "Grid") (us := us) (by omega) hu
      have lc : (cutD (us.map encF) none (some (-1))).length ≤ us.length := by have := cutD_len (ds := us.map encF) (lo := none) (hi := some (-1)); simpa using this
      have s1 : ∀ S, oSlA (.d (encU us)) none (some (-1)) S = some (.ok (.d (.tup (cutD (us.map encF) none (some (-1))))), S) := fun S => rfl
      have c1 : ∀ S, oCat (.d (.tup (cutD (us.map encF) none (some (-1))))) (.d (.tup [x])) S = some (.ok (.d (.tup (cutD (us.map encF) none (some (-1)) ++ [x]))), S) := fun S => cat_tup (by simp; omega)
      by_cases d2 : r = 2
      · subst d2
        have hk2 : ∀ d ∈ cutD (us.map encF) none (some (-1)) ++ [x], Tk 24 (C "Grid") d ∧ intB d = false := fun d hd => by
          rcases List.mem_append.mp hd with z | z
          · exact hk d (cutD_mem z)
          · simp at z; rw [z]; exact hxk
        refine ⟨.tup (cutD (us.map encF) none (some (-1)) ++ [x]), m3, ?_, (tk_n (fun d hd => (hk2 d hd).1) (by simp; omega) fun d hd => (hk2 d hd).2).tg, hm3⟩
        clear r0 r1 q0 q1 hl hu hk hm hm1 hm2 hm3 hb1 b3 d0 d1 hk2 lc hxk hx
        walk_at "evh"
      · have n2 : (r == 2) = false := by simpa using d2
        refine ⟨encU us, m3, ?_, (tk_n (fun d hd => (hk d hd).1) (by rw [List.length_map]; omega) fun d hd => (hk d hd).2).tg, hm3⟩
        clear r0 r1 q0 q1 hl hu hk hm hm1 hm2 hm3 hb1 b3 d0 d1 d2 lc hxk hx s1 c1
        walk_at "evh"
/-! ### roots -/
def Sm (p : Num) : Prop := p.1.natAbs ≤ 9 ∧ p.2 = 1
theorem tkS {G : Addr} {us : Unit'} (h : ∀ p ∈ us, Sm p) : ∀ d ∈ us.map encF, Tk 24 G d ∧ intB d = false := fun d hd => by
  obtain ⟨p, hp, rfl⟩ := List.mem_map.mp hd
  have := h p hp
  exact ⟨tk_F (by have := this.1; omega) (by rw [this.2]; decide), rfl⟩
theorem tk_set {G : Addr} {xs : List D} {i : Nat} {z : D} (h : ∀ d ∈ xs, Tk 24 G d ∧ intB d = false) (hl : xs.length ≤ 100) (hi : i < xs.length) (hz : Tk 24 G z) : Tk 24 G (.tup (xs.set i z)) := by
  refine .tup (by rw [List.length_set]; exact hl) (fun d hd => ?_) fun t u e => ?_
  · rcases List.mem_or_eq_of_mem_set hd with y | y
    · exact (h d y).1
    · rw [y]; exact hz
  · exfalso
    have l2 : xs.length = 2 := by have := congrArg List.length e; simpa using this
    match xs, l2 with
    | [a, b], _ =>
      by_cases h0 : i = 0
      · subst h0
        have e' : [z, b] = [D.int t, .int u] := e
        injection e' with _ e'
        injection e' with e' _
        have := (h b (by simp)).2
        rw [e'] at this
        cases this
      · have h1 : i = 1 := by simp at hi; omega
        subst h1
        have e' : [a, z] = [D.int t, .int u] := e
        injection e' with e' _
        have := (h a (by simp)).2
        rw [e'] at this
        cases this
theorem e_law_some_roots (C : Str → Addr) {m : M} (hm : DrSt m) {b : Nat} (hb1 : 1 ≤ b) (b3 : b ≤ 3) : ∃ d m', g__law_some_roots C [.loc 0, .d (.int (b : Int))] [m] = some (.ok (.d d), [m']) ∧ TgK 24 (C "Grid") d ∧ DrSt m' := by
  obtain ⟨us, m1, e1, hl, hu, hm1⟩ := dLc_draw (T := []) encF Sm (n := b) (fi := dIt oRng1 (aCons (dVar 1) (aNil))) (tf := tgN 5) (fe := dTup (aCons (d2 oAdd (dC (.int 1)) (dCall 2 (g__law_draw C) (aCons (dVar 0) (aCons (dC (.int 9)) (aNil))))) (aCons (dC (.int 1)) (aNil)))) (vs := [5]) (δ := [some (.loc 0), some (.d (.int (b : Int))), none, none, none, none]) (by omega) hm (by
      have r2 := oRng1_eq (S := [m]) (j := (b : Int)) (by omega) (by omega)
      rw [Int.toNat_natCast] at r2
      clear hm hb1 b3
      walk_at "evh") (fun w m hm => by
      obtain ⟨t, m1, e1, t0, t1, h1⟩ := e_draw C [] hm (k := 9) (by decide) (by decide)
      refine ⟨_, (1 + t, 1), m1, rfl, ?_, h1, ⟨by show (1 + t).natAbs ≤ 9; omega, rfl⟩⟩
      clear hm hb1 b3 t0 t1 h1
      walk_at "evh"
      rfl)
  have eU : D.tup (us.map encF) = encU us := rfl
  have hk := tkS (G := C "Grid") hu
  obtain ⟨r, m2, e2, r0, r1, hm2⟩ := e_draw C [] hm1 (k := 6) (by decide) (by decide)
  rw [q__law_some_roots, F__law_some_roots]
  by_cases d0 : r = 0
  · subst d0
    obtain ⟨d, m3, e3, hd, hm3⟩ := e_law_odd C hm2
    have gv := fun (x : D) => giveS_hd0 (m := m) (m' := m3) (T := []) (x := x) hm3.below
    refine ⟨d, m3, ?_, hd.tg, hm3⟩
    clear r0 r1 hd hm hm1 hm2 hm3 hb1 b3 hl hu hk
    walk_at "evh"
  · have n0 : (r == 0) = false := by simpa using d0
    by_cases d1 : r = 1
    · subst d1
      obtain ⟨a, m3, e3, a0, a1, hm3⟩ := e_draw C [] hm2 (k := (b : Int)) (by omega) (by unfold Bd; omega)
      obtain ⟨z, m4, e4, hz, hm4⟩ := e_law_item C hm3
      obtain ⟨i, rfl⟩ : ∃ i : Nat, a = (i : Int) := ⟨a.toNat, by omega⟩
      have gv := fun (x : D) => giveS_hd0 (m := m) (m' := m4) (T := []) (x := x) hm4.below
      have hi : i < (us.map encF).length := by rw [List.length_map]; omega
      have lx : (us.map encF).length ≤ 3 := by rw [List.length_map]; omega
      have s1 : ∀ S, oSlA (.d (encU us)) none (some (i : Int)) S = some (.ok (.d (.tup (cutD (us.map encF) none (some (i : Int))))), S) := fun S => rfl
      have s2 : ∀ S, oSlA (.d (encU us)) (some ((i : Int) + 1)) none S = some (.ok (.d (.tup (cutD (us.map encF) (some ((i : Int) + 1)) none))), S) := fun S => rfl
      have k1 := cutD_len (ds := us.map encF) (lo := none) (hi := some (i : Int))
      have k2 := cutD_len (ds := us.map encF) (lo := some ((i : Int) + 1)) (hi := none)
      have c1 : ∀ S, oCat (.d (.tup (cutD (us.map encF) none (some (i : Int))))) (.d (.tup [z])) S = some (.ok (.d (.tup (cutD (us.map encF) none (some (i : Int)) ++ [z]))), S) := fun S => cat_tup (by simp; omega)
      have c2 : ∀ S, oCat (.d (.tup (cutD (us.map encF) none (some (i : Int)) ++ [z]))) (.d (.tup (cutD (us.map encF) (some ((i : Int) + 1)) none))) S = some (.ok (.d (.tup ((us.map encF).set i z))), S) := fun S => by
        rw [cat_tup (by simp; omega), set_two hi]
      refine ⟨.tup ((us.map encF).set i z), m4, ?_, (tk_set hk (by omega) hi hz.1).tg, hm4⟩
      clear r0 r1 a0 a1 hm hm1 hm2 hm3 hm4 hb1 b3 hl hu hk hz hi lx k1 k2
      walk_at "evh"
    · have n1 : (r == 1) = false := by simpa using d1
      have gv := fun (x : D) => giveS_hd0 (m := m) (m' := m2) (T := []) (x := x) hm2.below
      by_cases d2 : r = 2
      · subst d2
        have c1 : ∀ S, oCat (.d (encU us)) (.d (.tup [.tup [.int 1, .int 1]])) S = some (.ok (.d (.tup (us.map encF ++ [.tup [.int 1, .int 1]]))), S) := fun S => cat_tup (by simp; omega)
        have hk2 : ∀ d ∈ us.map encF ++ [.tup [.int 1, .int 1]], Tk 24 (C "Grid") d ∧ intB d = false := fun d hd => by
          rcases List.mem_append.mp hd with z | z
          · exact hk d z
          · simp at z; rw [z]; exact ⟨tk_F (by decide) (by decide), rfl⟩
        refine ⟨.tup (us.map encF ++ [.tup [.int 1, .int 1]]), m2, ?_, (tk_n (fun d hd => (hk2 d hd).1) (by simp; omega) fun d hd => (hk2 d hd).2).tg, hm2⟩
        clear r0 r1 hm hm1 hm2 hb1 b3 hl hu hk hk2 d0 d1
        walk_at "evh"
      · have n2 : (r == 2) = false := by simpa using d2
        refine ⟨encU us, m2, ?_, (tk_n (fun d hd => (hk d hd).1) (by rw [List.length_map]; omega) fun d hd => (hk d hd).2).tg, hm2⟩
        clear r0 r1 hm hm1 hm2 hb1 b3 hl hu hk d0 d1 d2
        walk_at "evh"
end P07
set_option Elab.async false
set_option linter.all false
set_option maxRecDepth 100000
set_option maxHeartbeats 1000000
namespace P07
open PySem L2 DL
local macro_rules | `(tactic| walk_at "ev") => `(tactic| simp (config := { decide := false, implicitDefEqProofs := false }) only [bind_ok, bind_err, sE_ok, sE_err, bnd_nx, bnd_rt, bnd_bk, bnd_ct, bnd_err, sSeq_eq, dEnd_rt, dEnd_nx, dEnd_err, giveS_d, giveS_dA, giveS_nil,
  dVar, dC, d2, d1, dB, dChain, dAnd, dOr, dNot, dTru, dAndV, dOrV, dNotV, dIf, aNil, aCons, dTup, dLst, dLoc, dCall, dCB, b1, dIt, sNx, sBk, sCt, sRet, sRetN, sDrop, sSet, sIf, sPar, truth_bl, asB_bl, oI0_eq, oIsi, ty_int, ty_bl, ty_str, ty_non, ty_tup, ty_lst, isi_ii, isi_ib, isi_it, isi_tt, isi_ti, isi_tb,
  oAbs, oInt, oNeg, oEq_int, oNe_int, dFld, dSl, dPt, dNoPt, asPt_int, isN_non, isN_tup, isN_U, notN_non, notN_tup, notN_U, dMake, sFldPut,
  List.map_cons, List.map_nil, List.length_cons, List.length_nil, List.getElem?_cons_zero, List.getElem?_cons_succ, List.set_cons_zero, List.set_cons_succ, List.cons_append, List.nil_append, List.append_nil, Nat.reduceAdd, Nat.reduceSub, Nat.zero_add, if_true, if_false, Bool.not_true, Bool.not_false, Bool.false_eq_true, reduceIte, List.replicate_zero, List.replicate_succ, Nat.sub_self, beq_self_eq_true, Int.reduceLT, Int.reduceLE, Int.reduceAdd, Int.reduceSub, Int.reduceMul, Int.reduceNeg, Int.reducePow, Int.reduceToNat, Int.reduceEq, Int.reduceBEq, decide_true, decide_false, mkTup1, mkTup2, mkTup3, mkLst2, mkLst5, ix20, ix21, ixF0, ixF1, len_tup, len_lst, lenF, tyF, lenU, tyU, oEqF, oEqU, oNeU, zipU, tgN, tgT, tgCons, tgNil, wipeE, Option.bind_some, tuple_lst, list_lst, st0, st1, st2, st3, se1, se2, se3, giveS_st, tgIx, sAsg, Option.map_some, oMod_eq, isi_int', isi_bl', isi_str', isi_non', isi_tup', isi_lst', isi_dct', isi_U', isi_F', isi_ins', tc_int, tc_bool, tc_tuple, ty_dct, isi_bi, isi_bb, isi_bt, isi_si, isi_sb, isi_st, isi_ni, isi_nb, isi_nt, isi_li, isi_lb, isi_lt, isi_di, isi_db, isi_dt, sRaise, dDct, mkLoc2, mkLoc7, mkLoc8, mkLoc9, mkLoc11, mkLoc17, mkLoc25, mkLoc32, oCatL, mkTup4, mkLst4, isi_N', isi_Row', isi_R'])
local macro_rules | `(tactic| walk_at "evh") => `(tactic| simp (config := { decide := false, implicitDefEqProofs := false }) only [bind_ok, bind_err, sE_ok, sE_err, bnd_nx, bnd_rt, bnd_bk, bnd_ct, bnd_err, sSeq_eq, dEnd_rt, dEnd_nx, dEnd_err, giveS_d, giveS_dA, giveS_nil,
  dVar, dC, d2, d1, dB, dChain, dAnd, dOr, dNot, dTru, dAndV, dOrV, dNotV, dIf, aNil, aCons, dTup, dLst, dLoc, dCall, dCB, b1, dIt, sNx, sBk, sCt, sRet, sRetN, sDrop, sSet, sIf, sPar, truth_bl, asB_bl, oI0_eq, oIsi, ty_int, ty_bl, ty_str, ty_non, ty_tup, ty_lst, isi_ii, isi_ib, isi_it, isi_tt, isi_ti, isi_tb,
  oAbs, oInt, oNeg, oEq_int, oNe_int, dFld, dSl, dPt, dNoPt, asPt_int, isN_non, isN_tup, isN_U, notN_non, notN_tup, notN_U, dMake, sFldPut,
  List.map_cons, List.map_nil, List.length_cons, List.length_nil, List.getElem?_cons_zero, List.getElem?_cons_succ, List.set_cons_zero, List.set_cons_succ, List.cons_append, List.nil_append, List.append_nil, Nat.reduceAdd, Nat.reduceSub, Nat.zero_add, if_true, if_false, Bool.not_true, Bool.not_false, Bool.false_eq_true, reduceIte, List.replicate_zero, List.replicate_succ, Nat.sub_self, beq_self_eq_true, Int.reduceLT, Int.reduceLE, Int.reduceAdd, Int.reduceSub, Int.reduceMul, Int.reduceNeg, Int.reducePow, Int.reduceToNat, Int.reduceEq, Int.reduceBEq, decide_true, decide_false, mkTup1, mkTup2, mkTup3, mkLst2, mkLst5, ix20, ix21, ixF0, ixF1, len_tup, len_lst, lenF, tyF, lenU, tyU, oEqF, oEqU, oNeU, zipU, tgN, tgT, tgCons, tgNil, wipeE, Option.bind_some, tuple_lst, list_lst, st0, st1, st2, st3, se1, se2, se3, giveS_st, tgIx, sAsg, Option.map_some, oMod_eq, isi_int', isi_bl', isi_str', isi_non', isi_tup', isi_lst', isi_dct', isi_U', isi_F', isi_ins', tc_int, tc_bool, tc_tuple, ty_dct, isi_bi, isi_bb, isi_bt, isi_si, isi_sb, isi_st, isi_ni, isi_nb, isi_nt, isi_li, isi_lb, isi_lt, isi_di, isi_db, isi_dt, sRaise, dDct, mkLoc2, mkLoc7, mkLoc8, mkLoc9, mkLoc11, mkLoc17, mkLoc25, mkLoc32, oCatL, mkTup4, mkLst4, isi_N', isi_Row', isi_R', oMul_eq, oDiv_eq, oPow_eq, *])
theorem e_law_withK (C : Str → Addr) (S : Store) {ds es : List D} {i j : Nat} {z : D} (hi : i < ds.length) (hj : j < es.length) (he : ds[i] = .tup es) (h1 : ds.length ≤ 10) (h2 : es.length ≤ 10) : g__law_with C [.d (.tup ds), .d (.int (i : Int)), .d (.int (j : Int)), .d z] S = some (.ok (.d (.tup (ds.set i (.tup (es.set j z))))), S) := by
  have x1 : oIx (.d (.tup ds)) (.d (.int (i : Int))) S = some (.ok (.d (.tup es)), S) := by rw [ix_D S hi, he]
  have s := fun (S : Store) (ds : List D) (lo hi : Option Int) => sl_any (S := S) (ds := ds) (lo := lo) (hi := hi)
  have k1 := cutD_len (ds := es) (lo := none) (hi := some (j : Int))
  have k2 := cutD_len (ds := es) (lo := some ((j : Int) + 1)) (hi := none)
  have k3 := cutD_len (ds := ds) (lo := none) (hi := some (i : Int))
  have k4 := cutD_len (ds := ds) (lo := some ((i : Int) + 1)) (hi := none)
  have c1 : oCat (.d (.tup (cutD es none (some (j : Int))))) (.d (.tup [z])) S = some (.ok (.d (.tup (cutD es none (some (j : Int)) ++ [z]))), S) := cat_tup (by simp; omega)
  have c2 : oCat (.d (.tup (cutD es none (some (j : Int)) ++ [z]))) (.d (.tup (cutD es (some ((j : Int) + 1)) none))) S = some (.ok (.d (.tup (es.set j z))), S) := by
    rw [cat_tup (by simp; omega), set_two hj]
  have c3 : oCat (.d (.tup (cutD ds none (some (i : Int))))) (.d (.tup [.tup (es.set j z)])) S = some (.ok (.d (.tup (cutD ds none (some (i : Int)) ++ [.tup (es.set j z)]))), S) := cat_tup (by simp; omega)
  have c4 : oCat (.d (.tup (cutD ds none (some (i : Int)) ++ [.tup (es.set j z)]))) (.d (.tup (cutD ds (some ((i : Int) + 1)) none))) S = some (.ok (.d (.tup (ds.set i (.tup (es.set j z))))), S) := by
    rw [cat_tup (by simp; omega), set_two hi]
  rw [q__law_with, F__law_with]
  clear hi hj he h1 h2 k1 k2 k3 k4
  walk_at "evh"
theorem rowsK_tk {G : Addr} {m n : Nat} {ds xs : List D} (h : RowsK m n G ds) (hn : n ≤ 100) (hx : ∀ d ∈ xs, d ∈ ds ∨ (Tk 10000000000000000000000000000000000000000 G d ∧ intB d = false)) (hl : xs.length ≤ 100) : TgK 10000000000000000000000000000000000000000 G (.tup xs) := by
  have key : ∀ d ∈ xs, Tk 10000000000000000000000000000000000000000 G d ∧ intB d = false := fun d hd => by
    rcases hx d hd with z | z
    · exact ⟨(h.2 d z).tk hn, (h.2 d z).nint⟩
    · exact z
  exact (tk_n (fun d hd => (key d hd).1) hl fun d hd => (key d hd).2).tg
theorem first_numbers (C : Str → Addr) {st : M} (hm : DrSt st) {b m n : Nat} {rs : List (List (Option Unit'))} (g : GrOk b m n rs) :
    ∃ (ns : List (List Num)) (st' : M), dLc lcF (dSeq (dVar 1)) (tgN 6) (ftYes) (dCB (b1 oTuple) (aCons (dLc lcF (dSeq (dVar 6)) (tgN 7) (ftYes) (dIf (dB (d2 oIsN (dVar 7) (dC .non))) (dTup (aCons (dC (.int 0)) (aCons (dC (.int 1)) (aNil)))) (dTup (aCons (d2 oAdd (dC (.int 1)) (dCall 2 (g__law_draw C) (aCons (dVar 0) (aCons (dC (.int 9)) (aNil))))) (aCons (dC (.int 1)) (aNil))))) [7]) (aNil))) [6] [some (.loc 0), some (.d (encR rs)), none, none, none, none, none, none] [st] = some (.ok (.d (.lst (ns.map encU))), [st']) ∧ ns.length = rs.length ∧ (∀ l ∈ ns, l.length = n ∧ ∀ p ∈ l, Sm p) ∧ DrSt st' := by
  refine dLc_drawL (T := []) encU (fun l => l.length = n ∧ ∀ p ∈ l, Sm p) (xs := rs) (wf := fun r => W.d (encRow r)) (by have := g.rows.1; have := g.m10; omega) hm (by rw [dSeq_tup (ds := rs.map encRow) (S1 := [st]) rfl]; simp) fun r hr st hm => ?_
  have q := g.rows.2 r hr
  obtain ⟨l, st', e, hl, hp, h'⟩ := dLc_drawL (T := []) encF Sm (xs := r) (wf := fun c => W.d (encC c)) (fi := dSeq (dVar 6)) (tf := tgN 7) (fe := dIf (dB (d2 oIsN (dVar 7) (dC .non))) (dTup (aCons (dC (.int 0)) (aCons (dC (.int 1)) (aNil)))) (dTup (aCons (d2 oAdd (dC (.int 1)) (dCall 2 (g__law_draw C) (aCons (dVar 0) (aCons (dC (.int 9)) (aNil))))) (aCons (dC (.int 1)) (aNil))))) (vs := [7]) (δ := [some (.loc 0), some (.d (encR rs)), none, none, none, none, some (.d (encRow r)), none]) (by have := g.n10; omega) hm (by rw [dSeq_tup (ds := r.map encC) (S1 := [st]) rfl]; simp) (fun c _ st hm => by
      cases c with
      | none =>
        have k := isN_C0 (S := [st])
        refine ⟨_, (0, 1), st, rfl, ?_, hm, ⟨by decide, rfl⟩⟩
        clear hm q hr g
        walk_at "evh"
        rfl
      | some us =>
        have k := isN_C (S := [st]) us
        obtain ⟨t, st1, e1, t0, t1, h1⟩ := e_draw C [] hm (k := 9) (by decide) (by decide)
        refine ⟨_, (1 + t, 1), st1, rfl, ?_, h1, ⟨by show (1 + t).natAbs ≤ 9; omega, rfl⟩⟩
        clear hm q hr g t0 t1 h1
        walk_at "evh"
        rfl)
  have eU : D.tup (l.map encF) = encU l := rfl
  refine ⟨_, l, st', rfl, ?_, h', by rw [hl, q.1], hp⟩
  clear hm q hr g h' hl hp
  walk_at "evh"
theorem numbers_loop (C : Str → Addr) {st : M} (hm : DrSt st) {b m n : Nat} {rs : List (List (Option Unit'))} (g : GrOk b m n rs) {ds : List D} (hd : RowsK m n (C "Grid") ds) :
    ∃ ds' st' x3 x5, dFor (dIt oRng1 (aCons (dCall 2 (g__law_draw C) (aCons (dVar 0) (aCons (dC (.int 3)) (aNil)))) (aNil))) (tgN 3) (sSeq (sSet 5 (dCall 2 (g__law_draw C) (aCons (dVar 0) (aCons (dCB (b1 oLen) (aCons (dVar 1) (aNil))) (aNil)))))
    (sSet 2 (dCall 4 (g__law_with C) (aCons (dVar 2) (aCons (dVar 5) (aCons (dCall 2 (g__law_draw C) (aCons (dVar 0) (aCons (dCB (b1 oLen) (aCons (d2 oIx (dVar 1) (dVar 5)) (aNil))) (aNil)))) (aCons (dCall 1 (g__law_item C) (aCons (dVar 0) (aNil))) (aNil)))))))) [some (.loc 0), some (.d (encR rs)), some (.d (.tup ds)), none, none, none, none, none] [st] = some (.ok (.nx [some (.loc 0), some (.d (encR rs)), some (.d (.tup ds')), x3, none, x5, none, none]), [st']) ∧ RowsK m n (C "Grid") ds' ∧ DrSt st' := by
  obtain ⟨q, st1, e1, q0, q1, h1⟩ := e_draw C [] hm (k := 3) (by decide) (by decide)
  have rq : oRng1 [.d (.int q)] [st1] = some (.ok ((List.range q.toNat).map fun k : Nat => W.d (.int (k : Int)), none), [st1]) := by
    have := oRng1_nat (S := [st1]) (n := q.toNat) (by omega)
    rw [Int.toNat_of_nonneg q0] at this
    exact this
  obtain ⟨δ', S', hf, st', ds', x3, x5, rfl, rfl, hr, h'⟩ := dFor_invS (fi := dIt oRng1 (aCons (dCall 2 (g__law_draw C) (aCons (dVar 0) (aCons (dC (.int 3)) (aNil)))) (aNil))) (tf := tgN 3) (fb := sSeq (sSet 5 (dCall 2 (g__law_draw C) (aCons (dVar 0) (aCons (dCB (b1 oLen) (aCons (dVar 1) (aNil))) (aNil)))))
      (sSet 2 (dCall 4 (g__law_with C) (aCons (dVar 2) (aCons (dVar 5) (aCons (dCall 2 (g__law_draw C) (aCons (dVar 0) (aCons (dCB (b1 oLen) (aCons (d2 oIx (dVar 1) (dVar 5)) (aNil))) (aNil)))) (aCons (dCall 1 (g__law_item C) (aCons (dVar 0) (aNil))) (aNil)))))))) (S := [st]) (S0 := [st1])
    (wf := fun k : Nat => W.d (.int (k : Int))) (P := fun _ δ S => ∃ st' ds' x3 x5, S = [st'] ∧ δ = [some (.loc 0), some (.d (encR rs)), some (.d (.tup ds')), x3, none, x5, none, none] ∧ RowsK m n (C "Grid") ds' ∧ DrSt st') (xs := List.range q.toNat) (δ := [some (.loc 0), some (.d (encR rs)), some (.d (.tup ds)), none, none, none, none, none]) (by
      clear hm g hd q0 q1 h1
      walk_at "evh") (by
      rintro i hi δ S ⟨st2, ds2, x3, x5, rfl, rfl, hr2, h2⟩
      obtain ⟨a, st3, e3, a0, a1, h3⟩ := e_draw C [] h2 (k := (rs.length : Int)) (by have := g.lt; omega) (by have := g.rows.1; have := g.m10; unfold Bd; omega)
      obtain ⟨i', rfl⟩ : ∃ i : Nat, a = (i : Int) := ⟨a.toNat, by omega⟩
      have hi1 : i' < rs.length := by omega
      have hi2 : i' < ds2.length := by rw [hr2.1, ← g.rows.1]; exact hi1
      have l1 := len_rows (S := [st2]) rs
      have x1 := ix_rows (S := [st3]) hi1
      have l2 := len_row (S := [st3]) rs[i']
      have q1' := (g.rows.2 _ (List.getElem_mem hi1)).1
      rw [q1'] at l2
      obtain ⟨c, st4, e4, c0, c1, h4⟩ := e_draw C [] h3 (k := (n : Int)) (by have := g.n1; omega) (by have := g.n10; unfold Bd; omega)
      obtain ⟨j', rfl⟩ : ∃ i : Nat, c = (i : Int) := ⟨c.toNat, by omega⟩
      obtain ⟨z, st5, e5, hz, h5⟩ := e_law_item C h4
      obtain ⟨es, ee, hel, heo⟩ := hr2.2 _ (List.getElem_mem hi2)
      have e6 := e_law_withK C [st5] (z := z) hi2 (j := j') (by rw [hel]; omega) ee (by rw [hr2.1]; exact g.m10) (by rw [hel]; exact g.n10)
      refine ⟨_, _, _, _, rfl, ?_, st5, ds2.set i' (.tup (es.set j' z)), some (.d (.int (((List.range q.toNat)[i] : Nat) : Int))), some (.d (.int (i' : Int))), rfl, rfl, hr2.set hi2 ee hz, h5⟩
      clear hm g hd q0 q1 h1 rq hr2 h2 a0 a1 h3 q1' c0 c1 h4 hz h5 hel heo ee e1
      walk_at "evh") ⟨st1, ds, none, none, rfl, rfl, hd, h1⟩
  exact ⟨ds', st', x3, x5, hf, hr, h'⟩
theorem e_law_numbers (C : Str → Addr) {st : M} (hm : DrSt st) {b m n : Nat} {rs : List (List (Option Unit'))} (g : GrOk b m n rs) : ∃ d st', g__law_numbers C [.loc 0, .d (encR rs)] [st] = some (.ok (.d d), [st']) ∧ TgK 10000000000000000000000000000000000000000 (C "Grid") d ∧ DrSt st' := by
  obtain ⟨ns, s1, e1, hl, hn, h1⟩ := first_numbers C hm g
  have m10 := g.m10
  have n10 := g.n10
  have m1 := g.m1
  have hd : RowsK m n (C "Grid") (ns.map encU) := ⟨by rw [List.length_map, hl, g.rows.1], fun d hd => by
    obtain ⟨l, hl, rfl⟩ := List.mem_map.mp hd
    exact ⟨l.map encF, rfl, by rw [List.length_map]; exact (hn l hl).1, fun e he => od_of (tkS (hn l hl).2 e he).1 (tkS (G := C "Grid") (hn l hl).2 e he).2⟩⟩
  obtain ⟨ds, s2, x3, x5, e2, hr, h2⟩ := numbers_loop C h1 g hd
  obtain ⟨r, s3, e3, r0, r1, h3⟩ := e_draw C [] h2 (k := 10) (by decide) (by decide)
  have lds := hr.1
  obtain ⟨dl, hdl, x1⟩ := ix_neg (S := [s3]) (ds := ds) (by omega)
  obtain ⟨es, rfl, hel, heo⟩ := hr.2 dl hdl
  have k1 := cutD_len (ds := ds) (lo := none) (hi := some (-1))
  have k2 := cutD_len (ds := es) (lo := none) (hi := some (-1))
  have k3 := cutD_len (ds := ds) (lo := some 1) (hi := none)
  have s := fun (S : Store) (ds : List D) (lo hi : Option Int) => sl_any (S := S) (ds := ds) (lo := lo) (hi := hi)
  have lt := fun (S : Store) (ds : List D) => list_tup (S := S) (ds := ds)
  have nn := fun S => neg1 (S := S)
  have c1 : ∀ (S : Store) (z : D), oCat (.d (.tup (cutD ds none (some (-1))))) (.d (.tup [z])) S = some (.ok (.d (.tup (cutD ds none (some (-1)) ++ [z]))), S) := fun S z => cat_tup (by simp; omega)
  rw [q__law_numbers, F__law_numbers]
  by_cases d0 : r = 0
  · subst d0
    obtain ⟨d, s4, e4, hd, h4⟩ := e_law_odd C h3
    have gv := fun (x : D) => giveS_hd0 (m := st) (m' := s4) (T := []) (x := x) h4.below
    refine ⟨d, s4, ?_, hd.tg.mono (by decide), h4⟩
    clear hm g hl hn h1 m10 n10 m1 hr h2 r0 r1 h3 lds hdl hel heo k1 k2 k3 hd h4
    walk_at "evh"
  · have n0 : (r == 0) = false := by simpa using d0
    have gv := fun (x : D) => giveS_hd0 (m := st) (m' := s3) (T := []) (x := x) h3.below
    by_cases d1 : r = 1
    · subst d1
      refine ⟨.lst ds, s3, ?_, (Tk.lst (by omega) fun d hd => (hr.2 d hd).tk (by omega)).tg, h3⟩
      clear hm g hl hn h1 m10 n10 m1 hr h2 r0 r1 h3 lds hdl hel heo k1 k2 k3 hd d0
      walk_at "evh"
    · have n1 : (r == 1) = false := by simpa using d1
      by_cases d2 : r = 2
      · subst d2
        refine ⟨.tup (cutD ds (some 1) none), s3, ?_, rowsK_tk hr (by omega) (fun d hd => .inl (cutD_mem hd)) (by omega), h3⟩
        clear hm g hl hn h1 m10 n10 m1 hr h2 r0 r1 h3 lds hdl hel heo k1 k2 k3 hd d0 d1
        walk_at "evh"
      · have n2 : (r == 2) = false := by simpa using d2
        by_cases d3 : r = 3
        · subst d3
          refine ⟨.tup (cutD ds none (some (-1)) ++ [.lst es]), s3, ?_, rowsK_tk hr (by omega) (fun d hd => ?_) (by simp; omega), h3⟩
          · clear hm g hl hn h1 m10 n10 m1 hr h2 r0 r1 h3 lds hdl hel heo k1 k2 k3 hd d0 d1 d2
            walk_at "evh"
          · rcases List.mem_append.mp hd with z | z
            · exact .inl (cutD_mem z)
            · simp at z; rw [z]
              exact .inr ⟨.lst (by omega) fun e he => (heo e he).1.mono (by decide), rfl⟩
        · have n3 : (r == 3) = false := by simpa using d3
          by_cases d4 : r = 4
          · subst d4
            refine ⟨.tup (cutD ds none (some (-1)) ++ [.tup (cutD es none (some (-1)))]), s3, ?_, rowsK_tk hr (by omega) (fun d hd => ?_) (by simp; omega), h3⟩
            · clear hm g hl hn h1 m10 n10 m1 hr h2 r0 r1 h3 lds hdl hel heo k1 k2 k3 hd d0 d1 d2 d3
              walk_at "evh"
            · rcases List.mem_append.mp hd with z | z
              · exact .inl (cutD_mem z)
              · simp at z; rw [z]
                exact .inr ⟨odRow (fun e he => heo e (cutD_mem he)) (by omega), rfl⟩
          · have n4 : (r == 4) = false := by simpa using d4
            refine ⟨.tup ds, s3, ?_, rowsK_tk hr (by omega) (fun d hd => .inl hd) (by omega), h3⟩
            clear hm g hl hn h1 m10 n10 m1 hr h2 r0 r1 h3 lds hdl hel heo k1 k2 k3 hd d0 d1 d2 d3 d4
            walk_at "evh"
theorem e_stateT (C : Str → Addr) (ns : List Int) : g__law_state C [.d (.lst (ns.map D.int)), .d (.int 7)] [] = some (.ok (.loc 0), [encSt ns 0 0 8]) := by
  rw [q__law_state, F__law_state]
  have k : mkLoc [W.d (.lst (ns.map D.int)), .d (.int 0), .d (.int 0), .d (.int 8)] [] = some (.ok (.loc 0), [encSt ns 0 0 8]) := rfl
  walk_at "evh"
  exact giveM_new (S := []) (ws := [.d (.lst (ns.map D.int)), .d (.int 0), .d (.int 0), .d (.int 8)]) (fun w hw => by
    simp at hw
    rcases hw with rfl | rfl | rfl <;> trivial)
theorem round (C : Str → Addr) {st : M} (hm : DrSt st) {b m n : Nat} {rs : List (List (Option Unit'))} (g : GrOk b m n rs) {x0 x7 x8 x9 x10 x11 x12 x13 x14 x15 : Option W} :
    ∃ st' y8 y9 y10 y11 y12 y13 y14 y15, b_law_6 C [x0, some (.loc 0), some (.d (.int (b : Int))), some (.d (.int (m : Int))), some (.d (.int (n : Int))), some (.d (encR rs)), some (.d (gridD C b rs)), x7, x8, x9, x10, x11, x12, x13, x14, x15] [st] =
    some (.ok (.nx [x0, some (.loc 0), some (.d (.int (b : Int))), some (.d (.int (m : Int))), some (.d (.int (n : Int))), some (.d (encR rs)), some (.d (gridD C b rs)), x7, y8, y9, y10, y11, y12, y13, y14, y15]), [st']) ∧ DrSt st' := by
  obtain ⟨x, s1, e1, hx, h1⟩ := e_law_place C hm (k := (m : Int)) (by have := g.m1; omega) (by have := g.m10; omega)
  obtain ⟨y, s2, e2, hy, h2⟩ := e_law_place C h1 (k := (n : Int)) (by have := g.n1; omega) (by have := g.n10; omega)
  obtain ⟨z, s3, e3, hz, h3⟩ := e_law_thing C h2 (b := b) g.b1 g.b3
  have hx' : TgK 10000000000000000000000000000000000000000 (C "Grid") x := hx.tg.mono (by decide)
  have hy' : TgK 10000000000000000000000000000000000000000 (C "Grid") y := hy.tg.mono (by decide)
  have hz' : TgK 10000000000000000000000000000000000000000 (C "Grid") z := hz.mono (by decide)
  obtain ⟨nu, s4, e4, hn, h4⟩ := e_law_numbers C h3 g
  obtain ⟨ro, s5, e5, hr, h5⟩ := e_law_some_roots C h4 (b := b) g.b1 g.b3
  rw [parts_b_law_6]
  have p0 : ∀ rest, p_b_law_6_0 C rest [x0, some (.loc 0), some (.d (.int (b : Int))), some (.d (.int (m : Int))), some (.d (.int (n : Int))), some (.d (encR rs)), some (.d (gridD C b rs)), x7, x8, x9, x10, x11, x12, x13, x14, x15] [st] = rest [x0, some (.loc 0), some (.d (.int (b : Int))), some (.d (.int (m : Int))), some (.d (.int (n : Int))), some (.d (encR rs)), some (.d (gridD C b rs)), x7, some (.d x), some (.d y), some (.d z), x11, x12, x13, x14, x15] [s3] := fun rest => by
    unfold p_b_law_6_0
    clear hm g hx hy hz hx' hy' hz' hn hr h1 h2 h3 h4 h5 e4 e5
    walk_at "evh"
  rw [p0]
  obtain ⟨w, p1⟩ := part12 C [s3] (rest := p_b_law_6_3 C (p_b_law_6_4 C (p_b_law_6_5 C))) g hx' hy' hz' (x0 := x0) (x7 := x7) (x11 := x11) (x12 := x12) (x13 := x13) (x14 := x14) (x15 := x15)
  rw [p1]
  have p3 : ∀ rest, p_b_law_6_3 C rest [x0, some (.loc 0), some (.d (.int (b : Int))), some (.d (.int (m : Int))), some (.d (.int (n : Int))), some (.d (encR rs)), some (.d (gridD C b rs)), x7, some (.d x), some (.d y), some (.d z), some (.d (.str w)), x12, x13, x14, x15] [s3] = rest [x0, some (.loc 0), some (.d (.int (b : Int))), some (.d (.int (m : Int))), some (.d (.int (n : Int))), some (.d (encR rs)), some (.d (gridD C b rs)), x7, some (.d x), some (.d y), some (.d z), some (.d (.str w)), some (.d nu), some (.d ro), x14, x15] [s5] := fun rest => by
    unfold p_b_law_6_3
    clear hm g hx hy hz hx' hy' hz' hn hr h1 h2 h3 h4 h5 e1 e2 e3 p0 p1
    walk_at "evh"
  rw [p3]
  obtain ⟨k, p4⟩ := part4 C [s5] (rest := p_b_law_6_5 C) g hn (x0 := x0) (x7 := x7) (x11 := some (.d (.str w))) (x13 := some (.d ro)) (x14 := x14) (x15 := x15) (x8 := some (.d x)) (x9 := some (.d y)) (x10 := some (.d z))
  rw [p4]
  obtain ⟨y11, p5⟩ := part5 C [s5] g hn hr (k := k) (x0 := x0) (x7 := x7) (x11 := some (.d (.str w))) (x15 := x15) (x8 := some (.d x)) (x9 := some (.d y)) (x10 := some (.d z))
  exact ⟨s5, _, _, _, _, _, _, _, _, p5, h5⟩
theorem eq_RR {S : Store} (rs : List (List (Option Unit'))) : oEq (.d (encR rs)) (.d (encR rs)) S = some (.ok (.d (.bl true)), S) := by rw [eq_R]; simp
theorem e_make1 (C : Str → Addr) (st : M) {b m n : Nat} {rs : List (List (Option Unit'))} (h : GrOk b m n rs) : mkIns (C "Grid") [st] (g_Grid__init__ C [.loc 1, .d (.int (b : Int)), .d (encR rs)] [st, .ins (C "Grid") [] []]) = some (.ok (.d (gridD C b rs)), [st]) := e_make C [st] h
theorem pure_law (C : Str → Addr) (ns : List Int) (hl : ns.length ≤ 63) : ∃ S', g_law C [.d (.lst (ns.map D.int))] [] = some (.ok (.d (.bl true)), S') := by
  have es := e_stateT C ns
  have h0 : DrSt (encSt ns 0 0 8) := ⟨ns, 0, 0, 8, rfl, by omega, by omega, by omega, by omega, hl⟩
  obtain ⟨rb, s1, e1, b0, b1, h1⟩ := e_draw C [] h0 (k := 3) (by decide) (by decide)
  obtain ⟨rm, s2, e2, m0, m1, h2⟩ := e_draw C [] h1 (k := 4) (by decide) (by decide)
  obtain ⟨rn, s3, e3, n0, n1, h3⟩ := e_draw C [] h2 (k := 4) (by decide) (by decide)
  obtain ⟨b, hb⟩ : ∃ b : Nat, 1 + rb = (b : Int) := ⟨(1 + rb).toNat, by omega⟩
  obtain ⟨m, hm⟩ : ∃ m : Nat, 1 + rm = (m : Int) := ⟨(1 + rm).toNat, by omega⟩
  obtain ⟨n, hn⟩ : ∃ n : Nat, 1 + rn = (n : Int) := ⟨(1 + rn).toNat, by omega⟩
  obtain ⟨rs, s4, e4, hr, h4⟩ := e_law_rows C [] h3 (b := b) (k := m) (n := n) (sh := 2) (by omega) (by omega) (by omega) (by omega) (by omega) (by decide)
  have g : GrOk b m n rs := ⟨by omega, by omega, by omega, by omega, by omega, by omega, hr⟩
  have e5 := e_make1 C s4 g
  have r : oRng1 [.d (.int 3)] [s4] = some (.ok ((List.range 3).map fun k : Nat => W.d (.int (k : Int)), none), [s4]) := oRng1_nat (n := 3) (by decide)
  obtain ⟨δ', S', hf, st', x7, x8, x9, x10, x11, x12, x13, x14, x15, rfl, rfl, hst⟩ := dFor_invS (fi := dIt oRng1 (aCons (dC (.int 3)) (aNil))) (tf := tgN 7) (fb := b_law_6 C) (S := [s4]) (S0 := [s4])
    (wf := fun k : Nat => W.d (.int (k : Int))) (P := fun _ δ S => ∃ st x7 x8 x9 x10 x11 x12 x13 x14 x15, S = [st] ∧ δ = [some (.d (.lst (ns.map D.int))), some (.loc 0), some (.d (.int (b : Int))), some (.d (.int (m : Int))), some (.d (.int (n : Int))), some (.d (encR rs)), some (.d (gridD C b rs)), x7, x8, x9, x10, x11, x12, x13, x14, x15] ∧ DrSt st) (xs := List.range 3) (δ := [some (.d (.lst (ns.map D.int))), some (.loc 0), some (.d (.int (b : Int))), some (.d (.int (m : Int))), some (.d (.int (n : Int))), some (.d (encR rs)), some (.d (gridD C b rs)), none, none, none, none, none, none, none, none, none]) (by
      clear es h0 h1 h2 h3 h4 g hr hb hm hn b0 b1 m0 m1 n0 n1
      walk_at "evh") (by
      rintro i hi δ S ⟨st, x7, x8, x9, x10, x11, x12, x13, x14, x15, rfl, rfl, hst⟩
      obtain ⟨st', y8, y9, y10, y11, y12, y13, y14, y15, e, h'⟩ := round C hst g (x0 := some (.d (.lst (ns.map D.int)))) (x7 := some (.d (.int (((List.range 3)[i] : Nat) : Int)))) (x8 := x8) (x9 := x9) (x10 := x10) (x11 := x11) (x12 := x12) (x13 := x13) (x14 := x14) (x15 := x15)
      exact ⟨_, _, _, _, rfl, e, st', _, y8, y9, y10, y11, y12, y13, y14, y15, rfl, rfl, h'⟩) ⟨s4, none, none, none, none, none, none, none, none, none, rfl, rfl, h4⟩
  refine ⟨[], ?_⟩
  have hf' : l_law_6 C [some (.d (.lst (ns.map D.int))), some (.loc 0), some (.d (.int (b : Int))), some (.d (.int (m : Int))), some (.d (.int (n : Int))), some (.d (encR rs)), some (.d (gridD C b rs)), none, none, none, none, none, none, none, none, none] [s4] = some (.ok (.nx [some (.d (.lst (ns.map D.int))), some (.loc 0), some (.d (.int (b : Int))), some (.d (.int (m : Int))), some (.d (.int (n : Int))), some (.d (encR rs)), some (.d (gridD C b rs)), x7, x8, x9, x10, x11, x12, x13, x14, x15]), [st']) := by
    unfold l_law_6
    exact hf
  have gv := fun x S1 => giveS_nil (x := x) (S1 := S1)
  have f1 := fld_bases C [st'] (b := b) (rs := rs)
  have f2 := fld_rows C [st'] (b := b) (rs := rs)
  have q1 := eq_RR (S := [st']) rs
  rw [q_law, parts_law]
  unfold p_law_0 p_law_1 p_law_2 p_law_3
  clear hf h0 h1 h2 h3 h4 r hst g hr b0 b1 m0 m1 n0 n1
  walk_at "evh"
end P07
set_option Elab.async false
set_option linter.all false
set_option maxRecDepth 100000
set_option maxHeartbeats 4000000
namespace P07
open PySem PySem.Spec PyProof.Rows L2 DL
/-! what the top has left -/
structure Txt (K : PySem.W.Frag) (mg : Str → Option Value) : Prop where
  d_Grid__init__ : ∃ fd, FunD K "__init__" "Grid.__init__" (defArgs s_Grid__init__) (defBody s_Grid__init__) (defScope s_Grid__init__) [] [] (He.ma K (He.ga K "Grid") "__init__") fd
  k_Grid : Mk K (He.ga K "Grid") (He.ma K (He.ga K "Grid") "__init__")
  d_Grid__eq__ : ∃ fd, FunD K "__eq__" "Grid.__eq__" (defArgs s_Grid__eq__) (defBody s_Grid__eq__) (defScope s_Grid__eq__) [] [] (He.ma K (He.ga K "Grid") "__eq__") fd
  e_Grid : Meth K (He.ga K "Grid") "__eq__" (He.ma K (He.ga K "Grid") "__eq__")
  x_NoRoots : KExc K mg "NoRoots"
  x_NoCell : KExc K mg "NoCell"
  x_NoUnit : KExc K mg "NoUnit"
  x_NoNumbers : KExc K mg "NoNumbers"
  m_NoCell : mg "NoCell" = some (.ref (He.ga K "NoCell"))
  m_NoUnit : mg "NoUnit" = some (.ref (He.ga K "NoUnit"))
  m_NoNumbers : mg "NoNumbers" = some (.ref (He.ga K "NoNumbers"))
  m_NoRoots : mg "NoRoots" = some (.ref (He.ga K "NoRoots"))
  m_GridError : mg "GridError" = some (.ref (He.ga K "GridError"))
  exm : ∀ c ∈ excs, ∀ h ∈ hdls, PySem.W.exmOne K (.ref (He.ga K c)) (.ref (He.ga K h)) = some (subE c h)
  o_Grid : KOwn K (He.ga K "Grid")
  m_Grid : mg "Grid" = some (.ref (He.ga K "Grid"))
  c_Grid : Cls K (He.ga K "Grid")
  n_Grid_bases : NoAttr K (He.ga K "Grid") "bases"
  n_Grid_rows : NoAttr K (He.ga K "Grid") "rows"
  d_is_integer : ∃ fd, FunD K "is_integer" "is_integer" (defArgs s_is_integer) (defBody s_is_integer) (defScope s_is_integer) [] [] (He.ga K "is_integer") fd
  m_is_integer : mg "is_integer" = some (.ref (He.ga K "is_integer"))
  d_is_within : ∃ fd, FunD K "is_within" "is_within" (defArgs s_is_within) (defBody s_is_within) (defScope s_is_within) [] [] (He.ga K "is_within") fd
  m_is_within : mg "is_within" = some (.ref (He.ga K "is_within"))
  d_divisor : ∃ fd, FunD K "divisor" "divisor" (defArgs s_divisor) (defBody s_divisor) (defScope s_divisor) [] [] (He.ga K "divisor") fd
  m_divisor : mg "divisor" = some (.ref (He.ga K "divisor"))
  d_multiple : ∃ fd, FunD K "multiple" "multiple" (defArgs s_multiple) (defBody s_multiple) (defScope s_multiple) [] [] (He.ga K "multiple") fd
  m_multiple : mg "multiple" = some (.ref (He.ga K "multiple"))
  d_lowest : ∃ fd, FunD K "lowest" "lowest" (defArgs s_lowest) (defBody s_lowest) (defScope s_lowest) [] [] (He.ga K "lowest") fd
  m_lowest : mg "lowest" = some (.ref (He.ga K "lowest"))
  d_is_fraction : ∃ fd, FunD K "is_fraction" "is_fraction" (defArgs s_is_fraction) (defBody s_is_fraction) (defScope s_is_fraction) [] [] (He.ga K "is_fraction") fd
  m_is_fraction : mg "is_fraction" = some (.ref (He.ga K "is_fraction"))
  d_is_above : ∃ fd, FunD K "is_above" "is_above" (defArgs s_is_above) (defBody s_is_above) (defScope s_is_above) [] [] (He.ga K "is_above") fd
  m_is_above : mg "is_above" = some (.ref (He.ga K "is_above"))
  d_times : ∃ fd, FunD K "times" "times" (defArgs s_times) (defBody s_times) (defScope s_times) [] [] (He.ga K "times") fd
  m_times : mg "times" = some (.ref (He.ga K "times"))
  d_raised : ∃ fd, FunD K "raised" "raised" (defArgs s_raised) (defBody s_raised) (defScope s_raised) [] [] (He.ga K "raised") fd
  m_raised : mg "raised" = some (.ref (He.ga K "raised"))
  d_is_unit_of : ∃ fd, FunD K "is_unit_of" "is_unit_of" (defArgs s_is_unit_of) (defBody s_is_unit_of) (defScope s_is_unit_of) [] [] (He.ga K "is_unit_of") fd
  m_is_unit_of : mg "is_unit_of" = some (.ref (He.ga K "is_unit_of"))
  d_are_rows : ∃ fd, FunD K "are_rows" "are_rows" (defArgs s_are_rows) (defBody s_are_rows) (defScope s_are_rows) [] [] (He.ga K "are_rows") fd
  m_are_rows : mg "are_rows" = some (.ref (He.ga K "are_rows"))
  d_check_roots : ∃ fd, FunD K "check_roots" "check_roots" (defArgs s_check_roots) (defBody s_check_roots) (defScope s_check_roots) [] [] (He.ga K "check_roots") fd
  m_check_roots : mg "check_roots" = some (.ref (He.ga K "check_roots"))
  d_raw_factor : ∃ fd, FunD K "raw_factor" "raw_factor" (defArgs s_raw_factor) (defBody s_raw_factor) (defScope s_raw_factor) [] [] (He.ga K "raw_factor") fd
  m_raw_factor : mg "raw_factor" = some (.ref (He.ga K "raw_factor"))
  d_is_part : ∃ fd, FunD K "is_part" "is_part" (defArgs s_is_part) (defBody s_is_part) (defScope s_is_part) [] [] (He.ga K "is_part") fd
  m_is_part : mg "is_part" = some (.ref (He.ga K "is_part"))
  d_is_cell : ∃ fd, FunD K "is_cell" "is_cell" (defArgs s_is_cell) (defBody s_is_cell) (defScope s_is_cell) [] [] (He.ga K "is_cell") fd
  m_is_cell : mg "is_cell" = some (.ref (He.ga K "is_cell"))
  d_check_rows : ∃ fd, FunD K "check_rows" "check_rows" (defArgs s_check_rows) (defBody s_check_rows) (defScope s_check_rows) [] [] (He.ga K "check_rows") fd
  m_check_rows : mg "check_rows" = some (.ref (He.ga K "check_rows"))
  d_sizes_of : ∃ fd, FunD K "sizes_of" "sizes_of" (defArgs s_sizes_of) (defBody s_sizes_of) (defScope s_sizes_of) [] [] (He.ga K "sizes_of") fd
  m_sizes_of : mg "sizes_of" = some (.ref (He.ga K "sizes_of"))
  d_check_cell : ∃ fd, FunD K "check_cell" "check_cell" (defArgs s_check_cell) (defBody s_check_cell) (defScope s_check_cell) [] [] (He.ga K "check_cell") fd
  m_check_cell : mg "check_cell" = some (.ref (He.ga K "check_cell"))
  d_cell : ∃ fd, FunD K "cell" "cell" (defArgs s_cell) (defBody s_cell) (defScope s_cell) [] [] (He.ga K "cell") fd
  m_cell : mg "cell" = some (.ref (He.ga K "cell"))
  d_with_cell : ∃ fd, FunD K "with_cell" "with_cell" (defArgs s_with_cell) (defBody s_with_cell) (defScope s_with_cell) [] [] (He.ga K "with_cell") fd
  m_with_cell : mg "with_cell" = some (.ref (He.ga K "with_cell"))
  d_retold : ∃ fd, FunD K "retold" "retold" (defArgs s_retold) (defBody s_retold) (defScope s_retold) [] [] (He.ga K "retold") fd
  m_retold : mg "retold" = some (.ref (He.ga K "retold"))
  d_units_in : ∃ fd, FunD K "units_in" "units_in" (defArgs s_units_in) (defBody s_units_in) (defScope s_units_in) [] [] (He.ga K "units_in") fd
  m_units_in : mg "units_in" = some (.ref (He.ga K "units_in"))
  d_bottom : ∃ fd, FunD K "bottom" "bottom" (defArgs s_bottom) (defBody s_bottom) (defScope s_bottom) [] [] (He.ga K "bottom") fd
  m_bottom : mg "bottom" = some (.ref (He.ga K "bottom"))
  d_fits : ∃ fd, FunD K "fits" "fits" (defArgs s_fits) (defBody s_fits) (defScope s_fits) [] [] (He.ga K "fits") fd
  m_fits : mg "fits" = some (.ref (He.ga K "fits"))
  d_are_numbers : ∃ fd, FunD K "are_numbers" "are_numbers" (defArgs s_are_numbers) (defBody s_are_numbers) (defScope s_are_numbers) [] [] (He.ga K "are_numbers") fd
  m_are_numbers : mg "are_numbers" = some (.ref (He.ga K "are_numbers"))
  d_are_values : ∃ fd, FunD K "are_values" "are_values" (defArgs s_are_values) (defBody s_are_values) (defScope s_are_values) [] [] (He.ga K "are_values") fd
  m_are_values : mg "are_values" = some (.ref (He.ga K "are_values"))
  d_raw_renumbered : ∃ fd, FunD K "raw_renumbered" "raw_renumbered" (defArgs s_raw_renumbered) (defBody s_raw_renumbered) (defScope s_raw_renumbered) [] [] (He.ga K "raw_renumbered") fd
  m_raw_renumbered : mg "raw_renumbered" = some (.ref (He.ga K "raw_renumbered"))
  d_renumbered : ∃ fd, FunD K "renumbered" "renumbered" (defArgs s_renumbered) (defBody s_renumbered) (defScope s_renumbered) [] [] (He.ga K "renumbered") fd
  m_renumbered : mg "renumbered" = some (.ref (He.ga K "renumbered"))
  d__law_is_integer : ∃ fd, FunD K "_law_is_integer" "_law_is_integer" (defArgs s__law_is_integer) (defBody s__law_is_integer) (defScope s__law_is_integer) [] [] (He.ga K "_law_is_integer") fd
  m__law_is_integer : mg "_law_is_integer" = some (.ref (He.ga K "_law_is_integer"))
  d__law_state : ∃ fd, FunD K "_law_state" "_law_state" (defArgs s__law_state) (defBody s__law_state) (defScope s__law_state) [] [] (He.ga K "_law_state") fd
  m__law_state : mg "_law_state" = some (.ref (He.ga K "_law_state"))
  d__law_mixed : ∃ fd, FunD K "_law_mixed" "_law_mixed" (defArgs s__law_mixed) (defBody s__law_mixed) (defScope s__law_mixed) [] [] (He.ga K "_law_mixed") fd
  m__law_mixed : mg "_law_mixed" = some (.ref (He.ga K "_law_mixed"))
  d__law_draw : ∃ fd, FunD K "_law_draw" "_law_draw" (defArgs s__law_draw) (defBody s__law_draw) (defScope s__law_draw) [] [] (He.ga K "_law_draw") fd
  m__law_draw : mg "_law_draw" = some (.ref (He.ga K "_law_draw"))
  d__law_low : ∃ fd, FunD K "_law_low" "_law_low" (defArgs s__law_low) (defBody s__law_low) (defScope s__law_low) [] [] (He.ga K "_law_low") fd
  m__law_low : mg "_law_low" = some (.ref (He.ga K "_law_low"))
  d__law_exponent : ∃ fd, FunD K "_law_exponent" "_law_exponent" (defArgs s__law_exponent) (defBody s__law_exponent) (defScope s__law_exponent) [] [] (He.ga K "_law_exponent") fd
  m__law_exponent : mg "_law_exponent" = some (.ref (He.ga K "_law_exponent"))
  d__law_unit : ∃ fd, FunD K "_law_unit" "_law_unit" (defArgs s__law_unit) (defBody s__law_unit) (defScope s__law_unit) [] [] (He.ga K "_law_unit") fd
  m__law_unit : mg "_law_unit" = some (.ref (He.ga K "_law_unit"))
  d__law_cell : ∃ fd, FunD K "_law_cell" "_law_cell" (defArgs s__law_cell) (defBody s__law_cell) (defScope s__law_cell) [] [] (He.ga K "_law_cell") fd
  m__law_cell : mg "_law_cell" = some (.ref (He.ga K "_law_cell"))
  d__law_with : ∃ fd, FunD K "_law_with" "_law_with" (defArgs s__law_with) (defBody s__law_with) (defScope s__law_with) [] [] (He.ga K "_law_with") fd
  m__law_with : mg "_law_with" = some (.ref (He.ga K "_law_with"))
  d__law_is_fraction : ∃ fd, FunD K "_law_is_fraction" "_law_is_fraction" (defArgs s__law_is_fraction) (defBody s__law_is_fraction) (defScope s__law_is_fraction) [] [] (He.ga K "_law_is_fraction") fd
  m__law_is_fraction : mg "_law_is_fraction" = some (.ref (He.ga K "_law_is_fraction"))
  d__law_is_unit : ∃ fd, FunD K "_law_is_unit" "_law_is_unit" (defArgs s__law_is_unit) (defBody s__law_is_unit) (defScope s__law_is_unit) [] [] (He.ga K "_law_is_unit") fd
  m__law_is_unit : mg "_law_is_unit" = some (.ref (He.ga K "_law_is_unit"))
  d__law_is_cell : ∃ fd, FunD K "_law_is_cell" "_law_is_cell" (defArgs s__law_is_cell) (defBody s__law_is_cell) (defScope s__law_is_cell) [] [] (He.ga K "_law_is_cell") fd
  m__law_is_cell : mg "_law_is_cell" = some (.ref (He.ga K "_law_is_cell"))
  d__law_are_numbers : ∃ fd, FunD K "_law_are_numbers" "_law_are_numbers" (defArgs s__law_are_numbers) (defBody s__law_are_numbers) (defScope s__law_are_numbers) [] [] (He.ga K "_law_are_numbers") fd
  m__law_are_numbers : mg "_law_are_numbers" = some (.ref (He.ga K "_law_are_numbers"))
  d__law_odd : ∃ fd, FunD K "_law_odd" "_law_odd" (defArgs s__law_odd) (defBody s__law_odd) (defScope s__law_odd) [] [] (He.ga K "_law_odd") fd
  m__law_odd : mg "_law_odd" = some (.ref (He.ga K "_law_odd"))
  d__law_place : ∃ fd, FunD K "_law_place" "_law_place" (defArgs s__law_place) (defBody s__law_place) (defScope s__law_place) [] [] (He.ga K "_law_place") fd
  m__law_place : mg "_law_place" = some (.ref (He.ga K "_law_place"))
  d__law_is_place : ∃ fd, FunD K "_law_is_place" "_law_is_place" (defArgs s__law_is_place) (defBody s__law_is_place) (defScope s__law_is_place) [] [] (He.ga K "_law_is_place") fd
  m__law_is_place : mg "_law_is_place" = some (.ref (He.ga K "_law_is_place"))
  d__law_item : ∃ fd, FunD K "_law_item" "_law_item" (defArgs s__law_item) (defBody s__law_item) (defScope s__law_item) [] [] (He.ga K "_law_item") fd
  m__law_item : mg "_law_item" = some (.ref (He.ga K "_law_item"))
  d__law_numbers : ∃ fd, FunD K "_law_numbers" "_law_numbers" (defArgs s__law_numbers) (defBody s__law_numbers) (defScope s__law_numbers) [] [] (He.ga K "_law_numbers") fd
  m__law_numbers : mg "_law_numbers" = some (.ref (He.ga K "_law_numbers"))
  d__law_some_roots : ∃ fd, FunD K "_law_some_roots" "_law_some_roots" (defArgs s__law_some_roots) (defBody s__law_some_roots) (defScope s__law_some_roots) [] [] (He.ga K "_law_some_roots") fd
  m__law_some_roots : mg "_law_some_roots" = some (.ref (He.ga K "_law_some_roots"))
  d__law_are_values : ∃ fd, FunD K "_law_are_values" "_law_are_values" (defArgs s__law_are_values) (defBody s__law_are_values) (defScope s__law_are_values) [] [] (He.ga K "_law_are_values") fd
  m__law_are_values : mg "_law_are_values" = some (.ref (He.ga K "_law_are_values"))
  d__law_called : ∃ fd, FunD K "_law_called" "_law_called" (defArgs s__law_called) (defBody s__law_called) (defScope s__law_called) [] [] (He.ga K "_law_called") fd
  m__law_called : mg "_law_called" = some (.ref (He.ga K "_law_called"))
  d__law_found : ∃ fd, FunD K "_law_found" "_law_found" (defArgs s__law_found) (defBody s__law_found) (defScope s__law_found) [] [] (He.ga K "_law_found") fd
  m__law_found : mg "_law_found" = some (.ref (He.ga K "_law_found"))
  d__law_thing : ∃ fd, FunD K "_law_thing" "_law_thing" (defArgs s__law_thing) (defBody s__law_thing) (defScope s__law_thing) [] [] (He.ga K "_law_thing") fd
  m__law_thing : mg "_law_thing" = some (.ref (He.ga K "_law_thing"))
  d__law_rows : ∃ fd, FunD K "_law_rows" "_law_rows" (defArgs s__law_rows) (defBody s__law_rows) (defScope s__law_rows) [] [] (He.ga K "_law_rows") fd
  m__law_rows : mg "_law_rows" = some (.ref (He.ga K "_law_rows"))
  d_law : ∃ fd, FunD K "law" "law" (defArgs s_law) (defBody s_law) (defScope s_law) [] [] (He.ga K "law") fd
  m_law : mg "law" = some (.ref (He.ga K "law"))
  b_abs : mg "abs" = none
  b_all : mg "all" = none
  b_bool : mg "bool" = none
  b_enumerate : mg "enumerate" = none
  b_int : mg "int" = none
  b_isinstance : mg "isinstance" = none
  b_len : mg "len" = none
  b_list : mg "list" = none
  b_range : mg "range" = none
  b_tuple : mg "tuple" = none
  b_zip : mg "zip" = none
  i_MOST_ROWS : ∃ t, mg "MOST_ROWS" = some (.int 10 t)
  i_MOST_TOP : ∃ t, mg "MOST_TOP" = some (.int 6 t)
  i_MOST_BOTTOM : ∃ t, mg "MOST_BOTTOM" = some (.int 4 t)
  i_MOST_BASES : ∃ t, mg "MOST_BASES" = some (.int 3 t)
section
variable {P : Program} {w : World} {K : PySem.W.Frag} {mg : Str → Option Value} {base : Heap}
theorem sc_is_integer : FnScope ["thing"] ["thing"] (defScope s_is_integer) := ⟨rfl, rfl, rfl, by decide +kernel, rfl, by decide +kernel, by decide +kernel⟩
theorem ok_is_integer (T : Txt K mg) : FnD P w K mg base 1 "is_integer" 1 (g_is_integer (He.ga K)) := by
  obtain ⟨fd, F⟩ := T.d_is_integer
  have hb : ∀ (kV doc pm : Value) (an : Option Addr) (cdv ct : Value) (us : List Value), us.length = (["thing"] : List Str).length → bindArgs (PySem.W.fnOf "is_integer" "is_integer" (defArgs s_is_integer) (defBody s_is_integer) (defScope s_is_integer) .none kV doc pm an cdv ct) ⟨us, []⟩ = pure ((["thing"] : List Str).zip us) := (fun _ _ _ _ _ _ us hl => match us, hl with | [_], _ => rfl)
  refine FnD.as (g := dDef giveS 1 (["thing"] : List Str).length (F_is_integer (He.ga K))) ?_ rfl
  refine fnD_mk (k := 0) (fb := F_is_integer (He.ga K)) giveS_ok F T.m_is_integer sc_is_integer rfl hb ?_
  intro cdv A outer s H E c
  exact dss_one (ds_ret (de_and (de_callB call_isi (oIsiI_ok (own1 T.o_Grid)) T.b_isinstance bt_isinstance (da_cons (de_var (pv 0)) (da_cons (de_ty T.b_int bt_int) (da_nil)))) (de_one (de_not (de_callB call_isi (oIsiI_ok (own1 T.o_Grid)) T.b_isinstance bt_isinstance (da_cons (de_var (pv 0)) (da_cons (de_ty T.b_bool bt_bool) (da_nil))))))))
theorem sc_is_within : FnScope ["thing", "least", "most"] ["thing", "least", "most"] (defScope s_is_within) := ⟨rfl, rfl, rfl, by decide +kernel, rfl, by decide +kernel, by decide +kernel⟩
theorem ok_is_within (T : Txt K mg) : FnD P w K mg base 2 "is_within" 3 (g_is_within (He.ga K)) := by
  obtain ⟨fd, F⟩ := T.d_is_within
  have hb : ∀ (kV doc pm : Value) (an : Option Addr) (cdv ct : Value) (us : List Value), us.length = (["thing", "least", "most"] : List Str).length → bindArgs (PySem.W.fnOf "is_within" "is_within" (defArgs s_is_within) (defBody s_is_within) (defScope s_is_within) .none kV doc pm an cdv ct) ⟨us, []⟩ = pure ((["thing", "least", "most"] : List Str).zip us) := (fun _ _ _ _ _ _ us hl => match us, hl with | [_, _, _], _ => rfl)
  refine FnD.as (g := dDef giveS 3 (["thing", "least", "most"] : List Str).length (F_is_within (He.ga K))) ?_ rfl
  refine fnD_mk (k := 1) (fb := F_is_within (He.ga K)) giveS_ok F T.m_is_within sc_is_within rfl hb ?_
  intro cdv A outer s H E c
  exact dss_one (ds_ret (de_and (de_call (ok_is_integer T) c.tk (c.room.mono (by decide)) (da_cons (de_var (pv 0)) (da_nil))) (de_one (de_chain op_le op_le oLe_ok oLe_ok (de_var (pv 1)) (de_var (pv 0)) (de_var (pv 2))))))
theorem sc_divisor : FnScope ["one", "other"] ["one", "other"] (defScope s_divisor) := ⟨rfl, rfl, rfl, by decide +kernel, rfl, by decide +kernel, by decide +kernel⟩
theorem ok_divisor (T : Txt K mg) : FnD P w K mg base 1 "divisor" 2 (g_divisor (He.ga K)) := by
  obtain ⟨fd, F⟩ := T.d_divisor
  have hb : ∀ (kV doc pm : Value) (an : Option Addr) (cdv ct : Value) (us : List Value), us.length = (["one", "other"] : List Str).length → bindArgs (PySem.W.fnOf "divisor" "divisor" (defArgs s_divisor) (defBody s_divisor) (defScope s_divisor) .none kV doc pm an cdv ct) ⟨us, []⟩ = pure ((["one", "other"] : List Str).zip us) := (fun _ _ _ _ _ _ us hl => match us, hl with | [_, _], _ => rfl)
  refine FnD.as (g := dDef giveS 2 (["one", "other"] : List Str).length (F_divisor (He.ga K))) ?_ rfl
  refine fnD_mk (k := 0) (fb := F_divisor (He.ga K)) giveS_ok F T.m_divisor sc_divisor rfl hb ?_
  intro cdv A outer s H E c
  exact dss_cons (ds_par 0 1 rfl c.nd (de_callB call_abs oAbs_ok T.b_abs bt_abs (da_cons (de_var (pv 0)) (da_nil))) (de_callB call_abs oAbs_ok T.b_abs bt_abs (da_cons (de_var (pv 1)) (da_nil))))
    (dss_cons (ds_while c.po (dt_cmp op_gt oGt_ok (de_var (pv 1)) (de_int)) (dss_one (ds_par 0 1 rfl c.nd (de_var (pv 1)) (de_op op_mod oMod_ok (de_var (pv 0)) (de_var (pv 1))))))
    (dss_one (ds_ret (de_var (pv 0)))))
theorem sc_multiple : FnScope ["one", "other"] ["one", "other"] (defScope s_multiple) := ⟨rfl, rfl, rfl, by decide +kernel, rfl, by decide +kernel, by decide +kernel⟩
theorem ok_multiple (T : Txt K mg) : FnD P w K mg base 2 "multiple" 2 (g_multiple (He.ga K)) := by
  obtain ⟨fd, F⟩ := T.d_multiple
  have hb : ∀ (kV doc pm : Value) (an : Option Addr) (cdv ct : Value) (us : List Value), us.length = (["one", "other"] : List Str).length → bindArgs (PySem.W.fnOf "multiple" "multiple" (defArgs s_multiple) (defBody s_multiple) (defScope s_multiple) .none kV doc pm an cdv ct) ⟨us, []⟩ = pure ((["one", "other"] : List Str).zip us) := (fun _ _ _ _ _ _ us hl => match us, hl with | [_, _], _ => rfl)
  refine FnD.as (g := dDef giveS 2 (["one", "other"] : List Str).length (F_multiple (He.ga K))) ?_ rfl
  refine fnD_mk (k := 1) (fb := F_multiple (He.ga K)) giveS_ok F T.m_multiple sc_multiple rfl hb ?_
  intro cdv A outer s H E c
  exact dss_one (ds_ret (de_op op_mulW oMul_ok (de_op op_fdivW oDiv_ok (de_var (pv 0)) (de_call (ok_divisor T) c.tk (c.room.mono (by decide)) (da_cons (de_var (pv 0)) (da_cons (de_var (pv 1)) (da_nil))))) (de_var (pv 1))))
theorem sc_lowest : FnScope ["top", "bottom", "common"] ["top", "bottom"] (defScope s_lowest) := ⟨rfl, rfl, rfl, by decide +kernel, rfl, by decide +kernel, by decide +kernel⟩
theorem ok_lowest (T : Txt K mg) : FnD P w K mg base 2 "lowest" 2 (g_lowest (He.ga K)) := by
  obtain ⟨fd, F⟩ := T.d_lowest
  have hb : ∀ (kV doc pm : Value) (an : Option Addr) (cdv ct : Value) (us : List Value), us.length = (["top", "bottom"] : List Str).length → bindArgs (PySem.W.fnOf "lowest" "lowest" (defArgs s_lowest) (defBody s_lowest) (defScope s_lowest) .none kV doc pm an cdv ct) ⟨us, []⟩ = pure ((["top", "bottom"] : List Str).zip us) := (fun _ _ _ _ _ _ us hl => match us, hl with | [_, _], _ => rfl)
  refine FnD.as (g := dDef giveS 2 (["top", "bottom", "common"] : List Str).length (F_lowest (He.ga K))) ?_ rfl
  refine fnD_mk (k := 1) (fb := F_lowest (He.ga K)) giveS_ok F T.m_lowest sc_lowest rfl hb ?_
  intro cdv A outer s H E c
  exact dss_cons (ds_set 2 c.nd (de_call (ok_divisor T) c.tk (c.room.mono (by decide)) (da_cons (de_var (pv 0)) (da_cons (de_var (pv 1)) (da_nil)))))
    (dss_cons (ds_if (dt_cmp op_lt oLt_ok (de_var (pv 1)) (de_int)) (dss_one (ds_set 2 c.nd (de_neg (de_var (pv 2))))) (dss_nil))
    (dss_one (ds_ret (de_tup (da_cons (de_op op_fdivW oDiv_ok (de_var (pv 0)) (de_var (pv 2))) (da_cons (de_op op_fdivW oDiv_ok (de_var (pv 1)) (de_var (pv 2))) (da_nil)))))))
theorem sc_is_fraction : FnScope ["thing"] ["thing"] (defScope s_is_fraction) := ⟨rfl, rfl, rfl, by decide +kernel, rfl, by decide +kernel, by decide +kernel⟩
theorem ok_is_fraction (T : Txt K mg) : FnD P w K mg base 2 "is_fraction" 1 (g_is_fraction (He.ga K)) := by
  obtain ⟨fd, F⟩ := T.d_is_fraction
  have hb : ∀ (kV doc pm : Value) (an : Option Addr) (cdv ct : Value) (us : List Value), us.length = (["thing"] : List Str).length → bindArgs (PySem.W.fnOf "is_fraction" "is_fraction" (defArgs s_is_fraction) (defBody s_is_fraction) (defScope s_is_fraction) .none kV doc pm an cdv ct) ⟨us, []⟩ = pure ((["thing"] : List Str).zip us) := (fun _ _ _ _ _ _ us hl => match us, hl with | [_], _ => rfl)
  refine FnD.as (g := dDef giveS 1 (["thing"] : List Str).length (F_is_fraction (He.ga K))) ?_ rfl
  refine fnD_mk (k := 1) (fb := F_is_fraction (He.ga K)) giveS_ok F T.m_is_fraction sc_is_fraction rfl hb ?_
  intro cdv A outer s H E c
  exact dss_cons (ds_if (L2.PW.pt (dw_or (dt_not (dt_tru (de_callB call_isi (oIsiI_ok (own1 T.o_Grid)) T.b_isinstance bt_isinstance (da_cons (de_var (pv 0)) (da_cons (de_ty T.b_tuple bt_tuple) (da_nil)))))) (dw_or (dt_cmp (op_neD c.room.units) oNe_ok (de_callB call_len_seq oLen_ok T.b_len bt_len (da_cons (de_var (pv 0)) (da_nil))) (de_int)) (dw_or (dt_not (dt_tru (de_call (ok_is_integer T) c.tk (c.room.mono (by decide)) (da_cons (de_ix ix_seq oIx_ok (de_var (pv 0)) (de_int)) (da_nil))))) (dw_or1 (dt_not (dt_tru (de_call (ok_is_integer T) c.tk (c.room.mono (by decide)) (da_cons (de_ix ix_seq oIx_ok (de_var (pv 0)) (de_int)) (da_nil)))))))))) (dss_one (ds_ret (de_bl))) (dss_nil))
    (dss_one (ds_ret (de_and (de_cmp op_ge oGe_ok (de_ix ix_seq oIx_ok (de_var (pv 0)) (de_int)) (de_int)) (de_one (de_cmp (op_eqD c.room.units) oEq_ok (de_call (ok_divisor T) c.tk (c.room.mono (by decide)) (da_cons (de_ix ix_seq oIx_ok (de_var (pv 0)) (de_int)) (da_cons (de_ix ix_seq oIx_ok (de_var (pv 0)) (de_int)) (da_nil)))) (de_int))))))
theorem sc_is_above : FnScope ["thing"] ["thing"] (defScope s_is_above) := ⟨rfl, rfl, rfl, by decide +kernel, rfl, by decide +kernel, by decide +kernel⟩
theorem ok_is_above (T : Txt K mg) : FnD P w K mg base 3 "is_above" 1 (g_is_above (He.ga K)) := by
  obtain ⟨fd, F⟩ := T.d_is_above
  have hb : ∀ (kV doc pm : Value) (an : Option Addr) (cdv ct : Value) (us : List Value), us.length = (["thing"] : List Str).length → bindArgs (PySem.W.fnOf "is_above" "is_above" (defArgs s_is_above) (defBody s_is_above) (defScope s_is_above) .none kV doc pm an cdv ct) ⟨us, []⟩ = pure ((["thing"] : List Str).zip us) := (fun _ _ _ _ _ _ us hl => match us, hl with | [_], _ => rfl)
  refine FnD.as (g := dDef giveS 1 (["thing"] : List Str).length (F_is_above (He.ga K))) ?_ rfl
  refine fnD_mk (k := 2) (fb := F_is_above (He.ga K)) giveS_ok F T.m_is_above sc_is_above rfl hb ?_
  intro cdv A outer s H E c
  exact dss_one (ds_ret (de_and (de_call (ok_is_fraction T) c.tk (c.room.mono (by decide)) (da_cons (de_var (pv 0)) (da_nil))) (de_one (de_cmp op_gt oGt_ok (de_ix ix_seq oIx_ok (de_var (pv 0)) (de_int)) (de_int)))))
theorem sc_times : FnScope ["one", "other"] ["one", "other"] (defScope s_times) := ⟨rfl, rfl, rfl, by decide +kernel, rfl, by decide +kernel, by decide +kernel⟩
theorem ok_times (T : Txt K mg) : FnD P w K mg base 3 "times" 2 (g_times (He.ga K)) := by
  obtain ⟨fd, F⟩ := T.d_times
  have hb : ∀ (kV doc pm : Value) (an : Option Addr) (cdv ct : Value) (us : List Value), us.length = (["one", "other"] : List Str).length → bindArgs (PySem.W.fnOf "times" "times" (defArgs s_times) (defBody s_times) (defScope s_times) .none kV doc pm an cdv ct) ⟨us, []⟩ = pure ((["one", "other"] : List Str).zip us) := (fun _ _ _ _ _ _ us hl => match us, hl with | [_, _], _ => rfl)
  refine FnD.as (g := dDef giveS 2 (["one", "other"] : List Str).length (F_times (He.ga K))) ?_ rfl
  refine fnD_mk (k := 2) (fb := F_times (He.ga K)) giveS_ok F T.m_times sc_times rfl hb ?_
  intro cdv A outer s H E c
  exact dss_one (ds_ret (de_call (ok_lowest T) c.tk (c.room.mono (by decide)) (da_cons (de_op op_mulW oMul_ok (de_ix ix_seq oIx_ok (de_var (pv 0)) (de_int)) (de_ix ix_seq oIx_ok (de_var (pv 1)) (de_int))) (da_cons (de_op op_mulW oMul_ok (de_ix ix_seq oIx_ok (de_var (pv 0)) (de_int)) (de_ix ix_seq oIx_ok (de_var (pv 1)) (de_int))) (da_nil)))))
theorem sc_raised : FnScope ["fraction", "power", "base", "left", "found"] ["fraction", "power"] (defScope s_raised) := ⟨rfl, rfl, rfl, by decide +kernel, rfl, by decide +kernel, by decide +kernel⟩
theorem ok_raised (T : Txt K mg) : FnD P w K mg base 1 "raised" 2 (g_raised (He.ga K)) := by
  obtain ⟨fd, F⟩ := T.d_raised
  have hb : ∀ (kV doc pm : Value) (an : Option Addr) (cdv ct : Value) (us : List Value), us.length = (["fraction", "power"] : List Str).length → bindArgs (PySem.W.fnOf "raised" "raised" (defArgs s_raised) (defBody s_raised) (defScope s_raised) .none kV doc pm an cdv ct) ⟨us, []⟩ = pure ((["fraction", "power"] : List Str).zip us) := (fun _ _ _ _ _ _ us hl => match us, hl with | [_, _], _ => rfl)
  refine FnD.as (g := dDef giveS 2 (["fraction", "power", "base", "left", "found"] : List Str).length (F_raised (He.ga K))) ?_ rfl
  refine fnD_mk (k := 0) (fb := F_raised (He.ga K)) giveS_ok F T.m_raised sc_raised rfl hb ?_
  intro cdv A outer s H E c
  exact dss_cons (ds_set 2 c.nd (de_if (dt_cmp op_ge oGe_ok (de_var (pv 1)) (de_int)) (de_var (pv 0)) (de_tup (da_cons (de_ix ix_seq oIx_ok (de_var (pv 0)) (de_int)) (da_cons (de_ix ix_seq oIx_ok (de_var (pv 0)) (de_int)) (da_nil))))))
    (dss_cons (ds_set 3 c.nd (de_callB call_abs oAbs_ok T.b_abs bt_abs (da_cons (de_var (pv 1)) (da_nil))))
    (dss_cons (ds_set 4 c.nd (de_tup (da_cons (de_int) (da_cons (de_int) (da_nil)))))
    (dss_cons (ds_while c.po (dt_cmp op_gt oGt_ok (de_var (pv 3)) (de_int)) (dss_cons (ds_if (dt_cmp (op_eqD c.room.units) oEq_ok (de_op op_mod oMod_ok (de_var (pv 3)) (de_int)) (de_int)) (dss_one (ds_set 4 c.nd (de_tup (da_cons (de_op op_mulW oMul_ok (de_ix ix_seq oIx_ok (de_var (pv 4)) (de_int)) (de_ix ix_seq oIx_ok (de_var (pv 2)) (de_int))) (da_cons (de_op op_mulW oMul_ok (de_ix ix_seq oIx_ok (de_var (pv 4)) (de_int)) (de_ix ix_seq oIx_ok (de_var (pv 2)) (de_int))) (da_nil)))))) (dss_nil))
    (dss_cons (ds_set 2 c.nd (de_tup (da_cons (de_op op_mulW oMul_ok (de_ix ix_seq oIx_ok (de_var (pv 2)) (de_int)) (de_ix ix_seq oIx_ok (de_var (pv 2)) (de_int))) (da_cons (de_op op_mulW oMul_ok (de_ix ix_seq oIx_ok (de_var (pv 2)) (de_int)) (de_ix ix_seq oIx_ok (de_var (pv 2)) (de_int))) (da_nil)))))
    (dss_one (ds_set 3 c.nd (de_op op_fdivW oDiv_ok (de_var (pv 3)) (de_int)))))))
    (dss_one (ds_ret (de_var (pv 4)))))))
theorem sc_is_unit_of : FnScope ["bases", "thing", "item"] ["bases", "thing"] (defScope s_is_unit_of) := ⟨rfl, rfl, rfl, by decide +kernel, rfl, by decide +kernel, by decide +kernel⟩
theorem ok_is_unit_of (T : Txt K mg) : FnD P w K mg base 3 "is_unit_of" 2 (g_is_unit_of (He.ga K)) := by
  obtain ⟨fd, F⟩ := T.d_is_unit_of
  have hb : ∀ (kV doc pm : Value) (an : Option Addr) (cdv ct : Value) (us : List Value), us.length = (["bases", "thing"] : List Str).length → bindArgs (PySem.W.fnOf "is_unit_of" "is_unit_of" (defArgs s_is_unit_of) (defBody s_is_unit_of) (defScope s_is_unit_of) .none kV doc pm an cdv ct) ⟨us, []⟩ = pure ((["bases", "thing"] : List Str).zip us) := (fun _ _ _ _ _ _ us hl => match us, hl with | [_, _], _ => rfl)
  refine FnD.as (g := dDef giveS 2 (["bases", "thing", "item"] : List Str).length (F_is_unit_of (He.ga K))) ?_ rfl
  refine fnD_mk (k := 2) (fb := F_is_unit_of (He.ga K)) giveS_ok F T.m_is_unit_of sc_is_unit_of rfl hb ?_
  intro cdv A outer s H E c
  exact dss_one (ds_ret (de_and (de_callB call_isi (oIsiI_ok (own1 T.o_Grid)) T.b_isinstance bt_isinstance (da_cons (de_var (pv 1)) (da_cons (de_ty T.b_tuple bt_tuple) (da_nil)))) (de_and (de_cmp (op_eqD c.room.units) oEq_ok (de_callB call_len_seq oLen_ok T.b_len bt_len (da_cons (de_var (pv 1)) (da_nil))) (de_var (pv 0))) (de_one (de_callB (cr_all rfl) oAll_ok T.b_all bt_all (da_cons (de_lc lcF_ok rfl c.nd (blkOk_by (own := [("item", 2)]) (N := ["bases", "thing", "item"]) (sc := defScope s_is_unit_of) (by decide +kernel)) (di_seq (de_var (pv 1))) (fun _ _ _ _ _ => dg_name 2 c.nd) (fun _ _ _ _ _ => dts_yes) (fun _ _ _ _ _ => de_call (ok_is_fraction T) takes0 (c.room.mono (by decide)) (da_cons (de_var (pv 2)) (da_nil)))) (da_nil)))))))
theorem sc_are_rows : FnScope ["thing", "rows", "columns", "row"] ["thing", "rows", "columns"] (defScope s_are_rows) := ⟨rfl, rfl, rfl, by decide +kernel, rfl, by decide +kernel, by decide +kernel⟩
theorem ok_are_rows (T : Txt K mg) : FnD P w K mg base 1 "are_rows" 3 (g_are_rows (He.ga K)) := by
  obtain ⟨fd, F⟩ := T.d_are_rows
  have hb : ∀ (kV doc pm : Value) (an : Option Addr) (cdv ct : Value) (us : List Value), us.length = (["thing", "rows", "columns"] : List Str).length → bindArgs (PySem.W.fnOf "are_rows" "are_rows" (defArgs s_are_rows) (defBody s_are_rows) (defScope s_are_rows) .none kV doc pm an cdv ct) ⟨us, []⟩ = pure ((["thing", "rows", "columns"] : List Str).zip us) := (fun _ _ _ _ _ _ us hl => match us, hl with | [_, _, _], _ => rfl)
  refine FnD.as (g := dDef giveS 3 (["thing", "rows", "columns", "row"] : List Str).length (F_are_rows (He.ga K))) ?_ rfl
  refine fnD_mk (k := 0) (fb := F_are_rows (He.ga K)) giveS_ok F T.m_are_rows sc_are_rows rfl hb ?_
  intro cdv A outer s H E c
  exact dss_cons (ds_if (L2.PW.pt (dw_or (dt_not (dt_tru (de_callB call_isi (oIsiI_ok (own1 T.o_Grid)) T.b_isinstance bt_isinstance (da_cons (de_var (pv 0)) (da_cons (de_ty T.b_tuple bt_tuple) (da_nil)))))) (dw_or1 (dt_cmp (op_neD c.room.units) oNe_ok (de_callB call_len_seq oLen_ok T.b_len bt_len (da_cons (de_var (pv 0)) (da_nil))) (de_var (pv 1)))))) (dss_one (ds_ret (de_bl))) (dss_nil))
    (dss_one (ds_ret (de_callB (cr_all rfl) oAll_ok T.b_all bt_all (da_cons (de_lc lcF_ok rfl c.nd (blkOk_by (own := [("row", 3)]) (N := ["thing", "rows", "columns", "row"]) (sc := defScope s_are_rows) (by decide +kernel)) (di_seq (de_var (pv 0))) (fun _ _ _ _ _ => dg_name 3 c.nd) (fun _ _ _ _ _ => dts_yes) (fun _ _ _ _ _ => de_and (de_callB call_isi (oIsiI_ok (own1 T.o_Grid)) T.b_isinstance bt_isinstance (da_cons (de_var (pv 3)) (da_cons (de_ty T.b_tuple bt_tuple) (da_nil)))) (de_one (de_cmp (op_eqD c.room.units) oEq_ok (de_callB call_len_seq oLen_ok T.b_len bt_len (da_cons (de_var (pv 3)) (da_nil))) (de_var (pv 2)))))) (da_nil)))))
theorem sc_check_roots : FnScope ["bases", "thing", "item"] ["bases", "thing"] (defScope s_check_roots) := ⟨rfl, rfl, rfl, by decide +kernel, rfl, by decide +kernel, by decide +kernel⟩
theorem ok_check_roots (T : Txt K mg) : FnD P w K mg base 4 "check_roots" 2 (g_check_roots (He.ga K)) := by
  obtain ⟨fd, F⟩ := T.d_check_roots
  have hb : ∀ (kV doc pm : Value) (an : Option Addr) (cdv ct : Value) (us : List Value), us.length = (["bases", "thing"] : List Str).length → bindArgs (PySem.W.fnOf "check_roots" "check_roots" (defArgs s_check_roots) (defBody s_check_roots) (defScope s_check_roots) .none kV doc pm an cdv ct) ⟨us, []⟩ = pure ((["bases", "thing"] : List Str).zip us) := (fun _ _ _ _ _ _ us hl => match us, hl with | [_, _], _ => rfl)
  refine FnD.as (g := dDef giveS 2 (["bases", "thing", "item"] : List Str).length (F_check_roots (He.ga K))) ?_ rfl
  refine fnD_mk (k := 3) (fb := F_check_roots (He.ga K)) giveS_ok F T.m_check_roots sc_check_roots rfl hb ?_
  intro cdv A outer s H E c
  exact dss_one (ds_if (L2.PW.pt (dw_or (dt_not (dt_tru (de_callB call_isi (oIsiI_ok (own1 T.o_Grid)) T.b_isinstance bt_isinstance (da_cons (de_var (pv 1)) (da_cons (de_ty T.b_tuple bt_tuple) (da_nil)))))) (dw_or (dt_cmp (op_neD c.room.units) oNe_ok (de_callB call_len_seq oLen_ok T.b_len bt_len (da_cons (de_var (pv 1)) (da_nil))) (de_var (pv 0))) (dw_or1 (dt_not (dt_tru (de_callB (cr_all rfl) oAll_ok T.b_all bt_all (da_cons (de_lc lcF_ok rfl c.nd (blkOk_by (own := [("item", 2)]) (N := ["bases", "thing", "item"]) (sc := defScope s_check_roots) (by decide +kernel)) (di_seq (de_var (pv 1))) (fun _ _ _ _ _ => dg_name 2 c.nd) (fun _ _ _ _ _ => dts_yes) (fun _ _ _ _ _ => de_call (ok_is_above T) takes0 (c.room.mono (by decide)) (da_cons (de_var (pv 2)) (da_nil)))) (da_nil))))))))) (dss_one (ds_raise0 T.x_NoRoots rfl c.tk)) (dss_nil))
theorem sc_raw_factor : FnScope ["unit", "roots", "scale", "found", "root", "top", "bottom"] ["unit", "roots", "scale"] (defScope s_raw_factor) := ⟨rfl, rfl, rfl, by decide +kernel, rfl, by decide +kernel, by decide +kernel⟩
theorem ok_raw_factor (T : Txt K mg) : FnD P w K mg base 4 "raw_factor" 3 (g_raw_factor (He.ga K)) := by
  obtain ⟨fd, F⟩ := T.d_raw_factor
  have hb : ∀ (kV doc pm : Value) (an : Option Addr) (cdv ct : Value) (us : List Value), us.length = (["unit", "roots", "scale"] : List Str).length → bindArgs (PySem.W.fnOf "raw_factor" "raw_factor" (defArgs s_raw_factor) (defBody s_raw_factor) (defScope s_raw_factor) .none kV doc pm an cdv ct) ⟨us, []⟩ = pure ((["unit", "roots", "scale"] : List Str).zip us) := (fun _ _ _ _ _ _ us hl => match us, hl with | [_, _, _], _ => rfl)
  refine FnD.as (g := dDef giveS 3 (["unit", "roots", "scale", "found", "root", "top", "bottom"] : List Str).length (F_raw_factor (He.ga K))) ?_ rfl
  refine fnD_mk (k := 3) (fb := F_raw_factor (He.ga K)) giveS_ok F T.m_raw_factor sc_raw_factor rfl hb ?_
  intro cdv A outer s H E c
  exact dss_cons (ds_set 3 c.nd (de_tup (da_cons (de_int) (da_cons (de_int) (da_nil)))))
    (dss_cons (ds_for (vs := [4, 5, 6]) c.po rfl (di_zip T.b_zip (da_cons (de_var (pv 0)) (da_cons (de_var (pv 1)) (da_nil)))) (dg_tup rfl (dgs_cons (dg_tup rfl (dgs_cons (dg_name 5 c.nd) (dgs_cons (dg_name 6 c.nd) (dgs_nil)))) (dgs_cons (dg_name 4 c.nd) (dgs_nil)))) (dss_one (ds_set 3 c.nd (de_call (ok_times T) c.tk (c.room.mono (by decide)) (da_cons (de_var (pv 3)) (da_cons (de_call (ok_raised T) c.tk (c.room.mono (by decide)) (da_cons (de_var (pv 4)) (da_cons (de_op op_fdivW oDiv_ok (de_op op_mulW oMul_ok (de_var (pv 5)) (de_var (pv 2))) (de_var (pv 6))) (da_nil)))) (da_nil)))))))
    (dss_one (ds_ret (de_var (pv 3)))))
theorem sc_is_part : FnScope ["thing"] ["thing"] (defScope s_is_part) := ⟨rfl, rfl, rfl, by decide +kernel, rfl, by decide +kernel, by decide +kernel⟩
theorem ok_is_part (T : Txt K mg) : FnD P w K mg base 1 "is_part" 1 (g_is_part (He.ga K)) := by
  obtain ⟨fd, F⟩ := T.d_is_part
  have hb : ∀ (kV doc pm : Value) (an : Option Addr) (cdv ct : Value) (us : List Value), us.length = (["thing"] : List Str).length → bindArgs (PySem.W.fnOf "is_part" "is_part" (defArgs s_is_part) (defBody s_is_part) (defScope s_is_part) .none kV doc pm an cdv ct) ⟨us, []⟩ = pure ((["thing"] : List Str).zip us) := (fun _ _ _ _ _ _ us hl => match us, hl with | [_], _ => rfl)
  refine FnD.as (g := dDef giveS 1 (["thing"] : List Str).length (F_is_part (He.ga K))) ?_ rfl
  refine fnD_mk (k := 0) (fb := F_is_part (He.ga K)) giveS_ok F T.m_is_part sc_is_part rfl hb ?_
  intro cdv A outer s H E c
  exact dss_one (ds_ret (de_and (de_callB call_isi (oIsiI_ok (own1 T.o_Grid)) T.b_isinstance bt_isinstance (da_cons (de_var (pv 0)) (da_cons (de_ty T.b_tuple bt_tuple) (da_nil)))) (de_one (de_chain op_le op_le oLe_ok oLe_ok (de_int) (de_callB call_len_seq oLen_ok T.b_len bt_len (da_cons (de_var (pv 0)) (da_nil))) (de_gint (Exists.choose_spec T.i_MOST_ROWS))))))
theorem sc_is_cell : FnScope ["bases", "thing", "top", "bottom"] ["bases", "thing"] (defScope s_is_cell) := ⟨rfl, rfl, rfl, by decide +kernel, rfl, by decide +kernel, by decide +kernel⟩
theorem ok_is_cell (T : Txt K mg) : FnD P w K mg base 4 "is_cell" 2 (g_is_cell (He.ga K)) := by
  obtain ⟨fd, F⟩ := T.d_is_cell
  have hb : ∀ (kV doc pm : Value) (an : Option Addr) (cdv ct : Value) (us : List Value), us.length = (["bases", "thing"] : List Str).length → bindArgs (PySem.W.fnOf "is_cell" "is_cell" (defArgs s_is_cell) (defBody s_is_cell) (defScope s_is_cell) .none kV doc pm an cdv ct) ⟨us, []⟩ = pure ((["bases", "thing"] : List Str).zip us) := (fun _ _ _ _ _ _ us hl => match us, hl with | [_, _], _ => rfl)
  refine FnD.as (g := dDef giveS 2 (["bases", "thing", "top", "bottom"] : List Str).length (F_is_cell (He.ga K))) ?_ rfl
  refine fnD_mk (k := 3) (fb := F_is_cell (He.ga K)) giveS_ok F T.m_is_cell sc_is_cell rfl hb ?_
  intro cdv A outer s H E c
  exact dss_cons (ds_if (dt_cmp op_isN oIsN_ok (de_var (pv 1)) (de_non)) (dss_one (ds_ret (de_bl))) (dss_nil))
    (dss_cons (ds_if (dt_not (dt_tru (de_call (ok_is_unit_of T) c.tk (c.room.mono (by decide)) (da_cons (de_var (pv 0)) (da_cons (de_var (pv 1)) (da_nil)))))) (dss_one (ds_ret (de_bl))) (dss_nil))
    (dss_one (ds_ret (de_callB (cr_all rfl) oAll_ok T.b_all bt_all (da_cons (de_lc lcF_ok rfl c.nd (blkOk_by (own := [("top", 2), ("bottom", 3)]) (N := ["bases", "thing", "top", "bottom"]) (sc := defScope s_is_cell) (by decide +kernel)) (di_seq (de_var (pv 1))) (fun _ _ _ _ _ => dg_tup rfl (dgs_cons (dg_name 2 c.nd) (dgs_cons (dg_name 3 c.nd) (dgs_nil)))) (fun _ _ _ _ _ => dts_yes) (fun _ _ _ _ _ => de_and (de_cmp op_le oLe_ok (de_callB call_abs oAbs_ok T.b_abs bt_abs (da_cons (de_var (pv 2)) (da_nil))) (de_gint (Exists.choose_spec T.i_MOST_TOP))) (de_one (de_cmp op_le oLe_ok (de_var (pv 3)) (de_gint (Exists.choose_spec T.i_MOST_BOTTOM)))))) (da_nil))))))
theorem sc_check_rows : FnScope ["bases", "rows", "i", "row", "j", "item"] ["bases", "rows"] (defScope s_check_rows) := ⟨rfl, rfl, rfl, by decide +kernel, rfl, by decide +kernel, by decide +kernel⟩
theorem ok_check_rows (T : Txt K mg) : FnD P w K mg base 5 "check_rows" 2 (g_check_rows (He.ga K)) := by
  obtain ⟨fd, F⟩ := T.d_check_rows
  have hb : ∀ (kV doc pm : Value) (an : Option Addr) (cdv ct : Value) (us : List Value), us.length = (["bases", "rows"] : List Str).length → bindArgs (PySem.W.fnOf "check_rows" "check_rows" (defArgs s_check_rows) (defBody s_check_rows) (defScope s_check_rows) .none kV doc pm an cdv ct) ⟨us, []⟩ = pure ((["bases", "rows"] : List Str).zip us) := (fun _ _ _ _ _ _ us hl => match us, hl with | [_, _], _ => rfl)
  refine FnD.as (g := dDef giveS 2 (["bases", "rows", "i", "row", "j", "item"] : List Str).length (F_check_rows (He.ga K))) ?_ rfl
  refine fnD_mk (k := 4) (fb := F_check_rows (He.ga K)) giveS_ok F T.m_check_rows sc_check_rows rfl hb ?_
  intro cdv A outer s H E c
  exact dss_cons (ds_for (vs := [2, 3]) c.po rfl (di_enum T.b_enumerate (da_cons (de_var (pv 1)) (da_nil))) (dg_tup rfl (dgs_cons (dg_name 2 c.nd) (dgs_cons (dg_name 3 c.nd) (dgs_nil)))) (dss_one (ds_if (L2.PW.pt (dw_or (dt_not (dt_tru (de_call (ok_is_part T) c.tk (c.room.mono (by decide)) (da_cons (de_var (pv 3)) (da_nil))))) (dw_or1 (dt_cmp (op_neD c.room.units) oNe_ok (de_callB call_len_seq oLen_ok T.b_len bt_len (da_cons (de_var (pv 3)) (da_nil))) (de_callB call_len_seq oLen_ok T.b_len bt_len (da_cons (de_ix ix_seq oIx_ok (de_var (pv 1)) (de_int)) (da_nil))))))) (dss_never) (dss_nil))))
    (dss_one (ds_for (vs := [2, 3]) c.po rfl (di_enum T.b_enumerate (da_cons (de_var (pv 1)) (da_nil))) (dg_tup rfl (dgs_cons (dg_name 2 c.nd) (dgs_cons (dg_name 3 c.nd) (dgs_nil)))) (dss_one (ds_for (vs := [4, 5]) c.po rfl (di_enum T.b_enumerate (da_cons (de_var (pv 3)) (da_nil))) (dg_tup rfl (dgs_cons (dg_name 4 c.nd) (dgs_cons (dg_name 5 c.nd) (dgs_nil)))) (dss_one (ds_if (dt_not (dt_tru (de_call (ok_is_cell T) c.tk (c.room.mono (by decide)) (da_cons (de_var (pv 0)) (da_cons (de_var (pv 5)) (da_nil)))))) (dss_never) (dss_nil)))))))
theorem sc_Grid__init__ : FnScope ["self", "bases", "rows"] ["self", "bases", "rows"] (defScope s_Grid__init__) := ⟨rfl, rfl, rfl, by decide +kernel, rfl, by decide +kernel, by decide +kernel⟩
theorem ok_Grid__init__ (T : Txt K mg) : ∃ fd ps, FnOk P w K mg base (L2.CX P w) 6 (He.ma K (He.ga K "Grid") "__init__") fd ps (spD K 3 (g_Grid__init__ (He.ga K))) ∧ Binds K fd ps [] := by
  obtain ⟨fd, F⟩ := T.d_Grid__init__
  have hb : ∀ (kV doc pm : Value) (an : Option Addr) (cdv ct : Value) (us : List Value), us.length = (["self", "bases", "rows"] : List Str).length → bindArgs (PySem.W.fnOf "__init__" "Grid.__init__" (defArgs s_Grid__init__) (defBody s_Grid__init__) (defScope s_Grid__init__) .none kV doc pm an cdv ct) ⟨us, []⟩ = pure ((["self", "bases", "rows"] : List Str).zip us) := (fun _ _ _ _ _ _ us hl => match us, hl with | [_, _, _], _ => rfl)
  refine ⟨fd, ["self", "bases", "rows"], ?_, F.bindsN hb⟩
  show FnOk P w K mg base (L2.CX P w) 6 (He.ma K (He.ga K "Grid") "__init__") fd ["self", "bases", "rows"] (spD K 3 (dDef giveS 3 (["self", "bases", "rows"] : List Str).length (F_Grid__init__ (He.ga K))))
  refine fn_mk (k := 5) (fb := F_Grid__init__ (He.ga K)) giveS_ok F sc_Grid__init__ rfl ?_
  intro cdv A outer s H E c
  exact dss_cons (ds_if (dt_not (dt_tru (de_call (ok_is_within T) c.tk (c.room.mono (by decide)) (da_cons (de_var (pv 1)) (da_cons (de_int) (da_cons (de_gint (Exists.choose_spec T.i_MOST_BASES)) (da_nil))))))) (dss_never) (dss_nil))
    (dss_cons (ds_if (dt_not (dt_tru (de_call (ok_is_part T) c.tk (c.room.mono (by decide)) (da_cons (de_var (pv 2)) (da_nil))))) (dss_never) (dss_nil))
    (dss_cons (ds_drop (de_call (ok_check_rows T) c.tk (c.room.mono (by decide)) (da_cons (de_var (pv 1)) (da_cons (de_var (pv 2)) (da_nil)))))
    (dss_cons (ds_fld T.c_Grid T.n_Grid_bases (de_var (pv 0)) (de_var (pv 1)))
    (dss_one (ds_fld T.c_Grid T.n_Grid_rows (de_var (pv 0)) (de_var (pv 2)))))))
theorem sc_Grid__eq__ : FnScope ["self", "other"] ["self", "other"] (defScope s_Grid__eq__) := ⟨rfl, rfl, rfl, by decide +kernel, rfl, by decide +kernel, by decide +kernel⟩
theorem ok_Grid__eq__ (T : Txt K mg) : ∃ fd ps, FnOk P w K mg base (L2.CX P w) 1 (He.ma K (He.ga K "Grid") "__eq__") fd ps (spD K 2 (g_Grid__eq__ (He.ga K))) ∧ Binds K fd ps [] := by
  obtain ⟨fd, F⟩ := T.d_Grid__eq__
  have hb : ∀ (kV doc pm : Value) (an : Option Addr) (cdv ct : Value) (us : List Value), us.length = (["self", "other"] : List Str).length → bindArgs (PySem.W.fnOf "__eq__" "Grid.__eq__" (defArgs s_Grid__eq__) (defBody s_Grid__eq__) (defScope s_Grid__eq__) .none kV doc pm an cdv ct) ⟨us, []⟩ = pure ((["self", "other"] : List Str).zip us) := (fun _ _ _ _ _ _ us hl => match us, hl with | [_, _], _ => rfl)
  refine ⟨fd, ["self", "other"], ?_, F.bindsN hb⟩
  show FnOk P w K mg base (L2.CX P w) 1 (He.ma K (He.ga K "Grid") "__eq__") fd ["self", "other"] (spD K 2 (dDef giveS 2 (["self", "other"] : List Str).length (F_Grid__eq__ (He.ga K))))
  refine fn_mk (k := 0) (fb := F_Grid__eq__ (He.ga K)) giveS_ok F sc_Grid__eq__ rfl ?_
  intro cdv A outer s H E c
  exact dss_one (ds_ret (de_and (de_callB call_isi (oIsiI_ok (own1 T.o_Grid)) T.b_isinstance bt_isinstance (da_cons (de_var (pv 1)) (da_cons (de_gref T.m_Grid) (da_nil)))) (de_and (de_cmp (op_eqD c.room.units) oEq_ok (de_fld T.c_Grid T.n_Grid_bases (de_var (pv 0))) (de_fld T.c_Grid T.n_Grid_bases (de_var (pv 1)))) (de_one (de_cmp (op_eqD c.room.units) oEq_ok (de_fld T.c_Grid T.n_Grid_rows (de_var (pv 0))) (de_fld T.c_Grid T.n_Grid_rows (de_var (pv 1))))))))
theorem sc_sizes_of : FnScope ["grid"] ["grid"] (defScope s_sizes_of) := ⟨rfl, rfl, rfl, by decide +kernel, rfl, by decide +kernel, by decide +kernel⟩
theorem ok_sizes_of (T : Txt K mg) : FnD P w K mg base 1 "sizes_of" 1 (g_sizes_of (He.ga K)) := by
  obtain ⟨fd, F⟩ := T.d_sizes_of
  have hb : ∀ (kV doc pm : Value) (an : Option Addr) (cdv ct : Value) (us : List Value), us.length = (["grid"] : List Str).length → bindArgs (PySem.W.fnOf "sizes_of" "sizes_of" (defArgs s_sizes_of) (defBody s_sizes_of) (defScope s_sizes_of) .none kV doc pm an cdv ct) ⟨us, []⟩ = pure ((["grid"] : List Str).zip us) := (fun _ _ _ _ _ _ us hl => match us, hl with | [_], _ => rfl)
  refine FnD.as (g := dDef giveS 1 (["grid"] : List Str).length (F_sizes_of (He.ga K))) ?_ rfl
  refine fnD_mk (k := 0) (fb := F_sizes_of (He.ga K)) giveS_ok F T.m_sizes_of sc_sizes_of rfl hb ?_
  intro cdv A outer s H E c
  exact dss_one (ds_ret (de_tup (da_cons (de_callB call_len_seq oLen_ok T.b_len bt_len (da_cons (de_fld T.c_Grid T.n_Grid_rows (de_var (pv 0))) (da_nil))) (da_cons (de_callB call_len_seq oLen_ok T.b_len bt_len (da_cons (de_ix ix_seq oIx_ok (de_fld T.c_Grid T.n_Grid_rows (de_var (pv 0))) (de_int)) (da_nil))) (da_nil)))))
theorem sc_check_cell : FnScope ["sizes", "i", "j"] ["sizes", "i", "j"] (defScope s_check_cell) := ⟨rfl, rfl, rfl, by decide +kernel, rfl, by decide +kernel, by decide +kernel⟩
theorem ok_check_cell (T : Txt K mg) : FnD P w K mg base 3 "check_cell" 3 (g_check_cell (He.ga K)) := by
  obtain ⟨fd, F⟩ := T.d_check_cell
  have hb : ∀ (kV doc pm : Value) (an : Option Addr) (cdv ct : Value) (us : List Value), us.length = (["sizes", "i", "j"] : List Str).length → bindArgs (PySem.W.fnOf "check_cell" "check_cell" (defArgs s_check_cell) (defBody s_check_cell) (defScope s_check_cell) .none kV doc pm an cdv ct) ⟨us, []⟩ = pure ((["sizes", "i", "j"] : List Str).zip us) := (fun _ _ _ _ _ _ us hl => match us, hl with | [_, _, _], _ => rfl)
  refine FnD.as (g := dDef giveS 3 (["sizes", "i", "j"] : List Str).length (F_check_cell (He.ga K))) ?_ rfl
  refine fnD_mk (k := 2) (fb := F_check_cell (He.ga K)) giveS_ok F T.m_check_cell sc_check_cell rfl hb ?_
  intro cdv A outer s H E c
  exact dss_one (ds_if (L2.PW.pt (dw_or (dt_not (dt_tru (de_call (ok_is_within T) c.tk (c.room.mono (by decide)) (da_cons (de_var (pv 1)) (da_cons (de_int) (da_cons (de_op op_sub oSub_ok (de_ix ix_seq oIx_ok (de_var (pv 0)) (de_int)) (de_int)) (da_nil))))))) (dw_or1 (dt_not (dt_tru (de_call (ok_is_within T) c.tk (c.room.mono (by decide)) (da_cons (de_var (pv 2)) (da_cons (de_int) (da_cons (de_op op_sub oSub_ok (de_ix ix_seq oIx_ok (de_var (pv 0)) (de_int)) (de_int)) (da_nil)))))))))) (dss_one (ds_raise0 T.x_NoCell rfl c.tk)) (dss_nil))
theorem sc_cell : FnScope ["grid", "i", "j"] ["grid", "i", "j"] (defScope s_cell) := ⟨rfl, rfl, rfl, by decide +kernel, rfl, by decide +kernel, by decide +kernel⟩
theorem ok_cell (T : Txt K mg) : FnD P w K mg base 4 "cell" 3 (g_cell (He.ga K)) := by
  obtain ⟨fd, F⟩ := T.d_cell
  have hb : ∀ (kV doc pm : Value) (an : Option Addr) (cdv ct : Value) (us : List Value), us.length = (["grid", "i", "j"] : List Str).length → bindArgs (PySem.W.fnOf "cell" "cell" (defArgs s_cell) (defBody s_cell) (defScope s_cell) .none kV doc pm an cdv ct) ⟨us, []⟩ = pure ((["grid", "i", "j"] : List Str).zip us) := (fun _ _ _ _ _ _ us hl => match us, hl with | [_, _, _], _ => rfl)
  refine FnD.as (g := dDef giveS 3 (["grid", "i", "j"] : List Str).length (F_cell (He.ga K))) ?_ rfl
  refine fnD_mk (k := 3) (fb := F_cell (He.ga K)) giveS_ok F T.m_cell sc_cell rfl hb ?_
  intro cdv A outer s H E c
  exact dss_cons (ds_drop (de_call (ok_check_cell T) c.tk (c.room.mono (by decide)) (da_cons (de_call (ok_sizes_of T) c.tk (c.room.mono (by decide)) (da_cons (de_var (pv 0)) (da_nil))) (da_cons (de_var (pv 1)) (da_cons (de_var (pv 2)) (da_nil))))))
    (dss_one (ds_ret (de_ix ix_seq oIx_ok (de_ix ix_seq oIx_ok (de_fld T.c_Grid T.n_Grid_rows (de_var (pv 0))) (de_var (pv 1))) (de_var (pv 2)))))
theorem sc_with_cell : FnScope ["rows", "i", "j", "thing", "row"] ["rows", "i", "j", "thing"] (defScope s_with_cell) := ⟨rfl, rfl, rfl, by decide +kernel, rfl, by decide +kernel, by decide +kernel⟩
theorem ok_with_cell (T : Txt K mg) : FnD P w K mg base 1 "with_cell" 4 (g_with_cell (He.ga K)) := by
  obtain ⟨fd, F⟩ := T.d_with_cell
  have hb : ∀ (kV doc pm : Value) (an : Option Addr) (cdv ct : Value) (us : List Value), us.length = (["rows", "i", "j", "thing"] : List Str).length → bindArgs (PySem.W.fnOf "with_cell" "with_cell" (defArgs s_with_cell) (defBody s_with_cell) (defScope s_with_cell) .none kV doc pm an cdv ct) ⟨us, []⟩ = pure ((["rows", "i", "j", "thing"] : List Str).zip us) := (fun _ _ _ _ _ _ us hl => match us, hl with | [_, _, _, _], _ => rfl)
  refine FnD.as (g := dDef giveS 4 (["rows", "i", "j", "thing", "row"] : List Str).length (F_with_cell (He.ga K))) ?_ rfl
  refine fnD_mk (k := 0) (fb := F_with_cell (He.ga K)) giveS_ok F T.m_with_cell sc_with_cell rfl hb ?_
  intro cdv A outer s H E c
  exact dss_cons (ds_set 4 c.nd (de_op op_catA oCat_ok (de_op op_catA oCat_ok (de_sl sl_A oSlA_ok (de_ix ix_seq oIx_ok (de_var (pv 0)) (de_var (pv 1))) (do_none) (do_some (de_var (pv 2)))) (de_tup (da_cons (de_var (pv 3)) (da_nil)))) (de_sl sl_A oSlA_ok (de_ix ix_seq oIx_ok (de_var (pv 0)) (de_var (pv 1))) (do_some (de_op op_add oAdd_ok (de_var (pv 2)) (de_int))) (do_none))))
    (dss_one (ds_ret (de_op op_catA oCat_ok (de_op op_catA oCat_ok (de_sl sl_A oSlA_ok (de_var (pv 0)) (do_none) (do_some (de_var (pv 1)))) (de_tup (da_cons (de_var (pv 4)) (da_nil)))) (de_sl sl_A oSlA_ok (de_var (pv 0)) (do_some (de_op op_add oAdd_ok (de_var (pv 1)) (de_int))) (do_none)))))
theorem sc_retold : FnScope ["grid", "i", "j", "thing"] ["grid", "i", "j", "thing"] (defScope s_retold) := ⟨rfl, rfl, rfl, by decide +kernel, rfl, by decide +kernel, by decide +kernel⟩
theorem ok_retold (T : Txt K mg) : FnD P w K mg base 8 "retold" 4 (g_retold (He.ga K)) := by
  obtain ⟨fd, F⟩ := T.d_retold
  have hb : ∀ (kV doc pm : Value) (an : Option Addr) (cdv ct : Value) (us : List Value), us.length = (["grid", "i", "j", "thing"] : List Str).length → bindArgs (PySem.W.fnOf "retold" "retold" (defArgs s_retold) (defBody s_retold) (defScope s_retold) .none kV doc pm an cdv ct) ⟨us, []⟩ = pure ((["grid", "i", "j", "thing"] : List Str).zip us) := (fun _ _ _ _ _ _ us hl => match us, hl with | [_, _, _, _], _ => rfl)
  refine FnD.as (g := dDef giveS 4 (["grid", "i", "j", "thing"] : List Str).length (F_retold (He.ga K))) ?_ rfl
  refine fnD_mk (k := 7) (fb := F_retold (He.ga K)) giveS_ok F T.m_retold sc_retold rfl hb ?_
  intro cdv A outer s H E c
  exact dss_cons (ds_drop (de_call (ok_check_cell T) c.tk (c.room.mono (by decide)) (da_cons (de_call (ok_sizes_of T) c.tk (c.room.mono (by decide)) (da_cons (de_var (pv 0)) (da_nil))) (da_cons (de_var (pv 1)) (da_cons (de_var (pv 2)) (da_nil))))))
    (dss_cons (ds_if (dt_not (dt_tru (de_call (ok_is_cell T) c.tk (c.room.mono (by decide)) (da_cons (de_fld T.c_Grid T.n_Grid_bases (de_var (pv 0))) (da_cons (de_var (pv 3)) (da_nil)))))) (dss_one (ds_raise0 T.x_NoUnit rfl c.tk)) (dss_nil))
    (dss_one (ds_ret (de_makeE T.k_Grid (ok_Grid__init__ T) T.m_Grid (c.room.mono (by decide)) (da_cons (de_fld T.c_Grid T.n_Grid_bases (de_var (pv 0))) (da_cons (de_call (ok_with_cell T) c.tk (c.room.mono (by decide)) (da_cons (de_fld T.c_Grid T.n_Grid_rows (de_var (pv 0))) (da_cons (de_var (pv 1)) (da_cons (de_var (pv 2)) (da_cons (de_var (pv 3)) (da_nil)))))) (da_nil)))))))
theorem sc_units_in : FnScope ["grid", "found", "row", "item"] ["grid"] (defScope s_units_in) := ⟨rfl, rfl, rfl, by decide +kernel, rfl, by decide +kernel, by decide +kernel⟩
theorem ok_units_in (T : Txt K mg) : FnD P w K mg base 1 "units_in" 1 (g_units_in (He.ga K)) := by
  obtain ⟨fd, F⟩ := T.d_units_in
  have hb : ∀ (kV doc pm : Value) (an : Option Addr) (cdv ct : Value) (us : List Value), us.length = (["grid"] : List Str).length → bindArgs (PySem.W.fnOf "units_in" "units_in" (defArgs s_units_in) (defBody s_units_in) (defScope s_units_in) .none kV doc pm an cdv ct) ⟨us, []⟩ = pure ((["grid"] : List Str).zip us) := (fun _ _ _ _ _ _ us hl => match us, hl with | [_], _ => rfl)
  refine FnD.as (g := dDef giveS 1 (["grid", "found", "row", "item"] : List Str).length (F_units_in (He.ga K))) ?_ rfl
  refine fnD_mk (k := 0) (fb := F_units_in (He.ga K)) giveS_ok F T.m_units_in sc_units_in rfl hb ?_
  intro cdv A outer s H E c
  exact dss_cons (ds_set 1 c.nd (de_loc (da_nil)))
    (dss_cons (ds_for (vs := [2]) c.po rfl (di_seq (de_fld T.c_Grid T.n_Grid_rows (de_var (pv 0)))) (dg_name 2 c.nd) (dss_one (ds_drop (de_ext (de_var (pv 1)) (de_lc lcM_ok rfl c.nd (blkOk_by (own := [("item", 3)]) (N := ["grid", "found", "row", "item"]) (sc := defScope s_units_in) (by decide +kernel)) (di_seq (de_var (pv 2))) (fun _ _ _ _ _ => dg_name 3 c.nd) (fun _ _ _ _ _ => dts_one (dt_cmp op_notN oNotN_ok (de_var (pv 3)) (de_non))) (fun _ _ _ _ _ => de_var (pv 3)))))))
    (dss_one (ds_ret (de_var (pv 1)))))
theorem sc_bottom : FnScope ["grid", "found", "unit", "top", "below"] ["grid"] (defScope s_bottom) := ⟨rfl, rfl, rfl, by decide +kernel, rfl, by decide +kernel, by decide +kernel⟩
theorem ok_bottom (T : Txt K mg) : FnD P w K mg base 3 "bottom" 1 (g_bottom (He.ga K)) := by
  obtain ⟨fd, F⟩ := T.d_bottom
  have hb : ∀ (kV doc pm : Value) (an : Option Addr) (cdv ct : Value) (us : List Value), us.length = (["grid"] : List Str).length → bindArgs (PySem.W.fnOf "bottom" "bottom" (defArgs s_bottom) (defBody s_bottom) (defScope s_bottom) .none kV doc pm an cdv ct) ⟨us, []⟩ = pure ((["grid"] : List Str).zip us) := (fun _ _ _ _ _ _ us hl => match us, hl with | [_], _ => rfl)
  refine FnD.as (g := dDef giveS 1 (["grid", "found", "unit", "top", "below"] : List Str).length (F_bottom (He.ga K))) ?_ rfl
  refine fnD_mk (k := 2) (fb := F_bottom (He.ga K)) giveS_ok F T.m_bottom sc_bottom rfl hb ?_
  intro cdv A outer s H E c
  exact dss_cons (ds_set 1 c.nd (de_int))
    (dss_cons (ds_for (vs := [2]) c.po rfl (di_seq (de_call (ok_units_in T) c.tk (c.room.mono (by decide)) (da_cons (de_var (pv 0)) (da_nil)))) (dg_name 2 c.nd) (dss_one (ds_for (vs := [3, 4]) c.po rfl (di_seq (de_var (pv 2))) (dg_tup rfl (dgs_cons (dg_name 3 c.nd) (dgs_cons (dg_name 4 c.nd) (dgs_nil)))) (dss_one (ds_set 1 c.nd (de_call (ok_multiple T) c.tk (c.room.mono (by decide)) (da_cons (de_var (pv 1)) (da_cons (de_var (pv 4)) (da_nil)))))))))
    (dss_one (ds_ret (de_var (pv 1)))))
theorem sc_fits : FnScope ["item", "number"] ["item", "number"] (defScope s_fits) := ⟨rfl, rfl, rfl, by decide +kernel, rfl, by decide +kernel, by decide +kernel⟩
theorem ok_fits (T : Txt K mg) : FnD P w K mg base 3 "fits" 2 (g_fits (He.ga K)) := by
  obtain ⟨fd, F⟩ := T.d_fits
  have hb : ∀ (kV doc pm : Value) (an : Option Addr) (cdv ct : Value) (us : List Value), us.length = (["item", "number"] : List Str).length → bindArgs (PySem.W.fnOf "fits" "fits" (defArgs s_fits) (defBody s_fits) (defScope s_fits) .none kV doc pm an cdv ct) ⟨us, []⟩ = pure ((["item", "number"] : List Str).zip us) := (fun _ _ _ _ _ _ us hl => match us, hl with | [_, _], _ => rfl)
  refine FnD.as (g := dDef giveS 2 (["item", "number"] : List Str).length (F_fits (He.ga K))) ?_ rfl
  refine fnD_mk (k := 2) (fb := F_fits (He.ga K)) giveS_ok F T.m_fits sc_fits rfl hb ?_
  intro cdv A outer s H E c
  exact dss_one (ds_ret (de_and (de_call (ok_is_fraction T) c.tk (c.room.mono (by decide)) (da_cons (de_var (pv 1)) (da_nil))) (de_one (de_or (de_cmp op_notN oNotN_ok (de_var (pv 0)) (de_non)) (de_one (de_cmp (op_eqD c.room.units) oEq_ok (de_var (pv 1)) (de_tup (da_cons (de_int) (da_cons (de_int) (da_nil))))))))))
theorem sc_are_numbers : FnScope ["grid", "thing", "row", "numbers", "item", "number"] ["grid", "thing"] (defScope s_are_numbers) := ⟨rfl, rfl, rfl, by decide +kernel, rfl, by decide +kernel, by decide +kernel⟩
theorem ok_are_numbers (T : Txt K mg) : FnD P w K mg base 4 "are_numbers" 2 (g_are_numbers (He.ga K)) := by
  obtain ⟨fd, F⟩ := T.d_are_numbers
  have hb : ∀ (kV doc pm : Value) (an : Option Addr) (cdv ct : Value) (us : List Value), us.length = (["grid", "thing"] : List Str).length → bindArgs (PySem.W.fnOf "are_numbers" "are_numbers" (defArgs s_are_numbers) (defBody s_are_numbers) (defScope s_are_numbers) .none kV doc pm an cdv ct) ⟨us, []⟩ = pure ((["grid", "thing"] : List Str).zip us) := (fun _ _ _ _ _ _ us hl => match us, hl with | [_, _], _ => rfl)
  refine FnD.as (g := dDef giveS 2 (["grid", "thing", "row", "numbers", "item", "number"] : List Str).length (F_are_numbers (He.ga K))) ?_ rfl
  refine fnD_mk (k := 3) (fb := F_are_numbers (He.ga K)) giveS_ok F T.m_are_numbers sc_are_numbers rfl hb ?_
  intro cdv A outer s H E c
  exact dss_cons (ds_if (dt_not (dt_tru (de_call (ok_are_rows T) c.tk (c.room.mono (by decide)) (da_cons (de_var (pv 1)) (da_cons (de_callB call_len_seq oLen_ok T.b_len bt_len (da_cons (de_fld T.c_Grid T.n_Grid_rows (de_var (pv 0))) (da_nil))) (da_cons (de_callB call_len_seq oLen_ok T.b_len bt_len (da_cons (de_ix ix_seq oIx_ok (de_fld T.c_Grid T.n_Grid_rows (de_var (pv 0))) (de_int)) (da_nil))) (da_nil))))))) (dss_one (ds_ret (de_bl))) (dss_nil))
    (dss_cons (ds_for (vs := [2, 3]) c.po rfl (di_zip T.b_zip (da_cons (de_fld T.c_Grid T.n_Grid_rows (de_var (pv 0))) (da_cons (de_var (pv 1)) (da_nil)))) (dg_tup rfl (dgs_cons (dg_name 2 c.nd) (dgs_cons (dg_name 3 c.nd) (dgs_nil)))) (dss_one (ds_if (dt_not (dt_tru (de_callB (cr_all rfl) oAll_ok T.b_all bt_all (da_cons (de_lc lcF_ok rfl c.nd (blkOk_by (own := [("item", 4), ("number", 5)]) (N := ["grid", "thing", "row", "numbers", "item", "number"]) (sc := defScope s_are_numbers) (by decide +kernel)) (di_zip T.b_zip (da_cons (de_var (pv 2)) (da_cons (de_var (pv 3)) (da_nil)))) (fun _ _ _ _ _ => dg_tup rfl (dgs_cons (dg_name 4 c.nd) (dgs_cons (dg_name 5 c.nd) (dgs_nil)))) (fun _ _ _ _ _ => dts_yes) (fun _ _ _ _ _ => de_call (ok_fits T) takes0 (c.room.mono (by decide)) (da_cons (de_var (pv 4)) (da_cons (de_var (pv 5)) (da_nil))))) (da_nil))))) (dss_one (ds_ret (de_bl))) (dss_nil))))
    (dss_one (ds_ret (de_bl))))
theorem sc_are_values : FnScope ["grid", "thing", "row", "numbers", "item", "number"] ["grid", "thing"] (defScope s_are_values) := ⟨rfl, rfl, rfl, by decide +kernel, rfl, by decide +kernel, by decide +kernel⟩
theorem ok_are_values (T : Txt K mg) : FnD P w K mg base 5 "are_values" 2 (g_are_values (He.ga K)) := by
  obtain ⟨fd, F⟩ := T.d_are_values
  have hb : ∀ (kV doc pm : Value) (an : Option Addr) (cdv ct : Value) (us : List Value), us.length = (["grid", "thing"] : List Str).length → bindArgs (PySem.W.fnOf "are_values" "are_values" (defArgs s_are_values) (defBody s_are_values) (defScope s_are_values) .none kV doc pm an cdv ct) ⟨us, []⟩ = pure ((["grid", "thing"] : List Str).zip us) := (fun _ _ _ _ _ _ us hl => match us, hl with | [_, _], _ => rfl)
  refine FnD.as (g := dDef giveS 2 (["grid", "thing", "row", "numbers", "item", "number"] : List Str).length (F_are_values (He.ga K))) ?_ rfl
  refine fnD_mk (k := 4) (fb := F_are_values (He.ga K)) giveS_ok F T.m_are_values sc_are_values rfl hb ?_
  intro cdv A outer s H E c
  exact dss_cons (ds_if (dt_not (dt_tru (de_call (ok_are_numbers T) c.tk (c.room.mono (by decide)) (da_cons (de_var (pv 0)) (da_cons (de_var (pv 1)) (da_nil)))))) (dss_one (ds_ret (de_bl))) (dss_nil))
    (dss_cons (ds_for (vs := [2, 3]) c.po rfl (di_zip T.b_zip (da_cons (de_fld T.c_Grid T.n_Grid_rows (de_var (pv 0))) (da_cons (de_var (pv 1)) (da_nil)))) (dg_tup rfl (dgs_cons (dg_name 2 c.nd) (dgs_cons (dg_name 3 c.nd) (dgs_nil)))) (dss_one (ds_if (dt_not (dt_tru (de_callB (cr_all rfl) oAll_ok T.b_all bt_all (da_cons (de_lc lcF_ok rfl c.nd (blkOk_by (own := [("item", 4), ("number", 5)]) (N := ["grid", "thing", "row", "numbers", "item", "number"]) (sc := defScope s_are_values) (by decide +kernel)) (di_zip T.b_zip (da_cons (de_var (pv 2)) (da_cons (de_var (pv 3)) (da_nil)))) (fun _ _ _ _ _ => dg_tup rfl (dgs_cons (dg_name 4 c.nd) (dgs_cons (dg_name 5 c.nd) (dgs_nil)))) (fun _ _ _ _ _ => dts_yes) (fun _ _ _ _ _ => de_or (de_cmp op_isN oIsN_ok (de_var (pv 4)) (de_non)) (de_one (de_cmp op_gt oGt_ok (de_ix ix_seq oIx_ok (de_var (pv 5)) (de_int)) (de_int))))) (da_nil))))) (dss_one (ds_ret (de_bl))) (dss_nil))))
    (dss_one (ds_ret (de_bl))))
theorem sc_raw_renumbered : FnScope ["grid", "numbers", "roots", "scale", "found", "row", "line", "later", "item", "number"] ["grid", "numbers", "roots", "scale"] (defScope s_raw_renumbered) := ⟨rfl, rfl, rfl, by decide +kernel, rfl, by decide +kernel, by decide +kernel⟩
theorem ok_raw_renumbered (T : Txt K mg) : FnD P w K mg base 5 "raw_renumbered" 4 (g_raw_renumbered (He.ga K)) := by
  obtain ⟨fd, F⟩ := T.d_raw_renumbered
  have hb : ∀ (kV doc pm : Value) (an : Option Addr) (cdv ct : Value) (us : List Value), us.length = (["grid", "numbers", "roots", "scale"] : List Str).length → bindArgs (PySem.W.fnOf "raw_renumbered" "raw_renumbered" (defArgs s_raw_renumbered) (defBody s_raw_renumbered) (defScope s_raw_renumbered) .none kV doc pm an cdv ct) ⟨us, []⟩ = pure ((["grid", "numbers", "roots", "scale"] : List Str).zip us) := (fun _ _ _ _ _ _ us hl => match us, hl with | [_, _, _, _], _ => rfl)
  refine FnD.as (g := dDef giveS 4 (["grid", "numbers", "roots", "scale", "found", "row", "line", "later", "item", "number"] : List Str).length (F_raw_renumbered (He.ga K))) ?_ rfl
  refine fnD_mk (k := 4) (fb := F_raw_renumbered (He.ga K)) giveS_ok F T.m_raw_renumbered sc_raw_renumbered rfl hb ?_
  intro cdv A outer s H E c
  exact dss_cons (ds_set 4 c.nd (de_loc (da_nil)))
    (dss_cons (ds_for (vs := [5, 6]) c.po rfl (di_zip T.b_zip (da_cons (de_fld T.c_Grid T.n_Grid_rows (de_var (pv 0))) (da_cons (de_var (pv 1)) (da_nil)))) (dg_tup rfl (dgs_cons (dg_name 5 c.nd) (dgs_cons (dg_name 6 c.nd) (dgs_nil)))) (dss_cons (ds_set 7 c.nd (de_loc (da_nil)))
    (dss_cons (ds_for (vs := [8, 9]) c.po rfl (di_zip T.b_zip (da_cons (de_var (pv 5)) (da_cons (de_var (pv 6)) (da_nil)))) (dg_tup rfl (dgs_cons (dg_name 8 c.nd) (dgs_cons (dg_name 9 c.nd) (dgs_nil)))) (dss_one (ds_drop (de_app (de_var (pv 7)) (de_if (dt_cmp op_isN oIsN_ok (de_var (pv 8)) (de_non)) (de_var (pv 9)) (de_call (ok_times T) c.tk (c.room.mono (by decide)) (da_cons (de_var (pv 9)) (da_cons (de_call (ok_raw_factor T) c.tk (c.room.mono (by decide)) (da_cons (de_var (pv 8)) (da_cons (de_var (pv 2)) (da_cons (de_var (pv 3)) (da_nil))))) (da_nil)))))))))
    (dss_one (ds_drop (de_app (de_var (pv 4)) (de_callTy call_tuple_of oTuple_ok T.b_tuple bt_tuple (da_cons (de_var (pv 7)) (da_nil)))))))))
    (dss_one (ds_ret (de_callTy call_tuple_of oTuple_ok T.b_tuple bt_tuple (da_cons (de_var (pv 4)) (da_nil))))))
theorem sc_renumbered : FnScope ["grid", "numbers", "roots"] ["grid", "numbers", "roots"] (defScope s_renumbered) := ⟨rfl, rfl, rfl, by decide +kernel, rfl, by decide +kernel, by decide +kernel⟩
theorem ok_renumbered (T : Txt K mg) : FnD P w K mg base 6 "renumbered" 3 (g_renumbered (He.ga K)) := by
  obtain ⟨fd, F⟩ := T.d_renumbered
  have hb : ∀ (kV doc pm : Value) (an : Option Addr) (cdv ct : Value) (us : List Value), us.length = (["grid", "numbers", "roots"] : List Str).length → bindArgs (PySem.W.fnOf "renumbered" "renumbered" (defArgs s_renumbered) (defBody s_renumbered) (defScope s_renumbered) .none kV doc pm an cdv ct) ⟨us, []⟩ = pure ((["grid", "numbers", "roots"] : List Str).zip us) := (fun _ _ _ _ _ _ us hl => match us, hl with | [_, _, _], _ => rfl)
  refine FnD.as (g := dDef giveS 3 (["grid", "numbers", "roots"] : List Str).length (F_renumbered (He.ga K))) ?_ rfl
  refine fnD_mk (k := 5) (fb := F_renumbered (He.ga K)) giveS_ok F T.m_renumbered sc_renumbered rfl hb ?_
  intro cdv A outer s H E c
  exact dss_cons (ds_if (dt_not (dt_tru (de_call (ok_are_numbers T) c.tk (c.room.mono (by decide)) (da_cons (de_var (pv 0)) (da_cons (de_var (pv 1)) (da_nil)))))) (dss_one (ds_raise0 T.x_NoNumbers rfl c.tk)) (dss_nil))
    (dss_cons (ds_drop (de_call (ok_check_roots T) c.tk (c.room.mono (by decide)) (da_cons (de_fld T.c_Grid T.n_Grid_bases (de_var (pv 0))) (da_cons (de_var (pv 2)) (da_nil)))))
    (dss_one (ds_ret (de_call (ok_raw_renumbered T) c.tk (c.room.mono (by decide)) (da_cons (de_var (pv 0)) (da_cons (de_var (pv 1)) (da_cons (de_var (pv 2)) (da_cons (de_call (ok_bottom T) c.tk (c.room.mono (by decide)) (da_cons (de_var (pv 0)) (da_nil))) (da_nil)))))))))
theorem sc__law_is_integer : FnScope ["_law_thing_here"] ["_law_thing_here"] (defScope s__law_is_integer) := ⟨rfl, rfl, rfl, by decide +kernel, rfl, by decide +kernel, by decide +kernel⟩
theorem ok__law_is_integer (T : Txt K mg) : FnD P w K mg base 1 "_law_is_integer" 1 (g__law_is_integer (He.ga K)) := by
  obtain ⟨fd, F⟩ := T.d__law_is_integer
  have hb : ∀ (kV doc pm : Value) (an : Option Addr) (cdv ct : Value) (us : List Value), us.length = (["_law_thing_here"] : List Str).length → bindArgs (PySem.W.fnOf "_law_is_integer" "_law_is_integer" (defArgs s__law_is_integer) (defBody s__law_is_integer) (defScope s__law_is_integer) .none kV doc pm an cdv ct) ⟨us, []⟩ = pure ((["_law_thing_here"] : List Str).zip us) := (fun _ _ _ _ _ _ us hl => match us, hl with | [_], _ => rfl)
  refine FnD.as (g := dDef giveS 1 (["_law_thing_here"] : List Str).length (F__law_is_integer (He.ga K))) ?_ rfl
  refine fnD_mk (k := 0) (fb := F__law_is_integer (He.ga K)) giveS_ok F T.m__law_is_integer sc__law_is_integer rfl hb ?_
  intro cdv A outer s H E c
  exact dss_one (ds_ret (de_and (de_callB call_isi (oIsiI_ok (own1 T.o_Grid)) T.b_isinstance bt_isinstance (da_cons (de_var (pv 0)) (da_cons (de_ty T.b_int bt_int) (da_nil)))) (de_one (de_not (de_callB call_isi (oIsiI_ok (own1 T.o_Grid)) T.b_isinstance bt_isinstance (da_cons (de_var (pv 0)) (da_cons (de_ty T.b_bool bt_bool) (da_nil))))))))
theorem sc__law_state : FnScope ["_law_script", "_law_turn"] ["_law_script", "_law_turn"] (defScope s__law_state) := ⟨rfl, rfl, rfl, by decide +kernel, rfl, by decide +kernel, by decide +kernel⟩
theorem ok__law_state (T : Txt K mg) : FnD P w K mg base 1 "_law_state" 2 (g__law_state (He.ga K)) := by
  obtain ⟨fd, F⟩ := T.d__law_state
  have hb : ∀ (kV doc pm : Value) (an : Option Addr) (cdv ct : Value) (us : List Value), us.length = (["_law_script", "_law_turn"] : List Str).length → bindArgs (PySem.W.fnOf "_law_state" "_law_state" (defArgs s__law_state) (defBody s__law_state) (defScope s__law_state) .none kV doc pm an cdv ct) ⟨us, []⟩ = pure ((["_law_script", "_law_turn"] : List Str).zip us) := (fun _ _ _ _ _ _ us hl => match us, hl with | [_, _], _ => rfl)
  refine FnD.as (g := dDef giveM 2 (["_law_script", "_law_turn"] : List Str).length (F__law_state (He.ga K))) ?_ rfl
  refine fnD_mk (k := 0) (fb := F__law_state (He.ga K)) giveM_ok F T.m__law_state sc__law_state rfl hb ?_
  intro cdv A outer s H E c
  exact dss_one (ds_ret (de_loc (da_cons (de_callTy call_list_of oList_ok T.b_list bt_list (da_cons (de_var (pv 0)) (da_nil))) (da_cons (de_int) (da_cons (de_int) (da_cons (de_op op_add oAdd_ok (de_int) (de_var (pv 1))) (da_nil)))))))
theorem sc__law_mixed : FnScope ["_law_number", "_law_more"] ["_law_number", "_law_more"] (defScope s__law_mixed) := ⟨rfl, rfl, rfl, by decide +kernel, rfl, by decide +kernel, by decide +kernel⟩
theorem ok__law_mixed (T : Txt K mg) : FnD P w K mg base 1 "_law_mixed" 2 (g__law_mixed (He.ga K)) := by
  obtain ⟨fd, F⟩ := T.d__law_mixed
  have hb : ∀ (kV doc pm : Value) (an : Option Addr) (cdv ct : Value) (us : List Value), us.length = (["_law_number", "_law_more"] : List Str).length → bindArgs (PySem.W.fnOf "_law_mixed" "_law_mixed" (defArgs s__law_mixed) (defBody s__law_mixed) (defScope s__law_mixed) .none kV doc pm an cdv ct) ⟨us, []⟩ = pure ((["_law_number", "_law_more"] : List Str).zip us) := (fun _ _ _ _ _ _ us hl => match us, hl with | [_, _], _ => rfl)
  refine FnD.as (g := dDef giveS 2 (["_law_number", "_law_more"] : List Str).length (F__law_mixed (He.ga K))) ?_ rfl
  refine fnD_mk (k := 0) (fb := F__law_mixed (He.ga K)) giveS_ok F T.m__law_mixed sc__law_mixed rfl hb ?_
  intro cdv A outer s H E c
  exact dss_cons (ds_set 0 c.nd (de_op op_mod oMod_ok (de_callTy call_int1 oInt_ok T.b_int bt_int (da_cons (de_op op_add oAdd_ok (de_op op_add oAdd_ok (de_op op_mulW oMul_ok (de_var (pv 0)) (de_int)) (de_op op_mulW oMul_ok (de_op op_mod oMod_ok (de_callTy call_int1 oInt_ok T.b_int bt_int (da_cons (de_var (pv 1)) (da_nil))) (de_int)) (de_int))) (de_int)) (da_nil))) (de_int)))
    (dss_cons (ds_set 0 c.nd (de_op op_mod oMod_ok (de_callTy call_int1 oInt_ok T.b_int bt_int (da_cons (de_op op_mulW oMul_ok (de_var (pv 0)) (de_op op_add oAdd_ok (de_op op_fdivW oDiv_ok (de_var (pv 0)) (de_int)) (de_int))) (da_nil))) (de_int)))
    (dss_one (ds_ret (de_op op_mod oMod_ok (de_callTy call_int1 oInt_ok T.b_int bt_int (da_cons (de_op op_mulW oMul_ok (de_var (pv 0)) (de_op op_add oAdd_ok (de_op op_fdivW oDiv_ok (de_var (pv 0)) (de_int)) (de_int))) (da_nil))) (de_int)))))
theorem sc__law_draw : FnScope ["_law_state_here", "_law_many", "_law_taken", "_law_found_here"] ["_law_state_here", "_law_many"] (defScope s__law_draw) := ⟨rfl, rfl, rfl, by decide +kernel, rfl, by decide +kernel, by decide +kernel⟩
theorem ok__law_draw (T : Txt K mg) : FnD P w K mg base 2 "_law_draw" 2 (g__law_draw (He.ga K)) := by
  obtain ⟨fd, F⟩ := T.d__law_draw
  have hb : ∀ (kV doc pm : Value) (an : Option Addr) (cdv ct : Value) (us : List Value), us.length = (["_law_state_here", "_law_many"] : List Str).length → bindArgs (PySem.W.fnOf "_law_draw" "_law_draw" (defArgs s__law_draw) (defBody s__law_draw) (defScope s__law_draw) .none kV doc pm an cdv ct) ⟨us, []⟩ = pure ((["_law_state_here", "_law_many"] : List Str).zip us) := (fun _ _ _ _ _ _ us hl => match us, hl with | [_, _], _ => rfl)
  refine FnD.as (g := dDef giveS 2 (["_law_state_here", "_law_many", "_law_taken", "_law_found_here"] : List Str).length (F__law_draw (He.ga K))) ?_ rfl
  refine fnD_mk (k := 1) (fb := F__law_draw (He.ga K)) giveS_ok F T.m__law_draw sc__law_draw rfl hb ?_
  intro cdv A outer s H E c
  exact dss_cons (ds_if (L2.PW.pt (dw_and (dt_cmp (op_eqD c.room.units) oEq_ok (de_ix ix_seq oIx_ok (de_var (pv 0)) (de_int)) (de_int)) (dw_and1 (dt_cmp op_lt oLt_ok (de_ix ix_seq oIx_ok (de_var (pv 0)) (de_int)) (de_callB call_len_seq oLen_ok T.b_len bt_len (da_cons (de_ix ix_seq oIx_ok (de_var (pv 0)) (de_int)) (da_nil))))))) (dss_cons (ds_set 2 c.nd (de_ix ix_seq oIx_ok (de_ix ix_seq oIx_ok (de_var (pv 0)) (de_int)) (de_ix ix_seq oIx_ok (de_var (pv 0)) (de_int))))
    (dss_cons (ds_asg (vs := []) (de_op op_add oAdd_ok (de_ix ix_seq oIx_ok (de_var (pv 0)) (de_int)) (de_int)) (dg_ix (Wx := WF) (de_var (pv 0)) (de_int)))
    (dss_one (ds_if (dt_cmp op_ge oGe_ok (de_var (pv 2)) (de_op op_pow oPow_ok (de_int) (de_int))) (dss_one (ds_asg (vs := []) (de_var (pv 2)) (dg_ix (Wx := WF) (de_var (pv 0)) (de_int)))) (dss_one (ds_asg (vs := []) (de_call (ok__law_mixed T) c.tk (c.room.mono (by decide)) (da_cons (de_ix ix_seq oIx_ok (de_var (pv 0)) (de_int)) (da_cons (de_var (pv 2)) (da_nil)))) (dg_ix (Wx := WF) (de_var (pv 0)) (de_int)))))))) (dss_nil))
    (dss_cons (ds_if (dt_cmp op_gt oGt_ok (de_ix ix_seq oIx_ok (de_var (pv 0)) (de_int)) (de_int)) (dss_cons (ds_set 3 c.nd (de_op op_mod oMod_ok (de_callTy call_int1 oInt_ok T.b_int bt_int (da_cons (de_ix ix_seq oIx_ok (de_var (pv 0)) (de_int)) (da_nil))) (de_var (pv 1))))
    (dss_cons (ds_asg (vs := []) (de_op op_fdivW oDiv_ok (de_ix ix_seq oIx_ok (de_var (pv 0)) (de_int)) (de_var (pv 1))) (dg_ix (Wx := WF) (de_var (pv 0)) (de_int)))
    (dss_one (ds_ret (de_var (pv 3)))))) (dss_nil))
    (dss_cons (ds_asg (vs := []) (de_call (ok__law_mixed T) c.tk (c.room.mono (by decide)) (da_cons (de_ix ix_seq oIx_ok (de_var (pv 0)) (de_int)) (da_cons (de_ix ix_seq oIx_ok (de_var (pv 0)) (de_int)) (da_nil)))) (dg_ix (Wx := WF) (de_var (pv 0)) (de_int)))
    (dss_one (ds_ret (de_op op_mod oMod_ok (de_op op_fdivW oDiv_ok (de_callTy call_int1 oInt_ok T.b_int bt_int (da_cons (de_ix ix_seq oIx_ok (de_var (pv 0)) (de_int)) (da_nil))) (de_int)) (de_var (pv 1)))))))
theorem sc__law_low : FnScope ["_law_upper", "_law_lower", "_law_one", "_law_other", "_law_rest"] ["_law_upper", "_law_lower"] (defScope s__law_low) := ⟨rfl, rfl, rfl, by decide +kernel, rfl, by decide +kernel, by decide +kernel⟩
theorem ok__law_low (T : Txt K mg) : FnD P w K mg base 1 "_law_low" 2 (g__law_low (He.ga K)) := by
  obtain ⟨fd, F⟩ := T.d__law_low
  have hb : ∀ (kV doc pm : Value) (an : Option Addr) (cdv ct : Value) (us : List Value), us.length = (["_law_upper", "_law_lower"] : List Str).length → bindArgs (PySem.W.fnOf "_law_low" "_law_low" (defArgs s__law_low) (defBody s__law_low) (defScope s__law_low) .none kV doc pm an cdv ct) ⟨us, []⟩ = pure ((["_law_upper", "_law_lower"] : List Str).zip us) := (fun _ _ _ _ _ _ us hl => match us, hl with | [_, _], _ => rfl)
  refine FnD.as (g := dDef giveS 2 (["_law_upper", "_law_lower", "_law_one", "_law_other", "_law_rest"] : List Str).length (F__law_low (He.ga K))) ?_ rfl
  refine fnD_mk (k := 0) (fb := F__law_low (He.ga K)) giveS_ok F T.m__law_low sc__law_low rfl hb ?_
  intro cdv A outer s H E c
  exact dss_cons (ds_set 2 c.nd (de_callB call_abs oAbs_ok T.b_abs bt_abs (da_cons (de_var (pv 0)) (da_nil))))
    (dss_cons (ds_set 3 c.nd (de_callB call_abs oAbs_ok T.b_abs bt_abs (da_cons (de_var (pv 1)) (da_nil))))
    (dss_cons (ds_while c.po (dt_cmp op_gt oGt_ok (de_var (pv 3)) (de_int)) (dss_cons (ds_set 4 c.nd (de_op op_mod oMod_ok (de_callTy call_int1 oInt_ok T.b_int bt_int (da_cons (de_var (pv 2)) (da_nil))) (de_var (pv 3))))
    (dss_cons (ds_set 2 c.nd (de_var (pv 3)))
    (dss_one (ds_set 3 c.nd (de_var (pv 4)))))))
    (dss_cons (ds_if (dt_cmp op_lt oLt_ok (de_var (pv 1)) (de_int)) (dss_one (ds_set 2 c.nd (de_neg (de_var (pv 2))))) (dss_nil))
    (dss_one (ds_ret (de_tup (da_cons (de_op op_fdivW oDiv_ok (de_var (pv 0)) (de_var (pv 2))) (da_cons (de_op op_fdivW oDiv_ok (de_var (pv 1)) (de_var (pv 2))) (da_nil)))))))))
theorem sc__law_exponent : FnScope ["_law_state_here", "_law_lower"] ["_law_state_here"] (defScope s__law_exponent) := ⟨rfl, rfl, rfl, by decide +kernel, rfl, by decide +kernel, by decide +kernel⟩
theorem ok__law_exponent (T : Txt K mg) : FnD P w K mg base 3 "_law_exponent" 1 (g__law_exponent (He.ga K)) := by
  obtain ⟨fd, F⟩ := T.d__law_exponent
  have hb : ∀ (kV doc pm : Value) (an : Option Addr) (cdv ct : Value) (us : List Value), us.length = (["_law_state_here"] : List Str).length → bindArgs (PySem.W.fnOf "_law_exponent" "_law_exponent" (defArgs s__law_exponent) (defBody s__law_exponent) (defScope s__law_exponent) .none kV doc pm an cdv ct) ⟨us, []⟩ = pure ((["_law_state_here"] : List Str).zip us) := (fun _ _ _ _ _ _ us hl => match us, hl with | [_], _ => rfl)
  refine FnD.as (g := dDef giveS 1 (["_law_state_here", "_law_lower"] : List Str).length (F__law_exponent (He.ga K))) ?_ rfl
  refine fnD_mk (k := 2) (fb := F__law_exponent (He.ga K)) giveS_ok F T.m__law_exponent sc__law_exponent rfl hb ?_
  intro cdv A outer s H E c
  exact dss_cons (ds_set 1 c.nd (de_op op_add oAdd_ok (de_int) (de_call (ok__law_draw T) c.tk (c.room.mono (by decide)) (da_cons (de_var (pv 0)) (da_cons (de_int) (da_nil))))))
    (dss_one (ds_ret (de_call (ok__law_low T) c.tk (c.room.mono (by decide)) (da_cons (de_op op_sub oSub_ok (de_call (ok__law_draw T) c.tk (c.room.mono (by decide)) (da_cons (de_var (pv 0)) (da_cons (de_int) (da_nil)))) (de_int)) (da_cons (de_var (pv 1)) (da_nil))))))
theorem sc__law_unit : FnScope ["_law_state_here", "_law_bases", "_law_k"] ["_law_state_here", "_law_bases"] (defScope s__law_unit) := ⟨rfl, rfl, rfl, by decide +kernel, rfl, by decide +kernel, by decide +kernel⟩
theorem ok__law_unit (T : Txt K mg) : FnD P w K mg base 4 "_law_unit" 2 (g__law_unit (He.ga K)) := by
  obtain ⟨fd, F⟩ := T.d__law_unit
  have hb : ∀ (kV doc pm : Value) (an : Option Addr) (cdv ct : Value) (us : List Value), us.length = (["_law_state_here", "_law_bases"] : List Str).length → bindArgs (PySem.W.fnOf "_law_unit" "_law_unit" (defArgs s__law_unit) (defBody s__law_unit) (defScope s__law_unit) .none kV doc pm an cdv ct) ⟨us, []⟩ = pure ((["_law_state_here", "_law_bases"] : List Str).zip us) := (fun _ _ _ _ _ _ us hl => match us, hl with | [_, _], _ => rfl)
  refine FnD.as (g := dDef giveS 2 (["_law_state_here", "_law_bases", "_law_k"] : List Str).length (F__law_unit (He.ga K))) ?_ rfl
  refine fnD_mk (k := 3) (fb := F__law_unit (He.ga K)) giveS_ok F T.m__law_unit sc__law_unit rfl hb ?_
  intro cdv A outer s H E c
  exact dss_one (ds_ret (de_callTy call_tuple_of oTuple_ok T.b_tuple bt_tuple (da_cons (de_lc lcF_ok rfl c.nd (blkOk_by (own := [("_law_k", 2)]) (N := ["_law_state_here", "_law_bases", "_law_k"]) (sc := defScope s__law_unit) (by decide +kernel)) (di_rng1 T.b_range (da_cons (de_var (pv 1)) (da_nil))) (fun _ _ _ _ _ => dg_name 2 c.nd) (fun _ _ _ _ _ => dts_yes) (fun _ _ _ _ _ => de_call (ok__law_exponent T) takes0 (c.room.mono (by decide)) (da_cons (de_var (pv 0)) (da_nil)))) (da_nil))))
theorem sc__law_cell : FnScope ["_law_state_here", "_law_bases", "_law_share"] ["_law_state_here", "_law_bases", "_law_share"] (defScope s__law_cell) := ⟨rfl, rfl, rfl, by decide +kernel, rfl, by decide +kernel, by decide +kernel⟩
theorem ok__law_cell (T : Txt K mg) : FnD P w K mg base 5 "_law_cell" 3 (g__law_cell (He.ga K)) := by
  obtain ⟨fd, F⟩ := T.d__law_cell
  have hb : ∀ (kV doc pm : Value) (an : Option Addr) (cdv ct : Value) (us : List Value), us.length = (["_law_state_here", "_law_bases", "_law_share"] : List Str).length → bindArgs (PySem.W.fnOf "_law_cell" "_law_cell" (defArgs s__law_cell) (defBody s__law_cell) (defScope s__law_cell) .none kV doc pm an cdv ct) ⟨us, []⟩ = pure ((["_law_state_here", "_law_bases", "_law_share"] : List Str).zip us) := (fun _ _ _ _ _ _ us hl => match us, hl with | [_, _, _], _ => rfl)
  refine FnD.as (g := dDef giveS 3 (["_law_state_here", "_law_bases", "_law_share"] : List Str).length (F__law_cell (He.ga K))) ?_ rfl
  refine fnD_mk (k := 4) (fb := F__law_cell (He.ga K)) giveS_ok F T.m__law_cell sc__law_cell rfl hb ?_
  intro cdv A outer s H E c
  exact dss_cons (ds_if (dt_cmp (op_eqD c.room.units) oEq_ok (de_call (ok__law_draw T) c.tk (c.room.mono (by decide)) (da_cons (de_var (pv 0)) (da_cons (de_var (pv 2)) (da_nil)))) (de_int)) (dss_one (ds_ret (de_non))) (dss_nil))
    (dss_one (ds_ret (de_call (ok__law_unit T) c.tk (c.room.mono (by decide)) (da_cons (de_var (pv 0)) (da_cons (de_var (pv 1)) (da_nil))))))
theorem sc__law_with : FnScope ["_law_rows_here", "_law_i", "_law_j", "_law_thing_here", "_law_row"] ["_law_rows_here", "_law_i", "_law_j", "_law_thing_here"] (defScope s__law_with) := ⟨rfl, rfl, rfl, by decide +kernel, rfl, by decide +kernel, by decide +kernel⟩
theorem ok__law_with (T : Txt K mg) : FnD P w K mg base 1 "_law_with" 4 (g__law_with (He.ga K)) := by
  obtain ⟨fd, F⟩ := T.d__law_with
  have hb : ∀ (kV doc pm : Value) (an : Option Addr) (cdv ct : Value) (us : List Value), us.length = (["_law_rows_here", "_law_i", "_law_j", "_law_thing_here"] : List Str).length → bindArgs (PySem.W.fnOf "_law_with" "_law_with" (defArgs s__law_with) (defBody s__law_with) (defScope s__law_with) .none kV doc pm an cdv ct) ⟨us, []⟩ = pure ((["_law_rows_here", "_law_i", "_law_j", "_law_thing_here"] : List Str).zip us) := (fun _ _ _ _ _ _ us hl => match us, hl with | [_, _, _, _], _ => rfl)
  refine FnD.as (g := dDef giveS 4 (["_law_rows_here", "_law_i", "_law_j", "_law_thing_here", "_law_row"] : List Str).length (F__law_with (He.ga K))) ?_ rfl
  refine fnD_mk (k := 0) (fb := F__law_with (He.ga K)) giveS_ok F T.m__law_with sc__law_with rfl hb ?_
  intro cdv A outer s H E c
  exact dss_cons (ds_set 4 c.nd (de_op op_catA oCat_ok (de_op op_catA oCat_ok (de_sl sl_A oSlA_ok (de_ix ix_seq oIx_ok (de_var (pv 0)) (de_var (pv 1))) (do_none) (do_some (de_var (pv 2)))) (de_tup (da_cons (de_var (pv 3)) (da_nil)))) (de_sl sl_A oSlA_ok (de_ix ix_seq oIx_ok (de_var (pv 0)) (de_var (pv 1))) (do_some (de_op op_add oAdd_ok (de_var (pv 2)) (de_int))) (do_none))))
    (dss_one (ds_ret (de_op op_catA oCat_ok (de_op op_catA oCat_ok (de_sl sl_A oSlA_ok (de_var (pv 0)) (do_none) (do_some (de_var (pv 1)))) (de_tup (da_cons (de_var (pv 4)) (da_nil)))) (de_sl sl_A oSlA_ok (de_var (pv 0)) (do_some (de_op op_add oAdd_ok (de_var (pv 1)) (de_int))) (do_none)))))
theorem sc__law_is_fraction : FnScope ["_law_thing_here"] ["_law_thing_here"] (defScope s__law_is_fraction) := ⟨rfl, rfl, rfl, by decide +kernel, rfl, by decide +kernel, by decide +kernel⟩
theorem ok__law_is_fraction (T : Txt K mg) : FnD P w K mg base 2 "_law_is_fraction" 1 (g__law_is_fraction (He.ga K)) := by
  obtain ⟨fd, F⟩ := T.d__law_is_fraction
  have hb : ∀ (kV doc pm : Value) (an : Option Addr) (cdv ct : Value) (us : List Value), us.length = (["_law_thing_here"] : List Str).length → bindArgs (PySem.W.fnOf "_law_is_fraction" "_law_is_fraction" (defArgs s__law_is_fraction) (defBody s__law_is_fraction) (defScope s__law_is_fraction) .none kV doc pm an cdv ct) ⟨us, []⟩ = pure ((["_law_thing_here"] : List Str).zip us) := (fun _ _ _ _ _ _ us hl => match us, hl with | [_], _ => rfl)
  refine FnD.as (g := dDef giveS 1 (["_law_thing_here"] : List Str).length (F__law_is_fraction (He.ga K))) ?_ rfl
  refine fnD_mk (k := 1) (fb := F__law_is_fraction (He.ga K)) giveS_ok F T.m__law_is_fraction sc__law_is_fraction rfl hb ?_
  intro cdv A outer s H E c
  exact dss_cons (ds_if (L2.PW.pt (dw_or (dt_not (dt_tru (de_callB call_isi (oIsiI_ok (own1 T.o_Grid)) T.b_isinstance bt_isinstance (da_cons (de_var (pv 0)) (da_cons (de_ty T.b_tuple bt_tuple) (da_nil)))))) (dw_or1 (dt_cmp (op_neD c.room.units) oNe_ok (de_callB call_len_seq oLen_ok T.b_len bt_len (da_cons (de_var (pv 0)) (da_nil))) (de_int))))) (dss_one (ds_ret (de_bl))) (dss_nil))
    (dss_cons (ds_if (L2.PW.pt (dw_or (dt_not (dt_tru (de_call (ok__law_is_integer T) c.tk (c.room.mono (by decide)) (da_cons (de_ix ix_seq oIx_ok (de_var (pv 0)) (de_int)) (da_nil))))) (dw_or (dt_not (dt_tru (de_call (ok__law_is_integer T) c.tk (c.room.mono (by decide)) (da_cons (de_ix ix_seq oIx_ok (de_var (pv 0)) (de_int)) (da_nil))))) (dw_or1 (dt_cmp op_lt oLt_ok (de_ix ix_seq oIx_ok (de_var (pv 0)) (de_int)) (de_int)))))) (dss_one (ds_ret (de_bl))) (dss_nil))
    (dss_one (ds_ret (de_cmp (op_eqD c.room.units) oEq_ok (de_call (ok__law_low T) c.tk (c.room.mono (by decide)) (da_cons (de_ix ix_seq oIx_ok (de_var (pv 0)) (de_int)) (da_cons (de_ix ix_seq oIx_ok (de_var (pv 0)) (de_int)) (da_nil)))) (de_var (pv 0))))))
theorem sc__law_is_unit : FnScope ["_law_bases", "_law_thing_here", "_law_item_here"] ["_law_bases", "_law_thing_here"] (defScope s__law_is_unit) := ⟨rfl, rfl, rfl, by decide +kernel, rfl, by decide +kernel, by decide +kernel⟩
theorem ok__law_is_unit (T : Txt K mg) : FnD P w K mg base 3 "_law_is_unit" 2 (g__law_is_unit (He.ga K)) := by
  obtain ⟨fd, F⟩ := T.d__law_is_unit
  have hb : ∀ (kV doc pm : Value) (an : Option Addr) (cdv ct : Value) (us : List Value), us.length = (["_law_bases", "_law_thing_here"] : List Str).length → bindArgs (PySem.W.fnOf "_law_is_unit" "_law_is_unit" (defArgs s__law_is_unit) (defBody s__law_is_unit) (defScope s__law_is_unit) .none kV doc pm an cdv ct) ⟨us, []⟩ = pure ((["_law_bases", "_law_thing_here"] : List Str).zip us) := (fun _ _ _ _ _ _ us hl => match us, hl with | [_, _], _ => rfl)
  refine FnD.as (g := dDef giveS 2 (["_law_bases", "_law_thing_here", "_law_item_here"] : List Str).length (F__law_is_unit (He.ga K))) ?_ rfl
  refine fnD_mk (k := 2) (fb := F__law_is_unit (He.ga K)) giveS_ok F T.m__law_is_unit sc__law_is_unit rfl hb ?_
  intro cdv A outer s H E c
  exact dss_cons (ds_if (L2.PW.pt (dw_or (dt_not (dt_tru (de_callB call_isi (oIsiI_ok (own1 T.o_Grid)) T.b_isinstance bt_isinstance (da_cons (de_var (pv 1)) (da_cons (de_ty T.b_tuple bt_tuple) (da_nil)))))) (dw_or1 (dt_cmp (op_neD c.room.units) oNe_ok (de_callB call_len_seq oLen_ok T.b_len bt_len (da_cons (de_var (pv 1)) (da_nil))) (de_var (pv 0)))))) (dss_one (ds_ret (de_bl))) (dss_nil))
    (dss_one (ds_ret (de_callB (cr_all rfl) oAll_ok T.b_all bt_all (da_cons (de_lc lcF_ok rfl c.nd (blkOk_by (own := [("_law_item_here", 2)]) (N := ["_law_bases", "_law_thing_here", "_law_item_here"]) (sc := defScope s__law_is_unit) (by decide +kernel)) (di_seq (de_var (pv 1))) (fun _ _ _ _ _ => dg_name 2 c.nd) (fun _ _ _ _ _ => dts_yes) (fun _ _ _ _ _ => de_call (ok__law_is_fraction T) takes0 (c.room.mono (by decide)) (da_cons (de_var (pv 2)) (da_nil)))) (da_nil)))))
theorem sc__law_is_cell : FnScope ["_law_bases", "_law_thing_here", "_law_exponent_here"] ["_law_bases", "_law_thing_here"] (defScope s__law_is_cell) := ⟨rfl, rfl, rfl, by decide +kernel, rfl, by decide +kernel, by decide +kernel⟩
theorem ok__law_is_cell (T : Txt K mg) : FnD P w K mg base 4 "_law_is_cell" 2 (g__law_is_cell (He.ga K)) := by
  obtain ⟨fd, F⟩ := T.d__law_is_cell
  have hb : ∀ (kV doc pm : Value) (an : Option Addr) (cdv ct : Value) (us : List Value), us.length = (["_law_bases", "_law_thing_here"] : List Str).length → bindArgs (PySem.W.fnOf "_law_is_cell" "_law_is_cell" (defArgs s__law_is_cell) (defBody s__law_is_cell) (defScope s__law_is_cell) .none kV doc pm an cdv ct) ⟨us, []⟩ = pure ((["_law_bases", "_law_thing_here"] : List Str).zip us) := (fun _ _ _ _ _ _ us hl => match us, hl with | [_, _], _ => rfl)
  refine FnD.as (g := dDef giveS 2 (["_law_bases", "_law_thing_here", "_law_exponent_here"] : List Str).length (F__law_is_cell (He.ga K))) ?_ rfl
  refine fnD_mk (k := 3) (fb := F__law_is_cell (He.ga K)) giveS_ok F T.m__law_is_cell sc__law_is_cell rfl hb ?_
  intro cdv A outer s H E c
  exact dss_cons (ds_if (dt_cmp op_isN oIsN_ok (de_var (pv 1)) (de_non)) (dss_one (ds_ret (de_bl))) (dss_nil))
    (dss_cons (ds_if (dt_not (dt_tru (de_call (ok__law_is_unit T) c.tk (c.room.mono (by decide)) (da_cons (de_var (pv 0)) (da_cons (de_var (pv 1)) (da_nil)))))) (dss_one (ds_ret (de_bl))) (dss_nil))
    (dss_one (ds_ret (de_callB (cr_all rfl) oAll_ok T.b_all bt_all (da_cons (de_lc lcF_ok rfl c.nd (blkOk_by (own := [("_law_exponent_here", 2)]) (N := ["_law_bases", "_law_thing_here", "_law_exponent_here"]) (sc := defScope s__law_is_cell) (by decide +kernel)) (di_seq (de_var (pv 1))) (fun _ _ _ _ _ => dg_name 2 c.nd) (fun _ _ _ _ _ => dts_yes) (fun _ _ _ _ _ => de_and (de_cmp op_le oLe_ok (de_callB call_abs oAbs_ok T.b_abs bt_abs (da_cons (de_ix ix_seq oIx_ok (de_var (pv 2)) (de_int)) (da_nil))) (de_int)) (de_one (de_cmp op_le oLe_ok (de_ix ix_seq oIx_ok (de_var (pv 2)) (de_int)) (de_int))))) (da_nil))))))
theorem sc__law_are_numbers : FnScope ["_law_rows_here", "_law_thing_here", "_law_i", "_law_j"] ["_law_rows_here", "_law_thing_here"] (defScope s__law_are_numbers) := ⟨rfl, rfl, rfl, by decide +kernel, rfl, by decide +kernel, by decide +kernel⟩
theorem ok__law_are_numbers (T : Txt K mg) : FnD P w K mg base 3 "_law_are_numbers" 2 (g__law_are_numbers (He.ga K)) := by
  obtain ⟨fd, F⟩ := T.d__law_are_numbers
  have hb : ∀ (kV doc pm : Value) (an : Option Addr) (cdv ct : Value) (us : List Value), us.length = (["_law_rows_here", "_law_thing_here"] : List Str).length → bindArgs (PySem.W.fnOf "_law_are_numbers" "_law_are_numbers" (defArgs s__law_are_numbers) (defBody s__law_are_numbers) (defScope s__law_are_numbers) .none kV doc pm an cdv ct) ⟨us, []⟩ = pure ((["_law_rows_here", "_law_thing_here"] : List Str).zip us) := (fun _ _ _ _ _ _ us hl => match us, hl with | [_, _], _ => rfl)
  refine FnD.as (g := dDef giveS 2 (["_law_rows_here", "_law_thing_here", "_law_i", "_law_j"] : List Str).length (F__law_are_numbers (He.ga K))) ?_ rfl
  refine fnD_mk (k := 2) (fb := F__law_are_numbers (He.ga K)) giveS_ok F T.m__law_are_numbers sc__law_are_numbers rfl hb ?_
  intro cdv A outer s H E c
  exact dss_cons (ds_if (L2.PW.pt (dw_or (dt_not (dt_tru (de_callB call_isi (oIsiI_ok (own1 T.o_Grid)) T.b_isinstance bt_isinstance (da_cons (de_var (pv 1)) (da_cons (de_ty T.b_tuple bt_tuple) (da_nil)))))) (dw_or1 (dt_cmp (op_neD c.room.units) oNe_ok (de_callB call_len_seq oLen_ok T.b_len bt_len (da_cons (de_var (pv 1)) (da_nil))) (de_callB call_len_seq oLen_ok T.b_len bt_len (da_cons (de_var (pv 0)) (da_nil))))))) (dss_one (ds_ret (de_bl))) (dss_nil))
    (dss_cons (ds_for (vs := [2]) c.po rfl (di_rng1 T.b_range (da_cons (de_callB call_len_seq oLen_ok T.b_len bt_len (da_cons (de_var (pv 0)) (da_nil))) (da_nil))) (dg_name 2 c.nd) (dss_cons (ds_if (L2.PW.pt (dw_or (dt_not (dt_tru (de_callB call_isi (oIsiI_ok (own1 T.o_Grid)) T.b_isinstance bt_isinstance (da_cons (de_ix ix_seq oIx_ok (de_var (pv 1)) (de_var (pv 2))) (da_cons (de_ty T.b_tuple bt_tuple) (da_nil)))))) (dw_or1 (dt_cmp (op_neD c.room.units) oNe_ok (de_callB call_len_seq oLen_ok T.b_len bt_len (da_cons (de_ix ix_seq oIx_ok (de_var (pv 1)) (de_var (pv 2))) (da_nil))) (de_callB call_len_seq oLen_ok T.b_len bt_len (da_cons (de_ix ix_seq oIx_ok (de_var (pv 0)) (de_var (pv 2))) (da_nil))))))) (dss_one (ds_ret (de_bl))) (dss_nil))
    (dss_one (ds_for (vs := [3]) c.po rfl (di_rng1 T.b_range (da_cons (de_callB call_len_seq oLen_ok T.b_len bt_len (da_cons (de_ix ix_seq oIx_ok (de_var (pv 0)) (de_var (pv 2))) (da_nil))) (da_nil))) (dg_name 3 c.nd) (dss_one (ds_if (L2.PW.pt (dw_or (dt_not (dt_tru (de_call (ok__law_is_fraction T) c.tk (c.room.mono (by decide)) (da_cons (de_ix ix_seq oIx_ok (de_ix ix_seq oIx_ok (de_var (pv 1)) (de_var (pv 2))) (de_var (pv 3))) (da_nil))))) (dw_or1 (L2.PW.pt (dw_and (dt_cmp op_isN oIsN_ok (de_ix ix_seq oIx_ok (de_ix ix_seq oIx_ok (de_var (pv 0)) (de_var (pv 2))) (de_var (pv 3))) (de_non)) (dw_and1 (dt_cmp (op_neD c.room.units) oNe_ok (de_ix ix_seq oIx_ok (de_ix ix_seq oIx_ok (de_var (pv 1)) (de_var (pv 2))) (de_var (pv 3))) (de_tup (da_cons (de_int) (da_cons (de_int) (da_nil))))))))))) (dss_one (ds_ret (de_bl))) (dss_nil)))))))
    (dss_one (ds_ret (de_bl))))
theorem sc__law_odd : FnScope ["_law_state_here", "_law_deep", "_law_k", "_law_first", "_law_second", "_law_third", "_law_things"] ["_law_state_here"] (defScope s__law_odd) := ⟨rfl, rfl, rfl, by decide +kernel, rfl, by decide +kernel, by decide +kernel⟩
theorem ok__law_odd (T : Txt K mg) : FnD P w K mg base 8 "_law_odd" 1 (g__law_odd (He.ga K)) := by
  obtain ⟨fd, F⟩ := T.d__law_odd
  have hb : ∀ (kV doc pm : Value) (an : Option Addr) (cdv ct : Value) (us : List Value), us.length = (["_law_state_here"] : List Str).length → bindArgs (PySem.W.fnOf "_law_odd" "_law_odd" (defArgs s__law_odd) (defBody s__law_odd) (defScope s__law_odd) .none kV doc pm an cdv ct) ⟨us, []⟩ = pure ((["_law_state_here"] : List Str).zip us) := (fun _ _ _ _ _ _ us hl => match us, hl with | [_], _ => rfl)
  refine FnD.as (g := dDef giveS 1 (["_law_state_here", "_law_deep", "_law_k", "_law_first", "_law_second", "_law_third", "_law_things"] : List Str).length (F__law_odd (He.ga K))) ?_ rfl
  refine fnD_mk (k := 7) (fb := F__law_odd (He.ga K)) giveS_ok F T.m__law_odd sc__law_odd rfl hb ?_
  intro cdv A outer s H E c
  exact dss_cons (ds_set 1 c.nd (de_tup (da_cons (de_int) (da_cons (de_int) (da_nil)))))
    (dss_cons (ds_for (vs := [2]) c.po rfl (di_rng1 T.b_range (da_cons (de_int) (da_nil))) (dg_name 2 c.nd) (dss_one (ds_set 1 c.nd (de_tup (da_cons (de_var (pv 1)) (da_nil))))))
    (dss_cons (ds_set 3 c.nd (de_loc (da_cons (de_non) (da_cons (de_bl) (da_cons (de_bl) (da_cons (de_int) (da_cons (de_neg (de_int)) (da_cons (de_op op_pow oPow_ok (de_int) (de_int)) (da_cons (de_str) (da_cons (de_str) (da_cons (de_str) (da_cons (de_tup (da_nil)) (da_cons (de_lst (da_nil)) (da_cons (de_dct0) (da_cons (de_tup (da_cons (de_int) (da_nil))) (da_cons (de_lst (da_cons (de_int) (da_nil))) (da_cons (de_dct1) (da_cons (de_tup (da_cons (de_int) (da_cons (de_int) (da_nil)))) (da_cons (de_lst (da_cons (de_tup (da_cons (de_int) (da_cons (de_int) (da_nil)))) (da_nil))) (da_nil))))))))))))))))))))
    (dss_cons (ds_set 4 c.nd (de_loc (da_cons (de_tup (da_cons (de_tup (da_cons (de_int) (da_cons (de_int) (da_nil)))) (da_nil))) (da_cons (de_tup (da_cons (de_tup (da_cons (de_int) (da_cons (de_int) (da_nil)))) (da_cons (de_tup (da_cons (de_int) (da_cons (de_int) (da_nil)))) (da_nil)))) (da_cons (de_tup (da_cons (de_tup (da_cons (de_int) (da_cons (de_int) (da_nil)))) (da_cons (de_non) (da_nil)))) (da_cons (de_tup (da_cons (de_tup (da_cons (de_int) (da_cons (de_int) (da_nil)))) (da_nil))) (da_cons (de_tup (da_cons (de_tup (da_cons (de_int) (da_cons (de_int) (da_nil)))) (da_nil))) (da_cons (de_tup (da_cons (de_tup (da_cons (de_int) (da_cons (de_neg (de_int)) (da_nil)))) (da_nil))) (da_cons (de_tup (da_cons (de_tup (da_cons (de_bl) (da_cons (de_int) (da_nil)))) (da_nil))) (da_cons (de_var (pv 1)) (da_nil)))))))))))
    (dss_cons (ds_set 5 c.nd (de_loc (da_cons (de_lst (da_cons (de_var (pv 1)) (da_nil))) (da_cons (de_makeE T.k_Grid (ok_Grid__init__ T) T.m_Grid (c.room.mono (by decide)) (da_cons (de_int) (da_cons (de_tup (da_cons (de_tup (da_cons (de_non) (da_nil))) (da_nil))) (da_nil)))) (da_cons (de_tup (da_cons (de_makeE T.k_Grid (ok_Grid__init__ T) T.m_Grid (c.room.mono (by decide)) (da_cons (de_int) (da_cons (de_tup (da_cons (de_tup (da_cons (de_non) (da_nil))) (da_nil))) (da_nil)))) (da_nil))) (da_cons (de_tup (da_cons (de_tup (da_cons (de_int) (da_cons (de_int) (da_nil)))) (da_cons (de_lst (da_cons (de_int) (da_cons (de_int) (da_nil)))) (da_nil)))) (da_cons (de_op (opr_or op_repT op_repT1) oRepA_ok (de_tup (da_cons (de_tup (da_cons (de_int) (da_cons (de_int) (da_nil)))) (da_nil))) (de_int)) (da_cons (de_tup (da_cons (de_str) (da_cons (de_str) (da_nil)))) (da_cons (de_tup (da_cons (de_int) (da_cons (de_int) (da_nil)))) (da_nil))))))))))
    (dss_cons (ds_set 6 c.nd (de_op op_cat oCatL_ok (de_op op_cat oCatL_ok (de_var (pv 3)) (de_var (pv 4))) (de_var (pv 5))))
    (dss_one (ds_ret (de_ix ix_seq oIx_ok (de_var (pv 6)) (de_call (ok__law_draw T) c.tk (c.room.mono (by decide)) (da_cons (de_var (pv 0)) (da_cons (de_callB call_len_seq oLen_ok T.b_len bt_len (da_cons (de_var (pv 6)) (da_nil))) (da_nil))))))))))))
theorem sc__law_place : FnScope ["_law_state_here", "_law_many", "_law_kind"] ["_law_state_here", "_law_many"] (defScope s__law_place) := ⟨rfl, rfl, rfl, by decide +kernel, rfl, by decide +kernel, by decide +kernel⟩
theorem ok__law_place (T : Txt K mg) : FnD P w K mg base 9 "_law_place" 2 (g__law_place (He.ga K)) := by
  obtain ⟨fd, F⟩ := T.d__law_place
  have hb : ∀ (kV doc pm : Value) (an : Option Addr) (cdv ct : Value) (us : List Value), us.length = (["_law_state_here", "_law_many"] : List Str).length → bindArgs (PySem.W.fnOf "_law_place" "_law_place" (defArgs s__law_place) (defBody s__law_place) (defScope s__law_place) .none kV doc pm an cdv ct) ⟨us, []⟩ = pure ((["_law_state_here", "_law_many"] : List Str).zip us) := (fun _ _ _ _ _ _ us hl => match us, hl with | [_, _], _ => rfl)
  refine FnD.as (g := dDef giveS 2 (["_law_state_here", "_law_many", "_law_kind"] : List Str).length (F__law_place (He.ga K))) ?_ rfl
  refine fnD_mk (k := 8) (fb := F__law_place (He.ga K)) giveS_ok F T.m__law_place sc__law_place rfl hb ?_
  intro cdv A outer s H E c
  exact dss_cons (ds_set 2 c.nd (de_call (ok__law_draw T) c.tk (c.room.mono (by decide)) (da_cons (de_var (pv 0)) (da_cons (de_int) (da_nil)))))
    (dss_cons (ds_if (dt_cmp (op_eqD c.room.units) oEq_ok (de_var (pv 2)) (de_int)) (dss_one (ds_ret (de_call (ok__law_odd T) c.tk (c.room.mono (by decide)) (da_cons (de_var (pv 0)) (da_nil))))) (dss_nil))
    (dss_cons (ds_if (dt_cmp (op_eqD c.room.units) oEq_ok (de_var (pv 2)) (de_int)) (dss_one (ds_ret (de_ix ix_seq oIx_ok (de_lst (da_cons (de_neg (de_int)) (da_cons (de_var (pv 1)) (da_cons (de_op op_add oAdd_ok (de_var (pv 1)) (de_int)) (da_cons (de_op op_pow oPow_ok (de_int) (de_int)) (da_nil)))))) (de_call (ok__law_draw T) c.tk (c.room.mono (by decide)) (da_cons (de_var (pv 0)) (da_cons (de_int) (da_nil))))))) (dss_nil))
    (dss_one (ds_ret (de_call (ok__law_draw T) c.tk (c.room.mono (by decide)) (da_cons (de_var (pv 0)) (da_cons (de_var (pv 1)) (da_nil))))))))
theorem sc__law_is_place : FnScope ["_law_thing_here", "_law_many"] ["_law_thing_here", "_law_many"] (defScope s__law_is_place) := ⟨rfl, rfl, rfl, by decide +kernel, rfl, by decide +kernel, by decide +kernel⟩
theorem ok__law_is_place (T : Txt K mg) : FnD P w K mg base 2 "_law_is_place" 2 (g__law_is_place (He.ga K)) := by
  obtain ⟨fd, F⟩ := T.d__law_is_place
  have hb : ∀ (kV doc pm : Value) (an : Option Addr) (cdv ct : Value) (us : List Value), us.length = (["_law_thing_here", "_law_many"] : List Str).length → bindArgs (PySem.W.fnOf "_law_is_place" "_law_is_place" (defArgs s__law_is_place) (defBody s__law_is_place) (defScope s__law_is_place) .none kV doc pm an cdv ct) ⟨us, []⟩ = pure ((["_law_thing_here", "_law_many"] : List Str).zip us) := (fun _ _ _ _ _ _ us hl => match us, hl with | [_, _], _ => rfl)
  refine FnD.as (g := dDef giveS 2 (["_law_thing_here", "_law_many"] : List Str).length (F__law_is_place (He.ga K))) ?_ rfl
  refine fnD_mk (k := 1) (fb := F__law_is_place (He.ga K)) giveS_ok F T.m__law_is_place sc__law_is_place rfl hb ?_
  intro cdv A outer s H E c
  exact dss_one (ds_ret (de_and (de_call (ok__law_is_integer T) c.tk (c.room.mono (by decide)) (da_cons (de_var (pv 0)) (da_nil))) (de_one (de_chain op_le op_lt oLe_ok oLt_ok (de_int) (de_var (pv 0)) (de_var (pv 1))))))
theorem sc__law_item : FnScope ["_law_state_here", "_law_kind", "_law_upper"] ["_law_state_here"] (defScope s__law_item) := ⟨rfl, rfl, rfl, by decide +kernel, rfl, by decide +kernel, by decide +kernel⟩
theorem ok__law_item (T : Txt K mg) : FnD P w K mg base 9 "_law_item" 1 (g__law_item (He.ga K)) := by
  obtain ⟨fd, F⟩ := T.d__law_item
  have hb : ∀ (kV doc pm : Value) (an : Option Addr) (cdv ct : Value) (us : List Value), us.length = (["_law_state_here"] : List Str).length → bindArgs (PySem.W.fnOf "_law_item" "_law_item" (defArgs s__law_item) (defBody s__law_item) (defScope s__law_item) .none kV doc pm an cdv ct) ⟨us, []⟩ = pure ((["_law_state_here"] : List Str).zip us) := (fun _ _ _ _ _ _ us hl => match us, hl with | [_], _ => rfl)
  refine FnD.as (g := dDef giveS 1 (["_law_state_here", "_law_kind", "_law_upper"] : List Str).length (F__law_item (He.ga K))) ?_ rfl
  refine fnD_mk (k := 8) (fb := F__law_item (He.ga K)) giveS_ok F T.m__law_item sc__law_item rfl hb ?_
  intro cdv A outer s H E c
  exact dss_cons (ds_set 1 c.nd (de_call (ok__law_draw T) c.tk (c.room.mono (by decide)) (da_cons (de_var (pv 0)) (da_cons (de_int) (da_nil)))))
    (dss_cons (ds_if (dt_cmp (op_eqD c.room.units) oEq_ok (de_var (pv 1)) (de_int)) (dss_one (ds_ret (de_call (ok__law_odd T) c.tk (c.room.mono (by decide)) (da_cons (de_var (pv 0)) (da_nil))))) (dss_nil))
    (dss_cons (ds_set 2 c.nd (de_op op_add oAdd_ok (de_int) (de_call (ok__law_draw T) c.tk (c.room.mono (by decide)) (da_cons (de_var (pv 0)) (da_cons (de_int) (da_nil))))))
    (dss_one (ds_ret (de_ix ix_seq oIx_ok (de_lst (da_cons (de_tup (da_cons (de_neg (de_var (pv 2))) (da_cons (de_int) (da_nil)))) (da_cons (de_tup (da_cons (de_op op_mulW oMul_ok (de_int) (de_var (pv 2))) (da_cons (de_int) (da_nil)))) (da_cons (de_tup (da_cons (de_int) (da_cons (de_int) (da_nil)))) (da_cons (de_tup (da_cons (de_var (pv 2)) (da_cons (de_int) (da_nil)))) (da_cons (de_lst (da_cons (de_var (pv 2)) (da_cons (de_int) (da_nil)))) (da_nil))))))) (de_op op_sub oSub_ok (de_var (pv 1)) (de_int)))))))
theorem sc__law_numbers : FnScope ["_law_state_here", "_law_rows_here", "_law_found_here", "_law_k", "_law_kind", "_law_i", "_law_row", "_law_item_here"] ["_law_state_here", "_law_rows_here"] (defScope s__law_numbers) := ⟨rfl, rfl, rfl, by decide +kernel, rfl, by decide +kernel, by decide +kernel⟩
theorem ok__law_numbers (T : Txt K mg) : FnD P w K mg base 10 "_law_numbers" 2 (g__law_numbers (He.ga K)) := by
  obtain ⟨fd, F⟩ := T.d__law_numbers
  have hb : ∀ (kV doc pm : Value) (an : Option Addr) (cdv ct : Value) (us : List Value), us.length = (["_law_state_here", "_law_rows_here"] : List Str).length → bindArgs (PySem.W.fnOf "_law_numbers" "_law_numbers" (defArgs s__law_numbers) (defBody s__law_numbers) (defScope s__law_numbers) .none kV doc pm an cdv ct) ⟨us, []⟩ = pure ((["_law_state_here", "_law_rows_here"] : List Str).zip us) := (fun _ _ _ _ _ _ us hl => match us, hl with | [_, _], _ => rfl)
  refine FnD.as (g := dDef giveS 2 (["_law_state_here", "_law_rows_here", "_law_found_here", "_law_k", "_law_kind", "_law_i", "_law_row", "_law_item_here"] : List Str).length (F__law_numbers (He.ga K))) ?_ rfl
  refine fnD_mk (k := 9) (fb := F__law_numbers (He.ga K)) giveS_ok F T.m__law_numbers sc__law_numbers rfl hb ?_
  intro cdv A outer s H E c
  exact dss_cons (ds_set 2 c.nd (de_callTy call_tuple_of oTuple_ok T.b_tuple bt_tuple (da_cons (de_lc lcF_ok rfl c.nd (blkOk_by (own := [("_law_row", 6)]) (N := ["_law_state_here", "_law_rows_here", "_law_found_here", "_law_k", "_law_kind", "_law_i", "_law_row", "_law_item_here"]) (sc := defScope s__law_numbers) (by decide +kernel)) (di_seq (de_var (pv 1))) (fun _ _ _ _ _ => dg_name 6 c.nd) (fun _ _ _ _ _ => dts_yes) (fun _ _ _ _ _ => de_callTy call_tuple_of oTuple_ok T.b_tuple bt_tuple (da_cons (by refine de_lc (own := [("_law_item_here", 7)]) lcF_ok rfl c.nd (blkOk_by (by kernel_rfl)) ?_ ?_ ?_ ?_; exact di_seq (de_var (pv 6)); exact (fun _ _ _ _ _ => dg_name 7 c.nd); exact (fun _ _ _ _ _ => dts_yes); exact (fun _ _ _ _ _ => de_if (dt_cmp op_isN oIsN_ok (de_var (pv 7)) (de_non)) (de_tup (da_cons (de_int) (da_cons (de_int) (da_nil)))) (de_tup (da_cons (de_op op_add oAdd_ok (de_int) (de_call (ok__law_draw T) takes0 (c.room.mono (by decide)) (da_cons (de_var (pv 0)) (da_cons (de_int) (da_nil))))) (da_cons (de_int) (da_nil)))))) (da_nil)))) (da_nil))))
    (dss_cons (ds_for (vs := [3]) c.po rfl (di_rng1 T.b_range (da_cons (de_call (ok__law_draw T) c.tk (c.room.mono (by decide)) (da_cons (de_var (pv 0)) (da_cons (de_int) (da_nil)))) (da_nil))) (dg_name 3 c.nd) (dss_cons (ds_set 5 c.nd (de_call (ok__law_draw T) c.tk (c.room.mono (by decide)) (da_cons (de_var (pv 0)) (da_cons (de_callB call_len_seq oLen_ok T.b_len bt_len (da_cons (de_var (pv 1)) (da_nil))) (da_nil)))))
    (dss_one (ds_set 2 c.nd (de_call (ok__law_with T) c.tk (c.room.mono (by decide)) (da_cons (de_var (pv 2)) (da_cons (de_var (pv 5)) (da_cons (de_call (ok__law_draw T) c.tk (c.room.mono (by decide)) (da_cons (de_var (pv 0)) (da_cons (de_callB call_len_seq oLen_ok T.b_len bt_len (da_cons (de_ix ix_seq oIx_ok (de_var (pv 1)) (de_var (pv 5))) (da_nil))) (da_nil)))) (da_cons (de_call (ok__law_item T) c.tk (c.room.mono (by decide)) (da_cons (de_var (pv 0)) (da_nil))) (da_nil))))))))))
    (dss_cons (ds_set 4 c.nd (de_call (ok__law_draw T) c.tk (c.room.mono (by decide)) (da_cons (de_var (pv 0)) (da_cons (de_int) (da_nil)))))
    (dss_cons (ds_if (dt_cmp (op_eqD c.room.units) oEq_ok (de_var (pv 4)) (de_int)) (dss_one (ds_ret (de_call (ok__law_odd T) c.tk (c.room.mono (by decide)) (da_cons (de_var (pv 0)) (da_nil))))) (dss_nil))
    (dss_cons (ds_if (dt_cmp (op_eqD c.room.units) oEq_ok (de_var (pv 4)) (de_int)) (dss_one (ds_ret (de_callTy call_list_of oList_ok T.b_list bt_list (da_cons (de_var (pv 2)) (da_nil))))) (dss_nil))
    (dss_cons (ds_if (dt_cmp (op_eqD c.room.units) oEq_ok (de_var (pv 4)) (de_int)) (dss_one (ds_ret (de_sl sl_A oSlA_ok (de_var (pv 2)) (do_some (de_int)) (do_none)))) (dss_nil))
    (dss_cons (ds_if (dt_cmp (op_eqD c.room.units) oEq_ok (de_var (pv 4)) (de_int)) (dss_one (ds_ret (de_op op_catA oCat_ok (de_sl sl_A oSlA_ok (de_var (pv 2)) (do_none) (do_some (de_neg (de_int)))) (de_tup (da_cons (de_callTy call_list_of oList_ok T.b_list bt_list (da_cons (de_ix ix_seq oIx_ok (de_var (pv 2)) (de_neg (de_int))) (da_nil))) (da_nil)))))) (dss_nil))
    (dss_cons (ds_if (dt_cmp (op_eqD c.room.units) oEq_ok (de_var (pv 4)) (de_int)) (dss_one (ds_ret (de_op op_catA oCat_ok (de_sl sl_A oSlA_ok (de_var (pv 2)) (do_none) (do_some (de_neg (de_int)))) (de_tup (da_cons (de_sl sl_A oSlA_ok (de_ix ix_seq oIx_ok (de_var (pv 2)) (de_neg (de_int))) (do_none) (do_some (de_neg (de_int)))) (da_nil)))))) (dss_nil))
    (dss_one (ds_ret (de_var (pv 2)))))))))))
theorem sc__law_some_roots : FnScope ["_law_state_here", "_law_bases", "_law_found_here", "_law_kind", "_law_at", "_law_k"] ["_law_state_here", "_law_bases"] (defScope s__law_some_roots) := ⟨rfl, rfl, rfl, by decide +kernel, rfl, by decide +kernel, by decide +kernel⟩
theorem ok__law_some_roots (T : Txt K mg) : FnD P w K mg base 10 "_law_some_roots" 2 (g__law_some_roots (He.ga K)) := by
  obtain ⟨fd, F⟩ := T.d__law_some_roots
  have hb : ∀ (kV doc pm : Value) (an : Option Addr) (cdv ct : Value) (us : List Value), us.length = (["_law_state_here", "_law_bases"] : List Str).length → bindArgs (PySem.W.fnOf "_law_some_roots" "_law_some_roots" (defArgs s__law_some_roots) (defBody s__law_some_roots) (defScope s__law_some_roots) .none kV doc pm an cdv ct) ⟨us, []⟩ = pure ((["_law_state_here", "_law_bases"] : List Str).zip us) := (fun _ _ _ _ _ _ us hl => match us, hl with | [_, _], _ => rfl)
  refine FnD.as (g := dDef giveS 2 (["_law_state_here", "_law_bases", "_law_found_here", "_law_kind", "_law_at", "_law_k"] : List Str).length (F__law_some_roots (He.ga K))) ?_ rfl
  refine fnD_mk (k := 9) (fb := F__law_some_roots (He.ga K)) giveS_ok F T.m__law_some_roots sc__law_some_roots rfl hb ?_
  intro cdv A outer s H E c
  exact dss_cons (ds_set 2 c.nd (de_callTy call_tuple_of oTuple_ok T.b_tuple bt_tuple (da_cons (de_lc lcF_ok rfl c.nd (blkOk_by (own := [("_law_k", 5)]) (N := ["_law_state_here", "_law_bases", "_law_found_here", "_law_kind", "_law_at", "_law_k"]) (sc := defScope s__law_some_roots) (by decide +kernel)) (di_rng1 T.b_range (da_cons (de_var (pv 1)) (da_nil))) (fun _ _ _ _ _ => dg_name 5 c.nd) (fun _ _ _ _ _ => dts_yes) (fun _ _ _ _ _ => de_tup (da_cons (de_op op_add oAdd_ok (de_int) (de_call (ok__law_draw T) takes0 (c.room.mono (by decide)) (da_cons (de_var (pv 0)) (da_cons (de_int) (da_nil))))) (da_cons (de_int) (da_nil))))) (da_nil))))
    (dss_cons (ds_set 3 c.nd (de_call (ok__law_draw T) c.tk (c.room.mono (by decide)) (da_cons (de_var (pv 0)) (da_cons (de_int) (da_nil)))))
    (dss_cons (ds_if (dt_cmp (op_eqD c.room.units) oEq_ok (de_var (pv 3)) (de_int)) (dss_one (ds_ret (de_call (ok__law_odd T) c.tk (c.room.mono (by decide)) (da_cons (de_var (pv 0)) (da_nil))))) (dss_nil))
    (dss_cons (ds_if (dt_cmp (op_eqD c.room.units) oEq_ok (de_var (pv 3)) (de_int)) (dss_cons (ds_set 4 c.nd (de_call (ok__law_draw T) c.tk (c.room.mono (by decide)) (da_cons (de_var (pv 0)) (da_cons (de_var (pv 1)) (da_nil)))))
    (dss_one (ds_ret (de_op op_catA oCat_ok (de_op op_catA oCat_ok (de_sl sl_A oSlA_ok (de_var (pv 2)) (do_none) (do_some (de_var (pv 4)))) (de_tup (da_cons (de_call (ok__law_item T) c.tk (c.room.mono (by decide)) (da_cons (de_var (pv 0)) (da_nil))) (da_nil)))) (de_sl sl_A oSlA_ok (de_var (pv 2)) (do_some (de_op op_add oAdd_ok (de_var (pv 4)) (de_int))) (do_none)))))) (dss_nil))
    (dss_cons (ds_if (dt_cmp (op_eqD c.room.units) oEq_ok (de_var (pv 3)) (de_int)) (dss_one (ds_ret (de_op op_catA oCat_ok (de_var (pv 2)) (de_tup (da_cons (de_tup (da_cons (de_int) (da_cons (de_int) (da_nil)))) (da_nil)))))) (dss_nil))
    (dss_one (ds_ret (de_var (pv 2))))))))
theorem sc__law_are_values : FnScope ["_law_rows_here", "_law_thing_here", "_law_i", "_law_j"] ["_law_rows_here", "_law_thing_here"] (defScope s__law_are_values) := ⟨rfl, rfl, rfl, by decide +kernel, rfl, by decide +kernel, by decide +kernel⟩
theorem ok__law_are_values (T : Txt K mg) : FnD P w K mg base 4 "_law_are_values" 2 (g__law_are_values (He.ga K)) := by
  obtain ⟨fd, F⟩ := T.d__law_are_values
  have hb : ∀ (kV doc pm : Value) (an : Option Addr) (cdv ct : Value) (us : List Value), us.length = (["_law_rows_here", "_law_thing_here"] : List Str).length → bindArgs (PySem.W.fnOf "_law_are_values" "_law_are_values" (defArgs s__law_are_values) (defBody s__law_are_values) (defScope s__law_are_values) .none kV doc pm an cdv ct) ⟨us, []⟩ = pure ((["_law_rows_here", "_law_thing_here"] : List Str).zip us) := (fun _ _ _ _ _ _ us hl => match us, hl with | [_, _], _ => rfl)
  refine FnD.as (g := dDef giveS 2 (["_law_rows_here", "_law_thing_here", "_law_i", "_law_j"] : List Str).length (F__law_are_values (He.ga K))) ?_ rfl
  refine fnD_mk (k := 3) (fb := F__law_are_values (He.ga K)) giveS_ok F T.m__law_are_values sc__law_are_values rfl hb ?_
  intro cdv A outer s H E c
  exact dss_cons (ds_if (dt_not (dt_tru (de_call (ok__law_are_numbers T) c.tk (c.room.mono (by decide)) (da_cons (de_var (pv 0)) (da_cons (de_var (pv 1)) (da_nil)))))) (dss_one (ds_ret (de_bl))) (dss_nil))
    (dss_cons (ds_for (vs := [2]) c.po rfl (di_rng1 T.b_range (da_cons (de_callB call_len_seq oLen_ok T.b_len bt_len (da_cons (de_var (pv 0)) (da_nil))) (da_nil))) (dg_name 2 c.nd) (dss_one (ds_for (vs := [3]) c.po rfl (di_rng1 T.b_range (da_cons (de_callB call_len_seq oLen_ok T.b_len bt_len (da_cons (de_ix ix_seq oIx_ok (de_var (pv 0)) (de_var (pv 2))) (da_nil))) (da_nil))) (dg_name 3 c.nd) (dss_one (ds_if (L2.PW.pt (dw_and (dt_cmp op_notN oNotN_ok (de_ix ix_seq oIx_ok (de_ix ix_seq oIx_ok (de_var (pv 0)) (de_var (pv 2))) (de_var (pv 3))) (de_non)) (dw_and1 (dt_cmp op_le oLe_ok (de_ix ix_seq oIx_ok (de_ix ix_seq oIx_ok (de_ix ix_seq oIx_ok (de_var (pv 1)) (de_var (pv 2))) (de_var (pv 3))) (de_int)) (de_int))))) (dss_one (ds_ret (de_bl))) (dss_nil))))))
    (dss_one (ds_ret (de_bl))))
theorem sc__law_called : FnScope ["_law_which", "_law_grid", "_law_first", "_law_second", "_law_third"] ["_law_which", "_law_grid", "_law_first", "_law_second", "_law_third"] (defScope s__law_called) := ⟨rfl, rfl, rfl, by decide +kernel, rfl, by decide +kernel, by decide +kernel⟩
theorem ok__law_called (T : Txt K mg) : FnD P w K mg base 9 "_law_called" 5 (g__law_called (He.ga K)) := by
  obtain ⟨fd, F⟩ := T.d__law_called
  have hb : ∀ (kV doc pm : Value) (an : Option Addr) (cdv ct : Value) (us : List Value), us.length = (["_law_which", "_law_grid", "_law_first", "_law_second", "_law_third"] : List Str).length → bindArgs (PySem.W.fnOf "_law_called" "_law_called" (defArgs s__law_called) (defBody s__law_called) (defScope s__law_called) .none kV doc pm an cdv ct) ⟨us, []⟩ = pure ((["_law_which", "_law_grid", "_law_first", "_law_second", "_law_third"] : List Str).zip us) := (fun _ _ _ _ _ _ us hl => match us, hl with | [_, _, _, _, _], _ => rfl)
  refine FnD.as (g := dDef giveS 5 (["_law_which", "_law_grid", "_law_first", "_law_second", "_law_third"] : List Str).length (F__law_called (He.ga K))) ?_ rfl
  refine fnD_mk (k := 8) (fb := F__law_called (He.ga K)) giveS_ok F T.m__law_called sc__law_called rfl hb ?_
  intro cdv A outer s H E c
  exact dss_cons (ds_if (dt_cmp (op_eqD c.room.units) oEq_ok (de_var (pv 0)) (de_int)) (dss_one (ds_ret (de_call (ok_cell T) c.tk (c.room.mono (by decide)) (da_cons (de_var (pv 1)) (da_cons (de_var (pv 2)) (da_cons (de_var (pv 3)) (da_nil))))))) (dss_nil))
    (dss_cons (ds_if (dt_cmp (op_eqD c.room.units) oEq_ok (de_var (pv 0)) (de_int)) (dss_one (ds_ret (de_call (ok_retold T) c.tk (c.room.mono (by decide)) (da_cons (de_var (pv 1)) (da_cons (de_var (pv 2)) (da_cons (de_var (pv 3)) (da_cons (de_var (pv 4)) (da_nil)))))))) (dss_nil))
    (dss_one (ds_ret (de_call (ok_renumbered T) c.tk (c.room.mono (by decide)) (da_cons (de_var (pv 1)) (da_cons (de_var (pv 2)) (da_cons (de_var (pv 3)) (da_nil))))))))
theorem sc__law_found : FnScope ["_law_which", "_law_grid", "_law_first", "_law_second", "_law_third", "_law_found_here"] ["_law_which", "_law_grid", "_law_first", "_law_second", "_law_third"] (defScope s__law_found) := ⟨rfl, rfl, rfl, by decide +kernel, rfl, by decide +kernel, by decide +kernel⟩
theorem ok__law_found (T : Txt K mg) : FnD P w K mg base 10 "_law_found" 5 (g__law_found (He.ga K)) := by
  obtain ⟨fd, F⟩ := T.d__law_found
  have hb : ∀ (kV doc pm : Value) (an : Option Addr) (cdv ct : Value) (us : List Value), us.length = (["_law_which", "_law_grid", "_law_first", "_law_second", "_law_third"] : List Str).length → bindArgs (PySem.W.fnOf "_law_found" "_law_found" (defArgs s__law_found) (defBody s__law_found) (defScope s__law_found) .none kV doc pm an cdv ct) ⟨us, []⟩ = pure ((["_law_which", "_law_grid", "_law_first", "_law_second", "_law_third"] : List Str).zip us) := (fun _ _ _ _ _ _ us hl => match us, hl with | [_, _, _, _, _], _ => rfl)
  refine FnD.as (g := dDef giveS 5 (["_law_which", "_law_grid", "_law_first", "_law_second", "_law_third", "_law_found_here"] : List Str).length (F__law_found (He.ga K))) ?_ rfl
  refine fnD_mk (k := 9) (fb := F__law_found (He.ga K)) giveS_ok F T.m__law_found sc__law_found rfl hb ?_
  intro cdv A outer s H E c
  exact dss_cons (ds_set 5 c.nd (de_str))
    (dss_cons (ds_try rfl rfl c.tk (fun W pn xe tk1 po1 => dss_one (ds_drop (de_call (ok__law_called T) tk1 (c.room.mono (by decide)) (da_cons (de_var (pv 0)) (da_cons (de_var (pv 1)) (da_cons (de_var (pv 2)) (da_cons (de_var (pv 3)) (da_cons (de_var (pv 4)) (da_nil))))))))) (.cons ⟨rfl, by decide, .inl T.m_NoCell⟩ (fun z hz => T.exm z hz "NoCell" (by decide)) (fun a oe cls d pn => dss_one (ds_set 5 c.nd (de_str))) (.cons ⟨rfl, by decide, .inl T.m_NoUnit⟩ (fun z hz => T.exm z hz "NoUnit" (by decide)) (fun a oe cls d pn => dss_one (ds_set 5 c.nd (de_str))) (.cons ⟨rfl, by decide, .inl T.m_NoNumbers⟩ (fun z hz => T.exm z hz "NoNumbers" (by decide)) (fun a oe cls d pn => dss_one (ds_set 5 c.nd (de_str))) (.cons ⟨rfl, by decide, .inl T.m_NoRoots⟩ (fun z hz => T.exm z hz "NoRoots" (by decide)) (fun a oe cls d pn => dss_one (ds_set 5 c.nd (de_str))) (.cons ⟨rfl, by decide, .inl T.m_GridError⟩ (fun z hz => T.exm z hz "GridError" (by decide)) (fun a oe cls d pn => dss_one (ds_set 5 c.nd (de_str))) (.nil)))))))
    (dss_one (ds_ret (de_var (pv 5)))))
theorem sc__law_thing : FnScope ["_law_state_here", "_law_bases", "_law_kind", "_law_edge", "_law_unit_here"] ["_law_state_here", "_law_bases"] (defScope s__law_thing) := ⟨rfl, rfl, rfl, by decide +kernel, rfl, by decide +kernel, by decide +kernel⟩
theorem ok__law_thing (T : Txt K mg) : FnD P w K mg base 9 "_law_thing" 2 (g__law_thing (He.ga K)) := by
  obtain ⟨fd, F⟩ := T.d__law_thing
  have hb : ∀ (kV doc pm : Value) (an : Option Addr) (cdv ct : Value) (us : List Value), us.length = (["_law_state_here", "_law_bases"] : List Str).length → bindArgs (PySem.W.fnOf "_law_thing" "_law_thing" (defArgs s__law_thing) (defBody s__law_thing) (defScope s__law_thing) .none kV doc pm an cdv ct) ⟨us, []⟩ = pure ((["_law_state_here", "_law_bases"] : List Str).zip us) := (fun _ _ _ _ _ _ us hl => match us, hl with | [_, _], _ => rfl)
  refine FnD.as (g := dDef giveS 2 (["_law_state_here", "_law_bases", "_law_kind", "_law_edge", "_law_unit_here"] : List Str).length (F__law_thing (He.ga K))) ?_ rfl
  refine fnD_mk (k := 8) (fb := F__law_thing (He.ga K)) giveS_ok F T.m__law_thing sc__law_thing rfl hb ?_
  intro cdv A outer s H E c
  exact dss_cons (ds_set 2 c.nd (de_call (ok__law_draw T) c.tk (c.room.mono (by decide)) (da_cons (de_var (pv 0)) (da_cons (de_int) (da_nil)))))
    (dss_cons (ds_if (dt_cmp (op_eqD c.room.units) oEq_ok (de_var (pv 2)) (de_int)) (dss_one (ds_ret (de_call (ok__law_odd T) c.tk (c.room.mono (by decide)) (da_cons (de_var (pv 0)) (da_nil))))) (dss_nil))
    (dss_cons (ds_if (dt_cmp (op_eqD c.room.units) oEq_ok (de_var (pv 2)) (de_int)) (dss_one (ds_ret (de_call (ok__law_unit T) c.tk (c.room.mono (by decide)) (da_cons (de_var (pv 0)) (da_cons (de_op op_add oAdd_ok (de_int) (de_call (ok__law_draw T) c.tk (c.room.mono (by decide)) (da_cons (de_var (pv 0)) (da_cons (de_int) (da_nil))))) (da_nil)))))) (dss_nil))
    (dss_cons (ds_set 3 c.nd (de_ix ix_seq oIx_ok (de_lst (da_cons (de_tup (da_cons (de_int) (da_cons (de_int) (da_nil)))) (da_cons (de_tup (da_cons (de_int) (da_cons (de_int) (da_nil)))) (da_cons (de_tup (da_cons (de_neg (de_int)) (da_cons (de_int) (da_nil)))) (da_cons (de_tup (da_cons (de_neg (de_int)) (da_cons (de_int) (da_nil)))) (da_cons (de_tup (da_cons (de_int) (da_cons (de_int) (da_nil)))) (da_cons (de_tup (da_cons (de_int) (da_cons (de_int) (da_nil)))) (da_cons (de_tup (da_cons (de_neg (de_int)) (da_cons (de_int) (da_nil)))) (da_cons (de_tup (da_cons (de_int) (da_cons (de_int) (da_nil)))) (da_nil)))))))))) (de_call (ok__law_draw T) c.tk (c.room.mono (by decide)) (da_cons (de_var (pv 0)) (da_cons (de_int) (da_nil))))))
    (dss_cons (ds_set 4 c.nd (de_call (ok__law_unit T) c.tk (c.room.mono (by decide)) (da_cons (de_var (pv 0)) (da_cons (de_var (pv 1)) (da_nil)))))
    (dss_one (ds_ret (de_if (dt_cmp (op_eqD c.room.units) oEq_ok (de_var (pv 2)) (de_int)) (de_op op_catA oCat_ok (de_sl sl_A oSlA_ok (de_var (pv 4)) (do_none) (do_some (de_neg (de_int)))) (de_tup (da_cons (de_var (pv 3)) (da_nil)))) (de_var (pv 4)))))))))
theorem sc__law_rows : FnScope ["_law_state_here", "_law_bases", "_law_rows_here", "_law_columns", "_law_share", "_law_i", "_law_j"] ["_law_state_here", "_law_bases", "_law_rows_here", "_law_columns", "_law_share"] (defScope s__law_rows) := ⟨rfl, rfl, rfl, by decide +kernel, rfl, by decide +kernel, by decide +kernel⟩
theorem ok__law_rows (T : Txt K mg) : FnD P w K mg base 6 "_law_rows" 5 (g__law_rows (He.ga K)) := by
  obtain ⟨fd, F⟩ := T.d__law_rows
  have hb : ∀ (kV doc pm : Value) (an : Option Addr) (cdv ct : Value) (us : List Value), us.length = (["_law_state_here", "_law_bases", "_law_rows_here", "_law_columns", "_law_share"] : List Str).length → bindArgs (PySem.W.fnOf "_law_rows" "_law_rows" (defArgs s__law_rows) (defBody s__law_rows) (defScope s__law_rows) .none kV doc pm an cdv ct) ⟨us, []⟩ = pure ((["_law_state_here", "_law_bases", "_law_rows_here", "_law_columns", "_law_share"] : List Str).zip us) := (fun _ _ _ _ _ _ us hl => match us, hl with | [_, _, _, _, _], _ => rfl)
  refine FnD.as (g := dDef giveS 5 (["_law_state_here", "_law_bases", "_law_rows_here", "_law_columns", "_law_share", "_law_i", "_law_j"] : List Str).length (F__law_rows (He.ga K))) ?_ rfl
  refine fnD_mk (k := 5) (fb := F__law_rows (He.ga K)) giveS_ok F T.m__law_rows sc__law_rows rfl hb ?_
  intro cdv A outer s H E c
  exact dss_one (ds_ret (de_callTy call_tuple_of oTuple_ok T.b_tuple bt_tuple (da_cons (de_lc lcF_ok rfl c.nd (blkOk_by (own := [("_law_i", 5)]) (N := ["_law_state_here", "_law_bases", "_law_rows_here", "_law_columns", "_law_share", "_law_i", "_law_j"]) (sc := defScope s__law_rows) (by decide +kernel)) (di_rng1 T.b_range (da_cons (de_var (pv 2)) (da_nil))) (fun _ _ _ _ _ => dg_name 5 c.nd) (fun _ _ _ _ _ => dts_yes) (fun _ _ _ _ _ => de_callTy call_tuple_of oTuple_ok T.b_tuple bt_tuple (da_cons (by refine de_lc (own := [("_law_j", 6)]) lcF_ok rfl c.nd (blkOk_by (by kernel_rfl)) ?_ ?_ ?_ ?_; exact di_rng1 T.b_range (da_cons (de_var (pv 3)) (da_nil)); exact (fun _ _ _ _ _ => dg_name 6 c.nd); exact (fun _ _ _ _ _ => dts_yes); exact (fun _ _ _ _ _ => de_call (ok__law_cell T) takes0 (c.room.mono (by decide)) (da_cons (de_var (pv 0)) (da_cons (de_var (pv 1)) (da_cons (de_var (pv 4)) (da_nil)))))) (da_nil)))) (da_nil))))
theorem sc_law : FnScope ["_law_script", "_law_state_here", "_law_bases", "_law_many", "_law_columns", "_law_rows_here", "_law_grid", "_law_k", "_law_i", "_law_j", "_law_thing_here", "_law_due", "_law_numbers_here", "_law_roots", "_law_told", "_law_root"] ["_law_script"] (defScope s_law) := ⟨rfl, rfl, rfl, by decide +kernel, rfl, by decide +kernel, by decide +kernel⟩
theorem law_fn (T : Txt K mg) : ∃ fd, (∀ (s : Shared) (us : List Value), us.length = 1 → BindsTo s fd ⟨us, []⟩ ((["_law_script"] : List Str).zip us)) ∧ ∀ base : Heap, FnOk P w K mg base (L2.CX P w) 11 (He.ga K "law") fd ["_law_script"] (spD K 1 (g_law (He.ga K))) := by
  obtain ⟨fd, F⟩ := T.d_law
  have hb : ∀ (kV doc pm : Value) (an : Option Addr) (cdv ct : Value) (us : List Value), us.length = (["_law_script"] : List Str).length → bindArgs (PySem.W.fnOf "law" "law" (defArgs s_law) (defBody s_law) (defScope s_law) .none kV doc pm an cdv ct) ⟨us, []⟩ = pure ((["_law_script"] : List Str).zip us) := (fun _ _ _ _ _ _ us hl => match us, hl with | [_], _ => rfl)
  refine ⟨fd, fun s us hl => F.bindsA hb s us hl, fun base => ?_⟩
  show FnOk P w K mg base (L2.CX P w) 11 (He.ga K "law") fd ["_law_script"] (spD K 1 (dDef giveS 1 (["_law_script", "_law_state_here", "_law_bases", "_law_many", "_law_columns", "_law_rows_here", "_law_grid", "_law_k", "_law_i", "_law_j", "_law_thing_here", "_law_due", "_law_numbers_here", "_law_roots", "_law_told", "_law_root"] : List Str).length (F_law (He.ga K))))
  refine fn_mk (k := 10) (fb := F_law (He.ga K)) giveS_ok F sc_law rfl ?_
  intro cdv A outer s H E c
  exact dss_cons (ds_set 1 c.nd (de_call (ok__law_state T) c.tk (c.room.mono (by decide)) (da_cons (de_var (pv 0)) (da_cons (de_int) (da_nil)))))
    (dss_cons (ds_set 2 c.nd (de_op op_add oAdd_ok (de_int) (de_call (ok__law_draw T) c.tk (c.room.mono (by decide)) (da_cons (de_var (pv 1)) (da_cons (de_int) (da_nil))))))
    (dss_cons (ds_set 3 c.nd (de_op op_add oAdd_ok (de_int) (de_call (ok__law_draw T) c.tk (c.room.mono (by decide)) (da_cons (de_var (pv 1)) (da_cons (de_int) (da_nil))))))
    (dss_cons (ds_set 4 c.nd (de_op op_add oAdd_ok (de_int) (de_call (ok__law_draw T) c.tk (c.room.mono (by decide)) (da_cons (de_var (pv 1)) (da_cons (de_int) (da_nil))))))
    (dss_cons (ds_set 5 c.nd (de_call (ok__law_rows T) c.tk (c.room.mono (by decide)) (da_cons (de_var (pv 1)) (da_cons (de_var (pv 2)) (da_cons (de_var (pv 3)) (da_cons (de_var (pv 4)) (da_cons (de_int) (da_nil))))))))
    (dss_cons (ds_set 6 c.nd (de_makeE T.k_Grid (ok_Grid__init__ T) T.m_Grid (c.room.mono (by decide)) (da_cons (de_var (pv 2)) (da_cons (de_var (pv 5)) (da_nil)))))
    (dss_cons (ds_for (vs := [7]) c.po rfl (di_rng1 T.b_range (da_cons (de_int) (da_nil))) (dg_name 7 c.nd) (dss_cons (ds_set 8 c.nd (de_call (ok__law_place T) c.tk (c.room.mono (by decide)) (da_cons (de_var (pv 1)) (da_cons (de_var (pv 3)) (da_nil)))))
    (dss_cons (ds_set 9 c.nd (de_call (ok__law_place T) c.tk (c.room.mono (by decide)) (da_cons (de_var (pv 1)) (da_cons (de_var (pv 4)) (da_nil)))))
    (dss_cons (ds_set 10 c.nd (de_call (ok__law_thing T) c.tk (c.room.mono (by decide)) (da_cons (de_var (pv 1)) (da_cons (de_var (pv 2)) (da_nil)))))
    (dss_cons (ds_set 11 c.nd (de_if (L2.PW.pt (dw_and (dt_tru (de_call (ok__law_is_place T) c.tk (c.room.mono (by decide)) (da_cons (de_var (pv 8)) (da_cons (de_var (pv 3)) (da_nil))))) (dw_and1 (dt_tru (de_call (ok__law_is_place T) c.tk (c.room.mono (by decide)) (da_cons (de_var (pv 9)) (da_cons (de_var (pv 4)) (da_nil)))))))) (de_str) (de_str)))
    (dss_cons (ds_if (dt_cmp (op_neD c.room.units) oNe_ok (de_call (ok__law_found T) c.tk (c.room.mono (by decide)) (da_cons (de_int) (da_cons (de_var (pv 6)) (da_cons (de_var (pv 8)) (da_cons (de_var (pv 9)) (da_cons (de_non) (da_nil))))))) (de_var (pv 11))) (dss_one (ds_ret (de_bl))) (dss_nil))
    (dss_cons (ds_if (L2.PW.pt (dw_and (dt_cmp (op_eqD c.room.units) oEq_ok (de_var (pv 11)) (de_str)) (dw_and1 (dt_not (dt_tru (de_call (ok__law_is_cell T) c.tk (c.room.mono (by decide)) (da_cons (de_var (pv 2)) (da_cons (de_var (pv 10)) (da_nil))))))))) (dss_one (ds_set 11 c.nd (de_str))) (dss_nil))
    (dss_cons (ds_if (dt_cmp (op_neD c.room.units) oNe_ok (de_call (ok__law_found T) c.tk (c.room.mono (by decide)) (da_cons (de_int) (da_cons (de_var (pv 6)) (da_cons (de_var (pv 8)) (da_cons (de_var (pv 9)) (da_cons (de_var (pv 10)) (da_nil))))))) (de_var (pv 11))) (dss_one (ds_ret (de_bl))) (dss_nil))
    (dss_cons (ds_set 12 c.nd (de_call (ok__law_numbers T) c.tk (c.room.mono (by decide)) (da_cons (de_var (pv 1)) (da_cons (de_var (pv 5)) (da_nil)))))
    (dss_cons (ds_set 13 c.nd (de_call (ok__law_some_roots T) c.tk (c.room.mono (by decide)) (da_cons (de_var (pv 1)) (da_cons (de_var (pv 2)) (da_nil)))))
    (dss_cons (ds_set 14 c.nd (de_lst (da_cons (de_call (ok_are_numbers T) c.tk (c.room.mono (by decide)) (da_cons (de_var (pv 6)) (da_cons (de_var (pv 12)) (da_nil)))) (da_cons (de_call (ok_are_values T) c.tk (c.room.mono (by decide)) (da_cons (de_var (pv 6)) (da_cons (de_var (pv 12)) (da_nil)))) (da_nil)))))
    (dss_cons (ds_if (L2.PW.pt (dw_or (dt_cmp (op_neD c.room.units) oNe_ok (de_var (pv 14)) (de_lst (da_cons (de_call (ok__law_are_numbers T) c.tk (c.room.mono (by decide)) (da_cons (de_var (pv 5)) (da_cons (de_var (pv 12)) (da_nil)))) (da_cons (de_call (ok__law_are_values T) c.tk (c.room.mono (by decide)) (da_cons (de_var (pv 5)) (da_cons (de_var (pv 12)) (da_nil)))) (da_nil))))) (dw_or1 (dt_not (dt_tru (de_callB call_isi (oIsiI_ok (own1 T.o_Grid)) T.b_isinstance bt_isinstance (da_cons (de_ix ix_seq oIx_ok (de_var (pv 14)) (de_int)) (da_cons (de_ty T.b_bool bt_bool) (da_nil))))))))) (dss_one (ds_ret (de_bl))) (dss_nil))
    (dss_cons (ds_if (dt_not (dt_tru (de_callB call_isi (oIsiI_ok (own1 T.o_Grid)) T.b_isinstance bt_isinstance (da_cons (de_ix ix_seq oIx_ok (de_var (pv 14)) (de_int)) (da_cons (de_ty T.b_bool bt_bool) (da_nil)))))) (dss_one (ds_ret (de_bl))) (dss_nil))
    (dss_cons (ds_set 11 c.nd (de_if (L2.PW.pt (dw_and (dt_tru (de_call (ok__law_is_unit T) c.tk (c.room.mono (by decide)) (da_cons (de_var (pv 2)) (da_cons (de_var (pv 13)) (da_nil))))) (dw_and1 (dt_tru (de_callB (cr_all rfl) oAll_ok T.b_all bt_all (da_cons (de_lc lcF_ok rfl c.nd (blkOk_by (own := [("_law_root", 15)]) (N := ["_law_script", "_law_state_here", "_law_bases", "_law_many", "_law_columns", "_law_rows_here", "_law_grid", "_law_k", "_law_i", "_law_j", "_law_thing_here", "_law_due", "_law_numbers_here", "_law_roots", "_law_told", "_law_root"]) (sc := defScope s_law) (by decide +kernel)) (di_seq (de_var (pv 13))) (fun _ _ _ _ _ => dg_name 15 c.nd) (fun _ _ _ _ _ => dts_yes) (fun _ _ _ _ _ => de_cmp op_gt oGt_ok (de_ix ix_seq oIx_ok (de_var (pv 15)) (de_int)) (de_int))) (da_nil))))))) (de_str) (de_str)))
    (dss_cons (ds_if (dt_not (dt_tru (de_ix ix_seq oIx_ok (de_var (pv 14)) (de_int)))) (dss_one (ds_set 11 c.nd (de_str))) (dss_nil))
    (dss_one (ds_if (dt_cmp (op_neD c.room.units) oNe_ok (de_call (ok__law_found T) c.tk (c.room.mono (by decide)) (da_cons (de_int) (da_cons (de_var (pv 6)) (da_cons (de_var (pv 12)) (da_cons (de_var (pv 13)) (da_cons (de_non) (da_nil))))))) (de_var (pv 11))) (dss_one (ds_ret (de_bl))) (dss_nil))))))))))))))))))
    (dss_one (ds_ret (de_and (de_cmp (op_eqD c.room.units) oEq_ok (de_fld T.c_Grid T.n_Grid_rows (de_var (pv 6))) (de_var (pv 5))) (de_one (de_cmp (op_eqD c.room.units) oEq_ok (de_fld T.c_Grid T.n_Grid_bases (de_var (pv 6))) (de_var (pv 2)))))))))))))
end
end P07
set_option Elab.async false
set_option linter.all false
set_option maxRecDepth 100000
set_option maxHeartbeats 4000000
namespace P07
open PySem PySem.Spec PyProof.Rows L2 DL
/-! ### the head -/
def dd_Grid__init__ : He.DefD := ⟨("Grid", some "__init__"), "__init__", "Grid.__init__", defArgs s_Grid__init__, defBody s_Grid__init__, defScope s_Grid__init__, [], []⟩
def dd_Grid__eq__ : He.DefD := ⟨("Grid", some "__eq__"), "__eq__", "Grid.__eq__", defArgs s_Grid__eq__, defBody s_Grid__eq__, defScope s_Grid__eq__, [], []⟩
def dd_is_integer : He.DefD := ⟨("is_integer", none), "is_integer", "is_integer", defArgs s_is_integer, defBody s_is_integer, defScope s_is_integer, [], []⟩
def dd_is_within : He.DefD := ⟨("is_within", none), "is_within", "is_within", defArgs s_is_within, defBody s_is_within, defScope s_is_within, [], []⟩
def dd_divisor : He.DefD := ⟨("divisor", none), "divisor", "divisor", defArgs s_divisor, defBody s_divisor, defScope s_divisor, [], []⟩
def dd_multiple : He.DefD := ⟨("multiple", none), "multiple", "multiple", defArgs s_multiple, defBody s_multiple, defScope s_multiple, [], []⟩
def dd_lowest : He.DefD := ⟨("lowest", none), "lowest", "lowest", defArgs s_lowest, defBody s_lowest, defScope s_lowest, [], []⟩
def dd_is_fraction : He.DefD := ⟨("is_fraction", none), "is_fraction", "is_fraction", defArgs s_is_fraction, defBody s_is_fraction, defScope s_is_fraction, [], []⟩
def dd_is_above : He.DefD := ⟨("is_above", none), "is_above", "is_above", defArgs s_is_above, defBody s_is_above, defScope s_is_above, [], []⟩
def dd_times : He.DefD := ⟨("times", none), "times", "times", defArgs s_times, defBody s_times, defScope s_times, [], []⟩
def dd_raised : He.DefD := ⟨("raised", none), "raised", "raised", defArgs s_raised, defBody s_raised, defScope s_raised, [], []⟩
def dd_is_unit_of : He.DefD := ⟨("is_unit_of", none), "is_unit_of", "is_unit_of", defArgs s_is_unit_of, defBody s_is_unit_of, defScope s_is_unit_of, [], []⟩
def dd_are_rows : He.DefD := ⟨("are_rows", none), "are_rows", "are_rows", defArgs s_are_rows, defBody s_are_rows, defScope s_are_rows, [], []⟩
def dd_check_roots : He.DefD := ⟨("check_roots", none), "check_roots", "check_roots", defArgs s_check_roots, defBody s_check_roots, defScope s_check_roots, [], []⟩
def dd_raw_factor : He.DefD := ⟨("raw_factor", none), "raw_factor", "raw_factor", defArgs s_raw_factor, defBody s_raw_factor, defScope s_raw_factor, [], []⟩
def dd_is_part : He.DefD := ⟨("is_part", none), "is_part", "is_part", defArgs s_is_part, defBody s_is_part, defScope s_is_part, [], []⟩
def dd_is_cell : He.DefD := ⟨("is_cell", none), "is_cell", "is_cell", defArgs s_is_cell, defBody s_is_cell, defScope s_is_cell, [], []⟩
def dd_check_rows : He.DefD := ⟨("check_rows", none), "check_rows", "check_rows", defArgs s_check_rows, defBody s_check_rows, defScope s_check_rows, [], []⟩
def dd_sizes_of : He.DefD := ⟨("sizes_of", none), "sizes_of", "sizes_of", defArgs s_sizes_of, defBody s_sizes_of, defScope s_sizes_of, [], []⟩
def dd_check_cell : He.DefD := ⟨("check_cell", none), "check_cell", "check_cell", defArgs s_check_cell, defBody s_check_cell, defScope s_check_cell, [], []⟩
def dd_cell : He.DefD := ⟨("cell", none), "cell", "cell", defArgs s_cell, defBody s_cell, defScope s_cell, [], []⟩
def dd_with_cell : He.DefD := ⟨("with_cell", none), "with_cell", "with_cell", defArgs s_with_cell, defBody s_with_cell, defScope s_with_cell, [], []⟩
def dd_retold : He.DefD := ⟨("retold", none), "retold", "retold", defArgs s_retold, defBody s_retold, defScope s_retold, [], []⟩
def dd_units_in : He.DefD := ⟨("units_in", none), "units_in", "units_in", defArgs s_units_in, defBody s_units_in, defScope s_units_in, [], []⟩
def dd_bottom : He.DefD := ⟨("bottom", none), "bottom", "bottom", defArgs s_bottom, defBody s_bottom, defScope s_bottom, [], []⟩
def dd_fits : He.DefD := ⟨("fits", none), "fits", "fits", defArgs s_fits, defBody s_fits, defScope s_fits, [], []⟩
def dd_are_numbers : He.DefD := ⟨("are_numbers", none), "are_numbers", "are_numbers", defArgs s_are_numbers, defBody s_are_numbers, defScope s_are_numbers, [], []⟩
def dd_are_values : He.DefD := ⟨("are_values", none), "are_values", "are_values", defArgs s_are_values, defBody s_are_values, defScope s_are_values, [], []⟩
def dd_raw_renumbered : He.DefD := ⟨("raw_renumbered", none), "raw_renumbered", "raw_renumbered", defArgs s_raw_renumbered, defBody s_raw_renumbered, defScope s_raw_renumbered, [], []⟩
def dd_renumbered : He.DefD := ⟨("renumbered", none), "renumbered", "renumbered", defArgs s_renumbered, defBody s_renumbered, defScope s_renumbered, [], []⟩
def dd__law_is_integer : He.DefD := ⟨("_law_is_integer", none), "_law_is_integer", "_law_is_integer", defArgs s__law_is_integer, defBody s__law_is_integer, defScope s__law_is_integer, [], []⟩
def dd__law_state : He.DefD := ⟨("_law_state", none), "_law_state", "_law_state", defArgs s__law_state, defBody s__law_state, defScope s__law_state, [], []⟩
def dd__law_mixed : He.DefD := ⟨("_law_mixed", none), "_law_mixed", "_law_mixed", defArgs s__law_mixed, defBody s__law_mixed, defScope s__law_mixed, [], []⟩
def dd__law_draw : He.DefD := ⟨("_law_draw", none), "_law_draw", "_law_draw", defArgs s__law_draw, defBody s__law_draw, defScope s__law_draw, [], []⟩
def dd__law_low : He.DefD := ⟨("_law_low", none), "_law_low", "_law_low", defArgs s__law_low, defBody s__law_low, defScope s__law_low, [], []⟩
def dd__law_exponent : He.DefD := ⟨("_law_exponent", none), "_law_exponent", "_law_exponent", defArgs s__law_exponent, defBody s__law_exponent, defScope s__law_exponent, [], []⟩
def dd__law_unit : He.DefD := ⟨("_law_unit", none), "_law_unit", "_law_unit", defArgs s__law_unit, defBody s__law_unit, defScope s__law_unit, [], []⟩
def dd__law_cell : He.DefD := ⟨("_law_cell", none), "_law_cell", "_law_cell", defArgs s__law_cell, defBody s__law_cell, defScope s__law_cell, [], []⟩
def dd__law_with : He.DefD := ⟨("_law_with", none), "_law_with", "_law_with", defArgs s__law_with, defBody s__law_with, defScope s__law_with, [], []⟩
def dd__law_is_fraction : He.DefD := ⟨("_law_is_fraction", none), "_law_is_fraction", "_law_is_fraction", defArgs s__law_is_fraction, defBody s__law_is_fraction, defScope s__law_is_fraction, [], []⟩
def dd__law_is_unit : He.DefD := ⟨("_law_is_unit", none), "_law_is_unit", "_law_is_unit", defArgs s__law_is_unit, defBody s__law_is_unit, defScope s__law_is_unit, [], []⟩
def dd__law_is_cell : He.DefD := ⟨("_law_is_cell", none), "_law_is_cell", "_law_is_cell", defArgs s__law_is_cell, defBody s__law_is_cell, defScope s__law_is_cell, [], []⟩
def dd__law_are_numbers : He.DefD := ⟨("_law_are_numbers", none), "_law_are_numbers", "_law_are_numbers", defArgs s__law_are_numbers, defBody s__law_are_numbers, defScope s__law_are_numbers, [], []⟩
def dd__law_odd : He.DefD := ⟨("_law_odd", none), "_law_odd", "_law_odd", defArgs s__law_odd, defBody s__law_odd, defScope s__law_odd, [], []⟩
def dd__law_place : He.DefD := ⟨("_law_place", none), "_law_place", "_law_place", defArgs s__law_place, defBody s__law_place, defScope s__law_place, [], []⟩
def dd__law_is_place : He.DefD := ⟨("_law_is_place", none), "_law_is_place", "_law_is_place", defArgs s__law_is_place, defBody s__law_is_place, defScope s__law_is_place, [], []⟩
def dd__law_item : He.DefD := ⟨("_law_item", none), "_law_item", "_law_item", defArgs s__law_item, defBody s__law_item, defScope s__law_item, [], []⟩
def dd__law_numbers : He.DefD := ⟨("_law_numbers", none), "_law_numbers", "_law_numbers", defArgs s__law_numbers, defBody s__law_numbers, defScope s__law_numbers, [], []⟩
def dd__law_some_roots : He.DefD := ⟨("_law_some_roots", none), "_law_some_roots", "_law_some_roots", defArgs s__law_some_roots, defBody s__law_some_roots, defScope s__law_some_roots, [], []⟩
def dd__law_are_values : He.DefD := ⟨("_law_are_values", none), "_law_are_values", "_law_are_values", defArgs s__law_are_values, defBody s__law_are_values, defScope s__law_are_values, [], []⟩
def dd__law_called : He.DefD := ⟨("_law_called", none), "_law_called", "_law_called", defArgs s__law_called, defBody s__law_called, defScope s__law_called, [], []⟩
def dd__law_found : He.DefD := ⟨("_law_found", none), "_law_found", "_law_found", defArgs s__law_found, defBody s__law_found, defScope s__law_found, [], []⟩
def dd__law_thing : He.DefD := ⟨("_law_thing", none), "_law_thing", "_law_thing", defArgs s__law_thing, defBody s__law_thing, defScope s__law_thing, [], []⟩
def dd__law_rows : He.DefD := ⟨("_law_rows", none), "_law_rows", "_law_rows", defArgs s__law_rows, defBody s__law_rows, defScope s__law_rows, [], []⟩
def dd_law : He.DefD := ⟨("law", none), "law", "law", defArgs s_law, defBody s_law, defScope s_law, [], []⟩
def fn : List He.DefD := [dd_is_integer, dd_is_within, dd_divisor, dd_multiple, dd_lowest, dd_is_fraction, dd_is_above, dd_times, dd_raised, dd_is_unit_of, dd_are_rows, dd_check_roots, dd_raw_factor, dd_is_part, dd_is_cell, dd_check_rows, dd_Grid__init__, dd_Grid__eq__, dd_sizes_of, dd_check_cell, dd_cell, dd_with_cell, dd_retold, dd_units_in, dd_bottom, dd_fits, dd_are_numbers, dd_are_values, dd_raw_renumbered, dd_renumbered, dd__law_is_integer, dd__law_state, dd__law_mixed, dd__law_draw, dd__law_low, dd__law_exponent, dd__law_unit, dd__law_cell, dd__law_with, dd__law_is_fraction, dd__law_is_unit, dd__law_is_cell, dd__law_are_numbers, dd__law_odd, dd__law_place, dd__law_is_place, dd__law_item, dd__law_numbers, dd__law_some_roots, dd__law_are_values, dd__law_called, dd__law_found, dd__law_thing, dd__law_rows, dd_law]
def fa : List He.Fa := [.glo "is_integer", .glo "is_within", .glo "divisor", .glo "multiple", .glo "lowest", .glo "is_fraction", .glo "is_above", .glo "times", .glo "raised", .glo "is_unit_of", .glo "are_rows", .glo "check_roots", .glo "raw_factor", .glo "is_part", .glo "is_cell", .glo "check_rows", .mkr "Grid", .meth "Grid" "__eq__", .glo "sizes_of", .glo "check_cell", .glo "cell", .glo "with_cell", .glo "retold", .glo "units_in", .glo "bottom", .glo "fits", .glo "are_numbers", .glo "are_values", .glo "raw_renumbered", .glo "renumbered", .glo "_law_is_integer", .glo "_law_state", .glo "_law_mixed", .glo "_law_draw", .glo "_law_low", .glo "_law_exponent", .glo "_law_unit", .glo "_law_cell", .glo "_law_with", .glo "_law_is_fraction", .glo "_law_is_unit", .glo "_law_is_cell", .glo "_law_are_numbers", .glo "_law_odd", .glo "_law_place", .glo "_law_is_place", .glo "_law_item", .glo "_law_numbers", .glo "_law_some_roots", .glo "_law_are_values", .glo "_law_called", .glo "_law_found", .glo "_law_thing", .glo "_law_rows", .glo "law", .free "abs", .free "all", .free "bool", .free "enumerate", .free "int", .free "isinstance", .free "len", .free "list", .free "range", .free "tuple", .free "zip", .int "MOST_ROWS" 10, .int "MOST_TOP" 6, .int "MOST_BOTTOM" 4, .int "MOST_BASES" 3, .glo "Grid", .cls "Grid", .noat "Grid" "bases", .noat "Grid" "rows", .glo "NoRoots", .glo "NoCell", .glo "NoUnit", .glo "NoNumbers", .glo "GridError", .exc "NoRoots", .exc "NoCell", .exc "NoUnit", .exc "NoNumbers"]
def own : List Str := ["Grid"]
def exB1 (K : PySem.W.Frag) : Bool := own.all fun C => ownB K (He.ga K C)
def exB2 (K : PySem.W.Frag) : Bool := excs.all fun c => hdls.all fun h => decide (PySem.W.exmOne K (.ref (He.ga K c)) (.ref (He.ga K h)) = some (subE c h))
def exB (K : PySem.W.Frag) : Bool := exB1 K && exB2 K
theorem txt {K : PySem.W.Frag} {h : Heap} {mg : Str → Option Value} (X : K.In h) (G : h.Ns mainGlobals mg) (c : He.SaysD fa fn K) (cx : exB K = true) : Txt K mg where
  d_is_integer := c.def_ 0 (d := dd_is_integer) rfl
  m_is_integer := He.glo_ok X G (c.fact 0 (f := .glo "is_integer") rfl)
  d_is_within := c.def_ 1 (d := dd_is_within) rfl
  m_is_within := He.glo_ok X G (c.fact 1 (f := .glo "is_within") rfl)
  d_divisor := c.def_ 2 (d := dd_divisor) rfl
  m_divisor := He.glo_ok X G (c.fact 2 (f := .glo "divisor") rfl)
  d_multiple := c.def_ 3 (d := dd_multiple) rfl
  m_multiple := He.glo_ok X G (c.fact 3 (f := .glo "multiple") rfl)
  d_lowest := c.def_ 4 (d := dd_lowest) rfl
  m_lowest := He.glo_ok X G (c.fact 4 (f := .glo "lowest") rfl)
  d_is_fraction := c.def_ 5 (d := dd_is_fraction) rfl
  m_is_fraction := He.glo_ok X G (c.fact 5 (f := .glo "is_fraction") rfl)
  d_is_above := c.def_ 6 (d := dd_is_above) rfl
  m_is_above := He.glo_ok X G (c.fact 6 (f := .glo "is_above") rfl)
  d_times := c.def_ 7 (d := dd_times) rfl
  m_times := He.glo_ok X G (c.fact 7 (f := .glo "times") rfl)
  d_raised := c.def_ 8 (d := dd_raised) rfl
  m_raised := He.glo_ok X G (c.fact 8 (f := .glo "raised") rfl)
  d_is_unit_of := c.def_ 9 (d := dd_is_unit_of) rfl
  m_is_unit_of := He.glo_ok X G (c.fact 9 (f := .glo "is_unit_of") rfl)
  d_are_rows := c.def_ 10 (d := dd_are_rows) rfl
  m_are_rows := He.glo_ok X G (c.fact 10 (f := .glo "are_rows") rfl)
  d_check_roots := c.def_ 11 (d := dd_check_roots) rfl
  m_check_roots := He.glo_ok X G (c.fact 11 (f := .glo "check_roots") rfl)
  d_raw_factor := c.def_ 12 (d := dd_raw_factor) rfl
  m_raw_factor := He.glo_ok X G (c.fact 12 (f := .glo "raw_factor") rfl)
  d_is_part := c.def_ 13 (d := dd_is_part) rfl
  m_is_part := He.glo_ok X G (c.fact 13 (f := .glo "is_part") rfl)
  d_is_cell := c.def_ 14 (d := dd_is_cell) rfl
  m_is_cell := He.glo_ok X G (c.fact 14 (f := .glo "is_cell") rfl)
  d_check_rows := c.def_ 15 (d := dd_check_rows) rfl
  m_check_rows := He.glo_ok X G (c.fact 15 (f := .glo "check_rows") rfl)
  d_Grid__init__ := c.def_ 16 (d := dd_Grid__init__) rfl
  k_Grid := He.mkr_ok (c.fact 16 (f := .mkr "Grid") rfl)
  d_Grid__eq__ := c.def_ 17 (d := dd_Grid__eq__) rfl
  e_Grid := He.meth_ok (c.fact 17 (f := .meth "Grid" "__eq__") rfl)
  d_sizes_of := c.def_ 18 (d := dd_sizes_of) rfl
  m_sizes_of := He.glo_ok X G (c.fact 18 (f := .glo "sizes_of") rfl)
  d_check_cell := c.def_ 19 (d := dd_check_cell) rfl
  m_check_cell := He.glo_ok X G (c.fact 19 (f := .glo "check_cell") rfl)
  d_cell := c.def_ 20 (d := dd_cell) rfl
  m_cell := He.glo_ok X G (c.fact 20 (f := .glo "cell") rfl)
  d_with_cell := c.def_ 21 (d := dd_with_cell) rfl
  m_with_cell := He.glo_ok X G (c.fact 21 (f := .glo "with_cell") rfl)
  d_retold := c.def_ 22 (d := dd_retold) rfl
  m_retold := He.glo_ok X G (c.fact 22 (f := .glo "retold") rfl)
  d_units_in := c.def_ 23 (d := dd_units_in) rfl
  m_units_in := He.glo_ok X G (c.fact 23 (f := .glo "units_in") rfl)
  d_bottom := c.def_ 24 (d := dd_bottom) rfl
  m_bottom := He.glo_ok X G (c.fact 24 (f := .glo "bottom") rfl)
  d_fits := c.def_ 25 (d := dd_fits) rfl
  m_fits := He.glo_ok X G (c.fact 25 (f := .glo "fits") rfl)
  d_are_numbers := c.def_ 26 (d := dd_are_numbers) rfl
  m_are_numbers := He.glo_ok X G (c.fact 26 (f := .glo "are_numbers") rfl)
  d_are_values := c.def_ 27 (d := dd_are_values) rfl
  m_are_values := He.glo_ok X G (c.fact 27 (f := .glo "are_values") rfl)
  d_raw_renumbered := c.def_ 28 (d := dd_raw_renumbered) rfl
  m_raw_renumbered := He.glo_ok X G (c.fact 28 (f := .glo "raw_renumbered") rfl)
  d_renumbered := c.def_ 29 (d := dd_renumbered) rfl
  m_renumbered := He.glo_ok X G (c.fact 29 (f := .glo "renumbered") rfl)
  d__law_is_integer := c.def_ 30 (d := dd__law_is_integer) rfl
  m__law_is_integer := He.glo_ok X G (c.fact 30 (f := .glo "_law_is_integer") rfl)
  d__law_state := c.def_ 31 (d := dd__law_state) rfl
  m__law_state := He.glo_ok X G (c.fact 31 (f := .glo "_law_state") rfl)
  d__law_mixed := c.def_ 32 (d := dd__law_mixed) rfl
  m__law_mixed := He.glo_ok X G (c.fact 32 (f := .glo "_law_mixed") rfl)
  d__law_draw := c.def_ 33 (d := dd__law_draw) rfl
  m__law_draw := He.glo_ok X G (c.fact 33 (f := .glo "_law_draw") rfl)
  d__law_low := c.def_ 34 (d := dd__law_low) rfl
  m__law_low := He.glo_ok X G (c.fact 34 (f := .glo "_law_low") rfl)
  d__law_exponent := c.def_ 35 (d := dd__law_exponent) rfl
  m__law_exponent := He.glo_ok X G (c.fact 35 (f := .glo "_law_exponent") rfl)
  d__law_unit := c.def_ 36 (d := dd__law_unit) rfl
  m__law_unit := He.glo_ok X G (c.fact 36 (f := .glo "_law_unit") rfl)
  d__law_cell := c.def_ 37 (d := dd__law_cell) rfl
  m__law_cell := He.glo_ok X G (c.fact 37 (f := .glo "_law_cell") rfl)
  d__law_with := c.def_ 38 (d := dd__law_with) rfl
  m__law_with := He.glo_ok X G (c.fact 38 (f := .glo "_law_with") rfl)
  d__law_is_fraction := c.def_ 39 (d := dd__law_is_fraction) rfl
  m__law_is_fraction := He.glo_ok X G (c.fact 39 (f := .glo "_law_is_fraction") rfl)
  d__law_is_unit := c.def_ 40 (d := dd__law_is_unit) rfl
  m__law_is_unit := He.glo_ok X G (c.fact 40 (f := .glo "_law_is_unit") rfl)
  d__law_is_cell := c.def_ 41 (d := dd__law_is_cell) rfl
  m__law_is_cell := He.glo_ok X G (c.fact 41 (f := .glo "_law_is_cell") rfl)
  d__law_are_numbers := c.def_ 42 (d := dd__law_are_numbers) rfl
  m__law_are_numbers := He.glo_ok X G (c.fact 42 (f := .glo "_law_are_numbers") rfl)
  d__law_odd := c.def_ 43 (d := dd__law_odd) rfl
  m__law_odd := He.glo_ok X G (c.fact 43 (f := .glo "_law_odd") rfl)
  d__law_place := c.def_ 44 (d := dd__law_place) rfl
  m__law_place := He.glo_ok X G (c.fact 44 (f := .glo "_law_place") rfl)
  d__law_is_place := c.def_ 45 (d := dd__law_is_place) rfl
  m__law_is_place := He.glo_ok X G (c.fact 45 (f := .glo "_law_is_place") rfl)
  d__law_item := c.def_ 46 (d := dd__law_item) rfl
  m__law_item := He.glo_ok X G (c.fact 46 (f := .glo "_law_item") rfl)
  d__law_numbers := c.def_ 47 (d := dd__law_numbers) rfl
  m__law_numbers := He.glo_ok X G (c.fact 47 (f := .glo "_law_numbers") rfl)
  d__law_some_roots := c.def_ 48 (d := dd__law_some_roots) rfl
  m__law_some_roots := He.glo_ok X G (c.fact 48 (f := .glo "_law_some_roots") rfl)
  d__law_are_values := c.def_ 49 (d := dd__law_are_values) rfl
  m__law_are_values := He.glo_ok X G (c.fact 49 (f := .glo "_law_are_values") rfl)
  d__law_called := c.def_ 50 (d := dd__law_called) rfl
  m__law_called := He.glo_ok X G (c.fact 50 (f := .glo "_law_called") rfl)
  d__law_found := c.def_ 51 (d := dd__law_found) rfl
  m__law_found := He.glo_ok X G (c.fact 51 (f := .glo "_law_found") rfl)
  d__law_thing := c.def_ 52 (d := dd__law_thing) rfl
  m__law_thing := He.glo_ok X G (c.fact 52 (f := .glo "_law_thing") rfl)
  d__law_rows := c.def_ 53 (d := dd__law_rows) rfl
  m__law_rows := He.glo_ok X G (c.fact 53 (f := .glo "_law_rows") rfl)
  d_law := c.def_ 54 (d := dd_law) rfl
  m_law := He.glo_ok X G (c.fact 54 (f := .glo "law") rfl)
  m_Grid := He.glo_ok X G (c.fact 70 (f := .glo "Grid") rfl)
  c_Grid := He.cls_ok (c.fact 71 (f := .cls "Grid") rfl)
  o_Grid := own_ok (He.cls_ok (c.fact 71 (f := .cls "Grid") rfl)) (List.all_eq_true.mp (Bool.and_eq_true_iff.mp cx).1 "Grid" (by simp [own]))
  n_Grid_bases := He.noat_ok (c.fact 72 (f := .noat "Grid" "bases") rfl)
  n_Grid_rows := He.noat_ok (c.fact 73 (f := .noat "Grid" "rows") rfl)
  x_NoRoots := kexc_of (He.glo_ok X G (c.fact 74 (f := .glo "NoRoots") rfl)) (c.fact 79 (f := .exc "NoRoots") rfl)
  x_NoCell := kexc_of (He.glo_ok X G (c.fact 75 (f := .glo "NoCell") rfl)) (c.fact 80 (f := .exc "NoCell") rfl)
  x_NoUnit := kexc_of (He.glo_ok X G (c.fact 76 (f := .glo "NoUnit") rfl)) (c.fact 81 (f := .exc "NoUnit") rfl)
  x_NoNumbers := kexc_of (He.glo_ok X G (c.fact 77 (f := .glo "NoNumbers") rfl)) (c.fact 82 (f := .exc "NoNumbers") rfl)
  m_NoCell := He.glo_ok X G (c.fact 75 (f := .glo "NoCell") rfl)
  m_NoUnit := He.glo_ok X G (c.fact 76 (f := .glo "NoUnit") rfl)
  m_NoNumbers := He.glo_ok X G (c.fact 77 (f := .glo "NoNumbers") rfl)
  m_NoRoots := He.glo_ok X G (c.fact 74 (f := .glo "NoRoots") rfl)
  m_GridError := He.glo_ok X G (c.fact 78 (f := .glo "GridError") rfl)
  exm := fun c hc h hh => of_decide_eq_true (List.all_eq_true.mp (List.all_eq_true.mp (Bool.and_eq_true_iff.mp cx).2 c hc) h hh)
  b_abs := He.free_ok X G (c.fact 55 (f := .free "abs") rfl)
  b_all := He.free_ok X G (c.fact 56 (f := .free "all") rfl)
  b_bool := He.free_ok X G (c.fact 57 (f := .free "bool") rfl)
  b_enumerate := He.free_ok X G (c.fact 58 (f := .free "enumerate") rfl)
  b_int := He.free_ok X G (c.fact 59 (f := .free "int") rfl)
  b_isinstance := He.free_ok X G (c.fact 60 (f := .free "isinstance") rfl)
  b_len := He.free_ok X G (c.fact 61 (f := .free "len") rfl)
  b_list := He.free_ok X G (c.fact 62 (f := .free "list") rfl)
  b_range := He.free_ok X G (c.fact 63 (f := .free "range") rfl)
  b_tuple := He.free_ok X G (c.fact 64 (f := .free "tuple") rfl)
  b_zip := He.free_ok X G (c.fact 65 (f := .free "zip") rfl)
  i_MOST_ROWS := He.int_ok X G (c.fact 66 (f := .int "MOST_ROWS" 10) rfl)
  i_MOST_TOP := He.int_ok X G (c.fact 67 (f := .int "MOST_TOP" 6) rfl)
  i_MOST_BOTTOM := He.int_ok X G (c.fact 68 (f := .int "MOST_BOTTOM" 4) rfl)
  i_MOST_BASES := He.int_ok X G (c.fact 69 (f := .int "MOST_BASES" 3) rfl)
def loose : List Str := (["GridError", "BadGrid", "NoUnit", "NoRoots", "NoCell", "NoNumbers", "is_integer", "is_within", "divisor", "multiple", "lowest", "is_fraction", "is_above", "times", "raised", "is_unit_of", "are_rows", "check_roots", "raw_factor", "MOST_BASES", "MOST_ROWS", "MOST_TOP", "MOST_BOTTOM", "is_part", "is_cell", "check_rows", "Grid", "sizes_of", "check_cell", "cell"] : List Str) ++ (["with_cell", "retold", "units_in", "bottom", "fits", "are_numbers", "are_values", "raw_renumbered", "renumbered", "_law_is_integer", "_law_state", "_law_mixed", "_law_draw", "_law_low", "_law_exponent", "_law_unit", "_law_rows", "_law_cell", "_law_with", "_law_is_fraction", "_law_is_unit", "_law_is_cell", "_law_are_numbers", "_law_odd", "_law_place", "_law_is_place", "_law_item", "_law_numbers", "_law_some_roots", "_law_are_values"] : List Str) ++ (["_law_called", "_law_found", "_law_thing", "__name__"] : List Str)
abbrev R : PySem.W.OpenRow := PySem.W.OpenLaw.row PySem.Challenge.rw_unitgrids_k07_grids_refused
abbrev hk : PySem.W.Hook := hookM 4 fa fn exB
def ob (s : PySem.W.SharedT) : AlM := obsMG 4 fa fn exB (HandSHeadRun.getT s)
theorem ob_eq (s : PySem.W.SharedT) : ob s = hk.obs s.abs := obsMG_eq (HandSHeadRun.getT_eq s)
theorem run (w : World) : HandSHeadRun.RunEq R (PySem.W.view R.prog [68]) hk ob 6000 loose w := by
  intro os
  kernel_rfl
end P07
/-! the pure law: a text of its own gives NS.pure_law -/
open PySem PySem.W PySem.Calls PyProof.Rows in
theorem PySem.Challenge.cw_unitgrids_k07_grids_refused_holds : PySem.Challenge.rw_unitgrids_k07_grids_refused.Holds := by
  w_on; o_law
  refine HandSHeadRun.head_any (r := OpenLaw.row PySem.Challenge.rw_unitgrids_k07_grids_refused) (q := view (OpenLaw.row PySem.Challenge.rw_unitgrids_k07_grids_refused).prog [68]) (H := P07.hk) (ob := P07.ob) (M := 6000) (loose := P07.loose) (d := HandSHeadRun.topDef (OpenLaw.row PySem.Challenge.rw_unitgrids_k07_grids_refused).prog 68) (kwd := []) P07.ob_eq
    (by kernel_rfl) (fun s => by kernel_rfl) P07.run (by kernel_rfl) (by kernel_rfl) (by kernel_rfl) (by rfl) (by first | assumption | decide +kernel) (by decide +kernel) ⟨rfl, rfl, rfl, rfl, rfl, by decide +kernel⟩ ?hw ?hc
  case hw => w_witness2
  case hc =>
    refine L2.walk_ofE (l := PySem.Challenge.rw_unitgrids_k07_grids_refused) (n := 63) (k := 11) (x := "_law_script") (CX := L2.CX0) rfl (by decide) (by kernel_rfl) ⟨rfl, by decide, by decide⟩ ?F (fun _ _ _ _ z => z)
    intro w mg f h Y G hmg0
    obtain ⟨K, KX, c, cx⟩ := Y
    have hmg : mg ("law" : PySem.Str) = some (.ref f) := by
      have e : (HandSHeadRun.topDef (OpenLaw.row PySem.Challenge.rw_unitgrids_k07_grids_refused).prog 68).name = ("law" : PySem.Str) := by kernel_rfl
      rw [← e]
      exact hmg0
    have T := P07.txt KX G c cx
    obtain ⟨fd, hF⟩ := P07.law_fn (P := (PySem.Challenge.rw_unitgrids_k07_grids_refused).prog) (w := w) T
    have e := hmg.symm.trans T.m_law
    cases e
    exact ⟨K, fd, (fun vs H Q _ => DL.spD K 1 (P07.g_law (He.ga K)) vs H Q fun _ _ _ => False), KX, fun s v => hF.1 s [v] rfl, fun H a ns hl _ hS => DL.law_sp hS (P07.pure_law (He.ga K) ns hl).choose_spec, fun base _ _ => DL.fn_noex (hF.2 base)⟩
