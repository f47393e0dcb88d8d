import PyProof.Rows.All
import Wide.All
import OpenK.AllK
import Wide.FinOn
import HandS.ForMost
import HandS.Wide
import HandS.Exc
import HandS.ExcOwn
import HandS.TryOnly
import HandS.WordsExc
import HandS.Defaults
import HandS.IsInst
import HandS.Zip
import HandS.Flow
import HandS.HeadEnd
import HandS.Style
import KE.KStateDown
import HandS.Head0
import HandS.Head1
import HandS.Head2
import HandS.HeadHook1
import HandS.HeadHook2
import PySem.Challenge.RW_unitgrids_k02_whole_factors
set_option Elab.async false
set_option linter.all false
set_option maxRecDepth 100000
set_option maxHeartbeats 1000000
/-! DL, the data layer: values as trees, mutable objects as places of a store, expressions and statements as functions of both. -/
namespace DL
open PySem PySem.Spec PyProof.Rows L2

/-- data: a value without addresses -/
inductive D where
  | non
  | bl (b : Bool)
  | int (i : Int)
  | str (x : Str)
  | tup (xs : List D)
  /-- a list that is only read from here on -/
  | lst (xs : List D)
  /-- an instance that is only read from here on -/
  | ins (C : Addr) (ns : List Str) (xs : List D)
  /-- an object of the written part -/
  | ref (a : Addr)
  | ty (n : String)
/-- what a name holds: data, or a place of the store -/
inductive W where
  | d (x : D)
  | loc (n : Nat)
/-- what stands at a place -/
inductive M where
  | lst (ws : List W)
  | ins (C : Addr) (ns : List Str) (ws : List W)
  | dead
abbrev Store := List M
/-- where the places lie; addresses that are kept for themselves (a list while a comprehension fills it) -/
structure Ad where
  pl : List (Option Addr)
  rs : List Addr := []
/-- no place, not kept -/
def Off (ρ : Ad) (a : Addr) : Prop := some a ∉ ρ.pl ∧ a ∉ ρ.rs
def Ad.add (ρ : Ad) (p : Addr) : Ad := ⟨ρ.pl ++ [some p], ρ.rs⟩
abbrev DEnv := List (Option W)
/-- an exception: its class, the attributes of its own dict -/
structure Ex where
  cls : Value
  ns : List Str
  ds : List D

/-- a list, a tuple of the written part -/
def KL (K : PySem.W.Frag) (a : Addr) (xs : List V) : Prop :=
  ∃ (o : Obj) (its : Array Value) (n : Nat), K.lookup a = some o ∧ o.cls = .type "list" ∧ o.dict = none ∧ o.data = .seq its n ∧ its.size ≤ sizeLine ∧ Vals xs its.toList
def KT (K : PySem.W.Frag) (a : Addr) (xs : List V) : Prop :=
  ∃ (o : Obj) (its : Array Value) (n : Nat), K.lookup a = some o ∧ o.cls = .type "tuple" ∧ o.data = .seq its n ∧ its.size ≤ sizeLine ∧ Vals xs its.toList
/-- a list, a tuple, that no place of the store holds -/
def LstF (K : PySem.W.Frag) (ρ : Ad) (H : Hp) (a : Addr) (xs : List V) : Prop := (Rd H a (.lst xs) ∧ Off ρ a) ∨ KL K a xs
def TupF (K : PySem.W.Frag) (ρ : Ad) (H : Hp) (a : Addr) (xs : List V) : Prop := (Rd H a (.tup xs) ∧ Off ρ a) ∨ KT K a xs
theorem LstF.sq {K : PySem.W.Frag} {ρ : Ad} {H : Hp} {a : Addr} {xs : List V} (h : LstF K ρ H a xs) : SqL K H a xs := h.elim (fun z => .inl z.1) .inr
theorem TupF.sq {K : PySem.W.Frag} {ρ : Ad} {H : Hp} {a : Addr} {xs : List V} (h : TupF K ρ H a xs) : SqT K H a xs := h.elim (fun z => .inl z.1) .inr

section
variable (K : PySem.W.Frag) (ρ : Ad) (H : Hp)
mutual
def RelD : D → V → Prop
  | .non, v => v = .non
  | .bl b, v => v = .bl b
  | .int i, v => v = .int i
  | .str x, v => v = .str x
  | .tup ds, v => ∃ a vs, v = .ref a ∧ TupF K ρ H a vs ∧ RelDs ds vs
  | .lst ds, v => ∃ a vs, v = .ref a ∧ LstF K ρ H a vs ∧ RelDs ds vs
  | .ins C ns ds, v => ∃ a dx vs, v = .ref a ∧ H a = some (.ins C dx (ns.zip vs)) ∧ Off ρ a ∧ RelDs ds vs ∧ ns.length = ds.length
  | .ref a, v => v = .ref a
  | .ty n, v => v = .ty n
def RelDs : List D → List V → Prop
  | [], vs => vs = []
  | d :: ds, vs => ∃ v vr, vs = v :: vr ∧ RelD d v ∧ RelDs ds vr
end
def RelW : W → V → Prop
  | .d x, v => RelD K ρ H x v
  | .loc n, v => n < ρ.pl.length ∧ ∀ a, ρ.pl[n]? = some (some a) → v = .ref a
def RelWs : List W → List V → Prop
  | [], vs => vs = []
  | d :: ds, vs => ∃ v vr, vs = v :: vr ∧ RelW K ρ H d v ∧ RelWs ds vr
def ObjR : M → Addr → Prop
  | .lst ws, a => ∃ vs, H a = some (.lst vs) ∧ RelWs K ρ H ws vs
  | .ins C ns ws, a => ∃ dx vs, H a = some (.ins C dx (ns.zip vs)) ∧ RelWs K ρ H ws vs ∧ ns.length = ws.length
  | .dead, _ => False
end
/-- how the heap goes on: what no place holds, and is not kept, stays -/
structure Stw (ρ : Ad) (H : Hp) (ρ' : Ad) (H' : Hp) : Prop where
  keep : ∀ a o, H a = some o → Off ρ a → H' a = some o
  off : ∀ a o, H a = some o → Off ρ a → Off ρ' a
  len : ρ.pl.length ≤ ρ'.pl.length
  same : ∀ (n : Nat) (a : Addr), n < ρ.pl.length → ρ'.pl[n]? = some (some a) → ρ.pl[n]? = some (some a)
/-- .. and what is kept stays -/
structure Step (ρ : Ad) (H : Hp) (ρ' : Ad) (H' : Hp) : Prop extends Stw ρ H ρ' H' where
  rs : ρ'.rs = ρ.rs
  kr : ∀ a o, a ∈ ρ.rs → H a = some o → H' a = some o
theorem Step.refl (ρ : Ad) (H : Hp) : Step ρ H ρ H := ⟨⟨fun _ _ h _ => h, fun _ _ _ h => h, Nat.le_refl _, fun _ _ _ h => h⟩, rfl, fun _ _ _ h => h⟩
theorem Stw.trans {ρ ρ1 ρ2 : Ad} {H H1 H2 : Hp} (a : Stw ρ H ρ1 H1) (b : Stw ρ1 H1 ρ2 H2) : Stw ρ H ρ2 H2 where
  keep := fun x o h n => b.keep x o (a.keep x o h n) (a.off x o h n)
  off := fun x o h n => b.off x o (a.keep x o h n) (a.off x o h n)
  len := Nat.le_trans a.len b.len
  same := fun n x h e => a.same n x h (b.same n x (Nat.lt_of_lt_of_le h a.len) e)
theorem Step.trans {ρ ρ1 ρ2 : Ad} {H H1 H2 : Hp} (a : Step ρ H ρ1 H1) (b : Step ρ1 H1 ρ2 H2) : Step ρ H ρ2 H2 :=
  ⟨a.toStw.trans b.toStw, b.rs.trans a.rs, fun x o h e => b.kr x o (by rw [a.rs]; exact h) (a.kr x o h e)⟩
section
variable {K : PySem.W.Frag} {ρ ρ' : Ad} {H H' : Hp}
theorem Stw.rd (s : Stw ρ H ρ' H') {a : Addr} {o : HO} (h : Rd H a o) (n : Off ρ a) : Rd H' a o ∧ Off ρ' a := by
  rcases h with h | ⟨u, h⟩
  · exact ⟨.inl (s.keep a _ h n), s.off a _ h n⟩
  · exact ⟨.inr ⟨u, s.keep a _ h n⟩, s.off a _ h n⟩
theorem LstF.monoW (s : Stw ρ H ρ' H') {a : Addr} {xs : List V} (h : LstF K ρ H a xs) : LstF K ρ' H' a xs := h.elim (fun z => .inl (s.rd z.1 z.2)) .inr
theorem TupF.monoW (s : Stw ρ H ρ' H') {a : Addr} {xs : List V} (h : TupF K ρ H a xs) : TupF K ρ' H' a xs := h.elim (fun z => .inl (s.rd z.1 z.2)) .inr
mutual
theorem RelD.monoW (s : Stw ρ H ρ' H') : ∀ (d : D) (v : V), RelD K ρ H d v → RelD K ρ' H' d v
  | .non, v, h => by simpa [RelD] using h
  | .bl b, v, h => by simpa [RelD] using h
  | .int i, v, h => by simpa [RelD] using h
  | .str x, v, h => by simpa [RelD] using h
  | .ref x, v, h => by simpa [RelD] using h
  | .ty x, v, h => by simpa [RelD] using h
  | .tup ds, v, h => by
    rw [RelD] at h ⊢
    obtain ⟨a, vs, e, h1, h2⟩ := h
    exact ⟨a, vs, e, h1.monoW s, RelDs.monoW s ds vs h2⟩
  | .lst ds, v, h => by
    rw [RelD] at h ⊢
    obtain ⟨a, vs, e, h1, h2⟩ := h
    exact ⟨a, vs, e, h1.monoW s, RelDs.monoW s ds vs h2⟩
  | .ins C ns ds, v, h => by
    rw [RelD] at h ⊢
    obtain ⟨a, dx, vs, e, h1, hn, h2, h3⟩ := h
    exact ⟨a, dx, vs, e, s.keep _ _ h1 hn, s.off _ _ h1 hn, RelDs.monoW s ds vs h2, h3⟩
theorem RelDs.monoW (s : Stw ρ H ρ' H') : ∀ (ds : List D) (vs : List V), RelDs K ρ H ds vs → RelDs K ρ' H' ds vs
  | [], vs, h => by simpa [RelDs] using h
  | d :: ds, vs, h => by
    rw [RelDs] at h ⊢
    obtain ⟨v, vr, e, h1, h2⟩ := h
    exact ⟨v, vr, e, RelD.monoW s d v h1, RelDs.monoW s ds vr h2⟩
end
theorem RelW.monoW (s : Stw ρ H ρ' H') {w : W} {v : V} (h : RelW K ρ H w v) : RelW K ρ' H' w v := by
  cases w with
  | d x => exact RelD.monoW s x v h
  | loc n => exact ⟨Nat.lt_of_lt_of_le h.1 s.len, fun a e => h.2 a (s.same n a h.1 e)⟩
theorem RelWs.monoW (s : Stw ρ H ρ' H') : ∀ {ws : List W} {vs : List V}, RelWs K ρ H ws vs → RelWs K ρ' H' ws vs
  | [], vs, h => h
  | w :: ws, vs, h => by
    obtain ⟨v, vr, e, h1, h2⟩ := h
    exact ⟨v, vr, e, h1.monoW s, RelWs.monoW s h2⟩
theorem LstF.mono (s : Step ρ H ρ' H') {a : Addr} {xs : List V} (h : LstF K ρ H a xs) : LstF K ρ' H' a xs := h.monoW s.toStw
theorem TupF.mono (s : Step ρ H ρ' H') {a : Addr} {xs : List V} (h : TupF K ρ H a xs) : TupF K ρ' H' a xs := h.monoW s.toStw
theorem RelD.mono (s : Step ρ H ρ' H') (d : D) (v : V) (h : RelD K ρ H d v) : RelD K ρ' H' d v := RelD.monoW s.toStw d v h
theorem RelDs.mono (s : Step ρ H ρ' H') (d : List D) (v : List V) (h : RelDs K ρ H d v) : RelDs K ρ' H' d v := RelDs.monoW s.toStw d v h
theorem RelW.mono (s : Step ρ H ρ' H') {w : W} {v : V} (h : RelW K ρ H w v) : RelW K ρ' H' w v := h.monoW s.toStw
theorem RelWs.mono (s : Step ρ H ρ' H') {w : List W} {v : List V} (h : RelWs K ρ H w v) : RelWs K ρ' H' w v := h.monoW s.toStw
theorem RelWs.length : ∀ {ws : List W} {vs : List V}, RelWs K ρ H ws vs → ws.length = vs.length
  | [], vs, h => by cases (show vs = [] from h); rfl
  | w :: ws, vs, h => by
    obtain ⟨v, vr, rfl, h1, h2⟩ := h
    simp [RelWs.length h2]
theorem RelDs.length : ∀ {ws : List D} {vs : List V}, RelDs K ρ H ws vs → ws.length = vs.length
  | [], vs, h => by rw [RelDs] at h; subst h; rfl
  | w :: ws, vs, h => by
    rw [RelDs] at h
    obtain ⟨v, vr, rfl, h1, h2⟩ := h
    simp [RelDs.length h2]
theorem RelDs.get : ∀ {ds : List D} {vs : List V} {i : Nat} {d : D}, RelDs K ρ H ds vs → ds[i]? = some d → ∃ v, vs[i]? = some v ∧ RelD K ρ H d v
  | [], vs, i, d, h, e => by simp at e
  | w :: ws, vs, i, d, h, e => by
    rw [RelDs] at h
    obtain ⟨v, vr, rfl, h1, h2⟩ := h
    cases i with
    | zero => simp at e; subst e; exact ⟨v, rfl, h1⟩
    | succ i => simpa using RelDs.get (i := i) h2 (by simpa using e)
theorem RelDs.get' : ∀ {ds : List D} {vs : List V} {i : Nat} {v : V}, RelDs K ρ H ds vs → vs[i]? = some v → ∃ d, ds[i]? = some d ∧ RelD K ρ H d v
  | [], vs, i, d, h, e => by rw [RelDs] at h; subst h; simp at e
  | w :: ws, vs, i, d, h, e => by
    rw [RelDs] at h
    obtain ⟨v, vr, rfl, h1, h2⟩ := h
    cases i with
    | zero => simp at e; subst e; exact ⟨w, rfl, h1⟩
    | succ i => simpa using RelDs.get' (i := i) h2 (by simpa using e)
theorem RelWs.get : ∀ {ds : List W} {vs : List V} {i : Nat} {d : W}, RelWs K ρ H ds vs → ds[i]? = some d → ∃ v, vs[i]? = some v ∧ RelW K ρ H d v
  | [], vs, i, d, h, e => by simp at e
  | w :: ws, vs, i, d, h, e => by
    obtain ⟨v, vr, rfl, h1, h2⟩ := h
    cases i with
    | zero => simp at e; subst e; exact ⟨v, rfl, h1⟩
    | succ i => simpa using RelWs.get (i := i) h2 (by simpa using e)
theorem RelWs.get' : ∀ {ds : List W} {vs : List V} {i : Nat} {v : V}, RelWs K ρ H ds vs → vs[i]? = some v → ∃ d, ds[i]? = some d ∧ RelW K ρ H d v
  | [], vs, i, d, h, e => by cases (show vs = [] from h); simp at e
  | w :: ws, vs, i, d, h, e => by
    obtain ⟨v, vr, rfl, h1, h2⟩ := h
    cases i with
    | zero => simp at e; subst e; exact ⟨w, rfl, h1⟩
    | succ i => simpa using RelWs.get' (i := i) h2 (by simpa using e)
theorem RelWs.set : ∀ {ds : List W} {vs : List V} (i : Nat) {d : W} {v : V}, RelWs K ρ H ds vs → RelW K ρ H d v → RelWs K ρ H (ds.set i d) (vs.set i v)
  | [], vs, i, d, v, h, e => by cases (show vs = [] from h); exact rfl
  | w :: ws, vs, i, d, v, h, e => by
    obtain ⟨v0, vr, rfl, h1, h2⟩ := h
    cases i with
    | zero => exact ⟨v, vr, rfl, e, h2⟩
    | succ i => exact ⟨v0, _, rfl, h1, RelWs.set i h2 e⟩
theorem RelWs.app : ∀ {ds es : List W} {vs us : List V}, RelWs K ρ H ds vs → RelWs K ρ H es us → RelWs K ρ H (ds ++ es) (vs ++ us)
  | [], es, vs, us, h, e => by cases (show vs = [] from h); exact e
  | w :: ws, es, vs, us, h, e => by
    obtain ⟨v0, vr, rfl, h1, h2⟩ := h
    exact ⟨v0, _, rfl, h1, RelWs.app h2 e⟩
theorem RelDs.app : ∀ {ds es : List D} {vs us : List V}, RelDs K ρ H ds vs → RelDs K ρ H es us → RelDs K ρ H (ds ++ es) (vs ++ us)
  | [], es, vs, us, h, e => by rw [RelDs] at h; subst h; exact e
  | w :: ws, es, vs, us, h, e => by
    rw [RelDs] at h
    obtain ⟨v0, vr, rfl, h1, h2⟩ := h
    show RelDs K ρ H (w :: (ws ++ es)) (v0 :: (vr ++ us))
    rw [RelDs]
    exact ⟨v0, _, rfl, h1, RelDs.app h2 e⟩
/-- data alone -/
def pure? : List W → Option (List D)
  | [] => some []
  | .d x :: ws => (pure? ws).map (x :: ·)
  | .loc _ :: _ => none
theorem pure?_rel : ∀ {ws : List W} {ds : List D} {vs : List V}, pure? ws = some ds → RelWs K ρ H ws vs → RelDs K ρ H ds vs
  | [], ds, vs, e, h => by
    cases (show vs = [] from h)
    cases (show some [] = some ds from e)
    rw [RelDs]
  | .d x :: ws, ds, vs, e, h => by
    obtain ⟨v, vr, rfl, h1, h2⟩ := h
    obtain ⟨es, e1, e2⟩ := Option.map_eq_some_iff.mp (show (pure? ws).map (x :: ·) = some ds from e)
    subst e2
    rw [RelDs]
    exact ⟨v, vr, rfl, h1, pure?_rel e1 h2⟩
  | .loc _ :: _, ds, vs, e, h => by cases (show (none : Option (List D)) = some ds from e)
theorem pure?_map (ds : List D) : pure? (ds.map W.d) = some ds := by
  induction ds with
  | nil => rfl
  | cons d ds ih => show (pure? (ds.map W.d)).map _ = _; rw [ih]; rfl
theorem relWs_map : ∀ {ds : List D} {vs : List V}, RelDs K ρ H ds vs → RelWs K ρ H (ds.map W.d) vs
  | [], vs, h => by rw [RelDs] at h; exact h
  | d :: ds, vs, h => by
    rw [RelDs] at h
    obtain ⟨v, vr, rfl, h1, h2⟩ := h
    exact ⟨v, vr, rfl, h1, relWs_map h2⟩
end
/-- the store is held -/
structure Ok (K : PySem.W.Frag) (ρ : Ad) (S : Store) (H : Hp) : Prop where
  len : ρ.pl.length = S.length
  inj : ∀ (i j : Nat) (a : Addr), ρ.pl[i]? = some (some a) → ρ.pl[j]? = some (some a) → i = j
  obj : ∀ (n : Nat) (a : Addr), ρ.pl[n]? = some (some a) → ∃ m, S[n]? = some m ∧ ObjR K ρ H m a
  live : ∀ (n : Nat) m, S[n]? = some m → m ≠ .dead → ∃ a, ρ.pl[n]? = some (some a)
  res : ∀ a, a ∈ ρ.rs → ∃ o, H a = some o
  dis : ∀ a, a ∈ ρ.rs → some a ∉ ρ.pl
section
variable {K : PySem.W.Frag} {ρ ρ' : Ad} {H H' : Hp} {S S' : Store}
theorem ObjR.there {m : M} {a : Addr} (h : ObjR K ρ H m a) : ∃ o, H a = some o := by
  cases m with
  | lst ws => obtain ⟨vs, h, _⟩ := h; exact ⟨_, h⟩
  | ins C ns ws => obtain ⟨dx, vs, h, _⟩ := h; exact ⟨_, h⟩
  | dead => exact h.elim
theorem Ok.there (ok : Ok K ρ S H) {a : Addr} (h : some a ∈ ρ.pl) : ∃ o, H a = some o := by
  obtain ⟨n, hn⟩ := List.getElem?_of_mem h
  obtain ⟨m, _, r⟩ := ok.obj n a hn
  exact r.there
theorem Ok.off (ok : Ok K ρ S H) {p : Addr} (h : H p = none) : Off ρ p := ⟨fun m => (by
  obtain ⟨o, e⟩ := ok.there m
  rw [h] at e
  cases e), fun m => (by
  obtain ⟨o, e⟩ := ok.res p m
  rw [h] at e
  cases e)⟩
/-- something new that no place holds -/
theorem step_new (ok : Ok K ρ S H) {p : Addr} (o : HO) (h : H p = none) : Step ρ H ρ (upd H p o) :=
  ⟨⟨fun a u e _ => by rw [upd_ne (ne_of_none e h)]; exact e, fun _ _ _ z => z, Nat.le_refl _, fun _ _ _ z => z⟩, rfl, fun a u _ e => by rw [upd_ne (ne_of_none e h)]; exact e⟩
theorem ObjR.monoW (s : Stw ρ H ρ' H') {m : M} {a : Addr} (k : ∀ o, H a = some o → H' a = some o) (h : ObjR K ρ H m a) : ObjR K ρ' H' m a := by
  cases m with
  | lst ws => obtain ⟨vs, h1, h2⟩ := h; exact ⟨vs, k _ h1, h2.monoW s⟩
  | ins C ns ws => obtain ⟨dx, vs, h1, h2, h3⟩ := h; exact ⟨dx, vs, k _ h1, h2.monoW s, h3⟩
  | dead => exact h.elim
/-- a heap that grows by what no place holds -/
theorem ok_grow (ok : Ok K ρ S H) (k : ∀ a o, H a = some o → H' a = some o) : Ok K ρ S H' ∧ Step ρ H ρ H' := by
  have st : Step ρ H ρ H' := ⟨⟨fun a u e _ => k a u e, fun _ _ _ z => z, Nat.le_refl _, fun _ _ _ z => z⟩, rfl, fun a u _ e => k a u e⟩
  exact ⟨⟨ok.len, ok.inj, fun n a e => by
    obtain ⟨m, e1, r⟩ := ok.obj n a e
    exact ⟨m, e1, r.monoW st.toStw fun u z => k _ u z⟩, ok.live, fun a h => by obtain ⟨o, e⟩ := ok.res a h; exact ⟨o, k a o e⟩, ok.dis⟩, st⟩
theorem ok_new (ok : Ok K ρ S H) {p : Addr} (o : HO) (h : H p = none) : Ok K ρ S (upd H p o) := (ok_grow ok fun a u e => by rw [upd_ne (ne_of_none e h)]; exact e).1
/-- an address that is kept is written: what else there is stays related -/
theorem stw_res {D : Addr} {o : HO} (hd : D ∈ ρ.rs) : Stw ρ H ρ (upd H D o) :=
  ⟨fun a u e n => by rw [upd_ne (fun z => by subst z; exact n.2 hd)]; exact e, fun _ _ _ z => z, Nat.le_refl _, fun _ _ _ z => z⟩
theorem ok_res (ok : Ok K ρ S H) {D : Addr} {o : HO} (hd : D ∈ ρ.rs) : Ok K ρ S (upd H D o) :=
  ⟨ok.len, ok.inj, fun n a e => by
    obtain ⟨m, e1, r⟩ := ok.obj n a e
    exact ⟨m, e1, r.monoW (stw_res hd) fun u z => by rw [upd_ne (fun q => by subst q; exact ok.dis _ hd (List.mem_of_getElem? e))]; exact z⟩, ok.live, fun a h => by
    by_cases hx : a = D
    · subst hx; exact ⟨o, upd_same⟩
    · obtain ⟨u, e⟩ := ok.res a h
      exact ⟨u, by rw [upd_ne hx]; exact e⟩, ok.dis⟩
/-- an address is kept from here on; it is let go -/
def Ad.keep (ρ : Ad) (D : Addr) : Ad := ⟨ρ.pl, D :: ρ.rs⟩
def Ad.let (ρ : Ad) : Ad := ⟨ρ.pl, ρ.rs.tail⟩
theorem ok_keep (ok : Ok K ρ S H) {D : Addr} {o : HO} (h : H D = none) : Ok K (ρ.keep D) S (upd H D o) ∧ Stw ρ H (ρ.keep D) (upd H D o) := by
  have off := ok.off h
  have st : Stw ρ H (ρ.keep D) (upd H D o) := ⟨fun a u e _ => by rw [upd_ne (ne_of_none e h)]; exact e, fun a u e z => ⟨z.1, fun m => by
    rcases List.mem_cons.mp (show a ∈ D :: ρ.rs from m) with q | q
    · subst q; rw [h] at e; cases e
    · exact z.2 q⟩, Nat.le_refl _, fun _ _ _ z => z⟩
  refine ⟨⟨ok.len, ok.inj, fun n a e => ?_, ok.live, fun a m => ?_, fun a m => ?_⟩, st⟩
  · obtain ⟨m, e1, r⟩ := ok.obj n a e
    exact ⟨m, e1, r.monoW st fun u z => by rw [upd_ne (ne_of_none z h)]; exact z⟩
  · rcases List.mem_cons.mp (show a ∈ D :: ρ.rs from m) with q | q
    · subst q; exact ⟨o, upd_same⟩
    · obtain ⟨u, e⟩ := ok.res a q
      exact ⟨u, by rw [upd_ne (ne_of_none e h)]; exact e⟩
  · rcases List.mem_cons.mp (show a ∈ D :: ρ.rs from m) with q | q
    · subst q; exact off.1
    · exact ok.dis a q
/-- a new place -/
theorem add_key {ρ : Ad} {p a : Addr} {i : Nat} (e : (ρ.add p).pl[i]? = some (some a)) : (ρ.pl[i]? = some (some a) ∧ i < ρ.pl.length) ∨ (i = ρ.pl.length ∧ a = p) := by
  unfold Ad.add at e
  by_cases hi : i < ρ.pl.length
  · simp only [List.getElem?_append_left hi] at e; exact .inl ⟨e, hi⟩
  · by_cases hi2 : i = ρ.pl.length
    · subst hi2; simp at e; exact .inr ⟨rfl, e.symm⟩
    · have : (ρ.pl ++ [some p])[i]? = none := List.getElem?_eq_none (by simp; omega)
      rw [this] at e; cases e
/-- the places' list with one more: what another one was stays -/
theorem stw_add {p : Addr} (k : ∀ a o, H a = some o → H' a = some o) (h : ∀ o, H p ≠ some o) : Stw ρ H (ρ.add p) H' :=
  ⟨fun a u e _ => k a u e, fun a u e z => ⟨fun m => by
    rcases List.mem_append.mp (show some a ∈ ρ.pl ++ [some p] from m) with m | m
    · exact z.1 m
    · have q : a = p := by simpa using m
      (subst q; exact h u e), z.2⟩, by simp [Ad.add], fun n a hn e => by
    unfold Ad.add at e
    simpa only [List.getElem?_append_left hn] using e⟩
theorem ok_alloc (ok : Ok K ρ S H) {p : Addr} {o : HO} {m : M} (h : H p = none) (r : ∀ ρ' H', Step ρ H ρ' H' → H' p = some o → ObjR K ρ' H' m p) :
    Ok K (ρ.add p) (S ++ [m]) (upd H p o) ∧ Step ρ H (ρ.add p) (upd H p o) := by
  have off := ok.off h
  have k : ∀ a u, H a = some u → upd H p o a = some u := fun a u e => by rw [upd_ne (ne_of_none e h)]; exact e
  have st : Step ρ H (ρ.add p) (upd H p o) := ⟨stw_add k (fun u z => by rw [h] at z; cases z), rfl, fun a u _ e => k a u e⟩
  refine ⟨⟨by simp [Ad.add, ok.len], fun i j a h1 h2 => ?_, fun n a e => ?_, fun n m' e hm => ?_, fun a ha => ?_, fun a ha => ?_⟩, st⟩
  · rcases add_key h1 with ⟨a1, _⟩ | ⟨a1, a2⟩ <;> rcases add_key h2 with ⟨b1, _⟩ | ⟨b1, b2⟩
    · exact ok.inj i j a a1 b1
    · subst b2; exact absurd (List.mem_of_getElem? a1) off.1
    · subst a2; exact absurd (List.mem_of_getElem? b1) off.1
    · omega
  · rcases add_key e with ⟨a1, hl⟩ | ⟨a1, a2⟩
    · obtain ⟨m', e1, r'⟩ := ok.obj n a a1
      exact ⟨m', by rw [List.getElem?_append_left (by rw [← ok.len]; exact hl)]; exact e1, r'.monoW st.toStw fun u z => k a u z⟩
    · subst a1 a2
      exact ⟨m, by rw [ok.len]; simp, r _ _ st upd_same⟩
  · by_cases hn : n < S.length
    · rw [List.getElem?_append_left hn] at e
      obtain ⟨a, e1⟩ := ok.live n m' e hm
      exact ⟨a, by unfold Ad.add; rw [List.getElem?_append_left (by rw [ok.len]; exact hn)]; exact e1⟩
    · by_cases hi2 : n = S.length
      · subst hi2
        exact ⟨p, by rw [← ok.len]; simp [Ad.add]⟩
      · have : (S ++ [m])[n]? = none := List.getElem?_eq_none (by simp; omega)
        rw [this] at e; cases e
  · obtain ⟨u, e⟩ := ok.res a ha
    exact ⟨u, k a u e⟩
  · intro z
    rcases List.mem_append.mp (show some a ∈ ρ.pl ++ [some p] from z) with z | z
    · exact ok.dis a ha z
    · have e : a = p := by simpa using z
      subst e; exact off.2 ha
/-- a place is written -/
theorem ok_write (ok : Ok K ρ S H) {n : Nat} {p : Addr} {o : HO} {m : M} (h : ρ.pl[n]? = some (some p)) (r : ∀ H', Step ρ H ρ H' → H' p = some o → ObjR K ρ H' m p) :
    Ok K ρ (S.set n m) (upd H p o) ∧ Step ρ H ρ (upd H p o) := by
  have hmem : some p ∈ ρ.pl := List.mem_of_getElem? h
  have st : Step ρ H ρ (upd H p o) := ⟨⟨fun a u e hn => by
    rw [upd_ne (fun z => by subst z; exact hn.1 hmem)]; exact e, fun _ _ _ z => z, Nat.le_refl _, fun _ _ _ z => z⟩, rfl, fun a u ha e => by
    rw [upd_ne (fun z => by subst z; exact ok.dis _ ha hmem)]; exact e⟩
  have hlt : n < S.length := by rw [← ok.len]; exact (List.getElem?_eq_some_iff.mp h).1
  refine ⟨⟨by simp [ok.len], ok.inj, fun k a e => ?_, fun k m' e hm => ?_, fun a ha => ?_, ok.dis⟩, st⟩
  · by_cases hk : k = n
    · subst hk
      rw [h] at e
      cases e
      exact ⟨m, List.getElem?_set_self hlt, r _ st upd_same⟩
    · obtain ⟨m', e1, r'⟩ := ok.obj k a e
      refine ⟨m', by rw [List.getElem?_set_ne (Ne.symm hk)]; exact e1, r'.monoW st.toStw fun u z => ?_⟩
      rw [upd_ne (fun z => by subst z; exact hk (ok.inj _ _ _ e h))]; exact z
  · by_cases hk : k = n
    · subst hk; exact ⟨p, h⟩
    · rw [List.getElem?_set_ne (Ne.symm hk)] at e
      exact ok.live k m' e hm
  · obtain ⟨u, e⟩ := ok.res a ha
    exact ⟨u, st.kr a u ha e⟩
/-- the slots hold what the names hold -/
structure EnvR (K : PySem.W.Frag) (ρ : Ad) (H : Hp) (δ : DEnv) (σ : L2.St) : Prop where
  len : δ.length = σ.length
  rel : ∀ (i : Nat) w, δ[i]? = some (some w) → ∃ v, σ[i]? = some (some v) ∧ RelW K ρ H w v
theorem EnvR.monoW (s : Stw ρ H ρ' H') {δ : DEnv} {σ : L2.St} (e : EnvR K ρ H δ σ) : EnvR K ρ' H' δ σ :=
  ⟨e.len, fun i w h => let ⟨v, h1, h2⟩ := e.rel i w h; ⟨v, h1, h2.monoW s⟩⟩
theorem EnvR.mono (s : Step ρ H ρ' H') {δ : DEnv} {σ : L2.St} (e : EnvR K ρ H δ σ) : EnvR K ρ' H' δ σ := e.monoW s.toStw
theorem EnvR.set {δ : DEnv} {σ : L2.St} {w : W} {v : V} (e : EnvR K ρ H δ σ) (i : Nat) (r : RelW K ρ H w v) : EnvR K ρ H (δ.set i (some w)) (σ.set i (some v)) := by
  refine ⟨by simp [e.len], fun j u h => ?_⟩
  by_cases hj : j = i
  · subst hj
    by_cases hl : j < δ.length
    · rw [List.getElem?_set_self hl] at h
      cases h
      exact ⟨v, List.getElem?_set_self (by rw [← e.len]; exact hl), r⟩
    · rw [List.getElem?_eq_none (by simpa using hl)] at h; cases h
  · rw [List.getElem?_set_ne (Ne.symm hj)] at h ⊢
    exact e.rel j u h
end
end DL
set_option Elab.async false
set_option linter.all false
set_option maxRecDepth 100000
set_option maxHeartbeats 1000000
/-! DL2: results, expressions, operators. -/
namespace DL
open PySem PySem.Spec PyProof.Rows L2

abbrev Rs (α : Type) := Option (Except Ex α × Store)
def Rs.bind {α β : Type} (m : Rs α) (k : α → Store → Rs β) : Rs β := match m with
  | none => none
  | some (.error x, S) => some (.error x, S)
  | some (.ok a, S) => k a S
abbrev Fn := List W → Store → Rs W
abbrev FE := DEnv → Store → Rs W
abbrev FT := DEnv → Store → Rs Bool
abbrev FA := DEnv → Store → Rs (List W)
abbrev WF : WX := fun _ _ _ _ => False
section
variable (K : PySem.W.Frag)
/-- an exception as it lies -/
def ExR (ρ : Ad) (H : Hp) (x : Ex) (d : Option Addr) : Prop := match d with
  | none => x.ns = [] ∧ x.ds = []
  | some a => ∃ vs, H a = some (.xd (x.ns.zip vs)) ∧ Off ρ a ∧ RelDs K ρ H x.ds vs ∧ x.ns.length = x.ds.length
def Go (Wx : WX) (σ : L2.St) (ρ : Ad) (H : Hp) {α β : Type} (rel : Ad → Hp → α → β → Prop) (m : Rs α) (Q : β → Hp → Prop) : Prop :=
  ∃ r S', m = some (r, S') ∧ ∀ ρ' H', Ok K ρ' S' H' → Step ρ H ρ' H' → match r with
    | .ok a => ∀ b, rel ρ' H' a b → Q b H'
    | .error x => ∀ d, ExR K ρ' H' x d → Wx x.cls d σ H'
abbrev relB : Ad → Hp → Bool → Bool → Prop := fun _ _ a b => a = b
def tE (Wx : WX) (f : FE) : TE := fun σ H Q => ∃ δ S ρ, Ok K ρ S H ∧ EnvR K ρ H δ σ ∧ Go K Wx σ ρ H (RelW K) (f δ S) Q
def tT (Wx : WX) (f : FT) : TT := fun σ H Q => ∃ δ S ρ, Ok K ρ S H ∧ EnvR K ρ H δ σ ∧ Go K Wx σ ρ H relB (f δ S) Q
def tA (Wx : WX) (f : FA) : TA := fun σ H Q => ∃ δ S ρ, Ok K ρ S H ∧ EnvR K ρ H δ σ ∧ Go K Wx σ ρ H (RelWs K) (f δ S) Q
end
section
variable {K : PySem.W.Frag} {Wx : WX} {σ : L2.St} {ρ ρ1 : Ad} {H H1 : Hp} {S S1 : Store} {α β γ ε : Type} {rel : Ad → Hp → α → β → Prop} {rel2 : Ad → Hp → γ → ε → Prop}
theorem Go.mono {m : Rs α} {Q Q' : β → Hp → Prop} (h : Go K Wx σ ρ H rel m Q) (i : ∀ b H', Q b H' → Q' b H') : Go K Wx σ ρ H rel m Q' := by
  obtain ⟨r, S', e, c⟩ := h
  refine ⟨r, S', e, fun ρ' H' ok st => ?_⟩
  have c' := c ρ' H' ok st
  cases r with
  | ok a => exact fun b hb => i b H' (c' b hb)
  | error x => exact c'
theorem go_bind {m : Rs α} {k : α → Store → Rs γ} {Q : ε → Hp → Prop} (h : Go K Wx σ ρ H rel2 (m.bind k) Q) :
    Go K Wx σ ρ H rel m (fun b H1 => ∃ a S1 ρ1, Ok K ρ1 S1 H1 ∧ Step ρ H ρ1 H1 ∧ rel ρ1 H1 a b ∧ Go K Wx σ ρ1 H1 rel2 (k a S1) Q) := by
  obtain ⟨r, S', e, c⟩ := h
  cases m with
  | none => exact nomatch (show (none : Rs γ) = some (r, S') from e)
  | some p =>
    obtain ⟨z, S1⟩ := p
    cases z with
    | error x =>
      obtain ⟨rfl, rfl⟩ : (Except.error x : Except Ex γ) = r ∧ S1 = S' := by
        have e' : some (Except.error x, S1) = some (r, S') := e
        injection e' with e1
        injection e1 with e2 e3
        exact ⟨e2, e3⟩
      exact ⟨.error x, S1, rfl, fun ρ' H' ok st => c ρ' H' ok st⟩
    | ok a => exact ⟨.ok a, S1, rfl, fun ρ1 H1 ok st b hb => ⟨a, S1, ρ1, ok, st, hb, r, S', e, fun ρ' H' ok' st' => c ρ' H' ok' (st.trans st')⟩⟩
/-- a value comes at once -/
theorem go_val {a : α} {Q : β → Hp → Prop} (ok : Ok K ρ S H) (h : Go K Wx σ ρ H rel (some (.ok a, S)) Q) {b : β} (r : rel ρ H a b) : Q b H := by
  obtain ⟨r', S', e, c⟩ := h
  cases e
  exact c ρ H ok (Step.refl ρ H) b r
theorem go_err {x : Ex} {Q : β → Hp → Prop} (ok : Ok K ρ S H) (h : Go K Wx σ ρ H (α := α) rel (some (.error x, S)) Q) {d : Option Addr} (r : ExR K ρ H x d) : Wx x.cls d σ H := by
  obtain ⟨r', S', e, c⟩ := h
  cases e
  exact c ρ H ok (Step.refl ρ H) d r
theorem go_none {Q : β → Hp → Prop} {P : Prop} (h : Go K Wx σ ρ H (α := α) rel none Q) : P := by
  obtain ⟨_, _, e, _⟩ := h
  exact nomatch e
/-- a value comes in a state that goes on -/
theorem go_at {a : α} {Q : β → Hp → Prop} (h : Go K Wx σ ρ H rel (some (.ok a, S1)) Q) (ok : Ok K ρ1 S1 H1) (st : Step ρ H ρ1 H1) {b : β} (r : rel ρ1 H1 a b) : Q b H1 := by
  obtain ⟨r', S', e, c⟩ := h
  cases e
  exact c ρ1 H1 ok st b r
theorem go_mk {a : α} {Q : β → Hp → Prop} (h : ∀ ρ' H', Ok K ρ' S1 H' → Step ρ H ρ' H' → ∀ b, rel ρ' H' a b → Q b H') : Go K Wx σ ρ H rel (some (.ok a, S1)) Q := ⟨_, _, rfl, h⟩
end
theorem _root_.L2.PE.imp {X : Cx} {e : Expr} {t t' : TE} (h : PE X e t) (i : ∀ σ H Q, t' σ H Q → t σ H Q) : PE X e t' := ⟨fun pins s σ H Q I q => h.run pins s σ H Q I (i σ H Q q)⟩
theorem _root_.L2.PT.imp {X : Cx} {e : Expr} {t t' : TT} (h : PT X e t) (i : ∀ σ H Q, t' σ H Q → t σ H Q) : PT X e t' := ⟨fun pins s σ H Q I q => h.run pins s σ H Q I (i σ H Q q)⟩
theorem _root_.L2.PW.imp {X : Cx} {e : Expr} {t t' : TT} (h : PW X e t) (i : ∀ σ H Q, t' σ H Q → t σ H Q) : PW X e t' := ⟨fun wh pins s σ H Q I q => h.run wh pins s σ H Q I (i σ H Q q)⟩
theorem _root_.L2.PA.imp {X : Cx} {e : List Expr} {t t' : TA} (h : PA X e t) (i : ∀ σ H Q, t' σ H Q → t σ H Q) : PA X e t' := ⟨fun pos pins s σ H Q I q => h.run pos pins s σ H Q I (i σ H Q q)⟩

/-! ### names, constants -/
section
variable {X : Cx} {Wx : WX} {e a b c : Expr} {es : List Expr} {f g h : FE} {pos : Pos}
def dVar (i : Nat) : FE := fun δ S => match δ[i]? with
  | some (some w) => some (.ok w, S)
  | _ => none
def dC (x : D) : FE := fun _ S => some (.ok (.d x), S)
theorem de_c {v : V} {x : D} (he : PE X e (tC v)) (r : ∀ ρ H, RelD X.K ρ H x v) : PE X e (tE X.K Wx (dC x)) :=
  he.imp fun σ H Q ⟨δ, S, ρ, ok, en, q⟩ => go_val ok q (show RelW X.K ρ H (.d x) v from r ρ H)
theorem de_var {i : Nat} (he : PE X e (tVar i)) : PE X e (tE X.K Wx (dVar i)) := he.imp fun σ H Q ⟨δ, S, ρ, ok, en, q⟩ => by
  unfold dVar at q
  split at q
  · rename_i w e
    obtain ⟨v, e1, r⟩ := en.rel i w e
    exact ⟨v, e1, go_val ok q r⟩
  · exact go_none q
theorem de_int {i : Int} {j : Nat} : PE X (.Constant (.int i) j pos) (tE X.K Wx (dC (.int i))) := de_c pe_int fun _ _ => by rw [RelD]
theorem de_bl {i : Bool} {j : Nat} : PE X (.Constant (.bool i) j pos) (tE X.K Wx (dC (.bl i))) := de_c pe_bl fun _ _ => by rw [RelD]
theorem de_non {j : Nat} : PE X (.Constant .none j pos) (tE X.K Wx (dC .non)) := de_c pe_non fun _ _ => by rw [RelD]
theorem de_str {i : Str} {j : Nat} : PE X (.Constant (.str i) j pos) (tE X.K Wx (dC (.str i))) := de_c pe_str fun _ _ => by rw [RelD]
/-- a module's int -/
theorem de_gint {x : Str} {i : Int} {t : Tok} (hm : X.mg x = some (.int i t)) (hg : Gl X x := by rfl) (hd : (x == ("__debug__" : Str)) = false := by decide) : PE X (.Name x pos) (tE X.K Wx (dC (.int i))) :=
  de_c (pe_glob hg hm (v := .int i) ⟨t, rfl⟩ hd) fun _ _ => by rw [RelD]
/-- a module's object: a class, a def -/
theorem de_gref {x : Str} {a : Addr} (hm : X.mg x = some (.ref a)) (hg : Gl X x := by rfl) (hd : (x == ("__debug__" : Str)) = false := by decide) : PE X (.Name x pos) (tE X.K Wx (dC (.ref a))) :=
  de_c (pe_glob hg hm (v := .ref a) rfl hd) fun _ _ => by rw [RelD]
/-- a built-in class -/
theorem de_ty {x : Str} {n : String} (hm : X.mg x = none) (hv : bootBuiltins x = some (.type n)) (hg : Gl X x := by rfl) (hn : x ≠ "__name__" := by decide) (hd : (x == ("__debug__" : Str)) = false := by decide) : PE X (.Name x pos) (tE X.K Wx (dC (.ty n))) :=
  de_c (pe_bltn hg hm hv (v := .ty n) rfl hn hd) fun _ _ => by rw [RelD]

/-! ### two, one -/
abbrev F2 := W → W → Store → Rs W
def OpF (K : PySem.W.Frag) (Wx : WX) (r : R2) (op : F2) : Prop := ∀ (σ : L2.St) (ρ : Ad) (S : Store) (H : Hp) (x y : W) (a b : V) (Q : VK), Ok K ρ S H → RelW K ρ H x a → RelW K ρ H y b → Go K Wx σ ρ H (RelW K) (op x y S) Q → r a b H Q
def d2 (op : F2) (f g : FE) : FE := fun δ S => (f δ S).bind fun x S1 => (g δ S1).bind fun y S2 => op x y S2
theorem imp2 {K : PySem.W.Frag} {r : R2} {op : F2} (o : OpF K Wx r op) (σ : L2.St) (H : Hp) (Q : VK) (q : tE K Wx (d2 op f g) σ H Q) : tOp r (tE K Wx f) (tE K Wx g) σ H Q := by
  obtain ⟨δ, S, ρ, ok, en, q⟩ := q
  refine ⟨δ, S, ρ, ok, en, (go_bind q).mono fun v H1 ⟨x, S1, ρ1, ok1, st1, r1, q1⟩ => ?_⟩
  exact ⟨δ, S1, ρ1, ok1, en.mono st1, (go_bind q1).mono fun u H2 ⟨y, S2, ρ2, ok2, st2, r2, q2⟩ => o σ ρ2 S2 H2 x y v u Q ok2 (r1.mono st2) r2 q2⟩
theorem de_op {op : Operator} {r : R2} {fo : F2} (ho : OpR X (binaryOp op) r) (o : OpF X.K Wx r fo) (ha : PE X a (tE X.K Wx f)) (hb : PE X b (tE X.K Wx g)) : PE X (.BinOp a op b pos) (tE X.K Wx (d2 fo f g)) :=
  (pe_op ho ha hb).imp (imp2 o)
theorem de_ix {r : R2} {fo : F2} (ho : IxR X r) (o : OpF X.K Wx r fo) (ha : PE X a (tE X.K Wx f)) (hb : PE X b (tE X.K Wx g)) (hs : PlainIx b := by exact fun _ _ => rfl) : PE X (.Subscript a b pos) (tE X.K Wx (d2 fo f g)) :=
  (pe_ix ho ha hb hs).imp (imp2 o)
theorem de_cmp {op : CmpOp} {r : R2} {fo : F2} (ho : OpR X (compareOp op) r) (o : OpF X.K Wx r fo) (ha : PE X a (tE X.K Wx f)) (hb : PE X b (tE X.K Wx g)) (hm : behindInMarks op b = false := by first | exact nomark _ | rfl) : PE X (.Compare a [op] [b] pos) (tE X.K Wx (d2 fo f g)) :=
  (pe_cmpR ho ha hb hm).imp (imp2 o)
/-- a value that is a truth value, as a test -/
def asB : W → Store → Rs Bool
  | .d (.bl b), S => some (.ok b, S)
  | _, _ => none
theorem asB_inv {K : PySem.W.Frag} {σ : L2.St} {ρ : Ad} {H : Hp} {S : Store} {x : W} {v : V} {P : Prop} {Q : Bool → Hp → Prop} (ok : Ok K ρ S H) (r : RelW K ρ H x v) (q : Go K Wx σ ρ H relB (asB x S) Q) (k : ∀ b, x = .d (.bl b) → v = .bl b → Q b H → P) : P := by
  cases x with
  | loc n => exact go_none q
  | d x => cases x with
    | bl b => exact k b rfl (by simpa [RelW, RelD] using r) (go_val ok q rfl)
    | _ => exact go_none q
def dB (f : FE) : FT := fun δ S => (f δ S).bind asB
theorem impB {K : PySem.W.Frag} (σ : L2.St) (H : Hp) (Q : Bool → Hp → Prop) (q : tT K Wx (dB f) σ H Q) : tTest (tE K Wx f) σ H Q := by
  obtain ⟨δ, S, ρ, ok, en, q⟩ := q
  refine ⟨δ, S, ρ, ok, en, (go_bind q).mono fun v H1 ⟨x, S1, ρ1, ok1, st1, r1, q1⟩ => ?_⟩
  exact asB_inv ok1 r1 q1 fun b _ e q => ⟨b, e, q⟩
theorem dt_cmp {op : CmpOp} {r : R2} {fo : F2} (ho : OpR X (compareOp op) r) (o : OpF X.K Wx r fo) (ha : PE X a (tE X.K Wx f)) (hb : PE X b (tE X.K Wx g)) (hm : behindInMarks op b = false := by first | exact nomark _ | rfl) : PT X (.Compare a [op] [b] pos) (tT X.K Wx (dB (d2 fo f g))) :=
  ((pt_cmpR ho ha hb hm).imp fun σ H Q q => q).imp fun σ H Q q => by
    have q' := impB σ H Q q
    exact (imp2 o σ H _ q')
/-- a < b < c -/
def dChain (op op' : F2) (f g h : FE) : FE := fun δ S => (f δ S).bind fun x S1 => (g δ S1).bind fun y S2 => (op x y S2).bind fun z S3 => (asB z S3).bind fun k S4 =>
  if k = true then (h δ S4).bind fun u S5 => op' y u S5 else some (.ok (.d (.bl false)), S4)
theorem impChain {K : PySem.W.Frag} {r r' : R2} {op op' : F2} (o : OpF K Wx r op) (o' : OpF K Wx r' op') (σ : L2.St) (H : Hp) (Q : VK) (q : tE K Wx (dChain op op' f g h) σ H Q) : tChain r r' (tE K Wx f) (tE K Wx g) (tE K Wx h) σ H Q := by
  obtain ⟨δ, S, ρ, ok, en, q⟩ := q
  refine ⟨δ, S, ρ, ok, en, (go_bind q).mono fun v H1 ⟨x, S1, ρ1, ok1, st1, r1, q1⟩ => ?_⟩
  refine ⟨δ, S1, ρ1, ok1, en.mono st1, (go_bind q1).mono fun u H2 ⟨y, S2, ρ2, ok2, st2, r2, q2⟩ => ?_⟩
  refine o σ ρ2 S2 H2 x y v u _ ok2 (r1.mono st2) r2 ((go_bind q2).mono fun zv H3 ⟨z, S3, ρ3, ok3, st3, r3, q3⟩ => ?_)
  cases z with
  | loc n => exact go_none q3
  | d z => cases z with
    | bl b =>
      refine ⟨b, (by simpa [RelW, RelD] using r3), ?_⟩
      change Go K Wx σ ρ3 H3 (RelW K) (if b = true then _ else _) Q at q3
      cases b with
      | true =>
        rw [if_pos rfl] at q3
        refine iteT ⟨δ, S3, ρ3, ok3, ((en.mono st1).mono st2).mono st3, (go_bind q3).mono fun cv H4 ⟨c1, S4, ρ4, ok4, st4, r4, q4⟩ => ?_⟩
        exact o' σ ρ4 S4 H4 y c1 u cv Q ok4 ((r2.mono st3).mono st4) r4 q4
      | false =>
        rw [if_neg Bool.false_ne_true] at q3
        exact iteF (go_val ok3 q3 (by simp [RelW, RelD]))
    | _ => exact go_none q3
theorem de_chain {op op' : CmpOp} {r r' : R2} {fo fo' : F2} (ho : OpR X (compareOp op) r) (ho' : OpR X (compareOp op') r') (o : OpF X.K Wx r fo) (o' : OpF X.K Wx r' fo') (ha : PE X a (tE X.K Wx f)) (hb : PE X b (tE X.K Wx g)) (hc : PE X c (tE X.K Wx h)) (hm : lastMarks [op, op'] [b, c] = false := by with_unfolding_all rfl) :
    PE X (.Compare a [op, op'] [b, c] pos) (tE X.K Wx (dChain fo fo' f g h)) := (pe_chain ho ho' ha hb hc hm).imp (impChain o o')
theorem dt_chain {op op' : CmpOp} {r r' : R2} {fo fo' : F2} (ho : OpR X (compareOp op) r) (ho' : OpR X (compareOp op') r') (o : OpF X.K Wx r fo) (o' : OpF X.K Wx r' fo') (ha : PE X a (tE X.K Wx f)) (hb : PE X b (tE X.K Wx g)) (hc : PE X c (tE X.K Wx h)) (hm : lastMarks [op, op'] [b, c] = false := by with_unfolding_all rfl) :
    PT X (.Compare a [op, op'] [b, c] pos) (tT X.K Wx (dB (dChain fo fo' f g h))) := (pt_chain ho ho' ha hb hc hm).imp fun σ H Q q => impChain o o' σ H _ (impB σ H Q q)
end
end DL
set_option Elab.async false
set_option linter.all false
set_option maxRecDepth 100000
set_option maxHeartbeats 1000000
/-! DL3: tests, arguments, displays, operators by values. -/
namespace DL
open PySem PySem.Spec PyProof.Rows L2

section
variable {X : Cx} {Wx : WX} {e a b c : Expr} {es rest : List Expr} {f g h : FE} {ft gt : FT} {fa : FA} {pos : Pos}
/-! ### tests -/
def dAnd (t u : FT) : FT := fun δ S => (t δ S).bind fun c S1 => if c = true then u δ S1 else some (.ok false, S1)
def dOr (t u : FT) : FT := fun δ S => (t δ S).bind fun c S1 => if c = true then some (.ok true, S1) else u δ S1
def dNot (t : FT) : FT := fun δ S => (t δ S).bind fun c S1 => some (.ok (!c), S1)
theorem impAnd {K : PySem.W.Frag} (σ : L2.St) (H : Hp) (Q : Bool → Hp → Prop) (q : tT K Wx (dAnd ft gt) σ H Q) : tAnd (tT K Wx ft) (tT K Wx gt) σ H Q := by
  obtain ⟨δ, S, ρ, ok, en, q⟩ := q
  refine ⟨δ, S, ρ, ok, en, (go_bind q).mono fun v H1 ⟨x, S1, ρ1, ok1, st1, r1, q1⟩ => ?_⟩
  obtain rfl : x = v := r1
  cases x with
  | true =>
    rw [if_pos rfl] at q1
    exact iteT ⟨δ, S1, ρ1, ok1, en.mono st1, q1⟩
  | false =>
    rw [if_neg Bool.false_ne_true] at q1
    exact iteF (go_val ok1 q1 rfl)
theorem impOr {K : PySem.W.Frag} (σ : L2.St) (H : Hp) (Q : Bool → Hp → Prop) (q : tT K Wx (dOr ft gt) σ H Q) : tOr (tT K Wx ft) (tT K Wx gt) σ H Q := by
  obtain ⟨δ, S, ρ, ok, en, q⟩ := q
  refine ⟨δ, S, ρ, ok, en, (go_bind q).mono fun v H1 ⟨x, S1, ρ1, ok1, st1, r1, q1⟩ => ?_⟩
  obtain rfl : x = v := r1
  cases x with
  | false =>
    rw [if_neg Bool.false_ne_true] at q1
    exact iteF ⟨δ, S1, ρ1, ok1, en.mono st1, q1⟩
  | true =>
    rw [if_pos rfl] at q1
    exact iteT (go_val ok1 q1 rfl)
theorem dw_and1 (ha : PT X a (tT X.K Wx ft)) : PW X (.BoolOp .And [a] pos) (tT X.K Wx ft) := pw_and1 ha
theorem dw_or1 (ha : PT X a (tT X.K Wx ft)) : PW X (.BoolOp .Or [a] pos) (tT X.K Wx ft) := pw_or1 ha
theorem dw_and (ha : PT X a (tT X.K Wx ft)) (hb : PW X (.BoolOp .And (b :: rest) pos) (tT X.K Wx gt)) : PW X (.BoolOp .And (a :: b :: rest) pos) (tT X.K Wx (dAnd ft gt)) := (pw_and ha hb).imp impAnd
theorem dw_or (ha : PT X a (tT X.K Wx ft)) (hb : PW X (.BoolOp .Or (b :: rest) pos) (tT X.K Wx gt)) : PW X (.BoolOp .Or (a :: b :: rest) pos) (tT X.K Wx (dOr ft gt)) := (pw_or ha hb).imp impOr
theorem dt_not (ha : PT X a (tT X.K Wx ft)) : PT X (.UnaryOp .Not a pos) (tT X.K Wx (dNot ft)) := (pt_not ha).imp fun σ H Q q => by
  obtain ⟨δ, S, ρ, ok, en, q⟩ := q
  refine ⟨δ, S, ρ, ok, en, (go_bind q).mono fun v H1 ⟨x, S1, ρ1, ok1, st1, r1, q1⟩ => ?_⟩
  obtain rfl : x = v := r1
  exact go_val ok1 q1 rfl
/-- the truth of a value -/
def truth : W → Store → Rs Bool
  | .d .non, S => some (.ok false, S)
  | .d (.bl b), S => some (.ok b, S)
  | .d (.int i), S => some (.ok (i != 0), S)
  | .d (.tup ds), S => some (.ok (!ds.isEmpty), S)
  | .d (.lst ds), S => some (.ok (!ds.isEmpty), S)
  | .loc n, S => match S[n]? with
    | some (.lst ws) => some (.ok (!ws.isEmpty), S)
    | _ => none
  | _, _ => none
def dTru (f : FE) : FT := fun δ S => (f δ S).bind truth
theorem isEmpty_len {α β : Type} {xs : List α} {ys : List β} (h : xs.length = ys.length) : xs.isEmpty = ys.isEmpty := by
  cases xs <;> cases ys <;> first | rfl | simp at h
theorem truth_ok {K : PySem.W.Frag} {σ : L2.St} {ρ : Ad} {H : Hp} {S : Store} {x : W} {v : V} {Q : Bool → Hp → Prop} (ok : Ok K ρ S H) (r : RelW K ρ H x v) (q : Go K Wx σ ρ H relB (truth x S) Q) : ∃ k, TruV K v H k ∧ Q k H := by
  cases x with
  | loc n =>
    cases e : S[n]? with
    | none => simp only [truth, e] at q; exact go_none q
    | some m =>
      simp only [truth, e] at q
      cases m with
      | lst ws =>
        obtain ⟨a, ha⟩ := ok.live n _ e (by simp)
        obtain ⟨m', e1, o⟩ := ok.obj n a ha
        rw [e] at e1
        cases e1
        obtain ⟨vs, h1, h2⟩ := o
        obtain rfl := r.2 a ha
        exact ⟨!ws.isEmpty, .inl ⟨vs, SqL.of h1, by rw [isEmpty_len h2.length]⟩, go_val ok q rfl⟩
      | _ => exact go_none q
  | d x => cases x with
    | non =>
      obtain rfl : v = .non := by simpa [RelW, RelD] using r
      exact ⟨false, rfl, go_val ok q rfl⟩
    | bl b =>
      obtain rfl : v = .bl b := by simpa [RelW, RelD] using r
      exact ⟨b, rfl, go_val ok q rfl⟩
    | int i =>
      obtain rfl : v = .int i := by simpa [RelW, RelD] using r
      exact ⟨_, rfl, go_val ok q rfl⟩
    | tup ds =>
      obtain ⟨a, vs, rfl, h1, h2⟩ : ∃ a vs, v = .ref a ∧ TupF K ρ H a vs ∧ RelDs K ρ H ds vs := by simpa [RelW, RelD] using r
      exact ⟨!ds.isEmpty, .inr (.inl ⟨vs, h1.sq, by rw [isEmpty_len h2.length]⟩), go_val ok q rfl⟩
    | lst ds =>
      obtain ⟨a, vs, rfl, h1, h2⟩ : ∃ a vs, v = .ref a ∧ LstF K ρ H a vs ∧ RelDs K ρ H ds vs := by simpa [RelW, RelD] using r
      exact ⟨!ds.isEmpty, .inl ⟨vs, h1.sq, by rw [isEmpty_len h2.length]⟩, go_val ok q rfl⟩
    | _ => exact go_none q
theorem dt_tru (ha : PE X a (tE X.K Wx f)) (he : ∀ whole, isTrue a X.env whole = (do let v ← whole; standAt a.pos; holding [v] (truthy v)) := by intro _; rfl) : PT X a (tT X.K Wx (dTru f)) :=
  (pt_truth ha he).imp fun σ H Q q => by
    obtain ⟨δ, S, ρ, ok, en, q⟩ := q
    exact ⟨δ, S, ρ, ok, en, (go_bind q).mono fun v H1 ⟨x, S1, ρ1, ok1, st1, r1, q1⟩ => truth_ok ok1 r1 q1⟩
/-- and, or, not as values: truth values -/
def dAndV (f g : FE) : FE := fun δ S => (f δ S).bind fun x S1 => (asB x S1).bind fun c S2 => if c = true then g δ S2 else some (.ok (.d (.bl false)), S2)
def dOrV (f g : FE) : FE := fun δ S => (f δ S).bind fun x S1 => (asB x S1).bind fun c S2 => if c = true then some (.ok (.d (.bl true)), S2) else g δ S2
def dNotV (f : FE) : FE := fun δ S => (f δ S).bind fun x S1 => (asB x S1).bind fun c S2 => some (.ok (.d (.bl (!c))), S2)
theorem asB_bind {γ : Type} {K : PySem.W.Frag} {σ : L2.St} {ρ : Ad} {H : Hp} {S : Store} {x : W} {v : V} {P : Prop} {ε : Type} {rel2 : Ad → Hp → γ → ε → Prop} {Q : ε → Hp → Prop} {k : Bool → Store → Rs γ} (ok : Ok K ρ S H) (r : RelW K ρ H x v) (q : Go K Wx σ ρ H rel2 ((asB x S).bind k) Q)
    (z : ∀ b, v = .bl b → Go K Wx σ ρ H rel2 (k b S) Q → P) : P := by
  cases x with
  | loc n => exact go_none q
  | d x => cases x with
    | bl b => exact z b (by simpa [RelW, RelD] using r) q
    | _ => exact go_none q
theorem de_one {op} (h : PE X a (tE X.K Wx f)) : PE X (.BoolOp op [a] pos) (tE X.K Wx f) := pe_one h
theorem de_and (ha : PE X a (tE X.K Wx f)) (hb : PE X (.BoolOp .And (b :: rest) pos) (tE X.K Wx g)) : PE X (.BoolOp .And (a :: b :: rest) pos) (tE X.K Wx (dAndV f g)) := (pe_and ha hb).imp fun σ H Q q => by
  obtain ⟨δ, S, ρ, ok, en, q⟩ := q
  refine ⟨δ, S, ρ, ok, en, (go_bind q).mono fun v H1 ⟨x, S1, ρ1, ok1, st1, r1, q1⟩ => asB_bind ok1 r1 q1 fun c e q2 => ⟨c, e, ?_⟩⟩
  cases c with
  | true =>
    rw [if_pos rfl] at q2
    exact iteT ⟨δ, S1, ρ1, ok1, en.mono st1, q2⟩
  | false =>
    rw [if_neg Bool.false_ne_true] at q2
    exact iteF (go_val ok1 q2 (by simp [RelW, RelD]))
theorem de_or (ha : PE X a (tE X.K Wx f)) (hb : PE X (.BoolOp .Or (b :: rest) pos) (tE X.K Wx g)) : PE X (.BoolOp .Or (a :: b :: rest) pos) (tE X.K Wx (dOrV f g)) := (pe_or ha hb).imp fun σ H Q q => by
  obtain ⟨δ, S, ρ, ok, en, q⟩ := q
  refine ⟨δ, S, ρ, ok, en, (go_bind q).mono fun v H1 ⟨x, S1, ρ1, ok1, st1, r1, q1⟩ => asB_bind ok1 r1 q1 fun c e q2 => ⟨c, e, ?_⟩⟩
  cases c with
  | false =>
    rw [if_neg Bool.false_ne_true] at q2
    exact iteF ⟨δ, S1, ρ1, ok1, en.mono st1, q2⟩
  | true =>
    rw [if_pos rfl] at q2
    exact iteT (go_val ok1 q2 (by simp [RelW, RelD]))
theorem de_not (ha : PE X a (tE X.K Wx f)) : PE X (.UnaryOp .Not a pos) (tE X.K Wx (dNotV f)) := (pe_not ha).imp fun σ H Q q => by
  obtain ⟨δ, S, ρ, ok, en, q⟩ := q
  exact ⟨δ, S, ρ, ok, en, (go_bind q).mono fun v H1 ⟨x, S1, ρ1, ok1, st1, r1, q1⟩ => asB_bind ok1 r1 q1 fun c e q2 => ⟨c, e, go_val ok1 q2 (by simp [RelW, RelD])⟩⟩
/-- a if t else b -/
def dIf (t : FT) (f g : FE) : FE := fun δ S => (t δ S).bind fun c S1 => if c = true then f δ S1 else g δ S1
theorem de_if (hc : PT X c (tT X.K Wx ft)) (ha : PE X a (tE X.K Wx f)) (hb : PE X b (tE X.K Wx g)) : PE X (.IfExp c a b pos) (tE X.K Wx (dIf ft f g)) := (pe_ifExp hc ha hb).imp fun σ H Q q => by
  obtain ⟨δ, S, ρ, ok, en, q⟩ := q
  refine ⟨δ, S, ρ, ok, en, (go_bind q).mono fun v H1 ⟨x, S1, ρ1, ok1, st1, r1, q1⟩ => ?_⟩
  obtain rfl : x = v := r1
  cases x with
  | true =>
    rw [if_pos rfl] at q1
    exact iteT ⟨δ, S1, ρ1, ok1, en.mono st1, q1⟩
  | false =>
    rw [if_neg Bool.false_ne_true] at q1
    exact iteF ⟨δ, S1, ρ1, ok1, en.mono st1, q1⟩

/-! ### arguments, displays -/
def aNil : FA := fun _ S => some (.ok [], S)
def aCons (f : FE) (g : FA) : FA := fun δ S => (f δ S).bind fun x S1 => (g δ S1).bind fun xs S2 => some (.ok (x :: xs), S2)
theorem da_nil : PA X [] (tA X.K Wx aNil) := pa_nil.imp fun σ H Q q => by
  obtain ⟨δ, S, ρ, ok, en, q⟩ := q
  exact go_val ok q (show RelWs X.K ρ H [] [] from rfl)
theorem da_cons (ha : PE X e (tE X.K Wx f)) (hr : PA X es (tA X.K Wx fa)) (hs : starEach (e :: es) X.env = (false, eval e X.env) :: starEach es X.env := by rfl) : PA X (e :: es) (tA X.K Wx (aCons f fa)) :=
  (pa_cons ha hr hs).imp fun σ H Q q => by
    obtain ⟨δ, S, ρ, ok, en, q⟩ := q
    refine ⟨δ, S, ρ, ok, en, (go_bind q).mono fun v H1 ⟨x, S1, ρ1, ok1, st1, r1, q1⟩ => ?_⟩
    refine ⟨δ, S1, ρ1, ok1, en.mono st1, (go_bind q1).mono fun vs H2 ⟨xs, S2, ρ2, ok2, st2, r2, q2⟩ => ?_⟩
    exact go_val ok2 q2 (show RelWs X.K ρ2 H2 (x :: xs) (v :: vs) from ⟨v, vs, rfl, r1.mono st2, r2⟩)
/-- a list read-only from here on, a tuple -/
def mkTup (ws : List W) (S : Store) : Rs W := if ws.length ≤ sizeLine then (match pure? ws with
  | some ds => some (.ok (.d (.tup ds)), S)
  | none => none) else none
def mkLst (ws : List W) (S : Store) : Rs W := if ws.length ≤ sizeLine then (match pure? ws with
  | some ds => some (.ok (.d (.lst ds)), S)
  | none => none) else none
/-- a list at a new place -/
def mkLoc (ws : List W) (S : Store) : Rs W := if ws.length ≤ sizeLine then some (.ok (.loc S.length), S ++ [.lst ws]) else none
def dTup (g : FA) : FE := fun δ S => (g δ S).bind mkTup
def dLst (g : FA) : FE := fun δ S => (g δ S).bind mkLst
def dLoc (g : FA) : FE := fun δ S => (g δ S).bind mkLoc
theorem tupF_new {K : PySem.W.Frag} {ρ : Ad} {S : Store} {H : Hp} {p : Addr} {vs : List V} (ok : Ok K ρ S H) (h : H p = none) : TupF K ρ (upd H p (.tup vs)) p vs := .inl ⟨.inl upd_same, ok.off h⟩
theorem lstF_new {K : PySem.W.Frag} {ρ : Ad} {S : Store} {H : Hp} {p : Addr} {vs : List V} (ok : Ok K ρ S H) (h : H p = none) : LstF K ρ (upd H p (.lst vs)) p vs := .inl ⟨.inl upd_same, ok.off h⟩
theorem mkTup_ok {K : PySem.W.Frag} {σ : L2.St} {ρ : Ad} {H : Hp} {S : Store} {ws : List W} {vs : List V} {Q : VK} (ok : Ok K ρ S H) (r : RelWs K ρ H ws vs) (q : Go K Wx σ ρ H (RelW K) (mkTup ws S) Q) : vs.length ≤ sizeLine ∧ ∀ p, H p = none → Q (.ref p) (upd H p (.tup vs)) := by
  unfold mkTup at q
  split at q
  · rename_i hz
    refine ⟨by rw [← r.length]; exact hz, fun p hp => ?_⟩
    cases e : pure? ws with
    | none => rw [e] at q; exact go_none q
    | some ds =>
      rw [e] at q
      have st := step_new ok (.tup vs) hp
      exact go_at q (ok_new ok _ hp) st (show RelD K ρ (upd H p (.tup vs)) (.tup ds) (.ref p) by rw [RelD]; exact ⟨p, vs, rfl, tupF_new ok hp, RelDs.mono st ds vs (pure?_rel e r)⟩)
  · exact go_none q
theorem mkLst_ok {K : PySem.W.Frag} {σ : L2.St} {ρ : Ad} {H : Hp} {S : Store} {ws : List W} {vs : List V} {Q : VK} (ok : Ok K ρ S H) (r : RelWs K ρ H ws vs) (q : Go K Wx σ ρ H (RelW K) (mkLst ws S) Q) : vs.length ≤ sizeLine ∧ ∀ p, H p = none → Q (.ref p) (upd H p (.lst vs)) := by
  unfold mkLst at q
  split at q
  · rename_i hz
    refine ⟨by rw [← r.length]; exact hz, fun p hp => ?_⟩
    cases e : pure? ws with
    | none => rw [e] at q; exact go_none q
    | some ds =>
      rw [e] at q
      have st := step_new ok (.lst vs) hp
      exact go_at q (ok_new ok _ hp) st (show RelD K ρ (upd H p (.lst vs)) (.lst ds) (.ref p) by rw [RelD]; exact ⟨p, vs, rfl, lstF_new ok hp, RelDs.mono st ds vs (pure?_rel e r)⟩)
  · exact go_none q
theorem mkLoc_ok {K : PySem.W.Frag} {σ : L2.St} {ρ : Ad} {H : Hp} {S : Store} {ws : List W} {vs : List V} {Q : VK} (ok : Ok K ρ S H) (r : RelWs K ρ H ws vs) (q : Go K Wx σ ρ H (RelW K) (mkLoc ws S) Q) : vs.length ≤ sizeLine ∧ ∀ p, H p = none → Q (.ref p) (upd H p (.lst vs)) := by
  unfold mkLoc at q
  split at q
  · rename_i hz
    refine ⟨by rw [← r.length]; exact hz, fun p hp => ?_⟩
    obtain ⟨ok', st⟩ := ok_alloc ok (m := .lst ws) (o := .lst vs) hp fun ρ' H' st e => ⟨vs, e, r.mono st⟩
    exact go_at q ok' st (show RelW K (ρ.add p) (upd H p (.lst vs)) (.loc S.length) (.ref p) from ⟨by simp [Ad.add, ok.len], fun a e => by rw [← ok.len] at e; simp [Ad.add] at e; rw [e]⟩)
  · exact go_none q
theorem de_tup {k : Nat} (ha : PA X es (tA X.K Wx fa)) : PE X (.Tuple es k pos) (tE X.K Wx (dTup fa)) := (pe_tup ha).imp fun σ H Q q => by
  obtain ⟨δ, S, ρ, ok, en, q⟩ := q
  exact ⟨δ, S, ρ, ok, en, (go_bind q).mono fun vs H1 ⟨ws, S1, ρ1, ok1, st1, r1, q1⟩ => mkTup_ok ok1 r1 q1⟩
theorem de_lst (ha : PA X es (tA X.K Wx fa)) : PE X (.List es pos) (tE X.K Wx (dLst fa)) := (pe_lst ha).imp fun σ H Q q => by
  obtain ⟨δ, S, ρ, ok, en, q⟩ := q
  exact ⟨δ, S, ρ, ok, en, (go_bind q).mono fun vs H1 ⟨ws, S1, ρ1, ok1, st1, r1, q1⟩ => mkLst_ok ok1 r1 q1⟩
theorem de_loc (ha : PA X es (tA X.K Wx fa)) : PE X (.List es pos) (tE X.K Wx (dLoc fa)) := (pe_lst ha).imp fun σ H Q q => by
  obtain ⟨δ, S, ρ, ok, en, q⟩ := q
  exact ⟨δ, S, ρ, ok, en, (go_bind q).mono fun vs H1 ⟨ws, S1, ρ1, ok1, st1, r1, q1⟩ => mkLoc_ok ok1 r1 q1⟩
end

/-! ### what a sequence holds -/
/-- is it a tuple; its items -/
def seqW (S : Store) : W → Option (Bool × List W)
  | .d (.tup ds) => some (true, ds.map W.d)
  | .d (.lst ds) => some (false, ds.map W.d)
  | .loc n => match S[n]? with
    | some (.lst ws) => some (false, ws)
    | _ => none
  | _ => none
def SqW (K : PySem.W.Frag) (H : Hp) (t : Bool) (a : Addr) (vs : List V) : Prop := if t = true then SqT K H a vs else SqL K H a vs
theorem seqW_ok {K : PySem.W.Frag} {ρ : Ad} {H : Hp} {S : Store} {x : W} {v : V} {t : Bool} {ws : List W} (ok : Ok K ρ S H) (r : RelW K ρ H x v) (e : seqW S x = some (t, ws)) : ∃ a vs, v = .ref a ∧ SqW K H t a vs ∧ RelWs K ρ H ws vs := by
  cases x with
  | loc n =>
    cases e0 : S[n]? with
    | none => simp [seqW, e0] at e
    | some m =>
      simp only [seqW, e0] at e
      cases m with
      | lst us =>
        cases e
        obtain ⟨a, ha⟩ := ok.live n _ e0 (by simp)
        obtain ⟨m', e1, o⟩ := ok.obj n a ha
        rw [e0] at e1
        cases e1
        obtain ⟨vs, h1, h2⟩ := o
        exact ⟨a, vs, r.2 a ha, SqL.of h1, h2⟩
      | _ => cases e
  | d x => cases x with
    | tup ds =>
      obtain ⟨a, vs, rfl, h1, h2⟩ : ∃ a vs, v = .ref a ∧ TupF K ρ H a vs ∧ RelDs K ρ H ds vs := by simpa [RelW, RelD] using r
      cases e
      exact ⟨a, vs, rfl, h1.sq, relWs_map h2⟩
    | lst ds =>
      obtain ⟨a, vs, rfl, h1, h2⟩ : ∃ a vs, v = .ref a ∧ LstF K ρ H a vs ∧ RelDs K ρ H ds vs := by simpa [RelW, RelD] using r
      cases e
      exact ⟨a, vs, rfl, h1.sq, relWs_map h2⟩
    | _ => cases e
theorem SqW.or {K : PySem.W.Frag} {H : Hp} {t : Bool} {a : Addr} {vs : List V} (h : SqW K H t a vs) : SqL K H a vs ∨ SqT K H a vs := by
  cases t with
  | true => exact .inr h
  | false => exact .inl h

/-! ### operators by values -/
section
variable {X : Cx} {K : PySem.W.Frag} {Wx : WX}
theorem int2_inv {P : Prop} (x y : W) (h : ∀ i j, x = .d (.int i) → y = .d (.int j) → P) (h' : (∀ i j, x = .d (.int i) → y ≠ .d (.int j)) → P) : P := by
  by_cases e : ∃ i j, x = .d (.int i) ∧ y = .d (.int j)
  · obtain ⟨i, j, e1, e2⟩ := e
    exact h i j e1 e2
  · exact h' fun i j e1 e2 => e ⟨i, j, e1, e2⟩
/-- ints in, a value out -/
def oII (C : Int → Int → Prop) [∀ i j, Decidable (C i j)] (g : Int → Int → D) : F2
  | .d (.int i), .d (.int j), S => if C i j then some (.ok (.d (g i j)), S) else none
  | _, _, _ => none
theorem oII_ok {C : Int → Int → Prop} [∀ i j, Decidable (C i j)] {g : Int → Int → D} {gv : Int → Int → V} (hg : ∀ i j ρ H, RelD K ρ H (g i j) (gv i j)) : OpF K Wx (rI C gv) (oII C g) := by
  intro σ ρ S H x y a b Q ok rx ry q
  refine int2_inv x y (fun i j e1 e2 => ?_) (fun hn => ?_)
  · subst e1 e2
    by_cases hc : C i j
    · simp only [oII, if_pos hc] at q
      exact ⟨i, j, by simpa [RelW, RelD] using rx, by simpa [RelW, RelD] using ry, hc, go_val ok q (hg i j ρ H)⟩
    · simp only [oII, if_neg hc] at q
      exact go_none q
  · have e : oII C g x y S = none := by
      unfold oII
      split
      · exact absurd rfl (hn _ _ rfl)
      · rfl
    rw [e] at q
    exact go_none q
def oI0 (g : Int → Int → D) : F2
  | .d (.int i), .d (.int j), S => some (.ok (.d (g i j)), S)
  | _, _, _ => none
theorem oI0_ok {g : Int → Int → D} {gv : Int → Int → V} (hg : ∀ i j ρ H, RelD K ρ H (g i j) (gv i j)) : OpF K Wx (rI0 gv) (oI0 g) := by
  intro σ ρ S H x y a b Q ok rx ry q
  refine int2_inv x y (fun i j e1 e2 => ?_) (fun hn => ?_)
  · subst e1 e2
    exact ⟨i, j, by simpa [RelW, RelD] using rx, by simpa [RelW, RelD] using ry, go_val ok q (hg i j ρ H)⟩
  · have e : oI0 g x y S = none := by
      unfold oI0
      split
      · exact absurd rfl (hn _ _ rfl)
      · rfl
    rw [e] at q
    exact go_none q
abbrev oAdd : F2 := oI0 fun i j => .int (i + j)
abbrev oSub : F2 := oI0 fun i j => .int (i - j)
instance (i j : Int) : Decidable (CMulW i j) := by unfold CMulW; infer_instance
instance (i j : Int) : Decidable (CDivW i j) := by unfold CDivW; infer_instance
instance (i j : Int) : Decidable (CPow i j) := by unfold CPow; infer_instance
abbrev oMul : F2 := oII CMulW fun i j => .int (i * j)
abbrev oDiv : F2 := oII CDivW fun i j => .int (i / j)
abbrev oMod : F2 := oII (fun _ j => 0 < j) fun i j => .int (i % j)
abbrev oPow : F2 := oII CPow fun i j => .int (i ^ j.toNat)
abbrev oLt : F2 := oI0 fun i j => .bl (decide (i < j))
abbrev oLe : F2 := oI0 fun i j => .bl (decide (i ≤ j))
abbrev oGt : F2 := oI0 fun i j => .bl (decide (j < i))
abbrev oGe : F2 := oI0 fun i j => .bl (decide (j ≤ i))
theorem oAdd_ok : OpF K Wx (rI0 fun i j => .int (i + j)) oAdd := oI0_ok fun _ _ _ _ => by rw [RelD]
theorem oSub_ok : OpF K Wx (rI0 fun i j => .int (i - j)) oSub := oI0_ok fun _ _ _ _ => by rw [RelD]
theorem oMul_ok : OpF K Wx (rI CMulW fun i j => .int (i * j)) oMul := oII_ok fun _ _ _ _ => by rw [RelD]
theorem oDiv_ok : OpF K Wx (rI CDivW fun i j => .int (i / j)) oDiv := oII_ok fun _ _ _ _ => by rw [RelD]
theorem oMod_ok : OpF K Wx (rI (fun _ j => 0 < j) fun i j => .int (i % j)) oMod := oII_ok fun _ _ _ _ => by rw [RelD]
theorem oPow_ok : OpF K Wx (rI CPow fun i j => .int (i ^ j.toNat)) oPow := oII_ok fun _ _ _ _ => by rw [RelD]
theorem oLt_ok : OpF K Wx (rI0 fun i j => .bl (decide (i < j))) oLt := oI0_ok fun _ _ _ _ => by rw [RelD]
theorem oLe_ok : OpF K Wx (rI0 fun i j => .bl (decide (i ≤ j))) oLe := oI0_ok fun _ _ _ _ => by rw [RelD]
theorem oGt_ok : OpF K Wx (rI0 fun i j => .bl (decide (j < i))) oGt := oI0_ok fun _ _ _ _ => by rw [RelD]
theorem oGe_ok : OpF K Wx (rI0 fun i j => .bl (decide (j ≤ i))) oGe := oI0_ok fun _ _ _ _ => by rw [RelD]
/-- xs[i] -/
def oIx : F2 := fun x y S => match seqW S x, y with
  | some (_, ws), .d (.int i) => (match atI ws i with
    | some w => some (.ok w, S)
    | none => none)
  | _, _ => none
theorem atI_rel {ρ : Ad} {H : Hp} {ws : List W} {vs : List V} {i : Int} {w : W} (r : RelWs K ρ H ws vs) (e : atI ws i = some w) : ∃ v, atI vs i = some v ∧ RelW K ρ H w v := by
  unfold atI at e ⊢
  rw [← r.length]
  cases h : ixN ws.length i with
  | none => rw [h] at e; cases e
  | some j =>
    rw [h] at e
    exact r.get (i := j) e
theorem oIx_ok : OpF K Wx (rIx K) oIx := by
  intro σ ρ S H x y a b Q ok rx ry q
  unfold oIx at q
  split at q
  · rename_i t ws i e
    split at q
    · rename_i w ew
      obtain ⟨p, vs, rfl, h1, h2⟩ := seqW_ok ok rx e
      obtain ⟨v, e2, rv⟩ := atI_rel h2 ew
      have ey : b = .int i := by simpa [RelW, RelD] using ry
      cases t with
      | true => exact .inr (.inl ⟨p, vs, i, v, rfl, ey, h1, e2, go_val ok q rv⟩)
      | false => exact .inl ⟨p, vs, i, v, rfl, ey, h1, e2, go_val ok q rv⟩
    · exact go_none q
  · exact go_none q
/-! data as the library's == reads it -/
mutual
def toP : D → Option PyData
  | .non => some .none
  | .bl b => some (.bool b)
  | .int i => some (.int i)
  | .str x => some (.str x)
  | .tup ds => (toPs ds).map .tuple
  | .lst ds => (toPs ds).map .list
  | _ => none
def toPs : List D → Option (List PyData)
  | [] => some []
  | d :: ds => match toP d, toPs ds with
    | some p, some ps => some (p :: ps)
    | _, _ => none
end
mutual
theorem toP_ok {ρ : Ad} {H : Hp} : ∀ (d : D) (v : V) (p : PyData), toP d = some p → RelD K ρ H d v → Dp K H v p
  | .non, v, p, e, r => by rw [toP] at e; cases e; rw [RelD] at r; subst r; exact .non
  | .bl b, v, p, e, r => by rw [toP] at e; cases e; rw [RelD] at r; subst r; exact .bl b
  | .int b, v, p, e, r => by rw [toP] at e; cases e; rw [RelD] at r; subst r; exact .int b
  | .str b, v, p, e, r => by rw [toP] at e; cases e; rw [RelD] at r; subst r; exact .str b
  | .ref b, v, p, e, r => by simp [toP] at e
  | .ty b, v, p, e, r => by simp [toP] at e
  | .ins _ _ _, v, p, e, r => by simp [toP] at e
  | .tup ds, v, p, e, r => by
    rw [toP] at e
    rw [RelD] at r
    obtain ⟨a, vs, rfl, h1, h2⟩ := r
    obtain ⟨ps, e1, rfl⟩ := Option.map_eq_some_iff.mp e
    exact .tup h1.sq (toPs_ok ds vs ps e1 h2)
  | .lst ds, v, p, e, r => by
    rw [toP] at e
    rw [RelD] at r
    obtain ⟨a, vs, rfl, h1, h2⟩ := r
    obtain ⟨ps, e1, rfl⟩ := Option.map_eq_some_iff.mp e
    exact .lst h1.sq (toPs_ok ds vs ps e1 h2)
theorem toPs_ok {ρ : Ad} {H : Hp} : ∀ (ds : List D) (vs : List V) (ps : List PyData), toPs ds = some ps → RelDs K ρ H ds vs → DpAll K H vs ps
  | [], vs, ps, e, r => by rw [toPs] at e; cases e; rw [RelDs] at r; subst r; exact .nil
  | d :: ds, vs, ps, e, r => by
    rw [toPs] at e
    rw [RelDs] at r
    obtain ⟨v, vr, rfl, h1, h2⟩ := r
    cases e1 : toP d with
    | none => simp [e1] at e
    | some p =>
      cases e2 : toPs ds with
      | none => simp [e1, e2] at e
      | some ps' =>
        simp [e1, e2] at e
        subst e
        exact .cons (toP_ok d v p e1 h1) (toPs_ok ds vr ps' e2 h2)
end
/-- ==, data alone -/
def eqW : W → W → Option Bool
  | .d x, .d y => match toP x, toP y with
    | some p, some q => if SeqAt.shaped p = true ∧ SeqAt.shaped q = true then some (PyData.eqv p q) else none
    | _, _ => none
  | _, _ => none
def oEq : F2 := fun x y S => match eqW x y with
  | some b => some (.ok (.d (.bl b)), S)
  | none => none
def oNe : F2 := fun x y S => match eqW x y with
  | some b => some (.ok (.d (.bl (!b))), S)
  | none => none
theorem eqW_ok {ρ : Ad} {H : Hp} {x y : W} {a b : V} {k : Bool} (rx : RelW K ρ H x a) (ry : RelW K ρ H y b) (e : eqW x y = some k) : ∃ p q, Dp K H a p ∧ Dp K H b q ∧ SeqAt.shaped p = true ∧ SeqAt.shaped q = true ∧ PyData.eqv p q = k := by
  unfold eqW at e
  split at e
  · rename_i x y
    split at e
    · rename_i p q e1 e2
      split at e
      · rename_i hs
        cases e
        exact ⟨p, q, toP_ok x a p e1 rx, toP_ok y b q e2 ry, hs.1, hs.2, rfl⟩
      · cases e
    · cases e
  · cases e
theorem oEq_ok : OpF K Wx (rEqD K) oEq := by
  intro σ ρ S H x y a b Q ok rx ry q
  unfold oEq at q
  split at q
  · rename_i k e
    obtain ⟨p, p', h1, h2, h3, h4, rfl⟩ := eqW_ok rx ry e
    exact ⟨p, p', h1, h2, h3, h4, go_val ok q (by simp [RelW, RelD])⟩
  · exact go_none q
theorem oNe_ok : OpF K Wx (rNeD K) oNe := by
  intro σ ρ S H x y a b Q ok rx ry q
  unfold oNe at q
  split at q
  · rename_i k e
    obtain ⟨p, p', h1, h2, h3, h4, rfl⟩ := eqW_ok rx ry e
    exact ⟨p, p', h1, h2, h3, h4, go_val ok q (by simp [RelW, RelD])⟩
  · exact go_none q
/-- is None, is not None -/
def isNonW : W → Bool
  | .d .non => true
  | _ => false
def oIsN : F2 := fun x y S => match x, y with
  | .d x, .d .non => some (.ok (.d (.bl (isNonW (.d x)))), S)
  | _, _ => none
def oNotN : F2 := fun x y S => match x, y with
  | .d x, .d .non => some (.ok (.d (.bl (!isNonW (.d x)))), S)
  | _, _ => none
theorem isNon_ok {ρ : Ad} {H : Hp} {x : D} {a : V} (r : RelD K ρ H x a) : isNonW (.d x) = decide (a = .non) := by
  cases x with
  | tup ds => rw [RelD] at r; obtain ⟨p, vs, rfl, _⟩ := r; simp [isNonW]
  | lst ds => rw [RelD] at r; obtain ⟨p, vs, rfl, _⟩ := r; simp [isNonW]
  | ins C ns ds => rw [RelD] at r; obtain ⟨p, dx, vs, rfl, _⟩ := r; simp [isNonW]
  | _ => rw [RelD] at r; subst r; simp [isNonW]
theorem oIsN_ok : OpF K Wx (fun x y H Q => y = .non ∧ Q (.bl (decide (x = .non))) H) oIsN := by
  intro σ ρ S H x y a b Q ok rx ry q
  unfold oIsN at q
  split at q
  · rename_i x
    exact ⟨by simpa [RelW, RelD] using ry, by rw [← isNon_ok (show RelD K ρ H x a from rx)]; exact go_val ok q (by simp [RelW, RelD])⟩
  · exact go_none q
theorem oNotN_ok : OpF K Wx (fun x y H Q => y = .non ∧ Q (.bl (!decide (x = .non))) H) oNotN := by
  intro σ ρ S H x y a b Q ok rx ry q
  unfold oNotN at q
  split at q
  · rename_i x
    exact ⟨by simpa [RelW, RelD] using ry, by rw [← isNon_ok (show RelD K ρ H x a from rx)]; exact go_val ok q (by simp [RelW, RelD])⟩
  · exact go_none q
end
/-! ### one operand -/
section
variable {X : Cx} {K : PySem.W.Frag} {Wx : WX} {a : Expr} {f : FE} {pos : Pos}
def oNeg : W → Store → Rs W
  | .d (.int i), S => some (.ok (.d (.int (-i))), S)
  | _, _ => none
def d1 (op : W → Store → Rs W) (f : FE) : FE := fun δ S => (f δ S).bind op
theorem de_neg (ha : PE X a (tE X.K Wx f)) : PE X (.UnaryOp .USub a pos) (tE X.K Wx (d1 oNeg f)) := (pe_un un_neg ha).imp fun σ H Q q => by
  obtain ⟨δ, S, ρ, ok, en, q⟩ := q
  refine ⟨δ, S, ρ, ok, en, (go_bind q).mono fun v H1 ⟨x, S1, ρ1, ok1, st1, r1, q1⟩ => ?_⟩
  cases x with
  | loc n => exact go_none q1
  | d x => cases x with
    | int i => exact ⟨i, by simpa [RelW, RelD] using r1, go_val ok1 q1 (by simp [RelW, RelD])⟩
    | _ => exact go_none q1
end
end DL
set_option Elab.async false
set_option linter.all false
set_option maxRecDepth 100000
set_option maxHeartbeats 1000000
/-! DL4: calls of defs, of built-ins; lists at places. -/
namespace DL
open PySem PySem.Spec PyProof.Rows L2

/-! ### defs -/
/-- a def's promise by its function -/
def spD (K : PySem.W.Frag) (n : Nat) (g : Fn) : Sp := fun vs H Q E => vs.length = n ∧ ∃ ws S ρ r S', RelWs K ρ H ws vs ∧ Ok K ρ S H ∧ g ws S = some (r, S') ∧ ∀ ρ' H', Ok K ρ' S' H' → Step ρ H ρ' H' → match r with
  | .ok w => ∀ v, RelW K ρ' H' w v → Q v H'
  | .error x => ∀ d, ExR K ρ' H' x d → E x.cls d H'
/-- the def named x, of n parameters, does what g does -/
structure FnD (P : Program) (w : World) (K : PySem.W.Frag) (mg : Str → Option Value) (base : Heap) (k : Nat) (x : Str) (n : Nat) (g : Fn) : Prop where
  ex : ∃ f fd ps, FnOk P w K mg base (L2.CX P w) k f fd ps (spD K n g) ∧ mg x = some (.ref f) ∧ PySem.W.keepIn K (.ref f) = true ∧ Binds K fd ps []
def dCall (n : Nat) (g : Fn) (fa : FA) : FE := fun δ S => (fa δ S).bind fun ws S1 => if ws.length = n then g ws S1 else none
section
variable {X : Cx} {Wx : WX} {e a b c o : Expr} {es : List Expr} {f fo fi : FE} {fa : FA} {pos p apos : Pos} {k n : Nat} {g : Fn} {x : Str}
theorem de_call (F : FnD X.prog X.w X.K X.mg X.base k x n g) (tk : Takes X Wx) (hr : Room k X.A) (ha : PA X (e :: es) (tA X.K Wx fa)) (hg : Gl X x := by rfl) (hdb : (x == ("__debug__" : Str)) = false := by decide) (he : starEach (e :: es) X.env = (false, eval e X.env) :: starEach es X.env := by rfl) (hpl : (backTo pos (starEach es X.env)).any (·.1) = false := by rfl) :
    PE X (.Call (.Name x p) (e :: es) [] pos) (tE X.K Wx (dCall n g fa)) := by
  obtain ⟨f, fd, ps, F, hm, hk, hb⟩ := F.ex
  refine (pe_callS (E := WE Wx) F hr hg hm hk hb (fun σ => passAt tk σ) ha hdb he hpl).imp fun σ H Q q => ?_
  obtain ⟨δ, S, ρ, ok, en, q⟩ := q
  refine ⟨δ, S, ρ, ok, en, (go_bind q).mono fun vs H1 ⟨ws, S1, ρ1, ok1, st1, r1, q1⟩ => ?_⟩
  split at q1
  · rename_i hn
    obtain ⟨r, S', e1, c⟩ := q1
    refine ⟨by rw [← r1.length]; exact hn, ws, S1, ρ1, r, S', r1, ok1, e1, fun ρ' H' ok' st' => ?_⟩
    have c' := c ρ' H' ok' st'
    cases r with
    | ok w => exact c'
    | error x => exact c'
  · exact go_none q1

/-! ### built-ins -/
abbrev FB := List W → Store → Rs W
def CalF (K : PySem.W.Frag) (Wx : WX) (r : List V → Hp → VK → Prop) (op : FB) : Prop := ∀ (σ : L2.St) (ρ : Ad) (S : Store) (H : Hp) (ws : List W) (vs : List V) (Q : VK), Ok K ρ S H → RelWs K ρ H ws vs → Go K Wx σ ρ H (RelW K) (op ws S) Q → r vs H Q
def dCB (op : FB) (fa : FA) : FE := fun δ S => (fa δ S).bind op
theorem impCB {K : PySem.W.Frag} {r : List V → Hp → VK → Prop} {op : FB} (o : CalF K Wx r op) (σ : L2.St) (H : Hp) (Q : VK) (q : tE K Wx (dCB op fa) σ H Q) : tCB r (tA K Wx fa) σ H Q := by
  obtain ⟨δ, S, ρ, ok, en, q⟩ := q
  exact ⟨δ, S, ρ, ok, en, (go_bind q).mono fun vs H1 ⟨ws, S1, ρ1, ok1, st1, r1, q1⟩ => o σ ρ1 S1 H1 ws vs Q ok1 r1 q1⟩
theorem de_callB {id : String} {r : List V → Hp → VK → Prop} {op : FB} (hc : CallR X (.builtin id) r) (o : CalF X.K Wx r op) (hm : X.mg x = none) (hv : bootBuiltins x = some (.builtin id)) (ha : PA X (e :: es) (tA X.K Wx fa)) (hg : Gl X x := by rfl) (hn : x ≠ "__name__" := by decide) (hdb : (x == ("__debug__" : Str)) = false := by decide)
    (hs : starEach (e :: es) X.env = (false, eval e X.env) :: starEach es X.env := by rfl) (hplain : (backTo pos (starEach es X.env)).any (·.1) = false := by rfl) : PE X (.Call (.Name x p) (e :: es) [] pos) (tE X.K Wx (dCB op fa)) :=
  (pe_callB hc hg hm hv ha hn hdb hs hplain).imp (impCB o)
theorem de_callTy {T : String} {r : List V → Hp → VK → Prop} {op : FB} (hc : CallR X (.type T) r) (o : CalF X.K Wx r op) (hm : X.mg x = none) (hv : bootBuiltins x = some (.type T)) (ha : PA X (e :: es) (tA X.K Wx fa)) (hg : Gl X x := by rfl) (hn : x ≠ "__name__" := by decide) (hdb : (x == ("__debug__" : Str)) = false := by decide)
    (hs : starEach (e :: es) X.env = (false, eval e X.env) :: starEach es X.env := by rfl) (hplain : (backTo pos (starEach es X.env)).any (·.1) = false := by rfl) : PE X (.Call (.Name x p) (e :: es) [] pos) (tE X.K Wx (dCB op fa)) :=
  (pe_callTy hc hg hm hv ha hn hdb hs hplain).imp (impCB o)
end
section
variable {X : Cx} {K : PySem.W.Frag} {Wx : WX} {ρ : Ad} {H : Hp}
theorem relWs1 {w : W} {vs : List V} (r : RelWs K ρ H [w] vs) : ∃ v, vs = [v] ∧ RelW K ρ H w v := by
  obtain ⟨v, vr, rfl, h1, h2⟩ := r
  cases (show vr = [] from h2)
  exact ⟨v, rfl, h1⟩
theorem relWs2 {w u : W} {vs : List V} (r : RelWs K ρ H [w, u] vs) : ∃ v z, vs = [v, z] ∧ RelW K ρ H w v ∧ RelW K ρ H u z := by
  obtain ⟨v, vr, rfl, h1, h2⟩ := r
  obtain ⟨z, rfl, h3⟩ := relWs1 h2
  exact ⟨v, z, rfl, h1, h3⟩
/-- one argument -/
def b1 (op : W → Store → Rs W) : FB
  | [w], S => op w S
  | _, _ => none
theorem b1_ok {op : W → Store → Rs W} {r : List V → Hp → VK → Prop} (h : ∀ (σ : L2.St) (ρ : Ad) (S : Store) (H : Hp) (w : W) (v : V) (Q : VK), Ok K ρ S H → RelW K ρ H w v → Go K Wx σ ρ H (RelW K) (op w S) Q → r [v] H Q) : CalF K Wx r (b1 op) := by
  intro σ ρ S H ws vs Q ok rw' q
  match ws, rw', q with
  | [], _, q => exact go_none q
  | [w], rw', q =>
    obtain ⟨v, rfl, r1⟩ := relWs1 rw'
    exact h σ ρ S H w v Q ok r1 q
  | _ :: _ :: _, _, q => exact go_none q
def oAbs : W → Store → Rs W
  | .d (.int i), S => some (.ok (.d (.int (if i < 0 then -i else i))), S)
  | _, _ => none
theorem oAbs_ok : CalF K Wx (fun xs H Q => ∃ i, xs = [.int i] ∧ Q (.int (if i < 0 then -i else i)) H) (b1 oAbs) := b1_ok fun σ ρ S H w v Q ok r q => by
  cases w with
  | loc n => exact go_none q
  | d x => cases x with
    | int i =>
      obtain rfl : v = .int i := by simpa [RelW, RelD] using r
      exact ⟨i, rfl, go_val ok q (by simp [RelW, RelD])⟩
    | _ => exact go_none q
def oInt : W → Store → Rs W
  | .d (.int i), S => some (.ok (.d (.int i)), S)
  | .d (.bl k), S => some (.ok (.d (.int (if k then 1 else 0))), S)
  | _, _ => none
theorem oInt_ok : CalF K Wx (fun xs H Q => (∃ i, xs = [.int i] ∧ Q (.int i) H) ∨ ∃ k, xs = [.bl k] ∧ Q (.int (if k then 1 else 0)) H) (b1 oInt) := b1_ok fun σ ρ S H w v Q ok r q => by
  cases w with
  | loc n => exact go_none q
  | d x => cases x with
    | int i =>
      obtain rfl : v = .int i := by simpa [RelW, RelD] using r
      exact .inl ⟨i, rfl, go_val ok q (by simp [RelW, RelD])⟩
    | bl i =>
      obtain rfl : v = .bl i := by simpa [RelW, RelD] using r
      exact .inr ⟨i, rfl, go_val ok q (by simp [RelW, RelD])⟩
    | _ => exact go_none q
/-- len of a sequence -/
def oLen (x : W) (S : Store) : Rs W := match seqW S x with
  | some (_, ws) => some (.ok (.d (.int (ws.length : Int))), S)
  | none => none
theorem oLen_ok : CalF K Wx (fun xs H Q => ∃ p ys, xs = [.ref p] ∧ (SqL K H p ys ∨ SqT K H p ys) ∧ Q (.int ys.length) H) (b1 oLen) := b1_ok fun σ ρ S H w v Q ok r q => by
  unfold oLen at q
  split at q
  · rename_i t ws e
    obtain ⟨a, vs, rfl, h1, h2⟩ := seqW_ok ok r e
    exact ⟨a, vs, rfl, h1.or, by rw [← h2.length]; exact go_val ok q (by simp [RelW, RelD])⟩
  · exact go_none q
/-- tuple(x) -/
def oTuple (x : W) (S : Store) : Rs W := match seqW S x with
  | some (true, _) => some (.ok x, S)
  | some (false, ws) => (match pure? ws with
    | some ds => some (.ok (.d (.tup ds)), S)
    | none => none)
  | none => none
theorem oTuple_ok : CalF K Wx (fun xs H Q => ∃ p ys, xs = [.ref p] ∧ ((SqL K H p ys ∧ ∀ l, H l = none → Q (.ref l) (upd H l (.tup ys))) ∨ (SqT K H p ys ∧ Q (.ref p) H))) (b1 oTuple) := b1_ok fun σ ρ S H w v Q ok r q => by
  unfold oTuple at q
  split at q
  · rename_i ws e
    obtain ⟨a, vs, rfl, h1, h2⟩ := seqW_ok ok r e
    exact ⟨a, vs, rfl, .inr ⟨h1, go_val ok q r⟩⟩
  · rename_i ws e
    obtain ⟨a, vs, rfl, h1, h2⟩ := seqW_ok ok r e
    refine ⟨a, vs, rfl, .inl ⟨h1, fun l hl => ?_⟩⟩
    split at q
    · rename_i ds ed
      have st := step_new ok (.tup vs) hl
      exact go_at q (ok_new ok _ hl) st (show RelD K ρ (upd H l (.tup vs)) (.tup ds) (.ref l) by rw [RelD]; exact ⟨l, vs, rfl, tupF_new ok hl, RelDs.mono st ds vs (pure?_rel ed h2)⟩)
    · exact go_none q
  · exact go_none q
/-- list(x): read-only from here on; at a new place -/
def oList (x : W) (S : Store) : Rs W := match seqW S x with
  | some (_, ws) => (match pure? ws with
    | some ds => some (.ok (.d (.lst ds)), S)
    | none => none)
  | none => none
def oListL (x : W) (S : Store) : Rs W := match seqW S x with
  | some (_, ws) => some (.ok (.loc S.length), S ++ [.lst ws])
  | none => none
abbrev rListOf (K : PySem.W.Frag) : List V → Hp → VK → Prop := fun xs H Q => ∃ p ys, xs = [.ref p] ∧ (SqL K H p ys ∨ SqT K H p ys) ∧ ∀ l, H l = none → Q (.ref l) (upd H l (.lst ys))
theorem oList_ok : CalF K Wx (rListOf K) (b1 oList) := b1_ok fun σ ρ S H w v Q ok r q => by
  unfold oList at q
  split at q
  · rename_i t ws e
    obtain ⟨a, vs, rfl, h1, h2⟩ := seqW_ok ok r e
    refine ⟨a, vs, rfl, h1.or, fun l hl => ?_⟩
    split at q
    · rename_i ds ed
      have st := step_new ok (.lst vs) hl
      exact go_at q (ok_new ok _ hl) st (show RelD K ρ (upd H l (.lst vs)) (.lst ds) (.ref l) by rw [RelD]; exact ⟨l, vs, rfl, lstF_new ok hl, RelDs.mono st ds vs (pure?_rel ed h2)⟩)
    · exact go_none q
  · exact go_none q
theorem oListL_ok : CalF K Wx (rListOf K) (b1 oListL) := b1_ok fun σ ρ S H w v Q ok r q => by
  unfold oListL at q
  split at q
  · rename_i t ws e
    obtain ⟨a, vs, rfl, h1, h2⟩ := seqW_ok ok r e
    refine ⟨a, vs, rfl, h1.or, fun p hp => ?_⟩
    obtain ⟨ok', st⟩ := ok_alloc ok (m := .lst ws) (o := .lst vs) hp fun ρ' H' st e => ⟨vs, e, h2.mono st⟩
    exact go_at q ok' st (show RelW K (ρ.add p) (upd H p (.lst vs)) (.loc S.length) (.ref p) from ⟨by simp [Ad.add, ok.len], fun a e => by rw [← ok.len] at e; simp [Ad.add] at e; rw [e]⟩)
  · exact go_none q
/-- all, any of a list of truth values -/
def bools? : List W → Option (List Bool)
  | [] => some []
  | .d (.bl b) :: ws => (bools? ws).map (b :: ·)
  | _ :: _ => none
theorem bools?_ok : ∀ {ws : List W} {bs : List Bool} {vs : List V}, bools? ws = some bs → RelWs K ρ H ws vs → vs = bs.map V.bl
  | [], bs, vs, e, r => by cases (show some [] = some bs from e); exact r
  | .d (.bl b) :: ws, bs, vs, e, r => by
    obtain ⟨cs, e1, rfl⟩ := Option.map_eq_some_iff.mp (show (bools? ws).map (b :: ·) = some bs from e)
    obtain ⟨v, vr, rfl, h1, h2⟩ := r
    obtain rfl : v = .bl b := by simpa [RelW, RelD] using h1
    rw [bools?_ok e1 h2]
    rfl
  | .loc _ :: _, bs, vs, e, r => by cases (show (none : Option (List Bool)) = some bs from e)
  | .d .non :: _, bs, vs, e, r => by cases (show (none : Option (List Bool)) = some bs from e)
  | .d (.int _) :: _, bs, vs, e, r => by cases (show (none : Option (List Bool)) = some bs from e)
  | .d (.str _) :: _, bs, vs, e, r => by cases (show (none : Option (List Bool)) = some bs from e)
  | .d (.tup _) :: _, bs, vs, e, r => by cases (show (none : Option (List Bool)) = some bs from e)
  | .d (.lst _) :: _, bs, vs, e, r => by cases (show (none : Option (List Bool)) = some bs from e)
  | .d (.ins _ _ _) :: _, bs, vs, e, r => by cases (show (none : Option (List Bool)) = some bs from e)
  | .d (.ref _) :: _, bs, vs, e, r => by cases (show (none : Option (List Bool)) = some bs from e)
  | .d (.ty _) :: _, bs, vs, e, r => by cases (show (none : Option (List Bool)) = some bs from e)
def oAll (x : W) (S : Store) : Rs W := match seqW S x with
  | some (false, ws) => (match bools? ws with
    | some bs => some (.ok (.d (.bl (bs.all id))), S)
    | none => none)
  | _ => none
def oAny (x : W) (S : Store) : Rs W := match seqW S x with
  | some (false, ws) => (match bools? ws with
    | some bs => some (.ok (.d (.bl (bs.any id))), S)
    | none => none)
  | _ => none
theorem oAll_ok : CalF K Wx (rAll K) (b1 oAll) := b1_ok fun σ ρ S H w v Q ok r q => by
  unfold oAll at q
  split at q
  · rename_i ws e
    obtain ⟨a, vs, rfl, h1, h2⟩ := seqW_ok ok r e
    split at q
    · rename_i bs eb
      have ev := bools?_ok eb h2
      subst ev
      exact ⟨a, bs, rfl, h1, go_val ok q (by simp [RelW, RelD])⟩
    · exact go_none q
  · exact go_none q
theorem oAny_ok : CalF K Wx (rAny K) (b1 oAny) := b1_ok fun σ ρ S H w v Q ok r q => by
  unfold oAny at q
  split at q
  · rename_i ws e
    obtain ⟨a, vs, rfl, h1, h2⟩ := seqW_ok ok r e
    split at q
    · rename_i bs eb
      have ev := bools?_ok eb h2
      subst ev
      exact ⟨a, bs, rfl, h1, go_val ok q (by simp [RelW, RelD])⟩
    · exact go_none q
  · exact go_none q
/-- a value's built-in type -/
def tyN (S : Store) : W → Option String
  | .d .non => some "NoneType"
  | .d (.bl _) => some "bool"
  | .d (.int _) => some "int"
  | .d (.str _) => some "str"
  | .d (.tup _) => some "tuple"
  | .d (.lst _) => some "list"
  | .loc n => match S[n]? with
    | some (.lst _) => some "list"
    | _ => none
  | _ => none
theorem lst_ty {a : Addr} {vs : List V} (h : LstF K ρ H a vs) : TyX K H (.ref a) (.type "list") := by
  rcases h with ⟨h | ⟨o, h⟩, _⟩ | ⟨o, its, n, e, c, _⟩
  · exact .base (.lst h)
  · exact .base (.frz h)
  · exact .kList e c
theorem tup_ty {a : Addr} {vs : List V} (h : TupF K ρ H a vs) : TyX K H (.ref a) (.type "tuple") := by
  rcases h with ⟨h | ⟨o, h⟩, _⟩ | ⟨o, its, n, e, c, _⟩
  · exact .base (.tup h)
  · exact .fTuple h
  · exact .kTuple e c
theorem tyN_ok {S : Store} {x : W} {v : V} {t : String} (ok : Ok K ρ S H) (r : RelW K ρ H x v) (e : tyN S x = some t) : TyX K H v (.type t) := by
  cases x with
  | loc n =>
    cases e0 : S[n]? with
    | none => simp [tyN, e0] at e
    | some m =>
      simp only [tyN, e0] at e
      cases m with
      | lst ws =>
        cases e
        obtain ⟨a, ha⟩ := ok.live n _ e0 (by simp)
        obtain ⟨m', e1, o⟩ := ok.obj n a ha
        rw [e0] at e1
        cases e1
        obtain ⟨vs, h1, h2⟩ := o
        rw [r.2 a ha]
        exact .base (.lst h1)
      | _ => cases e
  | d x => cases x with
    | non => cases e; obtain rfl : v = .non := by simpa [RelW, RelD] using r
             exact .base .non
    | bl b => cases e; obtain rfl : v = .bl b := by simpa [RelW, RelD] using r
              exact .base (.bl b)
    | int b => cases e; obtain rfl : v = .int b := by simpa [RelW, RelD] using r
               exact .base (.int b)
    | str b => cases e; obtain rfl : v = .str b := by simpa [RelW, RelD] using r
               exact .base (.str b)
    | tup ds =>
      cases e
      obtain ⟨a, vs, rfl, h1, h2⟩ : ∃ a vs, v = .ref a ∧ TupF K ρ H a vs ∧ RelDs K ρ H ds vs := by simpa [RelW, RelD] using r
      exact tup_ty h1
    | lst ds =>
      cases e
      obtain ⟨a, vs, rfl, h1, h2⟩ : ∃ a vs, v = .ref a ∧ LstF K ρ H a vs ∧ RelDs K ρ H ds vs := by simpa [RelW, RelD] using r
      exact lst_ty h1
    | _ => cases e
/-- is a thing of type t one of type c -/
def isiB (t c : String) : Option Bool :=
  if t ∈ ["NoneType", "bool", "int", "str", "tuple", "list"] ∧ c ∈ ["bool", "int", "str", "tuple", "list", "dict"] then some (t == c || (t == "bool" && c == "int")) else none
theorem isiB_ok {t c : String} {b : Bool} (h : isiB t c = some b) : kitB t c = some b := by
  unfold isiB at h
  split at h
  · rename_i hm
    obtain ⟨h1, h2⟩ := hm
    simp only [List.mem_cons, List.not_mem_nil, or_false] at h1 h2
    cases h
    rcases h1 with rfl | rfl | rfl | rfl | rfl | rfl <;> rcases h2 with rfl | rfl | rfl | rfl | rfl | rfl <;> decide +kernel
  · cases h
def oIsi : FB
  | [x, .d (.ty c)], S => (match tyN S x with
    | some t => (match isiB t c with
      | some b => some (.ok (.d (.bl b)), S)
      | none => none)
    | none => none)
  | _, _ => none
theorem oIsi_ok : CalF K Wx (rIsi K) oIsi := by
  intro σ ρ S H ws vs Q ok rw' q
  unfold oIsi at q
  split at q
  · rename_i x c
    obtain ⟨v, z, rfl, r1, r2⟩ := relWs2 rw'
    obtain rfl : z = .ty c := by simpa [RelW, RelD] using r2
    split at q
    · rename_i t et
      split at q
      · rename_i b eb
        exact ⟨v, .ty c, .type t, .type c, b, rfl, .ty c, tyN_ok ok r1 et, kit_ty (isiB_ok eb), go_val ok q (by simp [RelW, RelD])⟩
      · exact go_none q
    · exact go_none q
  · exact go_none q
end
/-! ### lists at places -/
section
variable {X : Cx} {Wx : WX} {e o i : Expr} {es : List Expr} {f fo fi : FE} {fa : FA} {pos cpos apos : Pos}
theorem loc_at {K : PySem.W.Frag} {ρ : Ad} {S : Store} {H : Hp} {n : Nat} {ws : List W} {v : V} (ok : Ok K ρ S H) (r : RelW K ρ H (.loc n) v) (e : S[n]? = some (.lst ws)) : ∃ a vs, v = .ref a ∧ ρ.pl[n]? = some (some a) ∧ H a = some (.lst vs) ∧ RelWs K ρ H ws vs := by
  obtain ⟨a, ha⟩ := ok.live n _ e (by simp)
  obtain ⟨m', e1, ob⟩ := ok.obj n a ha
  rw [e] at e1
  cases e1
  obtain ⟨vs, h1, h2⟩ := ob
  exact ⟨a, vs, r.2 a ha, ha, h1, h2⟩
def isLst (S : Store) (n : Nat) : Bool := match S[n]? with
  | some (.lst _) => true
  | _ => false
theorem isLst_at {S : Store} {n : Nat} (h : isLst S n = true) : ∃ ws, S[n]? = some (.lst ws) := by
  unfold isLst at h
  split at h
  · rename_i ws e
    exact ⟨ws, e⟩
  · cases h
/-- xs.append(e) -/
def appAt (n : Nat) (w : W) (S2 : Store) : Rs W := match S2[n]? with
    | some (.lst ws) => if ws.length < sizeLine then some (.ok (.d .non), S2.set n (.lst (ws ++ [w]))) else none
    | _ => none
def dApp (fo fe : FE) : FE := fun δ S => (fo δ S).bind fun x S1 => match x with
  | .loc n => if isLst S1 n = true then (fe δ S1).bind (appAt n) else none
  | _ => none
theorem de_app {name : Str} (ho : PE X o (tE X.K Wx fo)) (he : PE X e (tE X.K Wx f)) (hbase : attributeBase o "append" X.env (eval o X.env) = eval o X.env := by rfl)
    (hfew : ((backTo cpos (starEach [e] X.env)).all (fun x => !x.1) && (backToKw cpos (keywordEach [] X.env)).all (fun x => x.1.isSome)
      && decide ([e].length + ([] : List Keyword).length + (if ([] : List Keyword).isEmpty then 0 else 1) < 30)) = true := by rfl)
    (hline : (apos.endLine == cpos.line) = true := by rfl) (hs : starEach [e] X.env = (false, eval e X.env) :: starEach [] X.env := by rfl) (hplain : (backTo cpos (starEach [] X.env)).any (·.1) = false := by rfl) :
    PE X (.Call (.Attribute o "append" apos) [e] [] cpos) (tE X.K Wx (dApp fo f)) :=
  (pe_bm PySem.F.plainAttrs_list PySem.F.slot_list_append PySem.F.type_list_append mt_append ho (pa_cons he pa_nil hs) hbase hfew hline hs hplain).imp fun σ H Q q => by
    obtain ⟨δ, S, ρ, ok, en, q⟩ := q
    refine ⟨δ, S, ρ, ok, en, (go_bind q).mono fun v H1 ⟨x, S1, ρ1, ok1, st1, r1, q1⟩ => ?_⟩
    cases x with
    | d x => exact go_none q1
    | loc n =>
      by_cases hi : isLst S1 n = true
      · simp only [if_pos hi] at q1
        obtain ⟨ws, ew⟩ := isLst_at hi
        obtain ⟨a, vs, rfl, ha, h1, h2⟩ := loc_at ok1 r1 ew
        refine ⟨.inl ⟨rfl, vs, SqL.of h1⟩, ?_⟩
        refine ⟨δ, S1, ρ1, ok1, en.mono st1, (go_bind q1).mono fun u H2 ⟨w, S2, ρ2, ok2, st2, r2, q2⟩ => ?_⟩
        unfold appAt at q2
        split at q2
        · rename_i ws2 e2
          obtain ⟨a2, vs2, e3, ha2, h3, h4⟩ := loc_at ok2 (r1.mono st2) e2
          cases e3
          by_cases hz : ws2.length < sizeLine
          · rw [if_pos hz] at q2
            refine ⟨a, vs2, u, rfl, rfl, h3, by rw [← h4.length]; exact hz, ?_⟩
            obtain ⟨ok3, st3⟩ := ok_write ok2 (m := .lst (ws2 ++ [w])) (o := .lst (vs2 ++ [u])) ha2 fun H' st e => ⟨_, e, (h4.mono st).app ⟨u, [], rfl, r2.mono st, rfl⟩⟩
            exact go_at q2 ok3 st3 (by simp [RelW, RelD])
          · rw [if_neg hz] at q2
            exact go_none q2
        · exact go_none q2
      · simp only [if_neg hi] at q1
        exact go_none q1
end
end DL
set_option Elab.async false
set_option linter.all false
set_option maxRecDepth 100000
set_option maxHeartbeats 1000000
/-! DL5: statements, targets, loops, comprehensions. -/
namespace DL
open PySem PySem.Spec PyProof.Rows L2

inductive Fl where
  | nx (δ : DEnv)
  | rt (w : W)
  | bk (δ : DEnv)
  | ct (δ : DEnv)
abbrev Ss := Option (Except (Ex × DEnv) Fl × Store)
abbrev FS := DEnv → Store → Ss
section
variable (K : PySem.W.Frag) (Wx : WX)
def GoS (ρ : Ad) (H : Hp) (m : Ss) (D : Ends) : Prop := ∃ r S', m = some (r, S') ∧ ∀ ρ' H', Ok K ρ' S' H' → Step ρ H ρ' H' → match r with
  | .ok (.nx δ) => ∀ σ', EnvR K ρ' H' δ σ' → D.nx σ' H'
  | .ok (.rt w) => ∀ v, RelW K ρ' H' w v → D.rt v H'
  | .ok (.bk δ) => ∀ σ', EnvR K ρ' H' δ σ' → D.bk σ' H'
  | .ok (.ct δ) => ∀ σ', EnvR K ρ' H' δ σ' → D.ct σ' H'
  | .error (x, δ) => ∀ d σ', EnvR K ρ' H' δ σ' → ExR K ρ' H' x d → Wx x.cls d σ' H'
def tS (f : FS) : TS := fun D σ H => ∃ δ S ρ, Ok K ρ S H ∧ EnvR K ρ H δ σ ∧ GoS K Wx ρ H (f δ S) D
end
def sE {α : Type} (m : Rs α) (δ : DEnv) (k : α → Store → Ss) : Ss := match m with
  | none => none
  | some (.error x, S) => some (.error (x, δ), S)
  | some (.ok a, S) => k a S
section
variable {K : PySem.W.Frag} {Wx : WX} {σ : L2.St} {ρ ρ1 ρ' : Ad} {H H1 H' : Hp} {S S1 : Store} {α β : Type} {rel : Ad → Hp → α → β → Prop} {D D' : Ends}
theorem GoS.step {m : Ss} (h : GoS K Wx ρ H m D) (st : Step ρ H ρ' H') : GoS K Wx ρ' H' m D := by
  obtain ⟨r, S', e, c⟩ := h
  exact ⟨r, S', e, fun ρ2 H2 ok st2 => c ρ2 H2 ok (st.trans st2)⟩
theorem gos_none {P : Prop} (h : GoS K Wx ρ H none D) : P := by
  obtain ⟨_, _, e, _⟩ := h
  exact nomatch e
theorem gos_bind {m : Rs α} {δ : DEnv} {k : α → Store → Ss} (en : EnvR K ρ H δ σ) (h : GoS K Wx ρ H (sE m δ k) D) :
    Go K Wx σ ρ H rel m (fun b H1 => ∃ a S1 ρ1, Ok K ρ1 S1 H1 ∧ Step ρ H ρ1 H1 ∧ rel ρ1 H1 a b ∧ GoS K Wx ρ1 H1 (k a S1) D) := by
  obtain ⟨r, S', e, c⟩ := h
  cases m with
  | none => exact nomatch (show (none : Ss) = some (r, S') from e)
  | some p =>
    obtain ⟨z, S1⟩ := p
    cases z with
    | error x =>
      cases e
      exact ⟨.error x, _, rfl, fun ρ' H' ok st d hd => c ρ' H' ok st d σ (en.mono st) hd⟩
    | ok a => exact ⟨.ok a, S1, rfl, fun ρ1 H1 ok st b hb => ⟨a, S1, ρ1, ok, st, hb, r, S', e, fun ρ' H' ok' st' => c ρ' H' ok' (st.trans st')⟩⟩
theorem gos_nx {δ : DEnv} (ok : Ok K ρ S H) (h : GoS K Wx ρ H (some (.ok (.nx δ), S)) D) (en : EnvR K ρ H δ σ) : D.nx σ H := by
  obtain ⟨r', S', e, c⟩ := h
  cases e
  exact c ρ H ok (Step.refl ρ H) σ en
theorem gos_bk {δ : DEnv} (ok : Ok K ρ S H) (h : GoS K Wx ρ H (some (.ok (.bk δ), S)) D) (en : EnvR K ρ H δ σ) : D.bk σ H := by
  obtain ⟨r', S', e, c⟩ := h
  cases e
  exact c ρ H ok (Step.refl ρ H) σ en
theorem gos_ct {δ : DEnv} (ok : Ok K ρ S H) (h : GoS K Wx ρ H (some (.ok (.ct δ), S)) D) (en : EnvR K ρ H δ σ) : D.ct σ H := by
  obtain ⟨r', S', e, c⟩ := h
  cases e
  exact c ρ H ok (Step.refl ρ H) σ en
theorem gos_rt {w : W} {v : V} (ok : Ok K ρ S H) (h : GoS K Wx ρ H (some (.ok (.rt w), S)) D) (en : RelW K ρ H w v) : D.rt v H := by
  obtain ⟨r', S', e, c⟩ := h
  cases e
  exact c ρ H ok (Step.refl ρ H) v en
end
theorem _root_.L2.PS.imp {X : Cx} {e : Stmt} {t t' : TS} (h : PS X e t) (i : ∀ D σ H, t' D σ H → t D σ H) : PS X e t' := ⟨fun pins s σ H D I q => h.run pins s σ H D I (i D σ H q)⟩
theorem _root_.L2.PSs.imp {X : Cx} {e : List Stmt} {t t' : TS} (h : PSs X e t) (i : ∀ D σ H, t' D σ H → t D σ H) : PSs X e t' := ⟨fun pins s σ H D I q => h.run pins s σ H D I (i D σ H q)⟩
theorem _root_.L2.PG.imp {X : Cx} {e : Expr} {t t' : TG} (h : PG X e t) (i : ∀ v σ H Q, t' v σ H Q → t v σ H Q) : PG X e t' := ⟨fun pins s σ H v u Q I r q => h.run pins s σ H v u Q I r (i v σ H Q q)⟩
theorem _root_.L2.PGs.imp {X : Cx} {e : List Expr} {t t' : TGs} (h : PGs X e t) (i : ∀ v σ H Q, t' v σ H Q → t v σ H Q) : PGs X e t' := ⟨fun pins s σ H v u Q I r q => h.run pins s σ H v u Q I r (i v σ H Q q)⟩
theorem _root_.L2.PI.imp {X : Cx} {a e : Expr} {t t' : TI} (h : PI X a e t) (i : ∀ σ H R, t' σ H R → t σ H R) : PI X a e t' := ⟨fun pins s σ H R I q => h.run pins s σ H R I (i σ H R q)⟩
theorem _root_.L2.PI.or {X : Cx} {a e : Expr} {t t' : TI} (h : PI X a e t) (h' : PI X a e t') : PI X a e (fun σ H R => t σ H R ∨ t' σ H R) := ⟨fun pins s σ H R I q => q.elim (h.run pins s σ H R I) (h'.run pins s σ H R I)⟩

/-! ### small statements -/
def sSeq (f g : FS) : FS := fun δ S => match f δ S with
  | some (.ok (.nx δ1), S1) => g δ1 S1
  | o => o
def sNx : FS := fun δ S => some (.ok (.nx δ), S)
def sBk : FS := fun δ S => some (.ok (.bk δ), S)
def sCt : FS := fun δ S => some (.ok (.ct δ), S)
def sRet (f : FE) : FS := fun δ S => sE (f δ S) δ fun w S1 => some (.ok (.rt w), S1)
def sRetN : FS := fun δ S => some (.ok (.rt (.d .non)), S)
def sDrop (f : FE) : FS := fun δ S => sE (f δ S) δ fun _ S1 => some (.ok (.nx δ), S1)
def sSet (i : Nat) (f : FE) : FS := fun δ S => sE (f δ S) δ fun w S1 => some (.ok (.nx (δ.set i (some w))), S1)
def sIf (t : FT) (f g : FS) : FS := fun δ S => sE (t δ S) δ fun c S1 => if c = true then f δ S1 else g δ S1
def sNever : FS := fun _ _ => none
section
variable {X : Cx} {Wx : WX} {st : Stmt} {rest body orelse : List Stmt} {e c o : Expr} {es : List Expr} {f g : FE} {ft : FT} {fa : FA} {fs gs : FS} {pos : Pos}
theorem dss_nil : PSs X [] (tS X.K Wx sNx) := pss_nil.imp fun D σ H q => by
  obtain ⟨δ, S, ρ, ok, en, q⟩ := q
  exact gos_nx ok q en
theorem impSeq {K : PySem.W.Frag} (D : Ends) (σ : L2.St) (H : Hp) (q : tS K Wx (sSeq fs gs) D σ H) : tSeq (tS K Wx fs) (tS K Wx gs) D σ H := by
  obtain ⟨δ, S, ρ, ok, en, r, S', e, c⟩ := q
  refine ⟨δ, S, ρ, ok, en, ?_⟩
  unfold sSeq at e
  cases q : fs δ S with
  | none => rw [q] at e; cases e
  | some p =>
    obtain ⟨z, S1⟩ := p
    rw [q] at e
    cases z with
    | error x => cases e; exact ⟨_, _, rfl, c⟩
    | ok fl => cases fl with
      | nx δ1 => exact ⟨_, _, rfl, fun ρ1 H1 ok1 st1 σ1 en1 => ⟨δ1, S1, ρ1, ok1, en1, r, S', e, fun ρ2 H2 ok2 st2 => c ρ2 H2 ok2 (st1.trans st2)⟩⟩
      | rt w => cases e; exact ⟨_, _, rfl, c⟩
      | bk w => cases e; exact ⟨_, _, rfl, c⟩
      | ct w => cases e; exact ⟨_, _, rfl, c⟩
theorem dss_cons (h1 : PS X st (tS X.K Wx fs)) (h2 : PSs X rest (tS X.K Wx gs)) : PSs X (st :: rest) (tS X.K Wx (sSeq fs gs)) := (pss_cons h1 h2).imp impSeq
theorem dss_one (h1 : PS X st (tS X.K Wx fs)) : PSs X [st] (tS X.K Wx fs) := pss_one h1
theorem ds_pass : PS X (.Pass pos) (tS X.K Wx sNx) := ps_pass.imp fun D σ H q => by
  obtain ⟨δ, S, ρ, ok, en, q⟩ := q
  exact gos_nx ok q en
theorem ds_break : PS X (.Break pos) (tS X.K Wx sBk) := ps_break.imp fun D σ H q => by
  obtain ⟨δ, S, ρ, ok, en, q⟩ := q
  exact gos_bk ok q en
theorem ds_cont : PS X (.Continue pos) (tS X.K Wx sCt) := ps_continue.imp fun D σ H q => by
  obtain ⟨δ, S, ρ, ok, en, q⟩ := q
  exact gos_ct ok q en
theorem ds_doc {x j pos'} : PS X (.Expr (.Constant (.str x) j pos) pos') (tS X.K Wx sNx) := ps_doc.imp fun D σ H q => by
  obtain ⟨δ, S, ρ, ok, en, q⟩ := q
  exact gos_nx ok q en
theorem ds_never : PS X st (tS X.K Wx sNever) := ps_never.imp fun D σ H q => by
  obtain ⟨δ, S, ρ, ok, en, q⟩ := q
  exact gos_none q
theorem dss_never : PSs X rest (tS X.K Wx sNever) := pss_never.imp fun D σ H q => by
  obtain ⟨δ, S, ρ, ok, en, q⟩ := q
  exact gos_none q
theorem ds_ret (he : PE X e (tE X.K Wx f)) : PS X (.Return (some e) pos) (tS X.K Wx (sRet f)) := (ps_ret he).imp fun D σ H q => by
  obtain ⟨δ, S, ρ, ok, en, q⟩ := q
  exact ⟨δ, S, ρ, ok, en, (gos_bind en q).mono fun v H1 ⟨x, S1, ρ1, ok1, st1, r1, q1⟩ => gos_rt ok1 q1 r1⟩
theorem ds_retN : PS X (.Return none pos) (tS X.K Wx sRetN) := ps_retN.imp fun D σ H q => by
  obtain ⟨δ, S, ρ, ok, en, q⟩ := q
  exact gos_rt ok q (show RelW X.K ρ H (.d .non) .non by simp [RelW, RelD])
theorem ds_drop (he : PE X e (tE X.K Wx f)) (hs : swapsWith e none pos.line X.env = pure false := by rfl) : PS X (.Expr e pos) (tS X.K Wx (sDrop f)) := (ps_expr he hs).imp fun D σ H q => by
  obtain ⟨δ, S, ρ, ok, en, q⟩ := q
  exact ⟨δ, S, ρ, ok, en, (gos_bind en q).mono fun v H1 ⟨x, S1, ρ1, ok1, st1, r1, q1⟩ => gos_nx ok1 q1 (en.mono st1)⟩
theorem impSet {K : PySem.W.Frag} (i : Nat) (D : Ends) (σ : L2.St) (H : Hp) (q : tS K Wx (sSet i f) D σ H) : tAsg (tE K Wx f) (gName i) D σ H := by
  obtain ⟨δ, S, ρ, ok, en, q⟩ := q
  exact ⟨δ, S, ρ, ok, en, (gos_bind en q).mono fun v H1 ⟨x, S1, ρ1, ok1, st1, r1, q1⟩ => gos_nx ok1 q1 ((en.mono st1).set i r1)⟩
theorem ds_set (i : Nat) {x : Str} {pos' : Pos} (hN : X.N.Nodup) (he : PE X e (tE X.K Wx f)) (hi : X.N[i]? = some x := by rfl) (hx : Loc X.env.scope x := by first | exact Or.inl rfl | exact Or.inr rfl) (hs : swapsWith e (some (.Name x pos')) pos.line X.env = pure false := by rfl)
    (hf : X.fn x = true ∨ X.env.scope.names.lookup x = some .local := by first | exact .inl rfl | exact .inr rfl | assumption) : PS X (.Assign [.Name x pos'] e pos) (tS X.K Wx (sSet i f)) := (ps_set hN hi hx he hs hf).imp (impSet i)
theorem ds_if (hc : PT X c (tT X.K Wx ft)) (ha : PSs X body (tS X.K Wx fs)) (hb : PSs X orelse (tS X.K Wx gs)) : PS X (.If c body orelse pos) (tS X.K Wx (sIf ft fs gs)) := (ps_if hc ha hb).imp fun D σ H q => by
  obtain ⟨δ, S, ρ, ok, en, q⟩ := q
  refine ⟨δ, S, ρ, ok, en, (gos_bind en q).mono fun v H1 ⟨x, S1, ρ1, ok1, st1, r1, q1⟩ => ?_⟩
  obtain rfl : x = v := r1
  cases x with
  | true =>
    rw [if_pos rfl] at q1
    exact iteT ⟨δ, S1, ρ1, ok1, en.mono st1, q1⟩
  | false =>
    rw [if_neg Bool.false_ne_true] at q1
    exact iteF ⟨δ, S1, ρ1, ok1, en.mono st1, q1⟩
/-- a, b = x, y -/
def sPar (i j : Nat) (f g : FE) : FS := fun δ S => sE ((f δ S).bind fun x S1 => (g δ S1).bind fun y S2 => some (.ok (x, y), S2)) δ fun p S2 => some (.ok (.nx ((δ.set i (some p.1)).set j (some p.2))), S2)
theorem ds_par (i j : Nat) {x y : Str} {a b : Expr} {px py pt : Pos} {kt k2 pt2} (hc : X.calm = true) (hN : X.N.Nodup) (ha : PE X a (tE X.K Wx f)) (hb : PE X b (tE X.K Wx g)) (hi : X.N[i]? = some x := by rfl) (hj : X.N[j]? = some y := by rfl) (hij : i ≠ j := by decide)
    (hx : X.env.scope.names.lookup x = some .local := by rfl) (hy : X.env.scope.names.lookup y = some .local := by rfl)
    (hw : swappedStores [.Tuple [.Name x px, .Name y py] kt pt] (.Tuple [a, b] k2 pt2) X.env = pure (some [x, y]) := by rfl)
    (hs : swapsWithSole [.Tuple [.Name x px, .Name y py] kt pt] (.Tuple [a, b] k2 pt2) pos.line X.env = pure false := by rfl)
    (h1 : starEach [a, b] X.env = (false, eval a X.env) :: starEach [b] X.env := by rfl) (h2 : starEach [b] X.env = (false, eval b X.env) :: starEach [] X.env := by rfl) :
    PS X (.Assign [.Tuple [.Name x px, .Name y py] kt pt] (.Tuple [a, b] k2 pt2) pos) (tS X.K Wx (sPar i j f g)) :=
  (ps_par hc hN hi hj hij hx hy (pa_cons ha (pa_cons hb pa_nil h2) h1) hw hs).imp fun D σ H q => by
    obtain ⟨δ, S, ρ, ok, en, q⟩ := q
    have q0 := gos_bind (rel := fun ρ H (p : W × W) (b : V × V) => RelW X.K ρ H p.1 b.1 ∧ RelW X.K ρ H p.2 b.2) en q
    refine ⟨δ, S, ρ, ok, en, (go_bind q0).mono fun v H1 ⟨x1, S1, ρ1, ok1, st1, r1, q1⟩ => ?_⟩
    refine ⟨δ, S1, ρ1, ok1, en.mono st1, (go_bind q1).mono fun u H2 ⟨x2, S2, ρ2, ok2, st2, r2, q2⟩ => ?_⟩
    obtain ⟨a3, S3, ρ3, ok3, st3, r3, q3⟩ := go_val (b := (v, u)) ok2 q2 ⟨r1.mono st2, r2⟩
    obtain ⟨r, S', e, c⟩ := q3
    cases e
    refine ⟨v, u, rfl, ?_⟩
    exact c ρ3 H2 ok3 (Step.refl _ _) _ ((en.mono st3).set i r3.1 |>.set j r3.2)
end

/-! ### targets -/
abbrev Tg := W → DEnv → Store → Option (DEnv × Store)
abbrev Tgs := List W → DEnv → Store → Option (DEnv × Store)
/-- vs: the slots that are written -/
def tG (K : PySem.W.Frag) (vs : List Nat) (tf : Tg) : TG := fun v σ H Q => ∃ w δ S ρ δ' S', Ok K ρ S H ∧ EnvR K ρ H δ σ ∧ RelW K ρ H w v ∧ tf w δ S = some (δ', S') ∧
  ∀ ρ' H' σ', Ok K ρ' S' H' → Step ρ H ρ' H' → EnvR K ρ' H' δ' σ' → wipe σ' vs = wipe σ vs → Q σ' H'
def tGs (K : PySem.W.Frag) (vs : List Nat) (tf : Tgs) : TGs := fun us σ H Q => ∃ ws δ S ρ δ' S', Ok K ρ S H ∧ EnvR K ρ H δ σ ∧ RelWs K ρ H ws us ∧ tf ws δ S = some (δ', S') ∧
  ∀ ρ' H' σ', Ok K ρ' S' H' → Step ρ H ρ' H' → EnvR K ρ' H' δ' σ' → wipe σ' vs = wipe σ vs → Q σ' H'
def tgN (i : Nat) : Tg := fun w δ S => some (δ.set i (some w), S)
def tgNil : Tgs := fun ws δ S => match ws with
  | [] => some (δ, S)
  | _ => none
def tgCons (t : Tg) (u : Tgs) : Tgs := fun ws δ S => match ws with
  | [] => none
  | w :: ws => (t w δ S).bind fun p => u ws p.1 p.2
def tgT (n : Nat) (u : Tgs) : Tg := fun w δ S => match w with
  | .d (.tup ds) => if ds.length = n then u (ds.map W.d) δ S else none
  | _ => none
theorem wipe_set {σ : L2.St} {i : Nat} {x : Option V} : ∀ {vs : List Nat}, i ∈ vs → wipe (σ.set i x) vs = wipe σ vs
  | [], h => by simp at h
  | v :: vs, h => by
    unfold wipe
    by_cases hi : i ∈ vs
    · rw [wipe_set hi]
    · have e : v = i := by
        rcases List.mem_cons.mp h with h | h
        · exact h.symm
        · exact absurd h hi
      subst e
      have key : ∀ us : List Nat, wipe (σ.set v x) us = (wipe σ us).set v (if v ∈ us then none else x) := by
        intro us
        induction us with
        | nil => simp [wipe]
        | cons u us ih =>
          unfold wipe
          rw [ih]
          by_cases huv : u = v
          · subst huv; simp
          · rw [List.set_comm _ _ (Ne.symm huv)]
            simp [Ne.symm huv]
      rw [key]
      simp
section
variable {X : Cx} {Wx : WX} {e : Expr} {es : List Expr} {tf : Tg} {tfs : Tgs} {pos : Pos} {vs : List Nat}
theorem dg_name (i : Nat) {x : Str} (hN : X.N.Nodup) (hv : i ∈ vs := by decide) (hi : X.N[i]? = some x := by rfl) (hx : Loc X.env.scope x := by first | exact Or.inl rfl | exact Or.inr rfl) (hf : X.fn x = true ∨ X.env.scope.names.lookup x = some .local := by first | exact .inl rfl | exact .inr rfl | assumption) :
    PG X (.Name x pos) (tG X.K vs (tgN i)) := (pg_name hN hi hx hf).imp fun v σ H Q q => by
  obtain ⟨w, δ, S, ρ, δ', S', ok, en, r, e, c⟩ := q
  cases e
  exact c ρ H _ ok (Step.refl ρ H) (en.set i r) (wipe_set hv)
theorem dgs_nil : PGs X [] (tGs X.K vs tgNil) := pgs_nil.imp fun v σ H Q q => by
  obtain ⟨ws, δ, S, ρ, δ', S', ok, en, r, e, c⟩ := q
  cases ws with
  | nil =>
    cases e
    exact ⟨r, c ρ H _ ok (Step.refl ρ H) en rfl⟩
  | cons w ws => cases e
theorem dgs_cons (h1 : PG X e (tG X.K vs tf)) (h2 : PGs X es (tGs X.K vs tfs)) (hs : (assignEach (e :: es) X.env).map (·.2) = assign e X.env :: (assignEach es X.env).map (·.2) := by rfl) : PGs X (e :: es) (tGs X.K vs (tgCons tf tfs)) :=
  (pgs_cons h1 h2 hs).imp fun v σ H Q q => by
    obtain ⟨ws, δ, S, ρ, δ', S', ok, en, r, e, c⟩ := q
    cases ws with
    | nil => cases e
    | cons w ws =>
      obtain ⟨v0, vr, rfl, r0, rr⟩ := r
      cases e1 : tf w δ S with
      | none => simp [tgCons, e1] at e
      | some p =>
        obtain ⟨δ1, S1⟩ := p
        simp only [tgCons, e1, Option.bind_some] at e
        refine ⟨v0, vr, rfl, w, δ, S, ρ, δ1, S1, ok, en, r0, e1, fun ρ1 H1 σ1 ok1 st1 en1 w1 => ?_⟩
        exact ⟨ws, δ1, S1, ρ1, δ', S', ok1, en1, rr.mono st1, e, fun ρ2 H2 σ2 ok2 st2 en2 w2 => c ρ2 H2 σ2 ok2 (st1.trans st2) en2 (w2.trans w1)⟩
theorem dg_tup {k : Nat} {n : Nat} (hc : X.calm = true) (h : PGs X es (tGs X.K vs tfs)) (hn : (assignEach es X.env).length = n := by rfl) (hst : (assignEach es X.env).findIdx? (·.1) = none := by rfl) : PG X (.Tuple es k pos) (tG X.K vs (tgT n tfs)) :=
  (pg_tup hc h hn hst).imp fun v σ H Q q => by
    obtain ⟨w, δ, S, ρ, δ', S', ok, en, r, e, c⟩ := q
    cases w with
    | loc n => cases e
    | d x => cases x with
      | tup ds =>
        obtain ⟨a, us, rfl, h1, h2⟩ : ∃ a vs, v = .ref a ∧ TupF X.K ρ H a vs ∧ RelDs X.K ρ H ds vs := by simpa [RelW, RelD] using r
        by_cases hl : ds.length = n
        · simp only [tgT, if_pos hl] at e
          exact ⟨a, us, rfl, h1.sq, by rw [← h2.length]; exact hl, ds.map W.d, δ, S, ρ, δ', S', ok, en, relWs_map h2, e, c⟩
        · simp [tgT, if_neg hl] at e
      | _ => cases e
/-- o[i] = .. -/
def setAt (x y w : W) (S : Store) : Option Store := match x, y with
  | .loc n, .d (.int k) => (match S[n]? with
    | some (.lst ws) => (ixN ws.length k).map fun j => S.set n (.lst (ws.set j w))
    | _ => none)
  | _, _ => none
def tgIx (fo fi : FE) : Tg := fun w δ S => match fo δ S with
  | some (.ok x, S1) => (match fi δ S1 with
    | some (.ok y, S2) => (setAt x y w S2).map fun S3 => (δ, S3)
    | _ => none)
  | _ => none
theorem dg_ix {o i : Expr} {fo fi : FE} (ho : PE X o (tE X.K Wx fo)) (hi : PE X i (tE X.K Wx fi)) (ha : ∀ v, assign (.Subscript o i pos) X.env v = (do
      let ov ← holding [v] (eval o X.env)
      let iv ← holding [v, ov] (eval i X.env)
      standAt pos
      holding [v, ov, iv] (setItem ov iv v)
      release [v, ov, iv] []) := by intro _; rfl) : PG X (.Subscript o i pos) (tG X.K vs (tgIx fo fi)) := (pg_sub ho hi set_list ha).imp fun v σ H Q q => by
  obtain ⟨w, δ, S, ρ, δ', S', ok, en, r, e, c⟩ := q
  unfold tgIx at e
  split at e
  · rename_i x S1 e1
    split at e
    · rename_i y S2 e2
      obtain ⟨S3, e3, e4⟩ := Option.map_eq_some_iff.mp e
      cases e4
      refine ⟨δ, S, ρ, ok, en, _, _, e1, fun ρ1 H1 ok1 st1 xv rx => ?_⟩
      refine ⟨δ, S1, ρ1, ok1, en.mono st1, _, _, e2, fun ρ2 H2 ok2 st2 yv ry => ?_⟩
      unfold setAt at e3
      split at e3
      · rename_i n k
        split at e3
        · rename_i ws ew
          obtain ⟨j, ej, rfl⟩ := Option.map_eq_some_iff.mp e3
          obtain ⟨a, us, rfl, ha, h1, h2⟩ := loc_at ok2 (rx.mono st2) ew
          have r2 := (r.mono st1).mono st2
          obtain ⟨ok3, st3⟩ := ok_write ok2 (m := .lst (ws.set j w)) (o := .lst (us.set j v)) ha fun H' st e => ⟨_, e, (h2.mono st).set j (r2.mono st)⟩
          refine ⟨a, us, k, j, rfl, by simpa [RelW, RelD] using ry, h1, by rw [← h2.length]; exact ej, ?_⟩
          exact c ρ2 _ σ ok3 ((st1.trans st2).trans st3) (((en.mono st1).mono st2).mono st3) rfl
        · cases e3
      · cases e3
    · cases e
  · cases e
/-- target = value -/
def sAsg (f : FE) (tf : Tg) : FS := fun δ S => sE (f δ S) δ fun w S1 => match tf w δ S1 with
  | some (δ', S2) => some (.ok (.nx δ'), S2)
  | none => none
theorem ds_asg {tg e : Expr} {f : FE} (he : PE X e (tE X.K Wx f)) (hg : PG X tg (tG X.K vs tf)) (hs : swapsWithSole [tg] e pos.line X.env = pure false := by rfl) (hw : swappedStores [tg] e X.env = pure none := by rfl)
    (h1 : (assignEach [tg] X.env).map (·.2) = [assign tg X.env] := by rfl) : PS X (.Assign [tg] e pos) (tS X.K Wx (sAsg f tf)) := (ps_asg he hg hs hw h1).imp fun D σ H q => by
  obtain ⟨δ, S, ρ, ok, en, q⟩ := q
  refine ⟨δ, S, ρ, ok, en, (gos_bind en q).mono fun v H1 ⟨w, S1, ρ1, ok1, st1, r1, q1⟩ => ?_⟩
  cases e1 : tf w δ S1 with
  | none => simp only [e1] at q1; exact gos_none q1
  | some p =>
    obtain ⟨δ', S2⟩ := p
    simp only [e1] at q1
    obtain ⟨r, S', e2, c⟩ := q1
    cases e2
    exact ⟨w, δ, S1, ρ1, δ', S2, ok1, en.mono st1, r1, e1, fun ρ2 H2 σ2 ok2 st2 en2 _ => c ρ2 H2 ok2 st2 σ2 en2⟩
end

/-! ### what is walked -/
abbrev Grd := Option (Nat × M)
/-- the list that is walked stands as it stood -/
def okG (g : Grd) (S : Store) : Prop := ∀ p, g = some p → S[p.1]? = some p.2
theorem okG_none {S : Store} : okG none S ↔ True := ⟨fun _ => trivial, fun _ _ e => nomatch e⟩
theorem okG_some {n : Nat} {m : M} {S : Store} : okG (some (n, m)) S ↔ S[n]? = some m := ⟨fun h => h _ rfl, fun h p e => by cases e; exact h⟩
def ItR (K : PySem.W.Frag) (ρ : Ad) (H : Hp) (p : List W × Grd) (J : It) : Prop := ∀ ρ' S' H', Ok K ρ' S' H' → Stw ρ H ρ' H' → okG p.2 S' → ∀ i, (∀ w, p.1[i]? = some w → J.go i H' ∧ ∀ x H'', J.yld i H' x H'' → (∀ a o, H' a = some o → H'' a = some o) ∧ RelW K ρ' H'' w x) ∧ (p.1.length ≤ i → J.stop i H')
abbrev FI := DEnv → Store → Rs (List W × Grd)
def tI (K : PySem.W.Frag) (Wx : WX) (f : FI) : TI := fun σ H R => ∃ δ S ρ, Ok K ρ S H ∧ EnvR K ρ H δ σ ∧ Go K Wx σ ρ H (ItR K) (f δ S) R
/-- the items of a sequence -/
def itW (S : Store) : W → Option (Bool × List W × Grd)
  | .d (.tup ds) => some (true, ds.map W.d, none)
  | .d (.lst ds) => some (false, ds.map W.d, none)
  | .loc n => match S[n]? with
    | some (.lst ws) => some (false, ws, some (n, .lst ws))
    | _ => none
  | _ => none
def dSeq (f : FE) : FI := fun δ S => (f δ S).bind fun x S1 => match itW S1 x with
  | some (_, ws, g) => some (.ok (ws, g), S1)
  | none => none
/-- what is known of a sequence while it is walked -/
theorem itW_ok {K : PySem.W.Frag} {ρ : Ad} {H : Hp} {S : Store} {x : W} {v : V} {t : Bool} {ws : List W} {g : Grd} (ok : Ok K ρ S H) (r : RelW K ρ H x v) (e : itW S x = some (t, ws, g)) :
    ∃ a vs, v = .ref a ∧ SqW K H t a vs ∧ ws.length = vs.length ∧ ∀ ρ' S' H', Ok K ρ' S' H' → Stw ρ H ρ' H' → okG g S' → ∃ vs', SqW K H' t a vs' ∧ RelWs K ρ' H' ws vs' := by
  cases x with
  | loc n =>
    cases e0 : S[n]? with
    | none => simp [itW, e0] at e
    | some m =>
      simp only [itW, e0] at e
      cases m with
      | lst us =>
        cases e
        obtain ⟨a, vs, rfl, ha, h1, h2⟩ := loc_at ok r e0
        refine ⟨a, vs, rfl, SqL.of h1, h2.length, fun ρ' S' H' ok' st hg => ?_⟩
        have hg' := okG_some.mp hg
        obtain ⟨a', vs', e1, ha', h3, h4⟩ := loc_at ok' (r.monoW st) hg'
        cases e1
        exact ⟨vs', SqL.of h3, h4⟩
      | _ => cases e
  | d x => cases x with
    | tup ds =>
      obtain ⟨a, vs, rfl, h1, h2⟩ : ∃ a vs, v = .ref a ∧ TupF K ρ H a vs ∧ RelDs K ρ H ds vs := by simpa [RelW, RelD] using r
      cases e
      exact ⟨a, vs, rfl, h1.sq, (relWs_map h2).length, fun ρ' S' H' ok' st _ => ⟨vs, (h1.monoW st).sq, (relWs_map h2).monoW st⟩⟩
    | lst ds =>
      obtain ⟨a, vs, rfl, h1, h2⟩ : ∃ a vs, v = .ref a ∧ LstF K ρ H a vs ∧ RelDs K ρ H ds vs := by simpa [RelW, RelD] using r
      cases e
      exact ⟨a, vs, rfl, h1.sq, (relWs_map h2).length, fun ρ' S' H' ok' st _ => ⟨vs, (h1.monoW st).sq, (relWs_map h2).monoW st⟩⟩
    | _ => cases e
section
variable {X : Cx} {Wx : WX} {e e2 tg : Expr} {es : List Expr} {f : FE} {fa : FA} {p pos tpos : Pos}
theorem di_seq (he : PE X e (tE X.K Wx f)) : PI X tg e (tI X.K Wx (dSeq f)) := ((pi_list he).or (pi_tup he)).imp fun σ H R q => by
  obtain ⟨δ, S, ρ, ok, en, q⟩ := q
  -- which of the two it is, is told by the function
  have q1 := go_bind (rel := RelW X.K) q
  obtain ⟨r, S1, e1, c⟩ := q1
  cases r with
  | error x => exact .inl ⟨δ, S, ρ, ok, en, .error x, S1, e1, fun ρ' H' ok' st' => c ρ' H' ok' st'⟩
  | ok x =>
    have e2 : f δ S = some (.ok x, S1) := e1
    cases ei : itW S1 x with
    | none =>
      simp only [dSeq, e2, Rs.bind, ei] at q
      exact go_none q
    | some z =>
      obtain ⟨t, ws, g⟩ := z
      have fin : ∀ ρ1 H1, Ok X.K ρ1 S1 H1 → Step ρ H ρ1 H1 → ∀ v, RelW X.K ρ1 H1 x v → ∃ a vs, v = .ref a ∧ SqW X.K H1 t a vs ∧ R (if t = true then Itt X.K a else Itl X.K a) H1 := fun ρ1 H1 ok1 st1 v rv => by
        obtain ⟨a, vs, rfl, h1, hl, h2⟩ := itW_ok ok1 rv ei
        obtain ⟨y, S2, ρ2, ok2, st2, r2, q2⟩ := c ρ1 H1 ok1 st1 (V.ref a) rv
        refine ⟨a, vs, rfl, h1, ?_⟩
        simp only [dSeq, e2, Rs.bind, ei] at q
        refine go_at q ok1 st1 ?_
        intro ρ' S' H' ok' st' hg i
        obtain ⟨vs', h3, h4⟩ := h2 ρ' S' H' ok' st' hg
        cases t with
        | true =>
          refine ⟨fun w hw => ?_, fun hi => ⟨vs', h3, by rw [← h4.length]; exact hi⟩⟩
          obtain ⟨u, hu, ru⟩ := h4.get hw
          refine ⟨⟨vs', u, h3, hu⟩, fun z H'' y => ?_⟩
          obtain ⟨rfl, y⟩ := y
          have := y vs' h3
          rw [hu] at this
          cases this
          exact ⟨fun _ _ z => z, ru⟩
        | false =>
          refine ⟨fun w hw => ?_, fun hi => ⟨vs', h3, by rw [← h4.length]; exact hi⟩⟩
          obtain ⟨u, hu, ru⟩ := h4.get hw
          refine ⟨⟨vs', u, h3, hu⟩, fun z H'' y => ?_⟩
          obtain ⟨rfl, y⟩ := y
          have := y vs' h3
          rw [hu] at this
          cases this
          exact ⟨fun _ _ z => z, ru⟩
      cases t with
      | true =>
        refine .inr ⟨δ, S, ρ, ok, en, .ok x, S1, e2, fun ρ1 H1 ok1 st1 v rv => ?_⟩
        obtain ⟨a, vs, rfl, h1, h2⟩ := fin ρ1 H1 ok1 st1 v rv
        exact ⟨a, rfl, ⟨vs, h1⟩, h2⟩
      | false =>
        refine .inl ⟨δ, S, ρ, ok, en, .ok x, S1, e2, fun ρ1 H1 ok1 st1 v rv => ?_⟩
        obtain ⟨a, vs, rfl, h1, h2⟩ := fin ρ1 H1 ok1 st1 v rv
        exact ⟨a, rfl, ⟨vs, h1⟩, h2⟩
end
end DL
set_option Elab.async false
set_option linter.all false
set_option maxRecDepth 100000
set_option maxHeartbeats 1000000
/-! DL6: range, zip, enumerate; for, while; comprehensions. -/
namespace DL
open PySem PySem.Spec PyProof.Rows L2 RZ

/-! ### range, zip -/
def rngW (lo : Int) (n : Nat) : List W := (List.range n).map fun (i : Nat) => W.d (.int (lo + (i : Int)))
theorem rngW_get {lo : Int} {n i : Nat} {w : W} (h : (rngW lo n)[i]? = some w) : i < n ∧ w = .d (.int (lo + (i : Int))) := by
  unfold rngW at h
  rw [List.getElem?_map] at h
  by_cases hi : i < n
  · rw [List.getElem?_range hi] at h
    simp at h
    exact ⟨hi, h.symm⟩
  · rw [List.getElem?_eq_none (by simpa using hi)] at h
    simp at h
theorem rngW_len {lo : Int} {n : Nat} : (rngW lo n).length = n := by simp [rngW]
def oRng1 : List W → Store → Rs (List W × Grd)
  | [.d (.int j)], S => if -(2 ^ 62) ≤ j ∧ j < 2 ^ 62 then some (.ok (rngW 0 j.toNat, none), S) else none
  | _, _ => none
def oRng2 : List W → Store → Rs (List W × Grd)
  | [.d (.int i), .d (.int j)], S => if -(2 ^ 62) ≤ i ∧ i < 2 ^ 62 ∧ -(2 ^ 62) ≤ j ∧ j < 2 ^ 62 then some (.ok (rngW i (j - i).toNat, none), S) else none
  | _, _ => none
def dIt (op : List W → Store → Rs (List W × Grd)) (fa : FA) : FI := fun δ S => (fa δ S).bind op
theorem itR_range {K : PySem.W.Frag} {ρ : Ad} {H : Hp} {lo : Int} {n : Nat} : ItR K ρ H (rngW lo n, none) (Itr lo n) := by
  intro ρ' S' H' ok st _ i
  refine ⟨fun w hw => ?_, fun hi => by rw [rngW_len] at hi; exact hi⟩
  obtain ⟨hi, rfl⟩ := rngW_get hw
  exact ⟨hi, fun x H'' ⟨e1, e2⟩ => by subst e1 e2; exact ⟨fun _ _ z => z, by simp [RelW, RelD]⟩⟩
/-- pairs of two sequences of one kind -/
def zipD (xs ys : List D) : List W := (xs.zip ys).map fun p => W.d (.tup [p.1, p.2])
def oZip : List W → Store → Rs (List W × Grd)
  | [.d (.tup xs), .d (.tup ys)], S => some (.ok (zipD xs ys, none), S)
  | [.d (.lst xs), .d (.lst ys)], S => some (.ok (zipD xs ys, none), S)
  | _, _ => none
theorem zipD_get {xs ys : List D} {i : Nat} {w : W} (h : (zipD xs ys)[i]? = some w) : ∃ x y, xs[i]? = some x ∧ ys[i]? = some y ∧ w = .d (.tup [x, y]) := by
  unfold zipD at h
  rw [List.getElem?_map] at h
  cases e : (xs.zip ys)[i]? with
  | none => rw [e] at h; simp at h
  | some p =>
    rw [e] at h
    simp at h
    obtain ⟨h1, h2⟩ := List.getElem?_zip_eq_some.mp e
    exact ⟨p.1, p.2, h1, h2, h.symm⟩
theorem zipD_len {xs ys : List D} : (zipD xs ys).length = min xs.length ys.length := by simp [zipD]
theorem tup2_new {K : PySem.W.Frag} {ρ : Ad} {S : Store} {H : Hp} {T : Addr} {x y : D} {u v : V} (ok : Ok K ρ S H) (hT : H T = none) (rx : RelD K ρ H x u) (ry : RelD K ρ H y v) : RelW K ρ (upd H T (.tup [u, v])) (.d (.tup [x, y])) (.ref T) := by
  have st := step_new ok (.tup [u, v]) hT
  show RelD _ _ _ _ _
  rw [RelD]
  refine ⟨T, [u, v], rfl, tupF_new ok hT, ?_⟩
  rw [RelDs]
  refine ⟨u, [v], rfl, RelD.mono st x u rx, ?_⟩
  rw [RelDs]
  exact ⟨v, [], rfl, RelD.mono st y v ry, by rw [RelDs]⟩
theorem itR_zipT {K : PySem.W.Frag} {ρ : Ad} {H : Hp} {xs ys : List D} {a b : Addr} {us vs : List V} (h1 : TupF K ρ H a us) (r1 : RelDs K ρ H xs us) (h2 : TupF K ρ H b vs) (r2 : RelDs K ρ H ys vs) : ItR K ρ H (zipD xs ys, none) (ItzT K a b) := by
  intro ρ' S' H' ok st _ i
  have g1 := (h1.monoW st).sq
  have g2 := (h2.monoW st).sq
  have q1 := RelDs.monoW st xs us r1
  have q2 := RelDs.monoW st ys vs r2
  refine ⟨fun w hw => ?_, fun hi => ⟨us, vs, g1, g2, ?_⟩⟩
  · obtain ⟨x, y, ex, ey, rfl⟩ := zipD_get hw
    obtain ⟨u, hu, ru⟩ := q1.get ex
    obtain ⟨v, hv, rv⟩ := q2.get ey
    refine ⟨⟨us, vs, u, v, g1, g2, hu, hv⟩, fun z H'' ⟨T, u', v', e1, hT, e2, k1, k2⟩ => ?_⟩
    have e3 := k1 us g1
    have e4 := k2 vs g2
    rw [hu] at e3
    rw [hv] at e4
    cases e3
    cases e4
    subst e1 e2
    exact ⟨fun c o hc => by rw [upd_ne (ne_of_none hc hT)]; exact hc, tup2_new ok hT ru rv⟩
  · rw [zipD_len, q1.length, q2.length] at hi
    omega
theorem itR_zipL {K : PySem.W.Frag} {ρ : Ad} {H : Hp} {xs ys : List D} {a b : Addr} {us vs : List V} (h1 : LstF K ρ H a us) (r1 : RelDs K ρ H xs us) (h2 : LstF K ρ H b vs) (r2 : RelDs K ρ H ys vs) : ItR K ρ H (zipD xs ys, none) (Itz K a b) := by
  intro ρ' S' H' ok st _ i
  have g1 := (h1.monoW st).sq
  have g2 := (h2.monoW st).sq
  have q1 := RelDs.monoW st xs us r1
  have q2 := RelDs.monoW st ys vs r2
  refine ⟨fun w hw => ?_, fun hi => ⟨us, vs, g1, g2, ?_⟩⟩
  · obtain ⟨x, y, ex, ey, rfl⟩ := zipD_get hw
    obtain ⟨u, hu, ru⟩ := q1.get ex
    obtain ⟨v, hv, rv⟩ := q2.get ey
    refine ⟨⟨us, vs, u, v, g1, g2, hu, hv⟩, fun z H'' ⟨T, u', v', e1, hT, e2, k1, k2⟩ => ?_⟩
    have e3 := k1 us g1
    have e4 := k2 vs g2
    rw [hu] at e3
    rw [hv] at e4
    cases e3
    cases e4
    subst e1 e2
    exact ⟨fun c o hc => by rw [upd_ne (ne_of_none hc hT)]; exact hc, tup2_new ok hT ru rv⟩
  · rw [zipD_len, q1.length, q2.length] at hi
    omega
section
variable {X : Cx} {Wx : WX} {a b c e e2 tg iter : Expr} {body : List Stmt} {f : FE} {fa : FA} {fi : FI} {ft : FT} {fb : FS} {tf : Tg} {vs : List Nat} {p pos tpos : Pos}
theorem di_rng1 (hm : X.mg "range" = none) (ha : PA X [a] (tA X.K Wx fa)) (hg : Gl X "range" := by rfl) (hs : starEach [a] X.env = [(false, eval a X.env)] := by rfl) : PI X tg (.Call (.Name "range" p) [a] [] pos) (tI X.K Wx (dIt oRng1 fa)) :=
  (pi_range1 hg hm ha hs).imp fun σ H R q => by
    obtain ⟨δ, S, ρ, ok, en, q⟩ := q
    refine ⟨δ, S, ρ, ok, en, (go_bind q).mono fun vs H1 ⟨ws, S1, ρ1, ok1, st1, r1, q1⟩ => ?_⟩
    unfold oRng1 at q1
    split at q1
    · rename_i j
      obtain ⟨v, rfl, rv⟩ := relWs1 r1
      split at q1
      · rename_i hb
        exact ⟨j, by rw [show v = V.int j by simpa [RelW, RelD] using rv], hb.1, hb.2, go_val ok1 q1 itR_range⟩
      · exact go_none q1
    · exact go_none q1
theorem di_rng2 (hm : X.mg "range" = none) (ha : PA X [a, b] (tA X.K Wx fa)) (hg : Gl X "range" := by rfl) (hs : starEach [a, b] X.env = [(false, eval a X.env), (false, eval b X.env)] := by rfl) (hs2 : starEach [b] X.env = [(false, eval b X.env)] := by rfl) :
    PI X tg (.Call (.Name "range" p) [a, b] [] pos) (tI X.K Wx (dIt oRng2 fa)) :=
  (pi_range2 hg hm ha hs hs2).imp fun σ H R q => by
    obtain ⟨δ, S, ρ, ok, en, q⟩ := q
    refine ⟨δ, S, ρ, ok, en, (go_bind q).mono fun vs H1 ⟨ws, S1, ρ1, ok1, st1, r1, q1⟩ => ?_⟩
    unfold oRng2 at q1
    split at q1
    · rename_i i j
      obtain ⟨v, u, rfl, rv, ru⟩ := relWs2 r1
      split at q1
      · rename_i hb
        exact ⟨i, j, by rw [show v = V.int i by simpa [RelW, RelD] using rv, show u = V.int j by simpa [RelW, RelD] using ru], hb, go_val ok1 q1 itR_range⟩
      · exact go_none q1
    · exact go_none q1
theorem di_zip {elts : List Expr} {kk : Nat} (hm : X.mg "zip" = none) (ha : PA X [e, e2] (tA X.K Wx fa)) (hg : Gl X "zip" := by rfl) (hs : starEach [e, e2] X.env = (false, eval e X.env) :: starEach [e2] X.env := by rfl) (hpl : (backTo pos (starEach [e2] X.env)).any (·.1) = false := by rfl) :
    PI X (.Tuple elts kk tpos) (.Call (.Name "zip" p) [e, e2] [] pos) (tI X.K Wx (dIt oZip fa)) :=
  (pi_zipA hg hm ha hs hpl).imp fun σ H R q => by
    obtain ⟨δ, S, ρ, ok, en, q⟩ := q
    refine ⟨δ, S, ρ, ok, en, (go_bind q).mono fun vs H1 ⟨ws, S1, ρ1, ok1, st1, r1, q1⟩ => ?_⟩
    unfold oZip at q1
    split at q1
    · rename_i xs ys
      obtain ⟨v, u, rfl, rv, ru⟩ := relWs2 r1
      obtain ⟨a, us, rfl, h1, h2⟩ : ∃ a vs, v = .ref a ∧ TupF X.K ρ1 H1 a vs ∧ RelDs X.K ρ1 H1 xs vs := by simpa [RelW, RelD] using rv
      obtain ⟨b, zs, rfl, h3, h4⟩ : ∃ a vs, u = .ref a ∧ TupF X.K ρ1 H1 a vs ∧ RelDs X.K ρ1 H1 ys vs := by simpa [RelW, RelD] using ru
      exact ⟨a, b, us, zs, rfl, .inr ⟨h1.sq, h3.sq, go_val ok1 q1 (itR_zipT h1 h2 h3 h4)⟩⟩
    · rename_i xs ys
      obtain ⟨v, u, rfl, rv, ru⟩ := relWs2 r1
      obtain ⟨a, us, rfl, h1, h2⟩ : ∃ a vs, v = .ref a ∧ LstF X.K ρ1 H1 a vs ∧ RelDs X.K ρ1 H1 xs vs := by simpa [RelW, RelD] using rv
      obtain ⟨b, zs, rfl, h3, h4⟩ : ∃ a vs, u = .ref a ∧ LstF X.K ρ1 H1 a vs ∧ RelDs X.K ρ1 H1 ys vs := by simpa [RelW, RelD] using ru
      exact ⟨a, b, us, zs, rfl, .inl ⟨h1.sq, h3.sq, go_val ok1 q1 (itR_zipL h1 h2 h3 h4)⟩⟩
    · exact go_none q1

/-! ### for -/
open Classical in
noncomputable def forL (tf : Tg) (fb : FS) (g : Grd) : List W → DEnv → Store → Ss
  | [], δ, S => if okG g S then some (.ok (.nx δ), S) else none
  | w :: ws, δ, S => if okG g S then (match tf w δ S with
    | none => none
    | some (δ1, S1) => (match fb δ1 S1 with
      | some (.ok (.nx δ2), S2) => forL tf fb g ws δ2 S2
      | some (.ok (.ct δ2), S2) => forL tf fb g ws δ2 S2
      | some (.ok (.bk δ2), S2) => some (.ok (.nx δ2), S2)
      | o => o)) else none
noncomputable def dFor (fi : FI) (tf : Tg) (fb : FS) : FS := fun δ S => sE (fi δ S) δ fun p S1 => forL tf fb p.2 p.1 δ S1
theorem ds_for (hp : PassesOwn (model X.prog X.w) X.A X.env X.xe) (hc : X.calm = true) (hi : PI X tg iter (tI X.K Wx fi)) (hg : PG X tg (tG X.K vs tf)) (hb : PSs X body (tS X.K Wx fb))
    (hs : ∀ x, foldedSetIterable iter X.env x = pure x := by intro _; rfl) : PS X (.For tg iter body [] pos) (tS X.K Wx (dFor fi tf fb)) := (ps_for hp hc hi hg hb hs).imp fun D σ H q => by
  obtain ⟨δ, S, ρ, ok, en, q⟩ := q
  refine ⟨δ, S, ρ, ok, en, (gos_bind (rel := ItR X.K) en q).mono fun J H1 ⟨p, S1, ρ1, ok1, st1, it, q1⟩ => ?_⟩
  refine ⟨fun i m σ' H' => m = p.1.length - i ∧ i ≤ p.1.length ∧ ∃ δ' S' ρ', Ok X.K ρ' S' H' ∧ Step ρ1 H1 ρ' H' ∧ EnvR X.K ρ' H' δ' σ' ∧ GoS X.K Wx ρ' H' (forL tf fb p.2 (p.1.drop i) δ' S') D,
    ⟨p.1.length, rfl, Nat.zero_le _, δ, S1, ρ1, ok1, Step.refl _ _, en.mono st1, q1⟩, ?_⟩
  rintro i m σ' H' ⟨rfl, hi, δ', S', ρ', ok', st', en', q'⟩
  by_cases hgd : okG p.2 S'
  · obtain ⟨it1, it2⟩ := it ρ' S' H' ok' st'.toStw hgd i
    by_cases hlt : i < p.1.length
    · refine .inr ?_
      have hdrop : p.1.drop i = p.1[i] :: p.1.drop (i + 1) := List.drop_eq_getElem_cons hlt
      rw [hdrop] at q'
      obtain ⟨hgo, hyl⟩ := it1 p.1[i] (List.getElem?_eq_getElem hlt)
      unfold forL at q'
      rw [if_pos hgd] at q'
      refine ⟨hgo, _, fun σ2 H2 n2 => ⟨p.1.length - (i + 1), by omega, n2⟩, fun x H'' y => ?_⟩
      obtain ⟨kp, rx⟩ := hyl x H'' y
      obtain ⟨ok2, st2⟩ := ok_grow ok' kp
      cases e1 : tf p.1[i] δ' S' with
      | none => simp only [e1] at q'; exact gos_none q'
      | some z =>
        obtain ⟨δ1, S2⟩ := z
        simp only [e1] at q'
        refine ⟨p.1[i], δ', S', ρ', δ1, S2, ok2, en'.mono st2, rx, e1, fun ρ3 H3 σ3 ok3 st3 en3 _ => ?_⟩
        refine ⟨δ1, S2, ρ3, ok3, en3, ?_⟩
        have q3 := (q'.step st2).step st3
        have st13 := (st'.trans st2).trans st3
        cases e2 : fb δ1 S2 with
        | none => simp only [e2] at q3; exact gos_none q3
        | some z =>
          obtain ⟨r, S3⟩ := z
          cases r with
          | error x => simp only [e2] at q3; obtain ⟨r', S4, e4, c4⟩ := q3; cases e4; exact ⟨_, _, rfl, c4⟩
          | ok fl => cases fl with
            | nx δ2 => simp only [e2] at q3; exact ⟨_, _, rfl, fun ρ4 H4 ok4 st4 σ4 en4 => ⟨rfl, hlt, δ2, S3, ρ4, ok4, st13.trans st4, en4, q3.step st4⟩⟩
            | ct δ2 => simp only [e2] at q3; exact ⟨_, _, rfl, fun ρ4 H4 ok4 st4 σ4 en4 => ⟨rfl, hlt, δ2, S3, ρ4, ok4, st13.trans st4, en4, q3.step st4⟩⟩
            | bk δ2 => simp only [e2] at q3; obtain ⟨r', S4, e4, c4⟩ := q3; cases e4; exact ⟨_, _, rfl, c4⟩
            | rt w => simp only [e2] at q3; obtain ⟨r', S4, e4, c4⟩ := q3; cases e4; exact ⟨_, _, rfl, c4⟩
    · have e : i = p.1.length := by omega
      subst e
      rw [List.drop_length] at q'
      unfold forL at q'
      rw [if_pos hgd] at q'
      exact .inl ⟨it2 (Nat.le_refl _), gos_nx ok' q' en'⟩
  · cases hd : p.1.drop i with
    | nil => rw [hd] at q'; unfold forL at q'; rw [if_neg hgd] at q'; exact gos_none q'
    | cons w ws => rw [hd] at q'; unfold forL at q'; rw [if_neg hgd] at q'; exact gos_none q'

/-! ### while -/
def whileN (ft : FT) (fb : FS) : Nat → FS
  | 0, _, _ => none
  | n + 1, δ, S => sE (ft δ S) δ fun c S1 => if c = true then (match fb δ S1 with
    | some (.ok (.nx δ2), S2) => whileN ft fb n δ2 S2
    | some (.ok (.ct δ2), S2) => whileN ft fb n δ2 S2
    | some (.ok (.bk δ2), S2) => some (.ok (.nx δ2), S2)
    | o => o) else some (.ok (.nx δ), S1)
open Classical in
noncomputable def dWhile (ft : FT) (fb : FS) : FS := fun δ S => if h : ∃ p : Nat × (Except (Ex × DEnv) Fl × Store), whileN ft fb p.1 δ S = some p.2 then some (Classical.choose h).2 else none
theorem whileN_succ {ft : FT} {fb : FS} : ∀ {n : Nat} {δ : DEnv} {S : Store} {r : Except (Ex × DEnv) Fl × Store}, whileN ft fb n δ S = some r → whileN ft fb (n + 1) δ S = some r
  | 0, _, _, _, h => by cases h
  | n + 1, δ, S, r, h => by
    rw [whileN] at h ⊢
    cases e : ft δ S with
    | none => rw [e] at h; cases h
    | some z =>
      obtain ⟨z, S1⟩ := z
      cases z with
      | error x => rw [e] at h; exact h
      | ok c =>
        rw [e] at h
        simp only [sE] at h ⊢
        cases c with
        | false => exact h
        | true =>
          simp only [if_true] at h ⊢
          cases e2 : fb δ S1 with
          | none => simp only [e2] at h; cases h
          | some z =>
            obtain ⟨z, S2⟩ := z
            cases z with
            | error x => simp only [e2] at h ⊢; exact h
            | ok fl => cases fl with
              | nx δ2 => simp only [e2] at h ⊢; exact whileN_succ h
              | ct δ2 => simp only [e2] at h ⊢; exact whileN_succ h
              | bk δ2 => simp only [e2] at h ⊢; exact h
              | rt w => simp only [e2] at h ⊢; exact h
theorem whileN_le {ft : FT} {fb : FS} {n m : Nat} {δ : DEnv} {S : Store} {r : Except (Ex × DEnv) Fl × Store} (hl : n ≤ m) (h : whileN ft fb n δ S = some r) : whileN ft fb m δ S = some r := by
  induction hl with
  | refl => exact h
  | step _ ih => exact whileN_succ ih
theorem dWhile_of {ft : FT} {fb : FS} {n : Nat} {δ : DEnv} {S : Store} {r : Except (Ex × DEnv) Fl × Store} (h : whileN ft fb n δ S = some r) : dWhile ft fb δ S = some r := by
  have ex : ∃ p : Nat × (Except (Ex × DEnv) Fl × Store), whileN ft fb p.1 δ S = some p.2 := ⟨(n, r), h⟩
  unfold dWhile
  rw [dif_pos ex]
  have h2 := Classical.choose_spec ex
  have h3 := whileN_le (Nat.le_max_left n (Classical.choose ex).1) h
  have h4 := whileN_le (Nat.le_max_right n (Classical.choose ex).1) h2
  rw [h3] at h4
  exact h4.symm
theorem dWhile_some {ft : FT} {fb : FS} {δ : DEnv} {S : Store} {r : Except (Ex × DEnv) Fl × Store} (h : dWhile ft fb δ S = some r) : ∃ n, whileN ft fb n δ S = some r := by
  unfold dWhile at h
  split at h
  · rename_i ex
    cases h
    exact ⟨_, Classical.choose_spec ex⟩
  · cases h
theorem ds_while (hp : PassesOwn (model X.prog X.w) X.A X.env X.xe) (hc : PT X c (tT X.K Wx ft)) (hb : PSs X body (tS X.K Wx fb)) : PS X (.While c body [] pos) (tS X.K Wx (dWhile ft fb)) := (ps_while hp hc hb).imp fun D σ H q => by
  obtain ⟨δ, S, ρ, ok, en, r, S', e, c⟩ := q
  obtain ⟨n, hn⟩ := dWhile_some e
  refine ⟨fun m σ' H' => ∃ δ' S' ρ', Ok X.K ρ' S' H' ∧ EnvR X.K ρ' H' δ' σ' ∧ GoS X.K Wx ρ' H' (whileN ft fb m δ' S') D, ⟨n, δ, S, ρ, ok, en, r, S', hn, c⟩, ?_⟩
  rintro m σ1 H1 ⟨δ1, S1, ρ1, ok1, en1, q1⟩
  cases m with
  | zero => exact gos_none q1
  | succ m =>
    rw [whileN] at q1
    refine ⟨δ1, S1, ρ1, ok1, en1, (gos_bind en1 q1).mono fun b H2 ⟨k, S2, ρ2, ok2, st2, r2, q2⟩ => ?_⟩
    obtain rfl : k = b := r2
    cases k with
    | false =>
      rw [if_neg Bool.false_ne_true] at q2
      exact iteF (gos_nx ok2 q2 (en1.mono st2))
    | true =>
      rw [if_pos rfl] at q2
      refine iteT ⟨fun σ3 H3 => ∃ δ' S' ρ', Ok X.K ρ' S' H3 ∧ EnvR X.K ρ' H3 δ' σ3 ∧ GoS X.K Wx ρ' H3 (whileN ft fb m δ' S') D, fun σ3 H3 z => ⟨m, Nat.lt_succ_self m, z⟩, δ1, S2, ρ2, ok2, en1.mono st2, ?_⟩
      cases e2 : fb δ1 S2 with
      | none => simp only [e2] at q2; exact gos_none q2
      | some z =>
        obtain ⟨r, S3⟩ := z
        cases r with
        | error x => simp only [e2] at q2; obtain ⟨r', S4, e4, c4⟩ := q2; cases e4; exact ⟨_, _, rfl, c4⟩
        | ok fl => cases fl with
          | nx δ2 => simp only [e2] at q2; exact ⟨_, _, rfl, fun ρ4 H4 ok4 st4 σ4 en4 => ⟨δ2, S3, ρ4, ok4, en4, q2.step st4⟩⟩
          | ct δ2 => simp only [e2] at q2; exact ⟨_, _, rfl, fun ρ4 H4 ok4 st4 σ4 en4 => ⟨δ2, S3, ρ4, ok4, en4, q2.step st4⟩⟩
          | bk δ2 => simp only [e2] at q2; obtain ⟨r', S4, e4, c4⟩ := q2; cases e4; exact ⟨_, _, rfl, c4⟩
          | rt w => simp only [e2] at q2; obtain ⟨r', S4, e4, c4⟩ := q2; cases e4; exact ⟨_, _, rfl, c4⟩
end

/-! ### comprehensions -/
def wipeE (δ : DEnv) : List Nat → DEnv
  | [] => δ
  | v :: vs => (wipeE δ vs).set v none
theorem EnvR.wipe {K : PySem.W.Frag} {ρ : Ad} {H : Hp} {δ : DEnv} {σ : L2.St} (e : EnvR K ρ H δ σ) : ∀ vs, EnvR K ρ H (wipeE δ vs) (L2.wipe σ vs)
  | [] => e
  | v :: vs => by
    have ih := EnvR.wipe e vs
    refine ⟨by simp [wipeE, L2.wipe, ih.len], fun i w h => ?_⟩
    unfold wipeE at h
    unfold L2.wipe
    by_cases hi : v = i
    · subst hi
      by_cases hl : v < (wipeE δ vs).length
      · rw [List.getElem?_set_self hl] at h; cases h
      · rw [List.getElem?_eq_none (by simpa using hl)] at h; cases h
    · rw [List.getElem?_set_ne hi] at h ⊢
      exact ih.rel i w h
theorem wipe_get (σ : L2.St) : ∀ (vs : List Nat) (i : Nat), (L2.wipe σ vs)[i]? = if i ∈ vs then σ[i]?.map (fun _ => none) else σ[i]?
  | [], i => by simp [L2.wipe]
  | v :: vs, i => by
    unfold L2.wipe
    have ih := wipe_get σ vs i
    by_cases hv : v = i
    · subst hv
      simp only [List.mem_cons, true_or, if_true]
      by_cases hl : v < (L2.wipe σ vs).length
      · rw [List.getElem?_set_self hl]
        rw [wipe_length] at hl
        rw [List.getElem?_eq_getElem hl]
        rfl
      · rw [List.getElem?_eq_none (by simpa using hl)]
        rw [wipe_length] at hl
        rw [List.getElem?_eq_none (by omega)]
        rfl
    · rw [List.getElem?_set_ne hv, ih]
      simp [Ne.symm hv]
theorem wipe_idem (σ : L2.St) (vs : List Nat) : L2.wipe (L2.wipe σ vs) vs = L2.wipe σ vs := by
  refine List.ext_getElem? fun i => ?_
  rw [wipe_get, wipe_get]
  split
  · cases σ[i]? <;> rfl
  · rfl
def ftYes : FT := fun _ S => some (.ok true, S)
open Classical in
noncomputable def lcL (tf : Tg) (ft : FT) (fe : FE) (g : Grd) (δ : DEnv) : List W → Store → List W → Rs (List W)
  | [], S, acc => if okG g S then some (.ok acc, S) else none
  | w :: ws, S, acc => if okG g S then (match tf w δ S with
    | none => none
    | some (δ1, S1) => (match ft δ1 S1 with
      | some (.ok true, S2) => (match fe δ1 S2 with
        | some (.ok u, S3) => lcL tf ft fe g δ ws S3 (acc ++ [u])
        | _ => none)
      | some (.ok false, S2) => lcL tf ft fe g δ ws S2 acc
      | _ => none)) else none
/-- the new list: read-only from here on, or at a place -/
def lcF (acc : List W) (S : Store) : Rs W := match pure? acc with
  | some ds => some (.ok (.d (.lst ds)), S)
  | none => none
def lcM (acc : List W) (S : Store) : Rs W := some (.ok (.loc S.length), S ++ [.lst acc])
noncomputable def dLc (fin : List W → Store → Rs W) (fi : FI) (tf : Tg) (ft : FT) (fe : FE) (vs : List Nat) : FE := fun δ S => (fi δ S).bind fun p S1 => if p.1.length ≤ sizeLine then (lcL tf ft fe p.2 (wipeE δ vs) p.1 S1 []).bind fin else none
/-- what the list's end asks: D, the list, is kept till here -/
def FinOk (K : PySem.W.Frag) (fin : List W → Store → Rs W) : Prop := ∀ (Wx : WX) (σ : L2.St) (ρ0 ρ : Ad) (H0 H : Hp) (S : Store) (acc : List W) (vacc : List V) (D : Addr) (Q : VK), Ok K ρ S H → Stw ρ0 H0 ρ H → ρ.rs = D :: ρ0.rs → D ∉ ρ0.rs →
  (∀ a o, a ∈ ρ0.rs → H0 a = some o → H a = some o) → H D = some (.lst vacc) → RelWs K ρ H acc vacc → Go K Wx σ ρ0 H0 (RelW K) (fin acc S) Q → Q (.ref D) H
theorem lcF_ok {K : PySem.W.Frag} : FinOk K lcF := by
  intro Wx σ ρ0 ρ H0 H S acc vacc D Q ok st hrs hd kr he r q
  have st2 : Stw ρ H ρ.let H := ⟨fun _ _ e _ => e, fun a o e z => ⟨z.1, fun m => z.2 (by rw [hrs]; rw [Ad.let, hrs] at m; exact List.mem_cons_of_mem _ m)⟩, Nat.le_refl _, fun _ _ _ z => z⟩
  have hmem : D ∈ ρ.rs := by rw [hrs]; exact List.mem_cons_self
  have ok2 : Ok K ρ.let S H := ⟨ok.len, ok.inj, fun n a e => by
    obtain ⟨m, e1, o⟩ := ok.obj n a e
    exact ⟨m, e1, o.monoW st2 fun _ z => z⟩, ok.live, fun a m => ok.res a (List.mem_of_mem_tail m), fun a m => ok.dis a (List.mem_of_mem_tail m)⟩
  have st3 : Step ρ0 H0 ρ.let H := ⟨st.trans st2, by simp [Ad.let, hrs], kr⟩
  unfold lcF at q
  split at q
  · rename_i ds e
    refine go_at q ok2 st3 (show RelD K ρ.let H (.lst ds) (.ref D) from ?_)
    rw [RelD]
    exact ⟨D, vacc, rfl, .inl ⟨.inl he, ok.dis D hmem, by simpa [Ad.let, hrs] using hd⟩, RelDs.monoW st2 ds vacc (pure?_rel e r)⟩
  · exact go_none q
theorem lcM_ok {K : PySem.W.Frag} : FinOk K lcM := by
  intro Wx σ ρ0 ρ H0 H S acc vacc D Q ok st hrs hd kr he r q
  have hmem : D ∈ ρ.rs := by rw [hrs]; exact List.mem_cons_self
  have nmem : some D ∉ ρ.pl := ok.dis D hmem
  have st2 : Stw ρ H (ρ.let.add D) H := ⟨fun _ _ e _ => e, fun a o e z => ⟨fun m => by
    rcases List.mem_append.mp (show some a ∈ ρ.pl ++ [some D] from m) with m | m
    · exact z.1 m
    · have q : a = D := by simpa using m
      subst q; exact z.2 hmem, fun m => z.2 (by rw [hrs]; have m' : a ∈ ρ.rs.tail := m; rw [hrs] at m'; exact List.mem_cons_of_mem _ m')⟩, by simp [Ad.add, Ad.let], fun n a hn e => by
    unfold Ad.add at e
    simpa only [Ad.let, List.getElem?_append_left hn] using e⟩
  have key : ∀ {i : Nat} {a : Addr}, (ρ.let.add D).pl[i]? = some (some a) → (ρ.pl[i]? = some (some a) ∧ i < ρ.pl.length) ∨ (i = ρ.pl.length ∧ a = D) := fun e => add_key (ρ := ρ.let) e
  have ok2 : Ok K (ρ.let.add D) (S ++ [.lst acc]) H := by
    refine ⟨by simp [Ad.add, Ad.let, ok.len], fun i j a h1 h2 => ?_, fun n a e => ?_, fun n m' e hm => ?_, fun a m => ok.res a (List.mem_of_mem_tail m), fun a ha => ?_⟩
    · rcases key h1 with ⟨a1, _⟩ | ⟨a1, a2⟩ <;> rcases key h2 with ⟨b1, _⟩ | ⟨b1, b2⟩
      · exact ok.inj i j a a1 b1
      · subst b2; exact absurd (List.mem_of_getElem? a1) nmem
      · subst a2; exact absurd (List.mem_of_getElem? b1) nmem
      · omega
    · rcases key e with ⟨a1, hl⟩ | ⟨a1, a2⟩
      · obtain ⟨m', e1, r'⟩ := ok.obj n a a1
        exact ⟨m', by rw [List.getElem?_append_left (by rw [← ok.len]; exact hl)]; exact e1, r'.monoW st2 fun u z => z⟩
      · subst a1 a2
        exact ⟨.lst acc, by rw [ok.len]; simp, vacc, he, r.monoW st2⟩
    · by_cases hn : n < S.length
      · rw [List.getElem?_append_left hn] at e
        obtain ⟨a, e1⟩ := ok.live n m' e hm
        exact ⟨a, by unfold Ad.add; show (ρ.pl ++ [some D])[n]? = _; rw [List.getElem?_append_left (by rw [ok.len]; exact hn)]; exact e1⟩
      · by_cases hi2 : n = S.length
        · subst hi2
          exact ⟨D, by rw [← ok.len]; simp [Ad.add, Ad.let]⟩
        · have : (S ++ [M.lst acc])[n]? = none := List.getElem?_eq_none (by simp; omega)
          rw [this] at e; cases e
    · intro z
      have ha' : a ∈ ρ.rs := List.mem_of_mem_tail ha
      rcases List.mem_append.mp (show some a ∈ ρ.pl ++ [some D] from z) with z | z
      · exact ok.dis a ha' z
      · have e : a = D := by simpa using z
        subst e
        have m' : a ∈ ρ.rs.tail := ha
        rw [hrs] at m'
        exact hd m'
  have st3 : Step ρ0 H0 (ρ.let.add D) H := ⟨st.trans st2, by simp [Ad.let, Ad.add, hrs], kr⟩
  exact go_at q ok2 st3 (show RelW K (ρ.let.add D) H (.loc S.length) (.ref D) from ⟨by simp [Ad.add, Ad.let, ok.len], fun a e => by rw [← ok.len] at e; simp [Ad.add, Ad.let] at e; rw [e]⟩)
section
variable {X : Cx} {Wx : WX} {elt tg iter c : Expr} {ifs : List Expr} {fi : FI} {ft : FT} {fe : FE} {tf : Tg} {pos : Pos}
theorem impLc {K : PySem.W.Frag} {fin : List W → Store → Rs W} (hf : FinOk K fin) (vs : List Nat) (σ : L2.St) (H : Hp) (Q : VK) (q : tE K Wx (dLc fin fi tf ft fe vs) σ H Q) : tLc (tI K Wx fi) (tG K vs tf) (tT K WF ft) (tE K WF fe) vs σ H Q := by
  obtain ⟨δ, S, ρ, ok, en, q⟩ := q
  refine ⟨δ, S, ρ, ok, en, (go_bind q).mono fun J H1 ⟨p, S1, ρ1, ok1, st1, it, q1⟩ => ?_⟩
  intro D hD
  by_cases hz : p.1.length ≤ sizeLine
  · rw [if_pos hz] at q1
    obtain ⟨okD, stD⟩ := ok_keep ok1 (o := .lst []) hD
    have hdn : D ∉ ρ1.rs := (ok1.off hD).2
    have en1 := (en.mono st1).wipe vs
    refine ⟨fun i m H' => m = p.1.length - i ∧ i ≤ p.1.length ∧ ∃ S' ρ' acc vacc, Ok K ρ' S' H' ∧ Stw ρ1 H1 ρ' H' ∧ ρ'.rs = D :: ρ1.rs ∧ (∀ a o, a ∈ ρ1.rs → H1 a = some o → H' a = some o) ∧ H' D = some (.lst vacc) ∧ RelWs K ρ' H' acc vacc ∧ vacc.length ≤ i ∧ Go K Wx σ ρ1 H1 (RelW K) ((lcL tf ft fe p.2 (wipeE δ vs) (p.1.drop i) S' acc).bind fin) Q,
      ⟨p.1.length, rfl, Nat.zero_le _, S1, ρ1.keep D, [], [], okD, stD, rfl, fun a o ha e => by rw [upd_ne (ne_of_none e hD)]; exact e, upd_same, rfl, Nat.le_refl _, q1⟩, ?_⟩
    rintro i m H' ⟨rfl, hi, S', ρ', acc, vacc, ok', st', hrs, kr, he, ra, hl, q'⟩
    have hmem : D ∈ ρ'.rs := by rw [hrs]; exact List.mem_cons_self
    by_cases hgd : okG p.2 S'
    · obtain ⟨it1, it2⟩ := it ρ' S' H' ok' st' hgd i
      by_cases hlt : i < p.1.length
      · refine .inr ?_
        have hdrop : p.1.drop i = p.1[i] :: p.1.drop (i + 1) := List.drop_eq_getElem_cons hlt
        rw [hdrop] at q'
        obtain ⟨hgo, hyl⟩ := it1 p.1[i] (List.getElem?_eq_getElem hlt)
        unfold lcL at q'
        rw [if_pos hgd] at q'
        refine ⟨hgo, _, fun H2 n2 => ⟨p.1.length - (i + 1), by omega, n2⟩, fun x H'' y => ?_⟩
        obtain ⟨kp, rx⟩ := hyl x H'' y
        obtain ⟨ok2, st2⟩ := ok_grow ok' kp
        cases e1 : tf p.1[i] (wipeE δ vs) S' with
        | none => simp only [e1] at q'; exact go_none q'
        | some z =>
          obtain ⟨δ1, S2⟩ := z
          simp only [e1] at q'
          refine ⟨p.1[i], wipeE δ vs, S', ρ', δ1, S2, ok2, (en1.monoW st').mono st2, rx, e1, fun ρ3 H3 σ3 ok3 st3 en3 w3 => ⟨w3.trans (wipe_idem σ vs), ?_⟩⟩
          have st13 := st2.trans st3
          cases e2 : ft δ1 S2 with
          | none => simp only [e2] at q'; exact go_none q'
          | some z =>
            obtain ⟨b, S3⟩ := z
            cases b with
            | error x => simp only [e2] at q'; exact go_none q'
            | ok b =>
              refine ⟨δ1, S2, ρ3, ok3, en3, _, _, e2, fun ρ4 H4 ok4 st4 b' hb' => ?_⟩
              obtain rfl : b = b' := hb'
              have st14 := st13.trans st4
              cases b with
              | false =>
                simp only [e2] at q'
                exact iteF ⟨rfl, hlt, S3, ρ4, acc, vacc, ok4, st'.trans st14.toStw, st14.rs.trans hrs, fun a o ha e => st14.kr a o (by rw [hrs]; exact List.mem_cons_of_mem _ ha) (kr a o ha e), st14.kr D _ hmem he, ra.mono st14, by omega, q'⟩
              | true =>
                simp only [e2] at q'
                cases e5 : fe δ1 S3 with
                | none => simp only [e5] at q'; exact go_none q'
                | some z =>
                  obtain ⟨u, S5⟩ := z
                  cases u with
                  | error x => simp only [e5] at q'; exact go_none q'
                  | ok u =>
                    simp only [e5] at q'
                    refine iteT ⟨δ1, S3, ρ4, ok4, en3.mono st4, _, _, e5, fun ρ5 H5 ok5 st5 v rv => ?_⟩
                    have st15 := st14.trans st5
                    have hrs5 := st15.rs.trans hrs
                    have hmem5 : D ∈ ρ5.rs := by rw [hrs5]; exact List.mem_cons_self
                    have he5 := st15.kr D _ hmem he
                    have sw := stw_res (H := H5) (o := .lst (vacc ++ [v])) hmem5
                    refine ⟨vacc, he5, by omega, rfl, hlt, S5, ρ5, acc ++ [u], vacc ++ [v], ok_res ok5 hmem5, (st'.trans st15.toStw).trans sw, hrs5, fun a o ha e => ?_, upd_same, ((ra.mono st15).monoW sw).app ⟨v, [], rfl, rv.monoW sw, rfl⟩, by simp; omega, q'⟩
                    rw [upd_ne (fun z => by subst z; exact hdn ha)]
                    exact st15.kr a o (by rw [hrs]; exact List.mem_cons_of_mem _ ha) (kr a o ha e)
      · have e : i = p.1.length := by omega
        subst e
        rw [List.drop_length] at q'
        unfold lcL at q'
        rw [if_pos hgd] at q'
        exact .inl ⟨it2 (Nat.le_refl _), hf Wx σ ρ1 ρ' H1 H' S' acc vacc D Q ok' st' hrs hdn kr he ra q'⟩
    · cases hd : p.1.drop i with
      | nil => rw [hd] at q'; unfold lcL at q'; rw [if_neg hgd] at q'; exact go_none q'
      | cons w ws => rw [hd] at q'; unfold lcL at q'; rw [if_neg hgd] at q'; exact go_none q'
  · rw [if_neg hz] at q1
    exact go_none q1
theorem dts_yes : PTs X [] (tT X.K Wx ftYes) := ⟨fun pins s σ H Q I q => by
  obtain ⟨δ, S, ρ, ok, en, q⟩ := q
  exact pts_nil.run pins s σ H Q I (go_val ok q rfl)⟩
theorem dts_one (h : PT X c (tT X.K Wx ft)) : PTs X [c] (tT X.K Wx ft) := pts_one h
/-- [elt for target in iter if ..] -/
theorem de_lc {fin : List W → Store → Rs W} (hf : FinOk X.K fin) {scope : Scope} {own : List (Str × Nat)} (hc : X.calm = true) (hN : X.N.Nodup) (ok : BlkOk X.N X.env.scope scope own) (hi : PI X tg iter (tI X.K Wx fi))
    (hg : ∀ (s : Shared) (H : Hp) (C : Addr) (cl : List (Str × Addr)) (fp : List Addr), PG (X.blk s H scope (compEnvC scope cl C X.env) fp) tg (tG X.K (own.map (·.2)) tf)) (ht : ∀ (s : Shared) (H : Hp) (C : Addr) (cl : List (Str × Addr)) (fp : List Addr), PTs (X.blk s H scope (compEnvC scope cl C X.env) fp) ifs (tT X.K WF ft))
    (he : ∀ (s : Shared) (H : Hp) (C : Addr) (cl : List (Str × Addr)) (fp : List Addr), PE (X.blk s H scope (compEnvC scope cl C X.env) fp) elt (tE X.K WF fe)) (hs : ∀ x, foldedSetIterable iter X.env x = pure x := by intro _; rfl) :
    PE X (.ListComp elt [⟨tg, iter, ifs, 0⟩] scope pos) (tE X.K Wx (dLc fin fi tf ft fe (own.map (·.2)))) := (pe_lc hc hN hi ok hg ht he hs).imp fun σ H Q q => impLc hf (own.map (·.2)) σ H Q q
theorem ds_setLc (i : Nat) {y : Str} {py spos : Pos} {fin : List W → Store → Rs W} (hf : FinOk X.K fin) {scope : Scope} {own : List (Str × Nat)} (hc : X.calm = true) (hN : X.N.Nodup) (ok : BlkOk X.N X.env.scope scope own) (hi : PI X tg iter (tI X.K Wx fi))
    (hg : ∀ (s : Shared) (H : Hp) (C : Addr) (cl : List (Str × Addr)) (fp : List Addr), PG (X.blk s H scope (compEnvC scope cl C X.env) fp) tg (tG X.K (own.map (·.2)) tf)) (ht : ∀ (s : Shared) (H : Hp) (C : Addr) (cl : List (Str × Addr)) (fp : List Addr), PTs (X.blk s H scope (compEnvC scope cl C X.env) fp) ifs (tT X.K WF ft))
    (he : ∀ (s : Shared) (H : Hp) (C : Addr) (cl : List (Str × Addr)) (fp : List Addr), PE (X.blk s H scope (compEnvC scope cl C X.env) fp) elt (tE X.K WF fe)) (hsw : swapsWith (.ListComp elt [⟨tg, iter, ifs, 0⟩] scope pos) (some (.Name y py)) spos.line X.env = pure true) (hy : X.N[i]? = some y := by rfl) (hyl : X.env.scope.names.lookup y = some .local := by rfl) (hs : ∀ x, foldedSetIterable iter X.env x = pure x := by intro _; rfl) :
    PS X (.Assign [.Name y py] (.ListComp elt [⟨tg, iter, ifs, 0⟩] scope pos) spos) (tS X.K Wx (sSet i (dLc fin fi tf ft fe (own.map (·.2))))) := (ps_setLc hc hN hy hyl hsw hi ok hg ht he hs).imp fun D σ H q => by
  obtain ⟨δ, S, ρ, ok, en, q⟩ := q
  refine impLc (Wx := Wx) hf (own.map (·.2)) σ H _ ⟨δ, S, ρ, ok, en, (gos_bind en q).mono fun v H1 ⟨x, S1, ρ1, ok1, st1, r1, q1⟩ => gos_nx ok1 q1 ((en.mono st1).set i r1)⟩
end
end DL
set_option Elab.async false
set_option linter.all false
set_option maxRecDepth 100000
set_option maxHeartbeats 1000000
/-! DL7: defs by their bodies; a law's end. -/
namespace DL
open PySem PySem.Spec PyProof.Rows L2

mutual
theorem RelD.sub {K : PySem.W.Frag} {ρ ρ' : Ad} {H : Hp} (h : ∀ a, Off ρ a → Off ρ' a) : ∀ (d : D) (v : V), RelD K ρ H d v → RelD K ρ' H d v
  | .non, v, q => by simpa [RelD] using q
  | .bl b, v, q => by simpa [RelD] using q
  | .int i, v, q => by simpa [RelD] using q
  | .str x, v, q => by simpa [RelD] using q
  | .ref x, v, q => by simpa [RelD] using q
  | .ty x, v, q => by simpa [RelD] using q
  | .tup ds, v, q => by
    rw [RelD] at q ⊢
    obtain ⟨a, vs, e, h1, h2⟩ := q
    exact ⟨a, vs, e, h1.elim (fun z => .inl ⟨z.1, h a z.2⟩) .inr, RelDs.sub h ds vs h2⟩
  | .lst ds, v, q => by
    rw [RelD] at q ⊢
    obtain ⟨a, vs, e, h1, h2⟩ := q
    exact ⟨a, vs, e, h1.elim (fun z => .inl ⟨z.1, h a z.2⟩) .inr, RelDs.sub h ds vs h2⟩
  | .ins C ns ds, v, q => by
    rw [RelD] at q ⊢
    obtain ⟨a, dx, vs, e, h1, hn, h2, h3⟩ := q
    exact ⟨a, dx, vs, e, h1, h a hn, RelDs.sub h ds vs h2, h3⟩
theorem RelDs.sub {K : PySem.W.Frag} {ρ ρ' : Ad} {H : Hp} (h : ∀ a, Off ρ a → Off ρ' a) : ∀ (ds : List D) (vs : List V), RelDs K ρ H ds vs → RelDs K ρ' H ds vs
  | [], vs, q => by simpa [RelDs] using q
  | d :: ds, vs, q => by
    rw [RelDs] at q ⊢
    obtain ⟨v, vr, e, h1, h2⟩ := q
    exact ⟨v, vr, e, RelD.sub h d v h1, RelDs.sub h ds vr h2⟩
end
/-! ### the places of a def's own go -/
def wBelow (n : Nat) : W → Prop
  | .d _ => True
  | .loc k => k < n
def mBelow (n : Nat) : M → Prop
  | .lst ws => ∀ w ∈ ws, wBelow n w
  | .ins _ _ ws => ∀ w ∈ ws, wBelow n w
  | .dead => True
def keepOk (S S1 : Store) : Prop := S.length ≤ S1.length ∧ ∀ (i : Nat) m, i < S.length → S1[i]? = some m → S[i]? = some m ∨ mBelow S.length m
def Ad.cut (ρ : Ad) (n : Nat) : Ad := ⟨ρ.pl.take n, ρ.rs⟩
section
variable {K : PySem.W.Frag} {ρ ρ1 : Ad} {H H1 : Hp} {S S1 : Store}
theorem cut_off {n : Nat} {a : Addr} (h : Off ρ1 a) : Off (ρ1.cut n) a := ⟨fun m => h.1 (List.mem_of_mem_take m), h.2⟩
theorem relWs_below (n : Nat) (hn : ρ.pl.length = n) : ∀ {ws : List W} {vs : List V}, RelWs K ρ H ws vs → ∀ w ∈ ws, wBelow n w
  | [], _, _, w, hw => by simp at hw
  | u :: us, vs, r, w, hw => by
    obtain ⟨v, vr, rfl, h1, h2⟩ := r
    rcases List.mem_cons.mp hw with e | hw
    · subst e
      cases w with
      | d x => trivial
      | loc k => exact hn ▸ h1.1
    · exact relWs_below n hn h2 w hw
theorem Ok.below (ok : Ok K ρ S H) {i : Nat} {m : M} (e : S[i]? = some m) : mBelow S.length m := by
  by_cases hm : m = .dead
  · subst hm; trivial
  · obtain ⟨a, ha⟩ := ok.live i m e hm
    obtain ⟨m', e1, o⟩ := ok.obj i a ha
    rw [e] at e1
    cases e1
    cases m with
    | dead => exact absurd rfl hm
    | lst ws => obtain ⟨vs, _, r⟩ := o; exact relWs_below _ ok.len r
    | ins C ns ws => obtain ⟨dx, vs, _, r, _⟩ := o; exact relWs_below _ ok.len r
theorem cut_relW {n : Nat} (hn : n ≤ ρ1.pl.length) {w : W} {v : V} (b : wBelow n w) (r : RelW K ρ1 H1 w v) : RelW K (ρ1.cut n) H1 w v := by
  cases w with
  | d x => exact RelD.sub (fun a z => cut_off z) x v r
  | loc k =>
    have hk : k < n := b
    refine ⟨by simp [Ad.cut]; omega, fun a e => r.2 a ?_⟩
    simpa [Ad.cut, List.getElem?_take, hk] using e
theorem cut_relWs {n : Nat} (hn : n ≤ ρ1.pl.length) : ∀ {ws : List W} {vs : List V}, (∀ w ∈ ws, wBelow n w) → RelWs K ρ1 H1 ws vs → RelWs K (ρ1.cut n) H1 ws vs
  | [], vs, _, r => r
  | u :: us, vs, b, r => by
    obtain ⟨v, vr, rfl, h1, h2⟩ := r
    exact ⟨v, vr, rfl, cut_relW hn (b u List.mem_cons_self) h1, cut_relWs hn (fun w hw => b w (List.mem_cons_of_mem _ hw)) h2⟩
/-- the caller's places, as they stand behind the body -/
theorem ok_cut (ok : Ok K ρ S H) (ok1 : Ok K ρ1 S1 H1) (st : Step ρ H ρ1 H1) (kp : keepOk S S1) : Ok K (ρ1.cut S.length) (S1.take S.length) H1 ∧ Step ρ H (ρ1.cut S.length) H1 := by
  have hl : S.length ≤ ρ1.pl.length := by rw [ok1.len]; exact kp.1
  have key : ∀ {i : Nat} {a : Addr}, (ρ1.cut S.length).pl[i]? = some (some a) → ρ1.pl[i]? = some (some a) ∧ i < S.length := fun {i a} e => by
    by_cases hi : i < S.length
    · exact ⟨by simpa [Ad.cut, List.getElem?_take, hi] using e, hi⟩
    · simp [Ad.cut, List.getElem?_take, hi] at e
  refine ⟨⟨by simp [Ad.cut, ok1.len], fun i j a h1 h2 => ok1.inj i j a (key h1).1 (key h2).1, fun n a e => ?_, fun n m e hm => ?_, ok1.res, fun a ha z => ok1.dis a ha (List.mem_of_mem_take z)⟩, ⟨⟨st.keep, fun a o e z => cut_off (st.off a o e z), ?_, fun n a hn e => st.same n a hn (key e).1⟩, st.rs, st.kr⟩⟩
  · obtain ⟨e1, hn⟩ := key e
    obtain ⟨m, e2, o⟩ := ok1.obj n a e1
    have b : mBelow S.length m := by
      rcases kp.2 n m hn e2 with q | q
      · exact ok.below q
      · exact q
    refine ⟨m, by simpa [List.getElem?_take, hn] using e2, ?_⟩
    cases m with
    | lst ws => obtain ⟨vs, h1, h2⟩ := o; exact ⟨vs, h1, cut_relWs hl b h2⟩
    | ins C ns ws => obtain ⟨dx, vs, h1, h2, h3⟩ := o; exact ⟨dx, vs, h1, cut_relWs hl b h2, h3⟩
    | dead => exact o.elim
  · by_cases hn : n < S.length
    · have e2 : S1[n]? = some m := by simpa [List.getElem?_take, hn] using e
      obtain ⟨a, e3⟩ := ok1.live n m e2 hm
      exact ⟨a, by simpa [Ad.cut, List.getElem?_take, hn] using e3⟩
    · simp [List.getElem?_take, hn] at e
  · have hk := kp.1
    simp [Ad.cut, ok.len, ok1.len]; omega
/-- what a def hands back: a list of its own is read-only from here on -/
def giveW (n : Nat) (S1 : Store) : W → Option W
  | .d x => some (.d x)
  | .loc k => if k < n then some (.loc k) else (match S1[k]? with
    | some (.lst ws) => (frz2 S1 ws).map fun ds => .d (.lst ds)
    | _ => none)
where
  /-- items: data, or lists of data -/
  frz2 (S1 : Store) : List W → Option (List D)
    | [] => some []
    | .d x :: ws => (frz2 S1 ws).map (x :: ·)
    | .loc k :: ws => if n ≤ k then (match S1[k]? with
      | some (.lst us) => (match pure? us with
        | some ds => (frz2 S1 ws).map (.lst ds :: ·)
        | none => none)
      | _ => none) else none
theorem own_off (ok1 : Ok K ρ1 S1 H1) {n k : Nat} {a : Addr} (hk : n ≤ k) (e : ρ1.pl[k]? = some (some a)) : Off (ρ1.cut n) a := by
  refine ⟨fun m => ?_, fun m => ok1.dis a m (List.mem_of_getElem? e)⟩
  obtain ⟨i, hi⟩ := List.getElem?_of_mem m
  by_cases hin : i < n
  · have e2 : ρ1.pl[i]? = some (some a) := by simpa [Ad.cut, List.getElem?_take, hin] using hi
    have := ok1.inj i k a e2 e
    omega
  · simp [Ad.cut, List.getElem?_take, hin] at hi
theorem frz2_ok (ok1 : Ok K ρ1 S1 H1) {n : Nat} : ∀ {ws : List W} {ds : List D} {vs : List V}, giveW.frz2 n S1 ws = some ds → RelWs K ρ1 H1 ws vs → RelDs K (ρ1.cut n) H1 ds vs
  | [], ds, vs, e, r => by
    cases (show some [] = some ds from e)
    rw [RelDs]; exact r
  | .d x :: ws, ds, vs, e, r => by
    obtain ⟨es, e1, rfl⟩ := Option.map_eq_some_iff.mp (show (giveW.frz2 n S1 ws).map (x :: ·) = some ds from e)
    obtain ⟨v, vr, rfl, h1, h2⟩ := r
    rw [RelDs]
    exact ⟨v, vr, rfl, RelD.sub (fun a z => cut_off z) x v h1, frz2_ok ok1 e1 h2⟩
  | .loc k :: ws, ds, vs, e, r => by
    obtain ⟨v, vr, rfl, h1, h2⟩ := r
    rw [giveW.frz2] at e
    split at e
    · rename_i hk
      split at e
      · rename_i us eu
        split at e
        · rename_i zs ez
          obtain ⟨es, e1, rfl⟩ := Option.map_eq_some_iff.mp e
          obtain ⟨a, ws', rfl, ha, h3, h4⟩ := loc_at ok1 h1 eu
          rw [RelDs]
          refine ⟨_, vr, rfl, ?_, frz2_ok ok1 e1 h2⟩
          rw [RelD]
          exact ⟨a, ws', rfl, .inl ⟨.inl h3, own_off ok1 hk ha⟩, RelDs.sub (fun a z => cut_off z) _ _ (pure?_rel ez h4)⟩
        · cases e
      · cases e
    · cases e
theorem giveW_ok (ok1 : Ok K ρ1 S1 H1) {n : Nat} (hn : n ≤ ρ1.pl.length) {w u : W} {v : V} (e : giveW n S1 w = some u) (r : RelW K ρ1 H1 w v) : RelW K (ρ1.cut n) H1 u v := by
  cases w with
  | d x =>
    cases (show some (W.d x) = some u from e)
    exact cut_relW hn trivial r
  | loc k =>
    rw [giveW] at e
    split at e
    · rename_i hk
      cases e
      exact cut_relW hn hk r
    · rename_i hk
      split at e
      · rename_i ws ew
        obtain ⟨ds, e1, rfl⟩ := Option.map_eq_some_iff.mp e
        obtain ⟨a, ws', rfl, ha, h3, h4⟩ := loc_at ok1 r ew
        show RelD K (ρ1.cut n) H1 (.lst ds) (.ref a)
        rw [RelD]
        exact ⟨a, ws', rfl, .inl ⟨.inl h3, own_off ok1 (by omega) ha⟩, frz2_ok ok1 e1 h4⟩
      · cases e
end
/-! ### a def by its body -/
abbrev Gv := Store → W → Store → Rs W
open Classical in
/-- what is handed back is read-only from here on -/
noncomputable def giveS : Gv := fun S w S1 => if keepOk S S1 then (match giveW S.length S1 w with
  | some u => some (.ok u, S1.take S.length)
  | none => none) else none
open Classical in
/-- a list of the def's own goes on as the caller's -/
noncomputable def giveM : Gv := fun S w S1 => if keepOk S S1 then (match w with
  | .d x => some (.ok (.d x), S1.take S.length)
  | .loc k => if k < S.length then none else (match S1[k]? with
    | some (.lst ws) => if ∀ w ∈ ws, wBelow S.length w then some (.ok (.loc S.length), S1.take S.length ++ [.lst ws]) else none
    | _ => none)) else none
def GiveOk (K : PySem.W.Frag) (gv : Gv) : Prop := ∀ (ρ : Ad) (H : Hp) (S : Store) (ρ1 : Ad) (H1 : Hp) (S1 : Store) (w : W) (r : Except Ex W) (S' : Store) (v : V), Ok K ρ S H → Ok K ρ1 S1 H1 → Step ρ H ρ1 H1 → gv S w S1 = some (r, S') → RelW K ρ1 H1 w v →
  ∃ u ρ', r = .ok u ∧ Ok K ρ' S' H1 ∧ Step ρ H ρ' H1 ∧ RelW K ρ' H1 u v
theorem giveS_ok {K : PySem.W.Frag} : GiveOk K giveS := by
  intro ρ H S ρ1 H1 S1 w r S' v ok ok1 st1 e rv
  unfold giveS at e
  split at e
  · rename_i kp
    split at e
    · rename_i u' eu
      cases e
      obtain ⟨ok2, st2⟩ := ok_cut ok ok1 st1 kp
      exact ⟨u', _, rfl, ok2, st2, giveW_ok ok1 (by rw [ok1.len]; exact kp.1) eu rv⟩
    · cases e
  · cases e
theorem sub_relW {K : PySem.W.Frag} {ρ1 ρ' : Ad} {H1 : Hp} {n : Nat} (hoff : ∀ a, Off ρ1 a → Off ρ' a) (hn : n ≤ ρ'.pl.length) (hpl : ∀ (k : Nat) (a : Addr), k < n → ρ'.pl[k]? = some (some a) → ρ1.pl[k]? = some (some a)) {w : W} {v : V} (b : wBelow n w) (r : RelW K ρ1 H1 w v) : RelW K ρ' H1 w v := by
  cases w with
  | d x => exact RelD.sub hoff x v r
  | loc k =>
    have hk : k < n := b
    exact ⟨by omega, fun a e => r.2 a (hpl k a hk e)⟩
theorem sub_relWs {K : PySem.W.Frag} {ρ1 ρ' : Ad} {H1 : Hp} {n : Nat} (hoff : ∀ a, Off ρ1 a → Off ρ' a) (hn : n ≤ ρ'.pl.length) (hpl : ∀ (k : Nat) (a : Addr), k < n → ρ'.pl[k]? = some (some a) → ρ1.pl[k]? = some (some a)) : ∀ {ws : List W} {vs : List V}, (∀ w ∈ ws, wBelow n w) → RelWs K ρ1 H1 ws vs → RelWs K ρ' H1 ws vs
  | [], vs, _, r => r
  | u :: us, vs, b, r => by
    obtain ⟨v, vr, rfl, h1, h2⟩ := r
    exact ⟨v, vr, rfl, sub_relW hoff hn hpl (b u List.mem_cons_self) h1, sub_relWs hoff hn hpl (fun w hw => b w (List.mem_cons_of_mem _ hw)) h2⟩
theorem giveM_ok {K : PySem.W.Frag} : GiveOk K giveM := by
  intro ρ H S ρ1 H1 S1 w r S' v ok ok1 st1 e rv
  unfold giveM at e
  split at e
  · rename_i kp
    obtain ⟨ok2, st2⟩ := ok_cut ok ok1 st1 kp
    have hl : S.length ≤ ρ1.pl.length := by rw [ok1.len]; exact kp.1
    cases w with
    | d x =>
      cases e
      exact ⟨_, _, rfl, ok2, st2, cut_relW hl trivial rv⟩
    | loc k =>
      by_cases hk : k < S.length
      · simp only [if_pos hk] at e; cases e
      · simp only [if_neg hk] at e
        split at e
        · rename_i ws ew
          split at e
          · rename_i hb
            cases e
            obtain ⟨a, vs, rfl, ha, h3, h4⟩ := loc_at ok1 rv ew
            have hmem : some a ∈ ρ1.pl := List.mem_of_getElem? ha
            have hlen : (ρ1.cut S.length).pl.length = S.length := by have hk1 := kp.1; rw [ok2.len]; simp; omega
            have hoff : ∀ b, Off ρ1 b → Off ((ρ1.cut S.length).add a) b := fun b z => ⟨fun m => by
              rcases List.mem_append.mp (show some b ∈ (ρ1.cut S.length).pl ++ [some a] from m) with m | m
              · exact z.1 (List.mem_of_mem_take m)
              · have q : b = a := by simpa using m
                subst q; exact z.1 hmem, z.2⟩
            have key : ∀ {i : Nat} {b : Addr}, ((ρ1.cut S.length).add a).pl[i]? = some (some b) → (ρ1.pl[i]? = some (some b) ∧ i < S.length) ∨ (i = S.length ∧ b = a) := fun {i b} e => by
              rcases add_key e with ⟨z1, z2⟩ | ⟨z1, z2⟩
              · rw [hlen] at z2
                exact .inl ⟨by simpa [Ad.cut, List.getElem?_take, z2] using z1, z2⟩
              · exact .inr ⟨by rw [← hlen]; exact z1, z2⟩
            have hn' : S.length ≤ ((ρ1.cut S.length).add a).pl.length := by simp [Ad.add, hlen]
            have hpl : ∀ (j : Nat) (b : Addr), j < S.length → ((ρ1.cut S.length).add a).pl[j]? = some (some b) → ρ1.pl[j]? = some (some b) := fun j b hj e => by
              rcases key e with z | z
              · exact z.1
              · omega
            have offa := own_off ok1 (n := S.length) (by omega) ha
            have tl : (S1.take S.length).length = S.length := by have hk1 := kp.1; simp; omega
            refine ⟨_, (ρ1.cut S.length).add a, rfl, ⟨by simp [Ad.add, hlen, tl], fun i j b h1 h2 => ?_, fun i b e => ?_, fun i m e hm => ?_, ok1.res, fun b hb' z => ?_⟩, ⟨⟨st1.keep, fun b o e z => hoff b (st1.off b o e z), by rw [ok.len]; exact hn', fun i b hi e => ?_⟩, st1.rs, st1.kr⟩, ?_⟩
            · rcases key h1 with ⟨a1, b1⟩ | ⟨a1, b1⟩ <;> rcases key h2 with ⟨a2, b2⟩ | ⟨a2, b2⟩
              · exact ok1.inj i j b a1 a2
              · subst b2; have := ok1.inj i k _ a1 ha; omega
              · subst b1; have := ok1.inj j k _ a2 ha; omega
              · omega
            · rcases key e with ⟨a1, b1⟩ | ⟨a1, b1⟩
              · obtain ⟨m, e2, o⟩ := ok1.obj i b a1
                have bl : mBelow S.length m := by
                  rcases kp.2 i m b1 e2 with q | q
                  · exact ok.below q
                  · exact q
                refine ⟨m, by rw [List.getElem?_append_left (by omega)]; simpa [List.getElem?_take, b1] using e2, ?_⟩
                cases m with
                | lst us => obtain ⟨xs, g1, g2⟩ := o; exact ⟨xs, g1, sub_relWs hoff hn' hpl bl g2⟩
                | ins C ns us => obtain ⟨dx, xs, g1, g2, g3⟩ := o; exact ⟨dx, xs, g1, sub_relWs hoff hn' hpl bl g2, g3⟩
                | dead => exact o.elim
              · subst a1 b1
                exact ⟨.lst ws, by rw [List.getElem?_append_right (by omega)]; simp [tl], vs, h3, sub_relWs hoff hn' hpl hb h4⟩
            · by_cases hi : i < S.length
              · rw [List.getElem?_append_left (by omega)] at e
                obtain ⟨b, e3⟩ := ok2.live i m e hm
                refine ⟨b, ?_⟩
                unfold Ad.add
                rw [List.getElem?_append_left (by omega)]
                exact e3
              · by_cases hi2 : i = S.length
                · subst hi2
                  refine ⟨a, ?_⟩
                  unfold Ad.add
                  rw [List.getElem?_append_right (by omega)]
                  simp [hlen]
                · rw [List.getElem?_eq_none (by simp; omega)] at e; cases e
            · rcases List.mem_append.mp (show some b ∈ (ρ1.cut S.length).pl ++ [some a] from z) with z | z
              · exact ok1.dis b hb' (List.mem_of_mem_take z)
              · have q : b = a := by simpa using z
                subst q; exact ok1.dis b hb' hmem
            · exact st1.same i b hi (hpl i b (by rw [← ok.len]; exact hi) e)
            · refine ⟨by simp [Ad.add, hlen], fun b e => ?_⟩
              rcases key e with z | z
              · omega
              · rw [z.2]
          · cases e
        · cases e
  · cases e
open Classical in
noncomputable def dDef (gv : Gv) (n N : Nat) (fb : FS) : Fn := fun ws S => if ws.length = n then (match fb (ws.map some ++ List.replicate (N - n) none) S with
  | some (.ok (.rt w), S1) => gv S w S1
  | some (.ok (.nx _), S1) => gv S (.d .non) S1
  | some (.error (x, _), S1) => if keepOk S S1 then some (.error x, S1.take S.length) else none
  | _ => none) else none
section
variable {P : Program} {w : World} {K : PySem.W.Frag} {mg : Str → Option Value} {base : Heap}
theorem env_start {ρ : Ad} {H : Hp} {N : List Str} : ∀ {ws : List W} {vs : List V}, RelWs K ρ H ws vs → EnvR K ρ H (ws.map some ++ List.replicate (N.length - ws.length) none) (L2.start N vs) := by
  intro ws vs r
  refine ⟨by simp [L2.start, r.length], fun i u h => ?_⟩
  by_cases hi : i < ws.length
  · rw [List.getElem?_append_left (by simpa using hi), List.getElem?_map] at h
    cases e : ws[i]? with
    | none => rw [e] at h; cases h
    | some x =>
      rw [e] at h
      cases h
      obtain ⟨v, e2, rv⟩ := r.get e
      refine ⟨v, ?_, rv⟩
      unfold L2.start
      rw [List.getElem?_append_left (by simpa [r.length] using (r.length ▸ hi)), List.getElem?_map, e2]
      rfl
  · rw [List.getElem?_append_right (by simpa using hi)] at h
    have := List.mem_of_getElem? h
    rw [List.mem_replicate] at this
    cases this.2
/-- what a context gives -/
structure Cf (X : Cx) (Wx : WX) (k : Nat) : Prop where
  calm : X.calm = true
  tk : Takes X Wx
  po : PassesOwn (model X.prog X.w) X.A X.env X.xe
  nd : X.N.Nodup
  room : Room k X.A
theorem cf_of {N : List Str} {qual : Str} {scope : Scope} {f : Addr} {cdv : Value} {A : Around} {outer : List Env} {s : Shared} {H : Hp} {E : XK} {k : Nat} (hr : Room k (A.deeper (envOfC qual scope s.heap.objs.size f cdv))) (nd : N.Nodup) :
    Cf (cxOf (L2.CX P w) P w K mg base N qual scope f cdv A outer s H E) (fun cls d _ H => E cls d H) k :=
  ⟨rfl, takes_of rfl rfl rfl rfl, passes_of rfl, nd, hr⟩
theorem fn_mk {x qual : Str} {params : Arguments} {body : List Stmt} {scope : Scope} {f : Addr} {fd : FuncData} {N ps : List Str} {k n : Nat} {fb : FS} {gv : Gv} (hgv : GiveOk K gv) (F : FunD K x qual params body scope [] [] f fd) (Sc : FnScope N ps scope) (hn : ps.length = n)
    (hbody : ∀ (cdv : Value) (A : Around) (outer : List Env) (s : Shared) (H : Hp) (E : XK), Cf (cxOf (L2.CX P w) P w K mg base N qual scope f cdv A outer s H E) (fun cls d _ H => E cls d H) k →
      PSs (cxOf (L2.CX P w) P w K mg base N qual scope f cdv A outer s H E) body (tS K (fun cls d _ H => E cls d H) fb)) :
    FnOk P w K mg base (L2.CX P w) (k + 1) f fd ps (spD K n (dDef gv n N.length fb)) := by
  refine F.ok Sc (fun vs H Q E h => h.1.trans hn.symm) (fun cdv A outer s H vs Q E hr h => ⟨_, hbody cdv A outer s H E (cf_of hr Sc.nd), ?_⟩)
  obtain ⟨hl, ws, S, ρ, r, S', rw', ok, e, c⟩ := h
  have hwn : ws.length = n := rw'.length.trans hl
  refine ⟨_, S, ρ, ok, env_start (N := N) rw', ?_⟩
  rw [hwn]
  unfold dDef at e
  rw [if_pos hwn] at e
  have give : ∀ {u : W} {S1 : Store}, gv S u S1 = some (r, S') → ∀ ρ1 H1, Ok K ρ1 S1 H1 → Step ρ H ρ1 H1 → ∀ v, RelW K ρ1 H1 u v → Q v H1 := by
    intro u S1 e ρ1 H1 ok1 st1 v rv
    obtain ⟨u', ρ', rfl, ok2, st2, rv2⟩ := hgv ρ H S ρ1 H1 S1 u r S' v ok ok1 st1 e rv
    exact c _ _ ok2 st2 v rv2
  split at e
  · rename_i u S1 e1
    exact ⟨_, _, e1, fun ρ1 H1 ok1 st1 v rv => give e ρ1 H1 ok1 st1 v rv⟩
  · rename_i δ S1 e1
    exact ⟨_, _, e1, fun ρ1 H1 ok1 st1 σ' en => give e ρ1 H1 ok1 st1 .non (by simp [RelW, RelD])⟩
  · rename_i x δ S1 e1
    split at e
    · rename_i kp
      cases e
      refine ⟨_, _, e1, fun ρ1 H1 ok1 st1 d σ' en hx => ?_⟩
      obtain ⟨ok2, st2⟩ := ok_cut ok ok1 st1 kp
      refine c _ _ ok2 st2 d ?_
      unfold ExR at hx ⊢
      cases d with
      | none => exact hx
      | some a =>
        obtain ⟨vs, h1, h2, h3, h4⟩ := hx
        exact ⟨vs, h1, cut_off h2, RelDs.sub (fun a z => cut_off z) _ _ h3, h4⟩
    · cases e
  · cases e
theorem fnD_mk {x qual : Str} {params : Arguments} {body : List Stmt} {scope : Scope} {f : Addr} {fd : FuncData} {N ps : List Str} {k n : Nat} {fb : FS} {gv : Gv} (hgv : GiveOk K gv) (F : FunD K x qual params body scope [] [] f fd) (hm : mg x = some (.ref f)) (Sc : FnScope N ps scope) (hn : ps.length = n)
    (hb : ∀ (kV doc pm : Value) (an : Option Addr) (cdv ct : Value) (us : List Value), us.length = ps.length → bindArgs (PySem.W.fnOf x qual params body scope .none kV doc pm an cdv ct) ⟨us, []⟩ = pure (ps.zip us))
    (hbody : ∀ (cdv : Value) (A : Around) (outer : List Env) (s : Shared) (H : Hp) (E : XK), Cf (cxOf (L2.CX P w) P w K mg base N qual scope f cdv A outer s H E) (fun cls d _ H => E cls d H) k →
      PSs (cxOf (L2.CX P w) P w K mg base N qual scope f cdv A outer s H E) body (tS K (fun cls d _ H => E cls d H) fb)) :
    FnD P w K mg base (k + 1) x n (dDef gv n N.length fb) := ⟨f, fd, ps, fn_mk hgv F Sc hn hbody, hm, F.kp, F.bindsN hb⟩
theorem FnD.as {k n : Nat} {x : Str} {g g' : Fn} (F : FnD P w K mg base k x n g) (e : g = g') : FnD P w K mg base k x n g' := e ▸ F
theorem FnD.up {k j n : Nat} {x : Str} {g : Fn} (F : FnD P w K mg base k x n g) (e : k ≤ j := by decide) : FnD P w K mg base j x n g := by
  obtain ⟨f, fd, ps, F, h⟩ := F.ex
  exact ⟨f, fd, ps, F.mono e, h⟩
/-- no exception leaves -/
theorem fn_noex {f : Addr} {fd : FuncData} {ps : List Str} {k : Nat} {sp : Sp} (F : FnOk P w K mg base (L2.CX P w) k f fd ps sp) : FnOk P w K mg base CX0 k f fd ps (fun vs H Q _ => sp vs H Q fun _ _ _ => False) :=
  ⟨fun vs H Q E h => F.len vs H Q _ h, fun A outer s H args us vs Q E hr he hb hv hs => codeAny_mono (F.run A outer s H args us vs Q _ hr he hb hv hs) fun r s' h => by
    cases r with
    | ok fl => cases fl <;> exact h
    | error e =>
      obtain ⟨_, _, _, _, _, _, _, _, _, _, _, _, z⟩ := (show L2.CX P w outer H s (fun _ _ _ => False) e s' from h)
      exact z.elim⟩
/-- the law's promise holds of every script -/
theorem law_sp {g : Fn} {a : Addr} {H : Hp} {ns : List Int} {S' : Store} (hO : SqL K H a (ns.map V.int)) (e : g [.d (.lst (ns.map D.int))] [] = some (.ok (.d (.bl true)), S')) :
    spD K 1 g [.ref a] H (fun v _ => v = .bl true) fun _ _ _ => False := by
  have rel : ∀ ns : List Int, RelDs K ⟨[], []⟩ H (ns.map D.int) (ns.map V.int) := by
    intro ns
    induction ns with
    | nil => show RelDs K _ H [] []; rw [RelDs]
    | cons n ns ih =>
      show RelDs K _ H (D.int n :: ns.map D.int) (V.int n :: ns.map V.int)
      rw [RelDs]
      exact ⟨_, _, rfl, by rw [RelD], ih⟩
  refine ⟨rfl, [.d (.lst (ns.map D.int))], [], ⟨[], []⟩, _, _, ⟨.ref a, [], rfl, ?_, rfl⟩, ⟨rfl, fun i j a e => by simp at e, fun n a e => by simp at e, fun n m e => by simp at e, fun a m => by simp at m, fun a m => by simp at m⟩, e, fun ρ' H' _ _ v r => by simpa [RelW, RelD] using r⟩
  show RelD K ⟨[], []⟩ H (.lst (ns.map D.int)) (.ref a)
  rw [RelD]
  refine ⟨a, ns.map V.int, rfl, ?_, rel ns⟩
  rcases hO with h | h
  · exact .inl ⟨h, by simp [Off]⟩
  · exact .inr h
end
end DL
set_option Elab.async false
set_option linter.all false
set_option maxRecDepth 100000
set_option maxHeartbeats 1000000
/-! DL8: is of truth values. -/
namespace DL
open PySem PySem.Spec PyProof.Rows L2
section
variable {X : Cx} {K : PySem.W.Frag} {Wx : WX}
/-- x is True, x is not True: both truth values -/
def oIsB : F2
  | .d (.bl a), .d (.bl b), S => some (.ok (.d (.bl (decide (a = b)))), S)
  | _, _, _ => none
def oNotB : F2
  | .d (.bl a), .d (.bl b), S => some (.ok (.d (.bl (!decide (a = b)))), S)
  | _, _, _ => none
theorem bl2_inv {P : Prop} (x y : W) (h : ∀ i j, x = .d (.bl i) → y = .d (.bl j) → P) (h' : (∀ i j, x = .d (.bl i) → y ≠ .d (.bl j)) → P) : P := by
  by_cases e : ∃ i j, x = .d (.bl i) ∧ y = .d (.bl j)
  · obtain ⟨i, j, e1, e2⟩ := e
    exact h i j e1 e2
  · exact h' fun i j e1 e2 => e ⟨i, j, e1, e2⟩
theorem oIsB_ok : OpF K Wx rIsB oIsB := by
  intro σ ρ S H x y a b Q ok rx ry q
  refine bl2_inv x y (fun i j e1 e2 => ?_) (fun hn => ?_)
  · subst e1 e2
    exact ⟨i, j, by simpa [RelW, RelD] using rx, by simpa [RelW, RelD] using ry, go_val ok q (by simp [RelW, RelD])⟩
  · have e : oIsB x y S = none := by
      unfold oIsB
      split
      · exact absurd rfl (hn _ _ rfl)
      · rfl
    rw [e] at q
    exact go_none q
theorem oNotB_ok : OpF K Wx rNotB oNotB := by
  intro σ ρ S H x y a b Q ok rx ry q
  refine bl2_inv x y (fun i j e1 e2 => ?_) (fun hn => ?_)
  · subst e1 e2
    exact ⟨i, j, by simpa [RelW, RelD] using rx, by simpa [RelW, RelD] using ry, go_val ok q (by simp [RelW, RelD])⟩
  · have e : oNotB x y S = none := by
      unfold oNotB
      split
      · exact absurd rfl (hn _ _ rfl)
      · rfl
    rw [e] at q
    exact go_none q
end
/-! what the built-in names stand for -/
theorem bt_int : bootBuiltins "int" = some (.type "int") := by decide +kernel
theorem bt_str : bootBuiltins "str" = some (.type "str") := by decide +kernel
theorem bt_bool : bootBuiltins "bool" = some (.type "bool") := by decide +kernel
theorem bt_list : bootBuiltins "list" = some (.type "list") := by decide +kernel
theorem bt_tuple : bootBuiltins "tuple" = some (.type "tuple") := by decide +kernel
theorem bt_dict : bootBuiltins "dict" = some (.type "dict") := by decide +kernel
theorem bt_isinstance : bootBuiltins "isinstance" = some (.builtin "isinstance") := by decide +kernel
theorem bt_abs : bootBuiltins "abs" = some (.builtin "abs") := by decide +kernel
theorem bt_len : bootBuiltins "len" = some (.builtin "len") := by decide +kernel
theorem bt_all : bootBuiltins "all" = some (.builtin "all") := by decide +kernel
theorem bt_any : bootBuiltins "any" = some (.builtin "any") := by decide +kernel
theorem bt_sum : bootBuiltins "sum" = some (.builtin "sum") := by decide +kernel
theorem bt_min : bootBuiltins "min" = some (.builtin "min") := by decide +kernel
theorem bt_max : bootBuiltins "max" = some (.builtin "max") := by decide +kernel
theorem bt_sorted : bootBuiltins "sorted" = some (.builtin "sorted") := by decide +kernel
theorem bt_repr : bootBuiltins "repr" = some (.builtin "repr") := by decide +kernel
theorem bt_ord : bootBuiltins "ord" = some (.builtin "ord") := by decide +kernel
end DL
set_option Elab.async false
set_option linter.all false
set_option maxRecDepth 100000
set_option maxHeartbeats 1000000
/-! DL9: how the functions are reckoned out. -/
namespace DL
open PySem L2
section
variable {α β : Type} {a : α} {S S1 : Store} {x : Ex} {δ δ1 : DEnv} {k : α → Store → Rs β} {ks : α → Store → Ss}
theorem bind_ok : Rs.bind (some (.ok a, S)) k = k a S := rfl
theorem bind_err : Rs.bind (some (.error x, S)) k = some (.error x, S) := rfl
theorem bind_congr {m m' : Rs α} (h : m = m') : Rs.bind m k = Rs.bind m' k := by rw [h]
theorem sE_ok : sE (some (.ok a, S)) δ ks = ks a S := rfl
theorem sE_err : sE (some (.error x, S)) δ ks = some (.error (x, δ), S) := rfl
theorem sE_congr {m m' : Rs α} (h : m = m') : sE m δ ks = sE m' δ ks := by rw [h]
def bnd (m : Ss) (g : FS) : Ss := match m with
  | some (.ok (.nx δ1), S1) => g δ1 S1
  | o => o
theorem bnd_nx {g : FS} : bnd (some (.ok (.nx δ), S)) g = g δ S := rfl
theorem bnd_rt {g : FS} {w : W} : bnd (some (.ok (.rt w), S)) g = some (.ok (.rt w), S) := rfl
theorem bnd_bk {g : FS} : bnd (some (.ok (.bk δ), S)) g = some (.ok (.bk δ), S) := rfl
theorem bnd_ct {g : FS} : bnd (some (.ok (.ct δ), S)) g = some (.ok (.ct δ), S) := rfl
theorem bnd_err {g : FS} {e : Ex × DEnv} : bnd (some (.error e, S)) g = some (.error e, S) := rfl
theorem bnd_congr {m m' : Ss} {g : FS} (h : m = m') : bnd m g = bnd m' g := by rw [h]
theorem sSeq_eq {f g : FS} : sSeq f g δ S = bnd (f δ S) g := rfl
open Classical in
noncomputable def dEnd (gv : Gv) (S : Store) (m : Ss) : Rs W := match m with
  | some (.ok (.rt w), S1) => gv S w S1
  | some (.ok (.nx _), S1) => gv S (.d .non) S1
  | some (.error (x, _), S1) => if keepOk S S1 then some (.error x, S1.take S.length) else none
  | _ => none
theorem dDef_eq {gv : Gv} {n N : Nat} {fb : FS} {ws : List W} (h : ws.length = n) : dDef gv n N fb ws S = dEnd gv S (fb (ws.map some ++ List.replicate (N - n) none) S) := by
  unfold dDef dEnd
  rw [if_pos h] <;> rfl
theorem dEnd_rt {gv : Gv} {w : W} : dEnd gv S (some (.ok (.rt w), S1)) = gv S w S1 := rfl
theorem dEnd_nx {gv : Gv} : dEnd gv S (some (.ok (.nx δ), S1)) = gv S (.d .non) S1 := rfl
theorem keepOk_app {T : Store} : keepOk S (S ++ T) := ⟨by simp, fun i m hi e => .inl (by rwa [List.getElem?_append_left hi] at e)⟩
theorem keepOk_same : keepOk S S := ⟨Nat.le_refl _, fun i m hi e => .inl e⟩
theorem dEnd_err {gv : Gv} : dEnd gv S (some (.error (x, δ), S)) = some (.error x, S) := by
  unfold dEnd
  dsimp only
  rw [if_pos keepOk_same, List.take_length]
theorem dEnd_errA {gv : Gv} {T : Store} : dEnd gv S (some (.error (x, δ), S ++ T)) = some (.error x, S) := by
  unfold dEnd
  dsimp only
  rw [if_pos keepOk_app, List.take_left]
theorem giveS_d {x : D} : giveS S (.d x) S = some (.ok (.d x), S) := by
  unfold giveS
  rw [if_pos keepOk_same, List.take_length]
  rfl
theorem giveS_dA {x : D} {T : Store} : giveS S (.d x) (S ++ T) = some (.ok (.d x), S) := by
  unfold giveS
  rw [if_pos keepOk_app, List.take_left]
  rfl
/-- the first place alone has changed, what stands there is data -/
theorem keepOk_hd {m m' : M} {T U : Store} (h : mBelow (m :: T).length m') : keepOk (m :: T) (m' :: (T ++ U)) := ⟨by simp, fun i q hi e => by
  cases i with
  | zero => simp at e; subst e; exact .inr h
  | succ i => exact .inl (by simp at hi; simpa [List.getElem?_append_left hi] using e)⟩
theorem giveS_hd {x : D} {m m' : M} {T U : Store} (h : mBelow (m :: T).length m') : giveS (m :: T) (.d x) (m' :: (T ++ U)) = some (.ok (.d x), m' :: T) := by
  unfold giveS
  rw [if_pos (keepOk_hd h)]
  simp [giveW, List.take_left]
theorem giveS_hd0 {x : D} {m m' : M} {T : Store} (h : mBelow (m :: T).length m') : giveS (m :: T) (.d x) (m' :: T) = some (.ok (.d x), m' :: T) := by
  have e := giveS_hd (x := x) (U := []) h
  rwa [List.append_nil] at e
theorem giveM_new {ws : List W} (h : ∀ w ∈ ws, wBelow S.length w) : giveM S (.loc S.length) (S ++ [.lst ws]) = some (.ok (.loc S.length), S ++ [.lst ws]) := by
  unfold giveM
  rw [if_pos keepOk_app]
  have e : (S ++ [M.lst ws])[S.length]? = some (.lst ws) := by simp
  simp only [if_neg (Nat.lt_irrefl _), e, if_pos h, List.take_left]
end
section
variable {δ : DEnv} {S : Store} {w : W}
theorem dVar_eq {i : Nat} (h : δ[i]? = some (some w)) : dVar i δ S = some (.ok w, S) := by unfold dVar; rw [h]
theorem truth_bl {b : Bool} : truth (.d (.bl b)) S = some (.ok b, S) := rfl
theorem asB_bl {b : Bool} : asB (.d (.bl b)) S = some (.ok b, S) := rfl
theorem oI0_eq {g : Int → Int → D} {i j : Int} : oI0 g (.d (.int i)) (.d (.int j)) S = some (.ok (.d (g i j)), S) := rfl
theorem oII_eq {C : Int → Int → Prop} [∀ i j, Decidable (C i j)] {g : Int → Int → D} {i j : Int} (h : C i j) : oII C g (.d (.int i)) (.d (.int j)) S = some (.ok (.d (g i j)), S) := by
  show (if C i j then _ else _) = _
  rw [if_pos h]
theorem isi_ii : isiB "int" "int" = some true := by decide
theorem isi_ib : isiB "int" "bool" = some false := by decide
theorem isi_it : isiB "int" "tuple" = some false := by decide
theorem isi_tt : isiB "tuple" "tuple" = some true := by decide
theorem isi_ti : isiB "tuple" "int" = some false := by decide
theorem isi_tb : isiB "tuple" "bool" = some false := by decide
end
end DL
set_option Elab.async false
set_option linter.all false
set_option maxRecDepth 100000
set_option maxHeartbeats 1000000
/-! DL10: plain facts: equality of data, comprehensions, fractions in lowest terms. -/
namespace DL
open PySem L2
/-! ### equality -/
/-- ints in tuples and lists, at most so deep -/
def intD : Nat → D → Bool
  | _, .int _ => true
  | n + 1, .tup ds => ds.attach.all fun d => intD n d.1
  | n + 1, .lst ds => ds.attach.all fun d => intD n d.1
  | _, _ => false
theorem depthAll_le {n : Nat} : ∀ {ps : List PyData}, (∀ p ∈ ps, p.depth ≤ n) → PyData.depthAll ps ≤ n
  | [], _ => by simp [PyData.depthAll]
  | p :: ps, h => by
    have h1 := h p List.mem_cons_self
    have h2 := depthAll_le fun q hq => h q (List.mem_cons_of_mem _ hq)
    simp [PyData.depthAll]
    omega
theorem toPs_of : ∀ {ds : List D} {f : D → PyData}, (∀ d ∈ ds, toP d = some (f d)) → toPs ds = some (ds.map f)
  | [], _, _ => rfl
  | d :: ds, f, h => by
    rw [toPs, h d List.mem_cons_self, toPs_of fun e he => h e (List.mem_cons_of_mem _ he)]
    rfl
theorem canAll_of : ∀ {ps : List PyData}, (∀ p ∈ ps, p.canLay0 = true) → PyData.canLayAll0 ps = true
  | [], _ => rfl
  | p :: ps, h => by
    rw [PyData.canLayAll0, h p List.mem_cons_self, canAll_of fun q hq => h q (List.mem_cons_of_mem _ hq)]
    rfl
theorem eqvAll_refl : ∀ {ps : List PyData}, (∀ p ∈ ps, PyData.eqv p p = true) → PyData.eqvAll ps ps = true
  | [], _ => by simp [PyData.eqvAll]
  | p :: ps, h => by
    rw [PyData.eqvAll, h p List.mem_cons_self, eqvAll_refl fun q hq => h q (List.mem_cons_of_mem _ hq)]
    rfl
/-- what is to be known of data that is compared with itself -/
def Pl (n : Nat) (d : D) : Prop := ∃ p, toP d = some p ∧ p.canLay0 = true ∧ p.depth ≤ n ∧ PyData.eqv p p = true
theorem pl_int (i : Int) : Pl 0 (.int i) := ⟨.int i, by rw [toP], rfl, by simp [PyData.depth], by simp [PyData.eqv]⟩
theorem pl_bl (i : Bool) : Pl 0 (.bl i) := ⟨.bool i, by rw [toP], rfl, by simp [PyData.depth], by simp [PyData.eqv]⟩
theorem pl_non : Pl 0 .non := ⟨.none, by rw [toP], rfl, by simp [PyData.depth], by simp [PyData.eqv]⟩
theorem Pl.up {n m : Nat} {d : D} (h : Pl n d) (hm : n ≤ m) : Pl m d := by
  obtain ⟨p, h1, h2, h3, h4⟩ := h
  exact ⟨p, h1, h2, by omega, h4⟩
theorem pls_of {n : Nat} {ds : List D} (h : ∀ d ∈ ds, Pl n d) : ∃ ps, toPs ds = some ps ∧ PyData.canLayAll0 ps = true ∧ PyData.depthAll ps ≤ n ∧ PyData.eqvAll ps ps = true := by
  induction ds with
  | nil => exact ⟨[], by rw [toPs], rfl, by simp [PyData.depthAll], by simp [PyData.eqvAll]⟩
  | cons d ds ih =>
    obtain ⟨p, h1, h2, h3, h4⟩ := h d List.mem_cons_self
    obtain ⟨ps, g1, g2, g3, g4⟩ := ih fun e he => h e (List.mem_cons_of_mem _ he)
    refine ⟨p :: ps, by simp [toPs, h1, g1], by rw [PyData.canLayAll0, h2, g2]; rfl, ?_, by rw [PyData.eqvAll, h4, g4]; rfl⟩
    simp [PyData.depthAll]
    omega
theorem pl_tup {n : Nat} {ds : List D} (h : ∀ d ∈ ds, Pl n d) : Pl (n + 1) (.tup ds) := by
  obtain ⟨ps, g1, g2, g3, g4⟩ := pls_of h
  exact ⟨.tuple ps, by rw [toP, g1]; rfl, by simpa [PyData.canLay0] using g2, by simp [PyData.depth]; omega, by simpa [PyData.eqv] using g4⟩
theorem pl_lst {n : Nat} {ds : List D} (h : ∀ d ∈ ds, Pl n d) : Pl (n + 1) (.lst ds) := by
  obtain ⟨ps, g1, g2, g3, g4⟩ := pls_of h
  exact ⟨.list ps, by rw [toP, g1]; rfl, by simpa [PyData.canLay0] using g2, by simp [PyData.depth]; omega, by simpa [PyData.eqv] using g4⟩
theorem eqW_refl {n : Nat} {d : D} (h : Pl n d) (hn : n ≤ 64) : eqW (.d d) (.d d) = some true := by
  obtain ⟨p, h1, h2, h3, h4⟩ := h
  have s : SeqAt.shaped p = true := by simp [SeqAt.shaped, h2]; omega
  simp [eqW, h1, s, h4]
theorem eqW_int (i j : Int) : eqW (.d (.int i)) (.d (.int j)) = some (i == j) := by
  have s : ∀ i, SeqAt.shaped (.int i) = true := fun i => by simp [SeqAt.shaped, PyData.canLay0, PyData.depth]
  simp [eqW, toP, s, PyData.eqv]
theorem oEq_int {S : Store} (i j : Int) : oEq (.d (.int i)) (.d (.int j)) S = some (.ok (.d (.bl (i == j))), S) := by simp [oEq, eqW_int]
theorem oNe_int {S : Store} (i j : Int) : oNe (.d (.int i)) (.d (.int j)) S = some (.ok (.d (.bl (!(i == j)))), S) := by simp [oNe, eqW_int]
theorem oEq_refl {S : Store} {n : Nat} {d : D} (h : Pl n d) (hn : n ≤ 64) : oEq (.d d) (.d d) S = some (.ok (.d (.bl true)), S) := by simp [oEq, eqW_refl h hn]
theorem oNe_refl {S : Store} {n : Nat} {d : D} (h : Pl n d) (hn : n ≤ 64) : oNe (.d d) (.d d) S = some (.ok (.d (.bl false)), S) := by simp [oNe, eqW_refl h hn]

/-! ### comprehensions -/
theorem okG_no {S : Store} : okG none S := fun _ e => nomatch e
/-- no element is left out, nothing is changed -/
theorem lcL_map {tf : Tg} {fe : FE} {δ : DEnv} {S : Store} {f : W → W} : ∀ {ws acc : List W}, (∀ w ∈ ws, ∃ δ1, tf w δ S = some (δ1, S) ∧ fe δ1 S = some (.ok (f w), S)) →
    lcL tf ftYes fe none δ ws S acc = some (.ok (acc ++ ws.map f), S)
  | [], acc, _ => by unfold lcL; rw [if_pos okG_no]; simp
  | w :: ws, acc, h => by
    obtain ⟨δ1, h1, h2⟩ := h w List.mem_cons_self
    unfold lcL
    rw [if_pos okG_no]
    simp only [h1, ftYes, h2]
    rw [lcL_map fun u hu => h u (List.mem_cons_of_mem _ hu)]
    simp
/-- each element changes the first place -/
theorem lcL_thread {tf : Tg} {fe : FE} {δ : DEnv} {T : Store} {Pm : M → Prop} {Pd : D → Prop} : ∀ {ws acc : List W} {m : M}, Pm m → (∀ w ∈ ws, ∀ m, Pm m → ∃ δ1 d m', tf w δ (m :: T) = some (δ1, m :: T) ∧ fe δ1 (m :: T) = some (.ok (.d d), m' :: T) ∧ Pm m' ∧ Pd d) →
    ∃ (ds : List D) (m' : M), lcL tf ftYes fe none δ ws (m :: T) acc = some (.ok (acc ++ ds.map W.d), m' :: T) ∧ Pm m' ∧ ds.length = ws.length ∧ ∀ d ∈ ds, Pd d
  | [], acc, m, hm, _ => ⟨[], m, by unfold lcL; rw [if_pos okG_no]; simp, hm, rfl, by simp⟩
  | w :: ws, acc, m, hm, h => by
    obtain ⟨δ1, d, m', h1, h2, h3, h4⟩ := h w List.mem_cons_self m hm
    obtain ⟨ds, m2, e, g1, g2, g3⟩ := lcL_thread (acc := acc ++ [.d d]) h3 fun u hu => h u (List.mem_cons_of_mem _ hu)
    refine ⟨d :: ds, m2, ?_, g1, by simp [g2], fun x hx => ?_⟩
    · unfold lcL
      rw [if_pos okG_no]
      simp only [h1, ftYes, h2]
      rw [e]
      simp
    · rcases List.mem_cons.mp hx with hx | hx
      · rw [hx]; exact h4
      · exact g3 x hx
theorem pureMap {α : Type} (f : α → D) (xs : List α) : pure? (xs.map fun x => W.d (f x)) = some (xs.map f) := by
  have e : (xs.map fun x => W.d (f x)) = (xs.map f).map W.d := by simp
  rw [e, pure?_map]
theorem boolsMap {α : Type} (f : α → Bool) (xs : List α) : bools? (xs.map fun x => W.d (.bl (f x))) = some (xs.map f) := by
  induction xs with
  | nil => rfl
  | cons x xs ih =>
    show (bools? (xs.map fun x => W.d (.bl (f x)))).map _ = _
    rw [ih]; rfl

theorem dLc_map {α : Type} {fi : FI} {tf : Tg} {fe : FE} {vs : List Nat} {δ : DEnv} {S : Store} {xs : List α} {wf : α → W} {f : α → D} (hi : fi δ S = some (.ok (xs.map wf, none), S)) (hl : xs.length ≤ 1000)
    (h : ∀ x ∈ xs, ∃ δ1, tf (wf x) (wipeE δ vs) S = some (δ1, S) ∧ fe δ1 S = some (.ok (.d (f x)), S)) : dLc lcF fi tf ftYes fe vs δ S = some (.ok (.d (.lst (xs.map f))), S) := by
  have hz : (xs.map wf).length ≤ sizeLine := by simp; exact Nat.le_trans hl (by decide)
  have e : ∀ (ys : List α) (acc : List W), (∀ x ∈ ys, x ∈ xs) → lcL tf ftYes fe none (wipeE δ vs) (ys.map wf) S acc = some (.ok (acc ++ ys.map fun x => W.d (f x)), S) := by
    intro ys
    induction ys with
    | nil => intro acc _; show lcL tf ftYes fe none (wipeE δ vs) [] S acc = _; unfold lcL; rw [if_pos okG_no]; simp
    | cons y ys ih =>
      intro acc hm
      obtain ⟨δ1, h1, h2⟩ := h y (hm y List.mem_cons_self)
      show lcL tf ftYes fe none (wipeE δ vs) (wf y :: ys.map wf) S acc = _
      unfold lcL
      rw [if_pos okG_no]
      simp only [h1, ftYes, h2]
      rw [ih _ fun x hx => hm x (List.mem_cons_of_mem _ hx)]
      simp
  unfold dLc
  rw [hi, bind_ok]
  dsimp only
  rw [if_pos hz, e xs [] fun _ h => h, bind_ok, List.nil_append]
  unfold lcF
  rw [pureMap]
/-! ### fractions in lowest terms -/
/-- of so many bits -/
def Bd (n : Nat) (i : Int) : Prop := i.natAbs < 2 ^ n
instance (n : Nat) (i : Int) : Decidable (Bd n i) := by unfold Bd; infer_instance
theorem Bd.up {n m : Nat} {i : Int} (h : Bd n i) (hm : n ≤ m) : Bd m i := Nat.lt_of_lt_of_le h (Nat.pow_le_pow_right (by decide) hm)
theorem Bd.mul {n m : Nat} {i j : Int} (h : Bd n i) (h2 : Bd m j) : Bd (n + m) (i * j) := wide_lt h h2
theorem Bd.add {n : Nat} {i j : Int} (h : Bd n i) (h2 : Bd n j) : Bd (n + 1) (i + j) := by
  have h1 := Int.natAbs_add_le i j
  unfold Bd at *
  rw [Nat.pow_succ]
  omega
theorem Bd.neg {n : Nat} {i : Int} (h : Bd n i) : Bd n (-i) := by unfold Bd at *; rw [Int.natAbs_neg]; exact h
theorem Bd.sub {n : Nat} {i j : Int} (h : Bd n i) (h2 : Bd n j) : Bd (n + 1) (i - j) := by rw [Int.sub_eq_add_neg]; exact h.add h2.neg
theorem Bd.le {n : Nat} {i j : Int} (h : Bd n j) (h1 : i.natAbs ≤ j.natAbs) : Bd n i := Nat.lt_of_le_of_lt h1 h
theorem Bd.mulOk {n m : Nat} {i j : Int} (h : Bd n i) (h2 : Bd m j) (h0 : 0 < n := by decide) (h1 : 0 < m := by decide) (h3 : n + m ≤ 1000000 := by decide) : CMulW i j := wide_mul h h2 h0 h1 h3
def gcd (a b : Int) : Int := (Int.gcd a b : Int)
def low (t b : Int) : Int × Int := (t / gcd t b, b / gcd t b)
def Fr (p : Int × Int) : Prop := 0 < p.2 ∧ Int.gcd p.1 p.2 = 1
def encF (p : Int × Int) : D := .tup [.int p.1, .int p.2]
theorem gcd_pos {t b : Int} (h : 0 < b) : 0 < gcd t b := by
  have : 0 < Int.gcd t b := Int.gcd_pos_of_ne_zero_right t (by omega)
  unfold gcd; omega
theorem gcd_le {t b : Int} (h : 0 < b) : gcd t b ≤ b := Int.le_of_dvd h (Int.gcd_dvd_right t b)
theorem low_pos {t b : Int} (h : 0 < b) : 0 < (low t b).2 := by
  have h1 : (low t b).2 * gcd t b = b := Int.ediv_mul_cancel (Int.gcd_dvd_right t b)
  have h2 := gcd_pos (t := t) h
  rcases Int.lt_trichotomy (low t b).2 0 with h3 | h3 | h3
  · have := Int.mul_neg_of_neg_of_pos h3 h2; omega
  · rw [h3] at h1; omega
  · exact h3
theorem low_fr {t b : Int} (h : 0 < b) : Fr (low t b) := ⟨low_pos h, Int.gcd_ediv_gcd_ediv_gcd (Int.gcd_pos_of_ne_zero_right t (by omega))⟩
theorem low_mul {t b : Int} : (low t b).1 * b = t * (low t b).2 := by
  have h1 : (low t b).2 * gcd t b = b := Int.ediv_mul_cancel (Int.gcd_dvd_right t b)
  have h2 : (low t b).1 * gcd t b = t := Int.ediv_mul_cancel (Int.gcd_dvd_left t b)
  calc (low t b).1 * b = (low t b).1 * ((low t b).2 * gcd t b) := by rw [h1]
    _ = ((low t b).1 * gcd t b) * (low t b).2 := by grind
    _ = t * (low t b).2 := by rw [h2]
theorem fr_uniq {p q : Int × Int} (hp : Fr p) (hq : Fr q) (e : p.1 * q.2 = q.1 * p.2) : p = q := by
  have cop : ∀ {a b c : Int}, Int.gcd a b = 1 → b ∣ a * c → b ∣ c := fun {a b c} h hd => by
    have h1 : b.natAbs ∣ a.natAbs * c.natAbs := by rw [← Int.natAbs_mul]; exact Int.natAbs_dvd_natAbs.mpr hd
    have h2 : Nat.Coprime b.natAbs a.natAbs := by
      have : Nat.gcd a.natAbs b.natAbs = 1 := h
      rw [Nat.Coprime, Nat.gcd_comm]; exact this
    exact Int.natAbs_dvd_natAbs.mp (Nat.Coprime.dvd_of_dvd_mul_left h2 h1)
  have d1 : p.2 ∣ q.2 := cop hp.2 ⟨q.1, by rw [e]; exact Int.mul_comm _ _⟩
  have d2 : q.2 ∣ p.2 := cop hq.2 ⟨p.1, by rw [← e]; exact Int.mul_comm _ _⟩
  have e2 : p.2 = q.2 := Int.dvd_antisymm (by have := hp.1; omega) (by have := hq.1; omega) d1 d2
  have e1 : p.1 = q.1 := by
    rw [e2] at e
    exact Int.eq_of_mul_eq_mul_right (by have := hq.1; omega) e
  exact Prod.ext e1 e2
theorem low_id {p : Int × Int} (h : Fr p) : low p.1 p.2 = p := fr_uniq (low_fr h.1) h low_mul
theorem low_eq {t b t' b' : Int} (h : 0 < b) (h' : 0 < b') (e : t * b' = t' * b) : low t b = low t' b' := by
  refine fr_uniq (low_fr h) (low_fr h') ?_
  have e1 : (low t b).1 * b = t * (low t b).2 := low_mul
  have e2 : (low t' b').1 * b' = t' * (low t' b').2 := low_mul
  have e3 : ((low t b).1 * (low t' b').2) * (b * b') = ((low t' b').1 * (low t b).2) * (b * b') := by
    calc ((low t b).1 * (low t' b').2) * (b * b') = ((low t b).1 * b) * ((low t' b').2 * b') := by grind
      _ = (t * b') * ((low t b).2 * (low t' b').2) := by rw [e1]; grind
      _ = (t' * b) * ((low t b).2 * (low t' b').2) := by rw [e]
      _ = (t' * (low t' b').2) * ((low t b).2 * b) := by grind
      _ = ((low t' b').1 * b') * ((low t b).2 * b) := by rw [e2]
      _ = ((low t' b').1 * (low t b).2) * (b * b') := by grind
  exact Int.eq_of_mul_eq_mul_right (by have := Int.mul_pos h h'; omega) e3
theorem low_bd {t b : Int} {n m : Nat} (h1 : Bd n t) (h2 : Bd m b) : Bd n (low t b).1 ∧ Bd m (low t b).2 := ⟨h1.le (Int.natAbs_ediv_le_natAbs _ _), h2.le (Int.natAbs_ediv_le_natAbs _ _)⟩
theorem gcd_div {t b : Int} {n : Nat} (h : 0 < b) (hb : Bd n b) (h0 : 0 < n := by decide) (h9 : n ≤ 9000 := by decide) (i : Int) : CDivW i (gcd t b) := by
  refine wide_div (gcd_pos h) ?_ h0 h9
  have h1 := gcd_pos (t := t) h
  have h2 := gcd_le (t := t) h
  exact hb.le (by omega)
/-! ### the loop of remainders -/
def gcdT (i j : Nat) : FT := dB (d2 oGt (dVar j) (dC (.int 0)))
theorem gcd_loop {S : Store} : ∀ (n : Nat) (a b : Nat), b ≤ n → whileN (dB (d2 oGt (dVar 1) (dC (.int 0)))) (sPar 0 1 (dVar 1) (d2 oMod (dVar 0) (dVar 1))) (n + 1) [some (.d (.int a)), some (.d (.int b))] S = some (.ok (.nx [some (.d (.int (Nat.gcd a b : Nat))), some (.d (.int 0))]), S)
  | n, a, 0, _ => by simp [whileN, sE, dB, d2, dVar, dC, Rs.bind, oI0, asB]
  | 0, a, b + 1, h => by omega
  | n + 1, a, b + 1, h => by
    have hlt : a % (b + 1) < b + 1 := Nat.mod_lt a (by omega)
    have ih := gcd_loop (S := S) n (b + 1) (a % (b + 1)) (by omega)
    have hpos : (0 : Int) < ((b + 1 : Nat) : Int) := by omega
    rw [whileN]
    have e1 : (dB (d2 oGt (dVar 1) (dC (.int 0)))) [some (.d (.int (a : Int))), some (.d (.int ((b + 1 : Nat) : Int)))] S = some (.ok true, S) := by
      simp only [dB, d2, dVar, dC, Rs.bind, oI0, asB, List.getElem?_cons_succ, List.getElem?_cons_zero, decide_eq_true hpos]
    rw [e1]
    have e2 : sPar 0 1 (dVar 1) (d2 oMod (dVar 0) (dVar 1)) [some (.d (.int (a : Int))), some (.d (.int ((b + 1 : Nat) : Int)))] S = some (.ok (.nx [some (.d (.int ((b + 1 : Nat) : Int))), some (.d (.int ((a % (b + 1) : Nat) : Int)))]), S) := by
      simp only [sPar, sE, d2, dVar, Rs.bind, List.getElem?_cons_succ, List.getElem?_cons_zero, oII_eq (C := fun _ j => 0 < j) hpos, List.set_cons_zero, List.set_cons_succ]
      rfl
    simp only [sE, if_true, e2]
    rw [ih]
    have e3 : Nat.gcd (b + 1) (a % (b + 1)) = Nat.gcd a (b + 1) := by rw [Nat.gcd_comm, ← Nat.gcd_rec, Nat.gcd_comm]
    rw [e3]
theorem gcd_while {S : Store} (a b : Nat) : dWhile (dB (d2 oGt (dVar 1) (dC (.int 0)))) (sPar 0 1 (dVar 1) (d2 oMod (dVar 0) (dVar 1))) [some (.d (.int a)), some (.d (.int b))] S = some (.ok (.nx [some (.d (.int (Nat.gcd a b : Nat))), some (.d (.int 0))]), S) :=
  dWhile_of (gcd_loop b a b (Nat.le_refl b))
theorem abs_nat (i : Int) : (if i < 0 then -i else i) = (i.natAbs : Int) := by split <;> omega
end DL
set_option Elab.async false
set_option linter.all false
set_option maxRecDepth 100000
set_option maxHeartbeats 1000000
/-! DL11: small reckonings: written tuples and lists, items, lengths, the law's state. -/
namespace DL
open PySem L2
section
variable {S : Store} {a b c d e : D}
theorem mkTup1 : mkTup [.d a] S = some (.ok (.d (.tup [a])), S) := rfl
theorem mkTup2 : mkTup [.d a, .d b] S = some (.ok (.d (.tup [a, b])), S) := rfl
theorem mkTup3 : mkTup [.d a, .d b, .d c] S = some (.ok (.d (.tup [a, b, c])), S) := rfl
theorem mkTup4 : mkTup [.d a, .d b, .d c, .d d] S = some (.ok (.d (.tup [a, b, c, d])), S) := rfl
theorem mkLst2 : mkLst [.d a, .d b] S = some (.ok (.d (.lst [a, b])), S) := rfl
theorem mkLst3 : mkLst [.d a, .d b, .d c] S = some (.ok (.d (.lst [a, b, c])), S) := rfl
theorem mkLst4 : mkLst [.d a, .d b, .d c, .d d] S = some (.ok (.d (.lst [a, b, c, d])), S) := rfl
theorem mkLst5 : mkLst [.d a, .d b, .d c, .d d, .d e] S = some (.ok (.d (.lst [a, b, c, d, e])), S) := rfl
theorem ix20 : oIx (.d (.tup [a, b])) (.d (.int 0)) S = some (.ok (.d a), S) := rfl
theorem ix21 : oIx (.d (.tup [a, b])) (.d (.int 1)) S = some (.ok (.d b), S) := rfl
theorem ixF0 {p : Int × Int} : oIx (.d (encF p)) (.d (.int 0)) S = some (.ok (.d (.int p.1)), S) := rfl
theorem ixF1 {p : Int × Int} : oIx (.d (encF p)) (.d (.int 1)) S = some (.ok (.d (.int p.2)), S) := rfl
theorem len_tup {ds : List D} : oLen (.d (.tup ds)) S = some (.ok (.d (.int (ds.length : Int))), S) := by simp [oLen, seqW]
theorem len_lst {ds : List D} : oLen (.d (.lst ds)) S = some (.ok (.d (.int (ds.length : Int))), S) := by simp [oLen, seqW]
theorem ty_int {i : Int} : tyN S (.d (.int i)) = some "int" := rfl
theorem ty_bl {i : Bool} : tyN S (.d (.bl i)) = some "bool" := rfl
theorem ty_str {i : Str} : tyN S (.d (.str i)) = some "str" := rfl
theorem ty_non : tyN S (.d .non) = some "NoneType" := rfl
theorem ty_tup {i : List D} : tyN S (.d (.tup i)) = some "tuple" := rfl
theorem ty_lst {i : List D} : tyN S (.d (.lst i)) = some "list" := rfl
theorem lenF {p : Int × Int} : oLen (.d (encF p)) S = some (.ok (.d (.int 2)), S) := rfl
theorem tyF {p : Int × Int} : tyN S (.d (encF p)) = some "tuple" := rfl
theorem dSeq_tup {f : FE} {δ : DEnv} {S1 : Store} {ds : List D} (h : f δ S = some (.ok (.d (.tup ds)), S1)) : dSeq f δ S = some (.ok (ds.map W.d, none), S1) := by
  unfold dSeq; rw [h]; rfl
theorem dSeq_lst {f : FE} {δ : DEnv} {S1 : Store} {ds : List D} (h : f δ S = some (.ok (.d (.lst ds)), S1)) : dSeq f δ S = some (.ok (ds.map W.d, none), S1) := by
  unfold dSeq; rw [h]; rfl
theorem tuple_lst {ds : List D} : oTuple (.d (.lst ds)) S = some (.ok (.d (.tup ds)), S) := by simp [oTuple, seqW, pure?_map]
theorem list_lst {ds : List D} : oList (.d (.lst ds)) S = some (.ok (.d (.lst ds)), S) := by simp [oList, seqW, pure?_map]
theorem all_lst {α : Type} (f : α → Bool) (xs : List α) : oAll (.d (.lst (xs.map fun x => D.bl (f x)))) S = some (.ok (.d (.bl (xs.all f))), S) := by
  have e : List.map W.d (xs.map fun x => D.bl (f x)) = xs.map fun x => W.d (.bl (f x)) := by simp
  simp only [oAll, seqW, e, boolsMap]
  congr 4
  simp [List.all_map, Function.comp_def]
end
theorem oMul_eq {S : Store} {i j : Int} (h : CMulW i j) : oMul (.d (.int i)) (.d (.int j)) S = some (.ok (.d (.int (i * j))), S) := oII_eq h
theorem oDiv_eq {S : Store} {i j : Int} (h : CDivW i j) : oDiv (.d (.int i)) (.d (.int j)) S = some (.ok (.d (.int (i / j))), S) := oII_eq h
theorem oMod_eq {S : Store} {i j : Int} (h : 0 < j) : oMod (.d (.int i)) (.d (.int j)) S = some (.ok (.d (.int (i % j))), S) := oII_eq (C := fun _ j => 0 < j) h
theorem oPow_eq {S : Store} {i j : Int} (h : CPow i j) : oPow (.d (.int i)) (.d (.int j)) S = some (.ok (.d (.int (i ^ j.toNat))), S) := oII_eq h
theorem bd_nn {n : Nat} {i : Int} (h : 0 ≤ i) (h2 : i < 2 ^ n) : Bd n i := by
  have e : ((2 ^ n : Nat) : Int) = 2 ^ n := by simp
  unfold Bd
  omega
theorem pl_encF (p : Int × Int) : Pl 1 (encF p) := pl_tup fun d hd => by
  simp at hd
  rcases hd with rfl | rfl
  · exact pl_int _
  · exact pl_int _
theorem oEqF {S : Store} {p : Int × Int} : oEq (.d (encF p)) (.d (encF p)) S = some (.ok (.d (.bl true)), S) := oEq_refl (pl_encF p) (by decide)
/-- a unit -/
def encU (us : List (Int × Int)) : D := .tup (us.map encF)
theorem pl_encU (us : List (Int × Int)) : Pl 2 (encU us) := pl_tup fun d hd => by
  obtain ⟨p, _, rfl⟩ := List.mem_map.mp hd
  exact pl_encF p
theorem oEqU {S : Store} {us : List (Int × Int)} : oEq (.d (encU us)) (.d (encU us)) S = some (.ok (.d (.bl true)), S) := oEq_refl (pl_encU us) (by decide)
theorem oNeU {S : Store} {us : List (Int × Int)} : oNe (.d (encU us)) (.d (encU us)) S = some (.ok (.d (.bl false)), S) := oNe_refl (pl_encU us) (by decide)
theorem lenU {S : Store} {us : List (Int × Int)} : oLen (.d (encU us)) S = some (.ok (.d (.int (us.length : Int))), S) := by unfold encU; rw [len_tup]; simp
theorem tyU {S : Store} {us : List (Int × Int)} : tyN S (.d (encU us)) = some "tuple" := rfl
theorem seqU {f : FE} {δ : DEnv} {S S1 : Store} {us : List (Int × Int)} (h : f δ S = some (.ok (.d (encU us)), S1)) : dSeq f δ S = some (.ok (us.map fun p => W.d (encF p), none), S1) := by
  rw [dSeq_tup (ds := us.map encF) h]; simp
theorem zipU {S : Store} {us vs : List (Int × Int)} : oZip [.d (encU us), .d (encU vs)] S = some (.ok ((us.zip vs).map fun p => W.d (.tup [encF p.1, encF p.2]), none), S) := by
  show some (Except.ok (zipD (us.map encF) (vs.map encF), none), S) = _
  simp [zipD, List.zip_map]
/-- a fraction of so many bits -/
structure FrB (n : Nat) (p : Int × Int) : Prop where
  fr : Fr p
  b1 : Bd n p.1
  b2 : Bd n p.2
theorem FrB.up {n m : Nat} {p : Int × Int} (h : FrB n p) (hm : n ≤ m) : FrB m p := ⟨h.fr, h.b1.up hm, h.b2.up hm⟩
def fplus (x y : Int × Int) : Int × Int := low (x.1 * y.2 + y.1 * x.2) (x.2 * y.2)
def fminus (x y : Int × Int) : Int × Int := low (x.1 * y.2 - y.1 * x.2) (x.2 * y.2)
def ftimes (x y : Int × Int) : Int × Int := low (x.1 * y.1) (x.2 * y.2)
theorem pos2 {x y : Int × Int} (hx : Fr x) (hy : Fr y) : 0 < x.2 * y.2 := Int.mul_pos hx.1 hy.1
theorem fplus_ok {n m : Nat} {x y : Int × Int} (hx : FrB n x) (hy : FrB m y) : FrB (n + m + 1) (fplus x y) := by
  have h := low_bd (t := x.1 * y.2 + y.1 * x.2) (b := x.2 * y.2) ((hx.b1.mul hy.b2).add (by have := hy.b1.mul hx.b2; rwa [Nat.add_comm] at this)) ((hx.b2.mul hy.b2).up (Nat.le_succ _))
  exact ⟨low_fr (pos2 hx.fr hy.fr), h.1, h.2⟩
theorem fminus_ok {n m : Nat} {x y : Int × Int} (hx : FrB n x) (hy : FrB m y) : FrB (n + m + 1) (fminus x y) := by
  have h := low_bd (t := x.1 * y.2 - y.1 * x.2) (b := x.2 * y.2) ((hx.b1.mul hy.b2).sub (by have := hy.b1.mul hx.b2; rwa [Nat.add_comm] at this)) ((hx.b2.mul hy.b2).up (Nat.le_succ _))
  exact ⟨low_fr (pos2 hx.fr hy.fr), h.1, h.2⟩
theorem ftimes_ok {n m : Nat} {x y : Int × Int} (hx : FrB n x) (hy : FrB m y) : FrB (n + m) (ftimes x y) := by
  have h := low_bd (t := x.1 * y.1) (b := x.2 * y.2) (hx.b1.mul hy.b1) (hx.b2.mul hy.b2)
  exact ⟨low_fr (pos2 hx.fr hy.fr), h.1, h.2⟩
def fneg (x : Int × Int) : Int × Int := (-x.1, x.2)
theorem fneg_ok {n : Nat} {x : Int × Int} (h : FrB n x) : FrB n (fneg x) := ⟨⟨h.fr.1, by rw [← h.fr.2]; exact Int.neg_gcd⟩, h.b1.neg, h.b2⟩
theorem fplus_fneg (x y : Int × Int) : fplus x (fneg y) = fminus x y := by
  unfold fplus fminus fneg
  have e : x.1 * y.2 + -y.1 * x.2 = x.1 * y.2 - y.1 * x.2 := by grind
  rw [e]
theorem fminus_fplus {x y : Int × Int} (hx : Fr x) (hy : Fr y) : fminus (fplus x y) y = x := by
  have h1 : (fplus x y).1 * (x.2 * y.2) = (x.1 * y.2 + y.1 * x.2) * (fplus x y).2 := low_mul
  have hp : 0 < (fplus x y).2 := low_pos (pos2 hx hy)
  have e : fminus (fplus x y) y = low x.1 x.2 := by
    unfold fminus
    refine low_eq (Int.mul_pos hp hy.1) hx.1 ?_
    generalize fplus x y = p at *
    have h2 := pos2 hx hy
    have hy0 : y.2 ≠ 0 := by have := hy.1; omega
    refine Int.eq_of_mul_eq_mul_right hy0 ?_
    grind
  exact e.trans (low_id hx)
theorem fplus_comm (x y : Int × Int) : fplus x y = fplus y x := by
  unfold fplus
  rw [Int.add_comm, Int.mul_comm x.2]
theorem fminus_fplus' {x y : Int × Int} (hx : Fr x) (hy : Fr y) : fminus (fplus x y) x = y := by rw [fplus_comm]; exact fminus_fplus hy hx
theorem ftimes_two {x : Int × Int} (hx : Fr x) : ftimes x (2, 1) = fplus x x := by
  unfold ftimes fplus
  refine low_eq (by have := hx.1; simpa using this) (pos2 hx hx) ?_
  grind
theorem ftimes_three {x : Int × Int} (hx : Fr x) : ftimes x (3, 1) = fplus (fplus x x) x := by
  have h1 : (fplus x x).1 * (x.2 * x.2) = (x.1 * x.2 + x.1 * x.2) * (fplus x x).2 := low_mul
  have hp : 0 < (fplus x x).2 := low_pos (pos2 hx hx)
  show low (x.1 * 3) (x.2 * 1) = low ((fplus x x).1 * x.2 + x.1 * (fplus x x).2) ((fplus x x).2 * x.2)
  refine low_eq (by have := hx.1; simpa using this) (Int.mul_pos hp hx.1) ?_
  generalize fplus x x = p at *
  grind
theorem ftimes_neg {x : Int × Int} (hx : Fr x) : ftimes x (-1, 1) = fminus (fminus x x) x := by
  have h1 : (fminus x x).1 * (x.2 * x.2) = (x.1 * x.2 - x.1 * x.2) * (fminus x x).2 := low_mul
  have hp : 0 < (fminus x x).2 := low_pos (pos2 hx hx)
  have h0 : (fminus x x).1 = 0 := by
    rw [Int.sub_self, Int.zero_mul] at h1
    have h2 := pos2 hx hx
    rcases Int.mul_eq_zero.mp h1 with z | z
    · exact z
    · omega
  show low (x.1 * -1) (x.2 * 1) = low ((fminus x x).1 * x.2 - x.1 * (fminus x x).2) ((fminus x x).2 * x.2)
  refine low_eq (by have := hx.1; simpa using this) (Int.mul_pos hp hx.1) ?_
  rw [h0]
  generalize fminus x x = p at *
  grind
/-! units -/
def uplus (us vs : List (Int × Int)) : List (Int × Int) := (us.zip vs).map fun p => fplus p.1 p.2
def uminus (us vs : List (Int × Int)) : List (Int × Int) := (us.zip vs).map fun p => fminus p.1 p.2
def utimes (us : List (Int × Int)) (q : Int × Int) : List (Int × Int) := us.map fun p => ftimes p q
/-- one to three exponents of so many bits -/
structure UnB (n : Nat) (us : List (Int × Int)) : Prop where
  fr : ∀ p ∈ us, FrB n p
  l1 : 1 ≤ us.length
  l3 : us.length ≤ 3
theorem UnB.frs {n : Nat} {us : List (Int × Int)} (h : UnB n us) : ∀ p ∈ us, Fr p := fun p hp => (h.fr p hp).fr
theorem zip_mem {n m : Nat} {us vs : List (Int × Int)} (h : UnB n us) (g : UnB m vs) {p : (Int × Int) × (Int × Int)} (hp : p ∈ us.zip vs) : FrB n p.1 ∧ FrB m p.2 := by
  obtain ⟨a, b⟩ := p
  have := List.of_mem_zip hp
  exact ⟨h.fr a this.1, g.fr b this.2⟩
theorem uplus_len {us vs : List (Int × Int)} (hl : us.length = vs.length) : (uplus us vs).length = us.length := by simp [uplus, hl]
theorem uminus_len {us vs : List (Int × Int)} (hl : us.length = vs.length) : (uminus us vs).length = us.length := by simp [uminus, hl]
theorem uplus_ok {n m : Nat} {us vs : List (Int × Int)} (h : UnB n us) (g : UnB m vs) (hl : us.length = vs.length) : UnB (n + m + 1) (uplus us vs) :=
  ⟨fun p hp => by obtain ⟨q, hq, rfl⟩ := List.mem_map.mp hp; have := zip_mem h g hq; exact fplus_ok this.1 this.2, by rw [uplus_len hl]; exact h.l1, by rw [uplus_len hl]; exact h.l3⟩
theorem uminus_ok {n m : Nat} {us vs : List (Int × Int)} (h : UnB n us) (g : UnB m vs) (hl : us.length = vs.length) : UnB (n + m + 1) (uminus us vs) :=
  ⟨fun p hp => by obtain ⟨q, hq, rfl⟩ := List.mem_map.mp hp; have := zip_mem h g hq; exact fminus_ok this.1 this.2, by rw [uminus_len hl]; exact h.l1, by rw [uminus_len hl]; exact h.l3⟩
theorem utimes_ok {n m : Nat} {us : List (Int × Int)} {q : Int × Int} (h : UnB n us) (g : FrB m q) : UnB (n + m) (utimes us q) :=
  ⟨fun p hp => by obtain ⟨r, hr, rfl⟩ := List.mem_map.mp hp; exact ftimes_ok (h.fr r hr) g, by simpa [utimes] using h.l1, by simpa [utimes] using h.l3⟩
theorem uneg_ok {n : Nat} {us : List (Int × Int)} (h : UnB n us) : UnB n (us.map fneg) :=
  ⟨fun p hp => by obtain ⟨r, hr, rfl⟩ := List.mem_map.mp hp; exact fneg_ok (h.fr r hr), by simpa using h.l1, by simpa using h.l3⟩
theorem uminus_uplus {us vs : List (Int × Int)} (hu : ∀ p ∈ us, Fr p) (hv : ∀ p ∈ vs, Fr p) (hl : us.length = vs.length) : uminus (uplus us vs) vs = us ∧ uminus (uplus us vs) us = vs := by
  induction us generalizing vs with
  | nil => cases vs with
    | nil => exact ⟨rfl, rfl⟩
    | cons v vs => simp at hl
  | cons u us ih => cases vs with
    | nil => simp at hl
    | cons v vs =>
      obtain ⟨h1, h2⟩ := ih (fun p hp => hu p (List.mem_cons_of_mem _ hp)) (fun p hp => hv p (List.mem_cons_of_mem _ hp)) (by simpa using hl)
      have a := hu u List.mem_cons_self
      have b := hv v List.mem_cons_self
      exact ⟨by show fminus (fplus u v) v :: uminus (uplus us vs) vs = _; rw [h1, fminus_fplus a b], by show fminus (fplus u v) u :: uminus (uplus us vs) us = _; rw [h2, fminus_fplus' a b]⟩
theorem uplus_uneg (us vs : List (Int × Int)) : uplus us (vs.map fneg) = uminus us vs := by
  unfold uplus uminus
  rw [List.zip_map_right, List.map_map]
  refine List.map_congr_left fun p _ => ?_
  exact fplus_fneg p.1 p.2
theorem self_zip {α β : Type} (f : α × α → β) (us : List α) : (us.zip us).map f = us.map fun u => f (u, u) := by
  induction us with
  | nil => rfl
  | cons u us ih => simp [ih]
theorem utimes_two {us : List (Int × Int)} (h : ∀ p ∈ us, Fr p) : utimes us (2, 1) = uplus us us := by
  unfold utimes uplus
  rw [self_zip]
  exact List.map_congr_left fun p hp => ftimes_two (h p hp)
theorem map_self_zip {α β γ : Type} (f : β × α → γ) (g : α → β) (us : List α) : ((us.map g).zip us).map f = us.map fun u => f (g u, u) := by
  induction us with
  | nil => rfl
  | cons u us ih => simp [ih]
theorem utimes_three {us : List (Int × Int)} (h : ∀ p ∈ us, Fr p) : utimes us (3, 1) = uplus (uplus us us) us := by
  have e : uplus us us = us.map fun u => fplus u u := by unfold uplus; rw [self_zip]
  rw [e]
  unfold utimes uplus
  rw [map_self_zip]
  exact List.map_congr_left fun p hp => ftimes_three (h p hp)
theorem utimes_neg {us : List (Int × Int)} (h : ∀ p ∈ us, Fr p) : utimes us (-1, 1) = uminus (uminus us us) us := by
  have e : uminus us us = us.map fun u => fminus u u := by unfold uminus; rw [self_zip]
  rw [e]
  unfold utimes uminus
  rw [map_self_zip]
  exact List.map_congr_left fun p hp => ftimes_neg (h p hp)
theorem ixU {S : Store} {us : List (Int × Int)} {k : Nat} (h : k < us.length) : oIx (.d (encU us)) (.d (.int (k : Int))) S = some (.ok (.d (encF us[k])), S) := by
  have e : atI (List.map W.d (us.map encF)) (k : Int) = some (W.d (encF us[k])) := atI_nat (by simp [h])
  simp only [oIx, encU, seqW, e]
theorem map_range_zip {β : Type} (f : Int × Int → Int × Int → β) (us vs : List (Int × Int)) (hl : us.length = vs.length) (z : Int × Int) : ((List.range us.length).map fun k => f (us.getD k z) (vs.getD k z)) = (us.zip vs).map fun p => f p.1 p.2 := by
  refine List.ext_getElem (by simp [hl]) fun i h1 h2 => ?_
  simp at h1
  simp [List.getD, h1, show i < vs.length by omega]
/-- the law's state: the script, how far it is, what a great number leaves, the mixed number -/
def encSt (ns : List Int) (pos big num : Int) : M := .lst [.d (.lst (ns.map D.int)), .d (.int pos), .d (.int big), .d (.int num)]
/-- a state of the law's -/
def DrSt (m : M) : Prop := ∃ (ns : List Int) (pos : Nat) (big num : Int), m = encSt ns pos big num ∧ pos ≤ ns.length ∧ 0 ≤ big ∧ 0 ≤ num ∧ num < 2 ^ 32 ∧ ns.length ≤ 63
theorem st_below {n : Nat} {ns : List Int} {pos big num : Int} : mBelow n (encSt ns pos big num) := by
  intro w hw
  simp at hw
  rcases hw with rfl | rfl | rfl | rfl <;> trivial
theorem DrSt.below {n : Nat} {m : M} (h : DrSt m) : mBelow n m := by
  obtain ⟨ns, pos, big, num, rfl, _⟩ := h
  exact st_below
section
variable {T : Store} {ns : List Int} {pos big num : Int}
theorem giveS_st {ns' : List Int} {x : D} {p b n : Int} : giveS (encSt ns pos big num :: T) (.d x) (encSt ns' p b n :: T) = some (.ok (.d x), encSt ns' p b n :: T) := giveS_hd0 st_below
theorem st0 : oIx (.loc 0) (.d (.int 0)) (encSt ns pos big num :: T) = some (.ok (.d (.lst (ns.map D.int))), encSt ns pos big num :: T) := rfl
theorem st1 : oIx (.loc 0) (.d (.int 1)) (encSt ns pos big num :: T) = some (.ok (.d (.int pos)), encSt ns pos big num :: T) := rfl
theorem st2 : oIx (.loc 0) (.d (.int 2)) (encSt ns pos big num :: T) = some (.ok (.d (.int big)), encSt ns pos big num :: T) := rfl
theorem st3 : oIx (.loc 0) (.d (.int 3)) (encSt ns pos big num :: T) = some (.ok (.d (.int num)), encSt ns pos big num :: T) := rfl
theorem se1 {i : Int} : setAt (.loc 0) (.d (.int 1)) (.d (.int i)) (encSt ns pos big num :: T) = some (encSt ns i big num :: T) := rfl
theorem se2 {i : Int} : setAt (.loc 0) (.d (.int 2)) (.d (.int i)) (encSt ns pos big num :: T) = some (encSt ns pos i num :: T) := rfl
theorem se3 {i : Int} : setAt (.loc 0) (.d (.int 3)) (.d (.int i)) (encSt ns pos big num :: T) = some (encSt ns pos big i :: T) := rfl
end
theorem ix_ints {S : Store} {ns : List Int} {p : Nat} (h : p < ns.length) : oIx (.d (.lst (ns.map D.int))) (.d (.int (p : Int))) S = some (.ok (.d (.int (ns[p]))), S) := by
  have e : atI (List.map W.d (ns.map D.int)) (p : Int) = some (W.d (.int ns[p])) := atI_nat (by simp [h])
  simp only [oIx, seqW, e]
theorem oRng1_eq {S : Store} {j : Int} (h : 0 ≤ j) (h2 : j ≤ 1000000) : oRng1 [.d (.int j)] S = some (.ok (rngW 0 j.toNat, none), S) := by
  have c : -(2 ^ 62) ≤ j ∧ j < 2 ^ 62 := by omega
  show (if -(2 ^ 62) ≤ j ∧ j < 2 ^ 62 then _ else _) = _
  rw [if_pos c]
theorem oRng1_nat {S : Store} {n : Nat} (h2 : n ≤ 1000000) : oRng1 [.d (.int (n : Int))] S = some (.ok ((List.range n).map fun (k : Nat) => W.d (.int (k : Int)), none), S) := by
  rw [oRng1_eq (by omega) (by omega)]
  have e : rngW 0 n = (List.range n).map fun (k : Nat) => W.d (.int (k : Int)) := by
    unfold rngW
    refine List.map_congr_left fun k _ => ?_
    rw [Int.zero_add]
  rw [Int.toNat_natCast, e]
end DL
set_option Elab.async false
set_option linter.all false
set_option maxRecDepth 100000
set_option maxHeartbeats 1000000
/-! DL12: loops over what is told, powers of positive fractions. -/
namespace DL
open PySem L2
/-- a loop that changes names alone: what holds after i rounds -/
theorem forL_inv {α : Type} {tf : Tg} {fb : FS} {S : Store} {wf : α → W} {P : Nat → DEnv → Prop} {xs : List α}
    (h : ∀ (i : Nat) (hi : i < xs.length) (δ : DEnv), P i δ → ∃ δ1 δ2, tf (wf xs[i]) δ S = some (δ1, S) ∧ fb δ1 S = some (.ok (.nx δ2), S) ∧ P (i + 1) δ2) :
    ∀ (k i : Nat) (δ : DEnv), i + k = xs.length → P i δ → ∃ δ', forL tf fb none ((xs.drop i).map wf) δ S = some (.ok (.nx δ'), S) ∧ P xs.length δ' := by
  intro k
  induction k with
  | zero =>
    intro i δ hi hp
    have e : xs.drop i = [] := List.drop_eq_nil_of_le (by omega)
    refine ⟨δ, ?_, by have : i = xs.length := by omega
                      rwa [this] at hp⟩
    rw [e]
    show forL tf fb none [] δ S = _
    unfold forL
    rw [if_pos okG_no]
  | succ k ih =>
    intro i δ hi hp
    have hlt : i < xs.length := by omega
    obtain ⟨δ1, δ2, h1, h2, h3⟩ := h i hlt δ hp
    obtain ⟨δ', e, hf⟩ := ih (i + 1) δ2 (by omega) h3
    refine ⟨δ', ?_, hf⟩
    rw [List.drop_eq_getElem_cons hlt]
    show forL tf fb none (wf xs[i] :: (xs.drop (i + 1)).map wf) δ S = _
    unfold forL
    rw [if_pos okG_no]
    simp only [h1, h2]
    exact e
theorem dFor_inv {α : Type} {fi : FI} {tf : Tg} {fb : FS} {S : Store} {wf : α → W} {P : Nat → DEnv → Prop} {xs : List α} {δ : DEnv} (hi : fi δ S = some (.ok (xs.map wf, none), S))
    (h : ∀ (i : Nat) (hi : i < xs.length) (δ : DEnv), P i δ → ∃ δ1 δ2, tf (wf xs[i]) δ S = some (δ1, S) ∧ fb δ1 S = some (.ok (.nx δ2), S) ∧ P (i + 1) δ2) (h0 : P 0 δ) :
    ∃ δ', dFor fi tf fb δ S = some (.ok (.nx δ'), S) ∧ P xs.length δ' := by
  obtain ⟨δ', e, hp⟩ := forL_inv (tf := tf) (fb := fb) (wf := wf) h xs.length 0 δ (by omega) h0
  refine ⟨δ', ?_, hp⟩
  unfold dFor
  rw [hi, sE_ok]
  exact e
/-! ### powers -/
theorem Bd.pow {n : Nat} {i : Int} (h : Bd n i) (m : Nat) : Bd (n * m + 1) (i ^ m) := by
  unfold Bd at *
  rw [Int.natAbs_pow]
  have h1 : i.natAbs ^ m ≤ (2 ^ n) ^ m := Nat.pow_le_pow_left (by omega) m
  rw [← Nat.pow_mul] at h1
  exact Nat.lt_of_le_of_lt h1 (Nat.pow_lt_pow_right (by decide) (by omega))
def fmul (p q : Int × Int) : Int × Int := (p.1 * q.1, p.2 * q.2)
def lo (p : Int × Int) : Int × Int := low p.1 p.2
def Pos (p : Int × Int) : Prop := 0 < p.1 ∧ 0 < p.2
def Eqv (p q : Int × Int) : Prop := p.1 * q.2 = q.1 * p.2
theorem ftimes_lo (p q : Int × Int) : ftimes p q = lo (fmul p q) := rfl
theorem Pos.mul {p q : Int × Int} (h : Pos p) (g : Pos q) : Pos (fmul p q) := ⟨Int.mul_pos h.1 g.1, Int.mul_pos h.2 g.2⟩
theorem pos_one : Pos (1, 1) := ⟨by decide, by decide⟩
theorem lo_eqv {p q : Int × Int} (h : Pos p) (g : Pos q) (e : Eqv p q) : lo p = lo q := low_eq h.2 g.2 e
theorem eqv_lo (p : Int × Int) : Eqv (lo p) p := low_mul
theorem lo_pos {p : Int × Int} (h : Pos p) : Pos (lo p) := by
  have e : (lo p).1 * p.2 = p.1 * (lo p).2 := low_mul
  have h2 : 0 < (lo p).2 := low_pos h.2
  refine ⟨?_, h2⟩
  have h3 : 0 < (lo p).1 * p.2 := by rw [e]; exact Int.mul_pos h.1 h2
  rcases Int.lt_trichotomy (lo p).1 0 with z | z | z
  · have := Int.mul_neg_of_neg_of_pos z h.2; omega
  · rw [z] at h3; omega
  · exact z
theorem Eqv.refl (p : Int × Int) : Eqv p p := rfl
theorem Eqv.symm {p q : Int × Int} (h : Eqv p q) : Eqv q p := Eq.symm h
theorem Eqv.trans {p q r : Int × Int} (hq : Pos q) (h : Eqv p q) (g : Eqv q r) : Eqv p r := by
  unfold Eqv at *
  have : (p.1 * r.2) * q.2 = (r.1 * p.2) * q.2 := by
    calc (p.1 * r.2) * q.2 = (p.1 * q.2) * r.2 := by grind
      _ = (q.1 * p.2) * r.2 := by rw [h]
      _ = (q.1 * r.2) * p.2 := by grind
      _ = (r.1 * q.2) * p.2 := by rw [g]
      _ = (r.1 * p.2) * q.2 := by grind
  exact Int.eq_of_mul_eq_mul_right (by have := hq.2; omega) this
theorem Eqv.mul {p q r s : Int × Int} (h : Eqv p q) (g : Eqv r s) : Eqv (fmul p r) (fmul q s) := by
  unfold Eqv fmul at *
  dsimp only
  calc p.1 * r.1 * (q.2 * s.2) = (p.1 * q.2) * (r.1 * s.2) := by grind
    _ = (q.1 * p.2) * (s.1 * r.2) := by rw [h, g]
    _ = q.1 * s.1 * (p.2 * r.2) := by grind
def pw (p : Int × Int) (n : Nat) : Int × Int := (p.1 ^ n, p.2 ^ n)
def sw (p : Int × Int) (k : Int) : Int × Int := if k < 0 then (p.2, p.1) else p
/-- a fraction to a power -/
def rz (p : Int × Int) (k : Int) : Int × Int := pw (sw p k) k.natAbs
theorem Pos.pow {p : Int × Int} (h : Pos p) (n : Nat) : Pos (pw p n) := ⟨Int.pow_pos h.1, Int.pow_pos h.2⟩
theorem Pos.sw {p : Int × Int} (h : Pos p) (k : Int) : Pos (sw p k) := by
  unfold DL.sw
  split
  · exact ⟨h.2, h.1⟩
  · exact h
theorem Pos.rz {p : Int × Int} (h : Pos p) (k : Int) : Pos (rz p k) := (h.sw k).pow _
theorem Eqv.pow {p q : Int × Int} (h : Eqv p q) (n : Nat) : Eqv (pw p n) (pw q n) := by
  unfold Eqv pw at *
  dsimp only
  rw [← Int.mul_pow, ← Int.mul_pow, h]
theorem Eqv.sw {p q : Int × Int} (h : Eqv p q) (k : Int) : Eqv (sw p k) (sw q k) := by
  unfold DL.sw
  split
  · unfold Eqv at *
    dsimp only
    rw [Int.mul_comm, ← h, Int.mul_comm]
  · exact h
theorem Eqv.rz {p q : Int × Int} (h : Eqv p q) (k : Int) : Eqv (rz p k) (rz q k) := (h.sw k).pow _
theorem rz_mul (p q : Int × Int) (k : Int) : rz (fmul p q) k = fmul (rz p k) (rz q k) := by
  unfold rz sw pw fmul
  split <;> simp [Int.mul_pow]
theorem rz_sub {p : Int × Int} {k : Int} {u v : Nat} (e : k = (u : Int) - (v : Int)) : Eqv (rz p k) (p.1 ^ u * p.2 ^ v, p.2 ^ u * p.1 ^ v) := by
  unfold Eqv rz sw pw
  split
  · obtain rfl : v = k.natAbs + u := by omega
    dsimp only
    rw [Int.pow_add, Int.pow_add]
    grind
  · obtain rfl : u = k.natAbs + v := by omega
    dsimp only
    rw [Int.pow_add, Int.pow_add]
    grind
theorem rz_add {p : Int × Int} (h : Pos p) (a b : Int) : Eqv (rz p (a + b)) (fmul (rz p a) (rz p b)) := by
  have key : ∀ a : Int, ∃ u v : Nat, a = (u : Int) - (v : Int) := fun a => ⟨a.toNat, (-a).toNat, by omega⟩
  obtain ⟨u, v, ha⟩ := key a
  obtain ⟨x, y, hb⟩ := key b
  have e1 := rz_sub (p := p) (k := a + b) (u := u + x) (v := v + y) (by omega)
  have e2 := Eqv.mul (rz_sub (p := p) ha) (rz_sub (p := p) hb)
  have pu : ∀ n, 0 < p.1 ^ n := fun n => Int.pow_pos h.1
  have pv : ∀ n, 0 < p.2 ^ n := fun n => Int.pow_pos h.2
  refine e1.trans ⟨Int.mul_pos (pu _) (pv _), Int.mul_pos (pv _) (pu _)⟩ ?_
  have e3 : ((p.1 ^ (u + x) * p.2 ^ (v + y), p.2 ^ (u + x) * p.1 ^ (v + y)) : Int × Int) = fmul (p.1 ^ u * p.2 ^ v, p.2 ^ u * p.1 ^ v) (p.1 ^ x * p.2 ^ y, p.2 ^ x * p.1 ^ y) := by
    unfold fmul
    dsimp only
    rw [Int.pow_add, Int.pow_add, Int.pow_add, Int.pow_add]
    refine Prod.ext ?_ ?_ <;> dsimp only <;> grind
  rw [e3]
  exact e2.symm
theorem rz_mulN (p : Int × Int) (k : Int) {m : Nat} (h : 0 < m) : rz p (k * (m : Int)) = pw (rz p k) m := by
  have hs : sw p (k * (m : Int)) = sw p k := by
    unfold sw
    have hm : (0 : Int) < (m : Int) := by omega
    by_cases hk : k < 0
    · rw [if_pos hk, if_pos (Int.mul_neg_of_neg_of_pos hk hm)]
    · have := Int.mul_nonneg (show 0 ≤ k by omega) (show (0 : Int) ≤ m by omega)
      rw [if_neg hk, if_neg (by omega)]
  unfold rz
  rw [hs, Int.natAbs_mul]
  unfold pw
  dsimp only
  rw [Int.natAbs_natCast, Int.pow_mul, Int.pow_mul]
theorem fr_pow {p : Int × Int} (h : Fr p) (n : Nat) : Fr (pw p n) := ⟨Int.pow_pos h.1, by
  have h2 : Nat.Coprime p.1.natAbs p.2.natAbs := h.2
  have := Nat.Coprime.pow n n h2
  show Nat.gcd (p.1 ^ n).natAbs (p.2 ^ n).natAbs = 1
  rw [Int.natAbs_pow, Int.natAbs_pow]
  exact this⟩
theorem fr_sw {p : Int × Int} (h : Fr p) (h1 : 0 < p.1) (k : Int) : Fr (sw p k) := by
  unfold sw
  split
  · exact ⟨h1, by have := h.2; rw [Int.gcd_comm]; exact this⟩
  · exact h
theorem fr_rz {p : Int × Int} (h : Fr p) (h1 : 0 < p.1) (k : Int) : Fr (rz p k) := fr_pow (fr_sw h h1 k) _
theorem bd_sw {n : Nat} {p : Int × Int} (a : Bd n p.1) (b : Bd n p.2) (k : Int) : Bd n (sw p k).1 ∧ Bd n (sw p k).2 := by
  unfold sw
  split
  · exact ⟨b, a⟩
  · exact ⟨a, b⟩
theorem frb_rz {n : Nat} {p : Int × Int} (h : FrB n p) (h1 : 0 < p.1) (k : Int) : FrB (n * k.natAbs + 1) (rz p k) := ⟨fr_rz h.fr h1 k, (bd_sw h.b1 h.b2 k).1.pow _, (bd_sw h.b1 h.b2 k).2.pow _⟩
theorem lo_pow {p : Int × Int} (h : Pos p) (n : Nat) : lo (pw p n) = pw (lo p) n := by
  have h1 := lo_pos h
  rw [lo_eqv (h.pow n) (h1.pow n) ((eqv_lo p).symm.pow n)]
  exact low_id (fr_pow (low_fr h.2) n)
/-! ### products -/
def prodR {α : Type} (f : α → Int × Int) : List α → Int × Int
  | [] => (1, 1)
  | x :: xs => fmul (f x) (prodR f xs)
theorem prodR_pos {α : Type} {f : α → Int × Int} : ∀ {xs : List α}, (∀ x ∈ xs, Pos (f x)) → Pos (prodR f xs)
  | [], _ => pos_one
  | x :: xs, h => (h x List.mem_cons_self).mul (prodR_pos fun y hy => h y (List.mem_cons_of_mem _ hy))
theorem prodR_eqv {α : Type} {f g : α → Int × Int} : ∀ {xs : List α}, (∀ x ∈ xs, Eqv (f x) (g x)) → Eqv (prodR f xs) (prodR g xs)
  | [], _ => rfl
  | x :: xs, h => (h x List.mem_cons_self).mul (prodR_eqv fun y hy => h y (List.mem_cons_of_mem _ hy))
theorem prodR_congr {α : Type} {f g : α → Int × Int} : ∀ {xs : List α}, (∀ x ∈ xs, f x = g x) → prodR f xs = prodR g xs
  | [], _ => rfl
  | x :: xs, h => by rw [prodR, prodR, h x List.mem_cons_self, prodR_congr fun y hy => h y (List.mem_cons_of_mem _ hy)]
theorem prodR_mul {α : Type} {f g : α → Int × Int} : ∀ {xs : List α}, prodR (fun x => fmul (f x) (g x)) xs = fmul (prodR f xs) (prodR g xs)
  | [] => rfl
  | x :: xs => by
    rw [prodR, prodR, prodR, prodR_mul]
    unfold fmul
    refine Prod.ext ?_ ?_ <;> dsimp only <;> grind
theorem prodR_pow {α : Type} {f : α → Int × Int} {n : Nat} : ∀ {xs : List α}, prodR (fun x => pw (f x) n) xs = pw (prodR f xs) n
  | [] => by simp [prodR, pw, Int.one_pow]
  | x :: xs => by
    rw [prodR, prodR, prodR_pow]
    unfold fmul pw
    dsimp only
    rw [Int.mul_pow, Int.mul_pow]
theorem prodR_map {α β : Type} {f : β → Int × Int} {g : α → β} : ∀ {xs : List α}, prodR f (xs.map g) = prodR (fun x => f (g x)) xs
  | [] => rfl
  | x :: xs => by rw [List.map_cons, prodR, prodR, prodR_map]
/-- the product as it is reckoned: in lowest terms after each factor -/
def fac {α : Type} (f : α → Int × Int) (xs : List α) : Int × Int := xs.foldl (fun a x => ftimes a (f x)) (1, 1)
theorem fmul_assoc (p q r : Int × Int) : fmul (fmul p q) r = fmul p (fmul q r) := by
  unfold fmul
  dsimp only
  rw [Int.mul_assoc, Int.mul_assoc]
theorem fac_go {α : Type} {f : α → Int × Int} : ∀ {xs : List α} {a : Int × Int}, Pos a → (∀ x ∈ xs, Pos (f x)) → xs.foldl (fun a x => ftimes a (f x)) (lo a) = lo (fmul a (prodR f xs))
  | [], a, ha, _ => by
    have : fmul a (1, 1) = a := by simp [fmul]
    show lo a = lo (fmul a (1, 1))
    rw [this]
  | x :: xs, a, ha, h => by
    have hx := h x List.mem_cons_self
    have e : ftimes (lo a) (f x) = lo (fmul a (f x)) := by
      rw [ftimes_lo]
      exact lo_eqv ((lo_pos ha).mul hx) (ha.mul hx) ((eqv_lo a).mul (Eqv.refl _))
    show xs.foldl (fun a x => ftimes a (f x)) (ftimes (lo a) (f x)) = _
    rw [e, fac_go (ha.mul hx) fun y hy => h y (List.mem_cons_of_mem _ hy), fmul_assoc]
    rfl
theorem fac_eq {α : Type} {f : α → Int × Int} {xs : List α} (h : ∀ x ∈ xs, Pos (f x)) : fac f xs = lo (prodR f xs) := by
  have e : lo (1, 1) = (1, 1) := low_id ⟨by decide, by decide⟩
  have e2 := fac_go (xs := xs) pos_one h
  rw [e] at e2
  have e3 : fmul (1, 1) (prodR f xs) = prodR f xs := by simp [fmul]
  rw [e3] at e2
  exact e2
/-- so many bits, after so many factors -/
theorem fac_bd {α : Type} {f : α → Int × Int} {n : Nat} : ∀ {xs : List α} {a : Int × Int} {m : Nat}, FrB m a → (∀ x ∈ xs, FrB n (f x)) → FrB (m + xs.length * n) (xs.foldl (fun a x => ftimes a (f x)) a)
  | [], a, m, ha, _ => by simpa using ha
  | x :: xs, a, m, ha, h => by
    have := fac_bd (xs := xs) (ftimes_ok ha (h x List.mem_cons_self)) fun y hy => h y (List.mem_cons_of_mem _ hy)
    refine this.up ?_
    simp [Nat.add_mul]
    omega
/-! ### exponents -/
def ex (s : Int) (e : Int × Int) : Int := e.1 * s / e.2
theorem ex_of {s : Int} {e : Int × Int} (h : 0 < e.2) {a : Int} (hk : e.1 * s = a * e.2) : ex s e = a := by
  unfold ex
  rw [hk, Int.mul_ediv_cancel _ (by omega)]
theorem ex_mul {s : Int} {e : Int × Int} (h : 0 < e.2) (hd : s % e.2 = 0) : e.1 * s = ex s e * e.2 := by
  unfold ex
  have : e.2 ∣ e.1 * s := Int.dvd_trans (Int.dvd_of_emod_eq_zero hd) (Int.dvd_mul_left _ _)
  exact (Int.ediv_mul_cancel this).symm
theorem ex_plus {s : Int} {e d : Int × Int} (he : Fr e) (hd : Fr d) (h1 : s % e.2 = 0) (h2 : s % d.2 = 0) : s % (fplus e d).2 = 0 ∧ ex s (fplus e d) = ex s e + ex s d := by
  have m1 := ex_mul he.1 h1
  have m2 := ex_mul hd.1 h2
  have hp : 0 < (fplus e d).2 := low_pos (pos2 he hd)
  have hf : Fr (fplus e d) := low_fr (pos2 he hd)
  have hl : (fplus e d).1 * (e.2 * d.2) = (e.1 * d.2 + d.1 * e.2) * (fplus e d).2 := low_mul
  generalize fplus e d = p at *
  generalize ex s e = a at *
  generalize ex s d = b at *
  have key : p.1 * s = (a + b) * p.2 := by
    have hq := pos2 he hd
    refine Int.eq_of_mul_eq_mul_right (show e.2 * d.2 ≠ 0 by omega) ?_
    calc p.1 * s * (e.2 * d.2) = (p.1 * (e.2 * d.2)) * s := by grind
      _ = ((e.1 * d.2 + d.1 * e.2) * p.2) * s := by rw [hl]
      _ = ((e.1 * s) * d.2 + (d.1 * s) * e.2) * p.2 := by grind
      _ = ((a * e.2) * d.2 + (b * d.2) * e.2) * p.2 := by rw [m1, m2]
      _ = (a + b) * p.2 * (e.2 * d.2) := by grind
  refine ⟨?_, ex_of hp key⟩
  have hdv : p.2 ∣ p.1 * s := ⟨a + b, by rw [key]; exact Int.mul_comm _ _⟩
  have h3 : p.2.natAbs ∣ p.1.natAbs * s.natAbs := by rw [← Int.natAbs_mul]; exact Int.natAbs_dvd_natAbs.mpr hdv
  have h4 : Nat.Coprime p.2.natAbs p.1.natAbs := by
    have : Nat.gcd p.1.natAbs p.2.natAbs = 1 := hf.2
    rw [Nat.Coprime, Nat.gcd_comm]; exact this
  exact Int.emod_eq_zero_of_dvd (Int.natAbs_dvd_natAbs.mp (Nat.Coprime.dvd_of_dvd_mul_left h4 h3))
theorem fminus_self {e : Int × Int} (h : Fr e) : fminus e e = (0, 1) := by
  have e1 : fminus e e = low 0 1 := by
    unfold fminus
    refine low_eq (pos2 h h) (by decide) ?_
    rw [Int.sub_self, Int.zero_mul, Int.zero_mul]
  rw [e1]
  exact low_id (p := (0, 1)) ⟨by decide, by decide⟩
theorem ex_scale {s : Int} {e : Int × Int} {m : Int} (h : 0 < e.2) (hd : s % e.2 = 0) : ex (s * m) e = ex s e * m := by
  have := ex_mul h hd
  refine ex_of h ?_
  calc e.1 * (s * m) = (e.1 * s) * m := by grind
    _ = (ex s e * e.2) * m := by rw [this]
    _ = ex s e * m * e.2 := by grind
/-! ### what is drawn -/
theorem all_encQ {ds : List D} {Q : Int × Int → Prop} (h : ∀ d ∈ ds, ∃ p, d = encF p ∧ Q p) : ∃ us : List (Int × Int), ds = us.map encF ∧ ∀ p ∈ us, Q p := by
  induction ds with
  | nil => exact ⟨[], rfl, by simp⟩
  | cons d ds ih =>
    obtain ⟨p, rfl, hp⟩ := h d List.mem_cons_self
    obtain ⟨us, rfl, hu⟩ := ih fun e he => h e (List.mem_cons_of_mem _ he)
    refine ⟨p :: us, rfl, fun q hq => ?_⟩
    rcases List.mem_cons.mp hq with rfl | hq
    · exact hp
    · exact hu q hq
theorem dLc_drawn {fi : FI} {tf : Tg} {fe : FE} {vs : List Nat} {δ : DEnv} {T : Store} {m : M} {b : Int} {Q : Int × Int → Prop} (b0 : 0 ≤ b) (b1 : b ≤ 1000) (hm : DrSt m)
    (hi : fi δ (m :: T) = some (.ok (rngW 0 b.toNat, none), m :: T)) (h : ∀ w m, DrSt m → ∃ δ1 p m', tf w (wipeE δ vs) (m :: T) = some (δ1, m :: T) ∧ fe δ1 (m :: T) = some (.ok (.d (encF p)), m' :: T) ∧ DrSt m' ∧ Q p) :
    ∃ (us : List (Int × Int)) (m' : M), dLc lcF fi tf ftYes fe vs δ (m :: T) = some (.ok (.d (.lst (us.map encF))), m' :: T) ∧ (us.length : Int) = b ∧ (∀ p ∈ us, Q p) ∧ DrSt m' := by
  have hl : (rngW 0 b.toNat).length = b.toNat := rngW_len
  obtain ⟨ds, m', e, hm', hds, hd⟩ := lcL_thread (tf := tf) (fe := fe) (δ := wipeE δ vs) (T := T) (Pm := DrSt) (Pd := fun d => ∃ p, d = encF p ∧ Q p) (ws := rngW 0 b.toNat) (acc := []) hm (by
    intro w _ m hm
    obtain ⟨δ1, p, m', e1, e2, e3, e4⟩ := h w m hm
    exact ⟨δ1, _, m', e1, e2, e3, p, rfl, e4⟩)
  obtain ⟨us, rfl, hu⟩ := all_encQ hd
  have hul : us.length = b.toNat := by rw [← hl, ← hds]; simp
  refine ⟨us, m', ?_, by omega, hu, hm'⟩
  have hz : (rngW 0 b.toNat).length ≤ sizeLine := Nat.le_trans (by rw [hl]; omega : _ ≤ 1000) (by decide)
  unfold dLc
  rw [hi, bind_ok]
  dsimp only
  rw [if_pos hz, e, bind_ok, List.nil_append]
  unfold lcF
  rw [pure?_map]
/-! ### products of products -/
theorem fac_map {α β : Type} (f : β → Int × Int) (g : α → β) (xs : List α) : fac f (xs.map g) = fac (fun x => f (g x)) xs := by
  unfold fac
  rw [List.foldl_map]
theorem fac_mul {α : Type} {a b c : α → Int × Int} {xs : List α} (ha : ∀ x ∈ xs, Pos (a x)) (hb : ∀ x ∈ xs, Pos (b x)) (hc : ∀ x ∈ xs, Pos (c x)) (h : ∀ x ∈ xs, Eqv (c x) (fmul (a x) (b x))) : fac c xs = ftimes (fac a xs) (fac b xs) := by
  have pa := prodR_pos ha
  have pb := prodR_pos hb
  rw [fac_eq ha, fac_eq hb, fac_eq hc, ftimes_lo]
  have e1 : Eqv (prodR c xs) (fmul (prodR a xs) (prodR b xs)) := by rw [← prodR_mul]; exact prodR_eqv h
  refine lo_eqv (prodR_pos hc) ((lo_pos pa).mul (lo_pos pb)) (e1.trans (pa.mul pb) ?_)
  exact ((eqv_lo _).mul (eqv_lo _)).symm
theorem fac_one {α : Type} {f : α → Int × Int} {xs : List α} (h : ∀ x ∈ xs, f x = (1, 1)) : fac f xs = (1, 1) := by
  rw [fac_eq fun x hx => by rw [h x hx]; exact pos_one, prodR_congr h]
  have e : prodR (fun _ : α => ((1, 1) : Int × Int)) xs = (1, 1) := by
    clear h
    induction xs with
    | nil => rfl
    | cons x xs ih => rw [prodR, ih]; rfl
  rw [e]
  exact low_id (p := (1, 1)) ⟨by decide, by decide⟩
theorem fac_pow {α : Type} {f g : α → Int × Int} {m : Nat} {xs : List α} (hf : ∀ x ∈ xs, Pos (f x)) (h : ∀ x ∈ xs, g x = pw (f x) m) : fac g xs = pw (fac f xs) m := by
  have hp := prodR_pos hf
  rw [fac_eq hf, fac_eq fun x hx => by rw [h x hx]; exact (hf x hx).pow m, prodR_congr h, prodR_pow, lo_pow hp]
theorem ftimes_pos {p q : Int × Int} (h : Pos p) (g : Pos q) : Pos (ftimes p q) := lo_pos (h.mul g)
theorem fac_pos {α : Type} {f : α → Int × Int} {xs : List α} (h : ∀ x ∈ xs, Pos (f x)) : Pos (fac f xs) := by rw [fac_eq h]; exact lo_pos (prodR_pos h)
end DL
set_option Elab.async false
set_option linter.all false
set_option maxRecDepth 100000
set_option maxHeartbeats 4000000
namespace P02
open PySem PySem.Spec PyProof.Rows L2 DL
def top (i : Nat) : Stmt := PySem.Challenge.pw_unitgrids_k02_whole_factors.main.body.getD i (.Pass ⟨0, 0, 0, 0⟩)
abbrev s_is_integer : Stmt := top 8
abbrev s_divisor : Stmt := top 9
abbrev s_lowest : Stmt := top 10
abbrev s_is_fraction : Stmt := top 11
abbrev s_is_above : Stmt := top 12
abbrev s_plus : Stmt := top 13
abbrev s_minus : Stmt := top 14
abbrev s_times : Stmt := top 15
abbrev s_raised : Stmt := top 16
abbrev s_is_unit_of : Stmt := top 17
abbrev s_is_any_unit : Stmt := top 18
abbrev s_unit_plus : Stmt := top 19
abbrev s_unit_minus : Stmt := top 20
abbrev s_check_unit : Stmt := top 22
abbrev s_check_two : Stmt := top 23
abbrev s_times_unit : Stmt := top 24
abbrev s_by_unit : Stmt := top 25
abbrev s_check_roots : Stmt := top 26
abbrev s_raw_factor : Stmt := top 27
abbrev s_factor : Stmt := top 28
abbrev s__law_is_integer : Stmt := top 30
abbrev s__law_state : Stmt := top 31
abbrev s__law_mixed : Stmt := top 32
abbrev s__law_draw : Stmt := top 33
abbrev s__law_low : Stmt := top 34
abbrev s__law_product : Stmt := top 35
abbrev s__law_exponent : Stmt := top 36
abbrev s__law_unit : Stmt := top 37
abbrev s__law_is_fraction : Stmt := top 38
abbrev s__law_root : Stmt := top 39
abbrev s__law_power : Stmt := top 40
abbrev s__law_due : Stmt := top 41
abbrev s_law : Stmt := top 42
/-! what each def does -/
noncomputable def F_is_integer (C : Str → Addr) : FS :=
  sRet (dAndV (dCB oIsi (aCons (dVar 0) (aCons (dC (.ty "int")) (aNil)))) (dNotV (dCB oIsi (aCons (dVar 0) (aCons (dC (.ty "bool")) (aNil))))))
noncomputable def g_is_integer (C : Str → Addr) : Fn := dDef giveS 1 1 (F_is_integer C)
noncomputable def F_divisor (C : Str → Addr) : FS :=
  sSeq (sPar 0 1 (dCB (b1 oAbs) (aCons (dVar 0) (aNil))) (dCB (b1 oAbs) (aCons (dVar 1) (aNil))))
    (sSeq (dWhile (dB (d2 oGt (dVar 1) (dC (.int 0)))) (sPar 0 1 (dVar 1) (d2 oMod (dVar 0) (dVar 1))))
    (sRet (dVar 0)))
noncomputable def g_divisor (C : Str → Addr) : Fn := dDef giveS 2 2 (F_divisor C)
noncomputable def F_lowest (C : Str → Addr) : FS :=
  sSeq (sSet 2 (dCall 2 (g_divisor C) (aCons (dVar 0) (aCons (dVar 1) (aNil)))))
    (sSeq (sIf (dB (d2 oLt (dVar 1) (dC (.int 0)))) (sSet 2 (d1 oNeg (dVar 2))) (sNx))
    (sRet (dTup (aCons (d2 oDiv (dVar 0) (dVar 2)) (aCons (d2 oDiv (dVar 1) (dVar 2)) (aNil))))))
noncomputable def g_lowest (C : Str → Addr) : Fn := dDef giveS 2 3 (F_lowest C)
noncomputable def F_is_fraction (C : Str → Addr) : FS :=
  sSeq (sIf (dOr (dNot (dTru (dCB oIsi (aCons (dVar 0) (aCons (dC (.ty "tuple")) (aNil)))))) (dOr (dB (d2 oNe (dCB (b1 oLen) (aCons (dVar 0) (aNil))) (dC (.int 2)))) (dOr (dNot (dTru (dCall 1 (g_is_integer C) (aCons (d2 oIx (dVar 0) (dC (.int 0))) (aNil))))) (dNot (dTru (dCall 1 (g_is_integer C) (aCons (d2 oIx (dVar 0) (dC (.int 1))) (aNil)))))))) (sRet (dC (.bl false))) (sNx))
    (sRet (dAndV (d2 oGe (d2 oIx (dVar 0) (dC (.int 1))) (dC (.int 1))) (d2 oEq (dCall 2 (g_divisor C) (aCons (d2 oIx (dVar 0) (dC (.int 0))) (aCons (d2 oIx (dVar 0) (dC (.int 1))) (aNil)))) (dC (.int 1)))))
noncomputable def g_is_fraction (C : Str → Addr) : Fn := dDef giveS 1 1 (F_is_fraction C)
noncomputable def F_is_above (C : Str → Addr) : FS :=
  sRet (dAndV (dCall 1 (g_is_fraction C) (aCons (dVar 0) (aNil))) (d2 oGt (d2 oIx (dVar 0) (dC (.int 0))) (dC (.int 0))))
noncomputable def g_is_above (C : Str → Addr) : Fn := dDef giveS 1 1 (F_is_above C)
noncomputable def F_plus (C : Str → Addr) : FS :=
  sRet (dCall 2 (g_lowest C) (aCons (d2 oAdd (d2 oMul (d2 oIx (dVar 0) (dC (.int 0))) (d2 oIx (dVar 1) (dC (.int 1)))) (d2 oMul (d2 oIx (dVar 1) (dC (.int 0))) (d2 oIx (dVar 0) (dC (.int 1))))) (aCons (d2 oMul (d2 oIx (dVar 0) (dC (.int 1))) (d2 oIx (dVar 1) (dC (.int 1)))) (aNil))))
noncomputable def g_plus (C : Str → Addr) : Fn := dDef giveS 2 2 (F_plus C)
noncomputable def F_minus (C : Str → Addr) : FS :=
  sRet (dCall 2 (g_lowest C) (aCons (d2 oSub (d2 oMul (d2 oIx (dVar 0) (dC (.int 0))) (d2 oIx (dVar 1) (dC (.int 1)))) (d2 oMul (d2 oIx (dVar 1) (dC (.int 0))) (d2 oIx (dVar 0) (dC (.int 1))))) (aCons (d2 oMul (d2 oIx (dVar 0) (dC (.int 1))) (d2 oIx (dVar 1) (dC (.int 1)))) (aNil))))
noncomputable def g_minus (C : Str → Addr) : Fn := dDef giveS 2 2 (F_minus C)
noncomputable def F_times (C : Str → Addr) : FS :=
  sRet (dCall 2 (g_lowest C) (aCons (d2 oMul (d2 oIx (dVar 0) (dC (.int 0))) (d2 oIx (dVar 1) (dC (.int 0)))) (aCons (d2 oMul (d2 oIx (dVar 0) (dC (.int 1))) (d2 oIx (dVar 1) (dC (.int 1)))) (aNil))))
noncomputable def g_times (C : Str → Addr) : Fn := dDef giveS 2 2 (F_times C)
noncomputable def F_raised (C : Str → Addr) : FS :=
  sSeq (sSet 2 (dIf (dB (d2 oGe (dVar 1) (dC (.int 0)))) (dVar 0) (dTup (aCons (d2 oIx (dVar 0) (dC (.int 1))) (aCons (d2 oIx (dVar 0) (dC (.int 0))) (aNil))))))
    (sSeq (sSet 3 (dCB (b1 oAbs) (aCons (dVar 1) (aNil))))
    (sSeq (sSet 4 (dTup (aCons (dC (.int 1)) (aCons (dC (.int 1)) (aNil)))))
    (sSeq (dWhile (dB (d2 oGt (dVar 3) (dC (.int 0)))) (sSeq (sIf (dB (d2 oEq (d2 oMod (dVar 3) (dC (.int 2))) (dC (.int 1)))) (sSet 4 (dTup (aCons (d2 oMul (d2 oIx (dVar 4) (dC (.int 0))) (d2 oIx (dVar 2) (dC (.int 0)))) (aCons (d2 oMul (d2 oIx (dVar 4) (dC (.int 1))) (d2 oIx (dVar 2) (dC (.int 1)))) (aNil))))) (sNx))
    (sSeq (sSet 2 (dTup (aCons (d2 oMul (d2 oIx (dVar 2) (dC (.int 0))) (d2 oIx (dVar 2) (dC (.int 0)))) (aCons (d2 oMul (d2 oIx (dVar 2) (dC (.int 1))) (d2 oIx (dVar 2) (dC (.int 1)))) (aNil)))))
    (sSet 3 (d2 oDiv (dVar 3) (dC (.int 2)))))))
    (sRet (dVar 4)))))
noncomputable def g_raised (C : Str → Addr) : Fn := dDef giveS 2 5 (F_raised C)
noncomputable def F_is_unit_of (C : Str → Addr) : FS :=
  sRet (dAndV (dCB oIsi (aCons (dVar 1) (aCons (dC (.ty "tuple")) (aNil)))) (dAndV (d2 oEq (dCB (b1 oLen) (aCons (dVar 1) (aNil))) (dVar 0)) (dCB (b1 oAll) (aCons (dLc lcF (dSeq (dVar 1)) (tgN 2) (ftYes) (dCall 1 (g_is_fraction C) (aCons (dVar 2) (aNil))) [2]) (aNil)))))
noncomputable def g_is_unit_of (C : Str → Addr) : Fn := dDef giveS 2 3 (F_is_unit_of C)
noncomputable def F_is_any_unit (C : Str → Addr) : FS :=
  sRet (dAndV (dCB oIsi (aCons (dVar 0) (aCons (dC (.ty "tuple")) (aNil)))) (dAndV (dChain oLe oLe (dC (.int 1)) (dCB (b1 oLen) (aCons (dVar 0) (aNil))) (dC (.int 3))) (dCall 2 (g_is_unit_of C) (aCons (dCB (b1 oLen) (aCons (dVar 0) (aNil))) (aCons (dVar 0) (aNil))))))
noncomputable def g_is_any_unit (C : Str → Addr) : Fn := dDef giveS 1 1 (F_is_any_unit C)
noncomputable def F_unit_plus (C : Str → Addr) : FS :=
  sRet (dCB (b1 oTuple) (aCons (dLc lcF (dIt oZip (aCons (dVar 0) (aCons (dVar 1) (aNil)))) (tgT 2 (tgCons (tgN 2) (tgCons (tgN 3) (tgNil)))) (ftYes) (dCall 2 (g_plus C) (aCons (dVar 2) (aCons (dVar 3) (aNil)))) [2, 3]) (aNil)))
noncomputable def g_unit_plus (C : Str → Addr) : Fn := dDef giveS 2 4 (F_unit_plus C)
noncomputable def F_unit_minus (C : Str → Addr) : FS :=
  sRet (dCB (b1 oTuple) (aCons (dLc lcF (dIt oZip (aCons (dVar 0) (aCons (dVar 1) (aNil)))) (tgT 2 (tgCons (tgN 2) (tgCons (tgN 3) (tgNil)))) (ftYes) (dCall 2 (g_minus C) (aCons (dVar 2) (aCons (dVar 3) (aNil)))) [2, 3]) (aNil)))
noncomputable def g_unit_minus (C : Str → Addr) : Fn := dDef giveS 2 4 (F_unit_minus C)
noncomputable def F_check_unit (C : Str → Addr) : FS :=
  sIf (dNot (dTru (dCall 1 (g_is_any_unit C) (aCons (dVar 0) (aNil))))) (sNever) (sNx)
noncomputable def g_check_unit (C : Str → Addr) : Fn := dDef giveS 1 1 (F_check_unit C)
noncomputable def F_check_two (C : Str → Addr) : FS :=
  sSeq (sDrop (dCall 1 (g_check_unit C) (aCons (dVar 0) (aNil))))
    (sSeq (sDrop (dCall 1 (g_check_unit C) (aCons (dVar 1) (aNil))))
    (sIf (dB (d2 oNe (dCB (b1 oLen) (aCons (dVar 0) (aNil))) (dCB (b1 oLen) (aCons (dVar 1) (aNil))))) (sNever) (sNx)))
noncomputable def g_check_two (C : Str → Addr) : Fn := dDef giveS 2 2 (F_check_two C)
noncomputable def F_times_unit (C : Str → Addr) : FS :=
  sSeq (sDrop (dCall 2 (g_check_two C) (aCons (dVar 0) (aCons (dVar 1) (aNil)))))
    (sRet (dCall 2 (g_unit_plus C) (aCons (dVar 0) (aCons (dVar 1) (aNil)))))
noncomputable def g_times_unit (C : Str → Addr) : Fn := dDef giveS 2 2 (F_times_unit C)
noncomputable def F_by_unit (C : Str → Addr) : FS :=
  sSeq (sDrop (dCall 2 (g_check_two C) (aCons (dVar 0) (aCons (dVar 1) (aNil)))))
    (sRet (dCall 2 (g_unit_minus C) (aCons (dVar 0) (aCons (dVar 1) (aNil)))))
noncomputable def g_by_unit (C : Str → Addr) : Fn := dDef giveS 2 2 (F_by_unit C)
noncomputable def F_check_roots (C : Str → Addr) : FS :=
  sIf (dOr (dNot (dTru (dCB oIsi (aCons (dVar 1) (aCons (dC (.ty "tuple")) (aNil)))))) (dOr (dB (d2 oNe (dCB (b1 oLen) (aCons (dVar 1) (aNil))) (dVar 0))) (dNot (dTru (dCB (b1 oAll) (aCons (dLc lcF (dSeq (dVar 1)) (tgN 2) (ftYes) (dCall 1 (g_is_above C) (aCons (dVar 2) (aNil))) [2]) (aNil))))))) (sNever) (sNx)
noncomputable def g_check_roots (C : Str → Addr) : Fn := dDef giveS 2 3 (F_check_roots C)
noncomputable def F_raw_factor (C : Str → Addr) : FS :=
  sSeq (sSet 3 (dTup (aCons (dC (.int 1)) (aCons (dC (.int 1)) (aNil)))))
    (sSeq (dFor (dIt oZip (aCons (dVar 0) (aCons (dVar 1) (aNil)))) (tgT 2 (tgCons (tgT 2 (tgCons (tgN 5) (tgCons (tgN 6) (tgNil)))) (tgCons (tgN 4) (tgNil)))) (sSet 3 (dCall 2 (g_times C) (aCons (dVar 3) (aCons (dCall 2 (g_raised C) (aCons (dVar 4) (aCons (d2 oDiv (d2 oMul (dVar 5) (dVar 2)) (dVar 6)) (aNil)))) (aNil))))))
    (sRet (dVar 3)))
noncomputable def g_raw_factor (C : Str → Addr) : Fn := dDef giveS 3 7 (F_raw_factor C)
noncomputable def F_factor (C : Str → Addr) : FS :=
  sSeq (sDrop (dCall 1 (g_check_unit C) (aCons (dVar 0) (aNil))))
    (sSeq (sDrop (dCall 2 (g_check_roots C) (aCons (dCB (b1 oLen) (aCons (dVar 0) (aNil))) (aCons (dVar 1) (aNil)))))
    (sSeq (sIf (dOr (dNot (dTru (dCall 1 (g_is_integer C) (aCons (dVar 2) (aNil))))) (dOr (dB (d2 oLt (dVar 2) (dC (.int 1)))) (dTru (dCB (b1 oAny) (aCons (dLc lcF (dSeq (dVar 0)) (tgT 2 (tgCons (tgN 3) (tgCons (tgN 4) (tgNil)))) (ftYes) (d2 oNe (d2 oMod (dVar 2) (dVar 4)) (dC (.int 0))) [3, 4]) (aNil)))))) (sNever) (sNx))
    (sRet (dCall 3 (g_raw_factor C) (aCons (dVar 0) (aCons (dVar 1) (aCons (dVar 2) (aNil))))))))
noncomputable def g_factor (C : Str → Addr) : Fn := dDef giveS 3 5 (F_factor C)
noncomputable def F__law_is_integer (C : Str → Addr) : FS :=
  sRet (dAndV (dCB oIsi (aCons (dVar 0) (aCons (dC (.ty "int")) (aNil)))) (dNotV (dCB oIsi (aCons (dVar 0) (aCons (dC (.ty "bool")) (aNil))))))
noncomputable def g__law_is_integer (C : Str → Addr) : Fn := dDef giveS 1 1 (F__law_is_integer C)
noncomputable def F__law_state (C : Str → Addr) : FS :=
  sRet (dLoc (aCons (dCB (b1 oList) (aCons (dVar 0) (aNil))) (aCons (dC (.int 0)) (aCons (dC (.int 0)) (aCons (d2 oAdd (dC (.int 1)) (dVar 1)) (aNil))))))
noncomputable def g__law_state (C : Str → Addr) : Fn := dDef giveM 2 2 (F__law_state C)
noncomputable def F__law_mixed (C : Str → Addr) : FS :=
  sSeq (sSet 0 (d2 oMod (dCB (b1 oInt) (aCons (d2 oAdd (d2 oAdd (d2 oMul (dVar 0) (dC (.int 48271))) (d2 oMul (d2 oMod (dCB (b1 oInt) (aCons (dVar 1) (aNil))) (dC (.int 1000003))) (dC (.int 16807)))) (dC (.int 30103))) (aNil))) (dC (.int 2147483647))))
    (sSeq (sSet 0 (d2 oMod (dCB (b1 oInt) (aCons (d2 oMul (dVar 0) (d2 oAdd (d2 oDiv (dVar 0) (dC (.int 1009))) (dC (.int 69621)))) (aNil))) (dC (.int 2147483629))))
    (sRet (d2 oMod (dCB (b1 oInt) (aCons (d2 oMul (dVar 0) (d2 oAdd (d2 oDiv (dVar 0) (dC (.int 2003))) (dC (.int 40692)))) (aNil))) (dC (.int 2147483399)))))
noncomputable def g__law_mixed (C : Str → Addr) : Fn := dDef giveS 2 2 (F__law_mixed C)
noncomputable def F__law_draw (C : Str → Addr) : FS :=
  sSeq (sIf (dAnd (dB (d2 oEq (d2 oIx (dVar 0) (dC (.int 2))) (dC (.int 0)))) (dB (d2 oLt (d2 oIx (dVar 0) (dC (.int 1))) (dCB (b1 oLen) (aCons (d2 oIx (dVar 0) (dC (.int 0))) (aNil)))))) (sSeq (sSet 2 (d2 oIx (d2 oIx (dVar 0) (dC (.int 0))) (d2 oIx (dVar 0) (dC (.int 1)))))
    (sSeq (sAsg (d2 oAdd (d2 oIx (dVar 0) (dC (.int 1))) (dC (.int 1))) (tgIx (dVar 0) (dC (.int 1))))
    (sIf (dB (d2 oGe (dVar 2) (d2 oPow (dC (.int 10)) (dC (.int 18))))) (sAsg (dVar 2) (tgIx (dVar 0) (dC (.int 2)))) (sAsg (dCall 2 (g__law_mixed C) (aCons (d2 oIx (dVar 0) (dC (.int 3))) (aCons (dVar 2) (aNil)))) (tgIx (dVar 0) (dC (.int 3))))))) (sNx))
    (sSeq (sIf (dB (d2 oGt (d2 oIx (dVar 0) (dC (.int 2))) (dC (.int 0)))) (sSeq (sSet 3 (d2 oMod (dCB (b1 oInt) (aCons (d2 oIx (dVar 0) (dC (.int 2))) (aNil))) (dVar 1)))
    (sSeq (sAsg (d2 oDiv (d2 oIx (dVar 0) (dC (.int 2))) (dVar 1)) (tgIx (dVar 0) (dC (.int 2))))
    (sRet (dVar 3)))) (sNx))
    (sSeq (sAsg (dCall 2 (g__law_mixed C) (aCons (d2 oIx (dVar 0) (dC (.int 3))) (aCons (d2 oIx (dVar 0) (dC (.int 1))) (aNil)))) (tgIx (dVar 0) (dC (.int 3))))
    (sRet (d2 oMod (d2 oDiv (dCB (b1 oInt) (aCons (d2 oIx (dVar 0) (dC (.int 3))) (aNil))) (dC (.int 16))) (dVar 1)))))
noncomputable def g__law_draw (C : Str → Addr) : Fn := dDef giveS 2 4 (F__law_draw C)
noncomputable def F__law_low (C : Str → Addr) : FS :=
  sSeq (sSet 2 (dCB (b1 oAbs) (aCons (dVar 0) (aNil))))
    (sSeq (sSet 3 (dCB (b1 oAbs) (aCons (dVar 1) (aNil))))
    (sSeq (dWhile (dB (d2 oGt (dVar 3) (dC (.int 0)))) (sSeq (sSet 4 (d2 oMod (dCB (b1 oInt) (aCons (dVar 2) (aNil))) (dVar 3)))
    (sSeq (sSet 2 (dVar 3))
    (sSet 3 (dVar 4)))))
    (sSeq (sIf (dB (d2 oLt (dVar 1) (dC (.int 0)))) (sSet 2 (d1 oNeg (dVar 2))) (sNx))
    (sRet (dTup (aCons (d2 oDiv (dVar 0) (dVar 2)) (aCons (d2 oDiv (dVar 1) (dVar 2)) (aNil))))))))
noncomputable def g__law_low (C : Str → Addr) : Fn := dDef giveS 2 5 (F__law_low C)
noncomputable def F__law_product (C : Str → Addr) : FS :=
  sRet (dCall 2 (g__law_low C) (aCons (d2 oMul (d2 oIx (dVar 0) (dC (.int 0))) (d2 oIx (dVar 1) (dC (.int 0)))) (aCons (d2 oMul (d2 oIx (dVar 0) (dC (.int 1))) (d2 oIx (dVar 1) (dC (.int 1)))) (aNil))))
noncomputable def g__law_product (C : Str → Addr) : Fn := dDef giveS 2 2 (F__law_product C)
noncomputable def F__law_exponent (C : Str → Addr) : FS :=
  sSeq (sSet 1 (d2 oAdd (dC (.int 1)) (dCall 2 (g__law_draw C) (aCons (dVar 0) (aCons (dC (.int 4)) (aNil))))))
    (sRet (dCall 2 (g__law_low C) (aCons (d2 oSub (dCall 2 (g__law_draw C) (aCons (dVar 0) (aCons (dC (.int 13)) (aNil)))) (dC (.int 6))) (aCons (dVar 1) (aNil)))))
noncomputable def g__law_exponent (C : Str → Addr) : Fn := dDef giveS 1 2 (F__law_exponent C)
noncomputable def F__law_unit (C : Str → Addr) : FS :=
  sRet (dCB (b1 oTuple) (aCons (dLc lcF (dIt oRng1 (aCons (dVar 1) (aNil))) (tgN 2) (ftYes) (dCall 1 (g__law_exponent C) (aCons (dVar 0) (aNil))) [2]) (aNil)))
noncomputable def g__law_unit (C : Str → Addr) : Fn := dDef giveS 2 3 (F__law_unit C)
noncomputable def F__law_is_fraction (C : Str → Addr) : FS :=
  sSeq (sIf (dOr (dNot (dTru (dCB oIsi (aCons (dVar 0) (aCons (dC (.ty "tuple")) (aNil)))))) (dB (d2 oNe (dCB (b1 oLen) (aCons (dVar 0) (aNil))) (dC (.int 2))))) (sRet (dC (.bl false))) (sNx))
    (sSeq (sIf (dOr (dNot (dTru (dCall 1 (g__law_is_integer C) (aCons (d2 oIx (dVar 0) (dC (.int 0))) (aNil))))) (dOr (dNot (dTru (dCall 1 (g__law_is_integer C) (aCons (d2 oIx (dVar 0) (dC (.int 1))) (aNil))))) (dB (d2 oLt (d2 oIx (dVar 0) (dC (.int 1))) (dC (.int 1)))))) (sRet (dC (.bl false))) (sNx))
    (sRet (d2 oEq (dCall 2 (g__law_low C) (aCons (d2 oIx (dVar 0) (dC (.int 0))) (aCons (d2 oIx (dVar 0) (dC (.int 1))) (aNil)))) (dVar 0))))
noncomputable def g__law_is_fraction (C : Str → Addr) : Fn := dDef giveS 1 1 (F__law_is_fraction C)
noncomputable def F__law_root (C : Str → Addr) : FS :=
  sSeq (sSet 2 (d2 oAdd (dC (.int 1)) (dCall 2 (g__law_draw C) (aCons (dVar 0) (aCons (dVar 1) (aNil))))))
    (sRet (dCall 2 (g__law_low C) (aCons (dVar 2) (aCons (d2 oAdd (dC (.int 1)) (dCall 2 (g__law_draw C) (aCons (dVar 0) (aCons (dVar 1) (aNil))))) (aNil)))))
noncomputable def g__law_root (C : Str → Addr) : Fn := dDef giveS 2 3 (F__law_root C)
noncomputable def F__law_power (C : Str → Addr) : FS :=
  sSeq (sSet 2 (dTup (aCons (dC (.int 1)) (aCons (dC (.int 1)) (aNil)))))
    (sSeq (sSet 3 (dVar 0))
    (sSeq (sIf (dB (d2 oLt (dVar 1) (dC (.int 0)))) (sSet 3 (dTup (aCons (d2 oIx (dVar 0) (dC (.int 1))) (aCons (d2 oIx (dVar 0) (dC (.int 0))) (aNil))))) (sNx))
    (sSeq (dFor (dIt oRng1 (aCons (dCB (b1 oAbs) (aCons (dVar 1) (aNil))) (aNil))) (tgN 4) (sSet 2 (dTup (aCons (d2 oMul (d2 oIx (dVar 2) (dC (.int 0))) (d2 oIx (dVar 3) (dC (.int 0)))) (aCons (d2 oMul (d2 oIx (dVar 2) (dC (.int 1))) (d2 oIx (dVar 3) (dC (.int 1)))) (aNil))))))
    (sRet (dVar 2)))))
noncomputable def g__law_power (C : Str → Addr) : Fn := dDef giveS 2 5 (F__law_power C)
noncomputable def F__law_due (C : Str → Addr) : FS :=
  sSeq (sSet 3 (dTup (aCons (dC (.int 1)) (aCons (dC (.int 1)) (aNil)))))
    (sSeq (dFor (dIt oRng1 (aCons (dCB (b1 oLen) (aCons (dVar 0) (aNil))) (aNil))) (tgN 4) (sSet 3 (dCall 2 (g__law_product C) (aCons (dVar 3) (aCons (dCall 2 (g__law_power C) (aCons (d2 oIx (dVar 1) (dVar 4)) (aCons (d2 oDiv (d2 oMul (d2 oIx (d2 oIx (dVar 0) (dVar 4)) (dC (.int 0))) (dVar 2)) (d2 oIx (d2 oIx (dVar 0) (dVar 4)) (dC (.int 1)))) (aNil)))) (aNil))))))
    (sRet (dVar 3)))
noncomputable def g__law_due (C : Str → Addr) : Fn := dDef giveS 3 5 (F__law_due C)
noncomputable def F_law (C : Str → Addr) : FS :=
  sSeq (sSet 1 (dCall 2 (g__law_state C) (aCons (dVar 0) (aCons (dC (.int 2)) (aNil)))))
    (sSeq (sSet 2 (d2 oAdd (dC (.int 1)) (dCall 2 (g__law_draw C) (aCons (dVar 1) (aCons (dC (.int 3)) (aNil))))))
    (sSeq (sSet 3 (d2 oEq (dCall 2 (g__law_draw C) (aCons (dVar 1) (aCons (dC (.int 3)) (aNil)))) (dC (.int 1))))
    (sSeq (sSet 4 (dC (.int 12)))
    (sSeq (sSet 5 (d2 oSub (d2 oPow (dC (.int 10)) (dC (.int 39))) (dC (.int 1))))
    (sSeq (sIf (dNot (dTru (dVar 3))) (sSeq (sSet 4 (d2 oMul (dC (.int 12)) (d2 oAdd (dC (.int 1)) (dCall 2 (g__law_draw C) (aCons (dVar 1) (aCons (dC (.int 2)) (aNil)))))))
    (sSet 5 (d2 oIx (dLst (aCons (dC (.int 1)) (aCons (dC (.int 10)) (aCons (dC (.int 100)) (aCons (dC (.int 1000)) (aNil)))))) (dCall 2 (g__law_draw C) (aCons (dVar 1) (aCons (dC (.int 4)) (aNil))))))) (sNx))
    (sSeq (sSet 6 (dCall 2 (g__law_unit C) (aCons (dVar 1) (aCons (dVar 2) (aNil)))))
    (sSeq (sSet 7 (dCall 2 (g__law_unit C) (aCons (dVar 1) (aCons (dVar 2) (aNil)))))
    (sSeq (sIf (dTru (dVar 3)) (sSet 6 (dCB (b1 oTuple) (aCons (dLc lcF (dSeq (dVar 6)) (tgN 15) (ftYes) (dIf (dB (d2 oEq (d2 oMod (dCB (b1 oInt) (aCons (d2 oIx (dVar 15) (dC (.int 0))) (aNil))) (dC (.int 2))) (dC (.int 1)))) (dTup (aCons (d2 oIx (dVar 15) (dC (.int 0))) (aCons (dC (.int 4)) (aNil)))) (dTup (aCons (dC (.int 0)) (aCons (dC (.int 1)) (aNil))))) [15]) (aNil)))) (sNx))
    (sSeq (sSet 8 (dCB (b1 oTuple) (aCons (dLc lcF (dIt oRng1 (aCons (dVar 2) (aNil))) (tgN 14) (ftYes) (dCall 2 (g__law_root C) (aCons (dVar 1) (aCons (dVar 5) (aNil)))) [14]) (aNil))))
    (sSeq (sSet 9 (dCB (b1 oTuple) (aCons (dLc lcF (dIt oRng1 (aCons (dVar 2) (aNil))) (tgN 14) (ftYes) (dCall 2 (g__law_root C) (aCons (dVar 1) (aCons (dC (.int 7)) (aNil)))) [14]) (aNil))))
    (sSeq (sSet 10 (d2 oAdd (dC (.int 1)) (dCall 2 (g__law_draw C) (aCons (dVar 1) (aCons (dC (.int 5)) (aNil))))))
    (sSeq (sSet 11 (dCall 3 (g_factor C) (aCons (dVar 6) (aCons (dVar 8) (aCons (dVar 4) (aNil))))))
    (sSeq (sIf (dOr (dNot (dTru (dCall 1 (g__law_is_fraction C) (aCons (dVar 11) (aNil))))) (dB (d2 oNe (dVar 11) (dCall 3 (g__law_due C) (aCons (dVar 6) (aCons (dVar 8) (aCons (dVar 4) (aNil)))))))) (sRet (dC (.bl false))) (sNx))
    (sSeq (sIf (dB (d2 oNe (dCall 3 (g_factor C) (aCons (dCall 2 (g_by_unit C) (aCons (dVar 6) (aCons (dVar 6) (aNil)))) (aCons (dVar 8) (aCons (dVar 4) (aNil))))) (dTup (aCons (dC (.int 1)) (aCons (dC (.int 1)) (aNil)))))) (sRet (dC (.bl false))) (sNx))
    (sSeq (sSet 12 (dCall 3 (g_factor C) (aCons (dVar 7) (aCons (dVar 9) (aCons (dVar 4) (aNil))))))
    (sSeq (sIf (dB (d2 oNe (dVar 12) (dCall 3 (g__law_due C) (aCons (dVar 7) (aCons (dVar 9) (aCons (dVar 4) (aNil))))))) (sRet (dC (.bl false))) (sNx))
    (sSeq (sIf (dB (d2 oNe (dCall 3 (g_factor C) (aCons (dCall 2 (g_times_unit C) (aCons (dVar 6) (aCons (dVar 7) (aNil)))) (aCons (dVar 9) (aCons (dVar 4) (aNil))))) (dCall 2 (g__law_product C) (aCons (dCall 3 (g_factor C) (aCons (dVar 6) (aCons (dVar 9) (aCons (dVar 4) (aNil))))) (aCons (dVar 12) (aNil)))))) (sRet (dC (.bl false))) (sNx))
    (sSeq (sSet 13 (dCB (b1 oTuple) (aCons (dLc lcF (dIt oRng1 (aCons (dVar 2) (aNil))) (tgN 14) (ftYes) (dCall 2 (g__law_product C) (aCons (d2 oIx (dVar 8) (dVar 14)) (aCons (d2 oIx (dVar 9) (dVar 14)) (aNil)))) [14]) (aNil))))
    (sSeq (sIf (dB (d2 oNe (dCall 3 (g_factor C) (aCons (dVar 6) (aCons (dVar 13) (aCons (dVar 4) (aNil))))) (dCall 2 (g__law_product C) (aCons (dVar 11) (aCons (dCall 3 (g_factor C) (aCons (dVar 6) (aCons (dVar 9) (aCons (dVar 4) (aNil))))) (aNil)))))) (sRet (dC (.bl false))) (sNx))
    (sRet (d2 oEq (dCall 3 (g_factor C) (aCons (dVar 7) (aCons (dVar 9) (aCons (d2 oMul (dVar 4) (dVar 10)) (aNil))))) (dCall 2 (g__law_power C) (aCons (dVar 12) (aCons (dVar 10) (aNil)))))))))))))))))))))))))
noncomputable def g_law (C : Str → Addr) : Fn := dDef giveS 1 16 (F_law C)
theorem q_is_integer (C : Str → Addr) (S : Store) (a0 : W) : g_is_integer C [a0] S = dEnd giveS S (F_is_integer C [some a0] S) := dDef_eq rfl
theorem q_divisor (C : Str → Addr) (S : Store) (a0 a1 : W) : g_divisor C [a0, a1] S = dEnd giveS S (F_divisor C [some a0, some a1] S) := dDef_eq rfl
theorem q_lowest (C : Str → Addr) (S : Store) (a0 a1 : W) : g_lowest C [a0, a1] S = dEnd giveS S (F_lowest C [some a0, some a1, none] S) := dDef_eq rfl
theorem q_is_fraction (C : Str → Addr) (S : Store) (a0 : W) : g_is_fraction C [a0] S = dEnd giveS S (F_is_fraction C [some a0] S) := dDef_eq rfl
theorem q_is_above (C : Str → Addr) (S : Store) (a0 : W) : g_is_above C [a0] S = dEnd giveS S (F_is_above C [some a0] S) := dDef_eq rfl
theorem q_plus (C : Str → Addr) (S : Store) (a0 a1 : W) : g_plus C [a0, a1] S = dEnd giveS S (F_plus C [some a0, some a1] S) := dDef_eq rfl
theorem q_minus (C : Str → Addr) (S : Store) (a0 a1 : W) : g_minus C [a0, a1] S = dEnd giveS S (F_minus C [some a0, some a1] S) := dDef_eq rfl
theorem q_times (C : Str → Addr) (S : Store) (a0 a1 : W) : g_times C [a0, a1] S = dEnd giveS S (F_times C [some a0, some a1] S) := dDef_eq rfl
theorem q_raised (C : Str → Addr) (S : Store) (a0 a1 : W) : g_raised C [a0, a1] S = dEnd giveS S (F_raised C [some a0, some a1, none, none, none] S) := dDef_eq rfl
theorem q_is_unit_of (C : Str → Addr) (S : Store) (a0 a1 : W) : g_is_unit_of C [a0, a1] S = dEnd giveS S (F_is_unit_of C [some a0, some a1, none] S) := dDef_eq rfl
theorem q_is_any_unit (C : Str → Addr) (S : Store) (a0 : W) : g_is_any_unit C [a0] S = dEnd giveS S (F_is_any_unit C [some a0] S) := dDef_eq rfl
theorem q_unit_plus (C : Str → Addr) (S : Store) (a0 a1 : W) : g_unit_plus C [a0, a1] S = dEnd giveS S (F_unit_plus C [some a0, some a1, none, none] S) := dDef_eq rfl
theorem q_unit_minus (C : Str → Addr) (S : Store) (a0 a1 : W) : g_unit_minus C [a0, a1] S = dEnd giveS S (F_unit_minus C [some a0, some a1, none, none] S) := dDef_eq rfl
theorem q_check_unit (C : Str → Addr) (S : Store) (a0 : W) : g_check_unit C [a0] S = dEnd giveS S (F_check_unit C [some a0] S) := dDef_eq rfl
theorem q_check_two (C : Str → Addr) (S : Store) (a0 a1 : W) : g_check_two C [a0, a1] S = dEnd giveS S (F_check_two C [some a0, some a1] S) := dDef_eq rfl
theorem q_times_unit (C : Str → Addr) (S : Store) (a0 a1 : W) : g_times_unit C [a0, a1] S = dEnd giveS S (F_times_unit C [some a0, some a1] S) := dDef_eq rfl
theorem q_by_unit (C : Str → Addr) (S : Store) (a0 a1 : W) : g_by_unit C [a0, a1] S = dEnd giveS S (F_by_unit C [some a0, some a1] S) := dDef_eq rfl
theorem q_check_roots (C : Str → Addr) (S : Store) (a0 a1 : W) : g_check_roots C [a0, a1] S = dEnd giveS S (F_check_roots C [some a0, some a1, none] S) := dDef_eq rfl
theorem q_raw_factor (C : Str → Addr) (S : Store) (a0 a1 a2 : W) : g_raw_factor C [a0, a1, a2] S = dEnd giveS S (F_raw_factor C [some a0, some a1, some a2, none, none, none, none] S) := dDef_eq rfl
theorem q_factor (C : Str → Addr) (S : Store) (a0 a1 a2 : W) : g_factor C [a0, a1, a2] S = dEnd giveS S (F_factor C [some a0, some a1, some a2, none, none] S) := dDef_eq rfl
theorem q__law_is_integer (C : Str → Addr) (S : Store) (a0 : W) : g__law_is_integer C [a0] S = dEnd giveS S (F__law_is_integer C [some a0] S) := dDef_eq rfl
theorem q__law_state (C : Str → Addr) (S : Store) (a0 a1 : W) : g__law_state C [a0, a1] S = dEnd giveM S (F__law_state C [some a0, some a1] S) := dDef_eq rfl
theorem q__law_mixed (C : Str → Addr) (S : Store) (a0 a1 : W) : g__law_mixed C [a0, a1] S = dEnd giveS S (F__law_mixed C [some a0, some a1] S) := dDef_eq rfl
theorem q__law_draw (C : Str → Addr) (S : Store) (a0 a1 : W) : g__law_draw C [a0, a1] S = dEnd giveS S (F__law_draw C [some a0, some a1, none, none] S) := dDef_eq rfl
theorem q__law_low (C : Str → Addr) (S : Store) (a0 a1 : W) : g__law_low C [a0, a1] S = dEnd giveS S (F__law_low C [some a0, some a1, none, none, none] S) := dDef_eq rfl
theorem q__law_product (C : Str → Addr) (S : Store) (a0 a1 : W) : g__law_product C [a0, a1] S = dEnd giveS S (F__law_product C [some a0, some a1] S) := dDef_eq rfl
theorem q__law_exponent (C : Str → Addr) (S : Store) (a0 : W) : g__law_exponent C [a0] S = dEnd giveS S (F__law_exponent C [some a0, none] S) := dDef_eq rfl
theorem q__law_unit (C : Str → Addr) (S : Store) (a0 a1 : W) : g__law_unit C [a0, a1] S = dEnd giveS S (F__law_unit C [some a0, some a1, none] S) := dDef_eq rfl
theorem q__law_is_fraction (C : Str → Addr) (S : Store) (a0 : W) : g__law_is_fraction C [a0] S = dEnd giveS S (F__law_is_fraction C [some a0] S) := dDef_eq rfl
theorem q__law_root (C : Str → Addr) (S : Store) (a0 a1 : W) : g__law_root C [a0, a1] S = dEnd giveS S (F__law_root C [some a0, some a1, none] S) := dDef_eq rfl
theorem q__law_power (C : Str → Addr) (S : Store) (a0 a1 : W) : g__law_power C [a0, a1] S = dEnd giveS S (F__law_power C [some a0, some a1, none, none, none] S) := dDef_eq rfl
theorem q__law_due (C : Str → Addr) (S : Store) (a0 a1 a2 : W) : g__law_due C [a0, a1, a2] S = dEnd giveS S (F__law_due C [some a0, some a1, some a2, none, none] S) := dDef_eq rfl
theorem q_law (C : Str → Addr) (S : Store) (a0 : W) : g_law C [a0] S = dEnd giveS S (F_law C [some a0, none, none, none, none, none, none, none, none, none, none, none, none, none, none, none] S) := dDef_eq rfl
end P02
set_option Elab.async false
set_option linter.all false
set_option maxRecDepth 100000
set_option maxHeartbeats 4000000
namespace P02
open PySem L2 DL
local macro_rules | `(tactic| walk_at "ev") => `(tactic| simp (config := { decide := false, implicitDefEqProofs := false }) only [bind_ok, bind_err, sE_ok, sE_err, bnd_nx, bnd_rt, bnd_bk, bnd_ct, bnd_err, sSeq_eq, dEnd_rt, dEnd_nx, dEnd_err, giveS_d, giveS_dA,
  dVar, dC, d2, d1, dB, dChain, dAnd, dOr, dNot, dTru, dAndV, dOrV, dNotV, dIf, aNil, aCons, dTup, dLst, dLoc, dCall, dCB, b1, sNx, sBk, sCt, sRet, sRetN, sDrop, sSet, sIf, sPar, truth_bl, asB_bl, oI0_eq, oIsi, ty_int, ty_bl, ty_str, ty_non, ty_tup, ty_lst, isi_ii, isi_ib, isi_it, isi_tt, isi_ti, isi_tb,
  oAbs, oInt, oNeg, oEq_int, oNe_int,
  List.map_cons, List.map_nil, List.length_cons, List.length_nil, List.getElem?_cons_zero, List.getElem?_cons_succ, List.set_cons_zero, List.set_cons_succ, List.cons_append, List.nil_append, List.append_nil, Nat.reduceAdd, Nat.reduceSub, Nat.zero_add, if_true, if_false, Bool.not_true, Bool.not_false, Bool.false_eq_true, reduceIte, List.replicate_zero, List.replicate_succ, Nat.sub_self, beq_self_eq_true, Int.reduceLT, Int.reduceLE, Int.reduceAdd, Int.reduceSub, Int.reduceMul, Int.reduceNeg, Int.reducePow, Int.reduceToNat, Int.reduceEq, Int.reduceBEq, decide_true, decide_false, mkTup1, mkTup2, mkTup3, mkLst2, mkLst5, ix20, ix21, ixF0, ixF1, len_tup, len_lst, lenF, tyF, lenU, tyU, oEqF, oEqU, oNeU, zipU, tgN, tgT, tgCons, tgNil, wipeE, Option.bind_some, tuple_lst, list_lst, st0, st1, st2, st3, se1, se2, se3, giveS_st, tgIx, sAsg, Option.map_some, oMod_eq])
local macro_rules | `(tactic| walk_at "evh") => `(tactic| simp (config := { decide := false, implicitDefEqProofs := false }) only [bind_ok, bind_err, sE_ok, sE_err, bnd_nx, bnd_rt, bnd_bk, bnd_ct, bnd_err, sSeq_eq, dEnd_rt, dEnd_nx, dEnd_err, giveS_d, giveS_dA,
  dVar, dC, d2, d1, dB, dChain, dAnd, dOr, dNot, dTru, dAndV, dOrV, dNotV, dIf, aNil, aCons, dTup, dLst, dLoc, dCall, dCB, b1, sNx, sBk, sCt, sRet, sRetN, sDrop, sSet, sIf, sPar, truth_bl, asB_bl, oI0_eq, oIsi, ty_int, ty_bl, ty_str, ty_non, ty_tup, ty_lst, isi_ii, isi_ib, isi_it, isi_tt, isi_ti, isi_tb,
  oAbs, oInt, oNeg, oEq_int, oNe_int,
  List.map_cons, List.map_nil, List.length_cons, List.length_nil, List.getElem?_cons_zero, List.getElem?_cons_succ, List.set_cons_zero, List.set_cons_succ, List.cons_append, List.nil_append, List.append_nil, Nat.reduceAdd, Nat.reduceSub, Nat.zero_add, if_true, if_false, Bool.not_true, Bool.not_false, Bool.false_eq_true, reduceIte, List.replicate_zero, List.replicate_succ, Nat.sub_self, beq_self_eq_true, Int.reduceLT, Int.reduceLE, Int.reduceAdd, Int.reduceSub, Int.reduceMul, Int.reduceNeg, Int.reducePow, Int.reduceToNat, Int.reduceEq, Int.reduceBEq, decide_true, decide_false, mkTup1, mkTup2, mkTup3, mkLst2, mkLst5, ix20, ix21, ixF0, ixF1, len_tup, len_lst, lenF, tyF, lenU, tyU, oEqF, oEqU, oNeU, zipU, tgN, tgT, tgCons, tgNil, wipeE, Option.bind_some, tuple_lst, list_lst, st0, st1, st2, st3, se1, se2, se3, giveS_st, tgIx, sAsg, Option.map_some, oMod_eq, oMul_eq, oDiv_eq, oPow_eq, *])


theorem e_is_integer (C : Str → Addr) (S : Store) (i : Int) : g_is_integer C [.d (.int i)] S = some (.ok (.d (.bl true)), S) := by
  rw [q_is_integer, F_is_integer]
  walk_at "ev"
theorem e_law_is_integer (C : Str → Addr) (S : Store) (i : Int) : g__law_is_integer C [.d (.int i)] S = some (.ok (.d (.bl true)), S) := by
  rw [q__law_is_integer, F__law_is_integer]
  walk_at "ev"
theorem e_divisor (C : Str → Addr) (S : Store) (a b : Int) : g_divisor C [.d (.int a), .d (.int b)] S = some (.ok (.d (.int (gcd a b))), S) := by
  rw [q_divisor, F_divisor]
  walk_at "ev"
  simp only [abs_nat, gcd_while]
  walk_at "ev"
  rfl
theorem e_lowest (C : Str → Addr) (S : Store) {t b : Int} {n : Nat} (h : 0 < b) (hb : Bd n b) (h0 : 0 < n) (h9 : n ≤ 9000) : g_lowest C [.d (.int t), .d (.int b)] S = some (.ok (.d (encF (low t b))), S) := by
  rw [q_lowest, F_lowest]
  have hn : ¬ b < 0 := by omega
  have c1 := gcd_div (t := t) h hb h0 h9 t
  have c2 := gcd_div (t := t) h hb h0 h9 b
  have e := e_divisor C
  have d1 := decide_eq_false hn
  walk_at "evh"
  rfl
theorem e_mixed (C : Str → Addr) {n : Int} (k : Int) (h0 : 0 ≤ n) (h1 : n < 2 ^ 32) : ∃ r, (∀ S, g__law_mixed C [.d (.int n), .d (.int k)] S = some (.ok (.d (.int r)), S)) ∧ 0 ≤ r ∧ r < 2147483399 := by
  have key : ∀ (i m : Int), 0 < m → 0 ≤ i % m ∧ i % m < m := fun i m h => ⟨Int.emod_nonneg i (by omega), Int.emod_lt_of_pos i h⟩
  obtain ⟨k0, k1⟩ := key k 1000003 (by decide)
  obtain ⟨a0, a1⟩ := key (n * 48271 + k % 1000003 * 16807 + 30103) 2147483647 (by decide)
  have c1 : CMulW n 48271 := (bd_nn (n := 32) h0 h1).mulOk (bd_nn (n := 16) (by decide) (by decide))
  have c2 : CMulW (k % 1000003) 16807 := (bd_nn (n := 20) k0 (by omega)).mulOk (bd_nn (n := 15) (by decide) (by decide))
  generalize ha : (n * 48271 + k % 1000003 * 16807 + 30103) % 2147483647 = a at a0 a1
  obtain ⟨b0, b1⟩ := key (a * (a / 1009 + 69621)) 2147483629 (by decide)
  have c3 : CDivW a 1009 := wide_div (b := 10) (by decide) (by decide) (by decide) (by decide)
  have c4 : CMulW a (a / 1009 + 69621) := (bd_nn (n := 32) a0 (by omega)).mulOk (bd_nn (n := 32) (by omega) (by omega))
  generalize hb : (a * (a / 1009 + 69621)) % 2147483629 = b at b0 b1
  have c5 : CDivW b 2003 := wide_div (b := 11) (by decide) (by decide) (by decide) (by decide)
  have c6 : CMulW b (b / 2003 + 40692) := (bd_nn (n := 32) b0 (by omega)).mulOk (bd_nn (n := 32) (by omega) (by omega))
  refine ⟨(b * (b / 2003 + 40692)) % 2147483399, fun S => ?_, key _ _ (by decide)⟩
  rw [q__law_mixed, F__law_mixed]
  clear h0 h1 key k0 k1 a0 a1 b0 b1
  walk_at "evh"
theorem e_draw (C : Str → Addr) (T : Store) {m : M} (hm : DrSt m) {k : Int} (hk : 0 < k) (hkb : Bd 200 k) : ∃ r m', g__law_draw C [.loc 0, .d (.int k)] (m :: T) = some (.ok (.d (.int r)), m' :: T) ∧ 0 ≤ r ∧ r < k ∧ DrSt m' := by
  obtain ⟨ns, pos, big, num, rfl, hp, hb, hn0, hn1, hl⟩ := hm
  have c16 : ∀ i : Int, CDivW i 16 := fun i => wide_div (b := 5) (by decide) (by decide) (by decide) (by decide)
  have ck : ∀ i : Int, CDivW i k := fun i => wide_div hk hkb (by decide) (by decide)
  have p18 : CPow 10 18 := by decide
  have fin : ∀ i : Int, 0 ≤ i % k ∧ i % k < k := fun i => ⟨Int.emod_nonneg i (by omega), Int.emod_lt_of_pos i hk⟩
  have em := fun i : Int => e_mixed C i hn0 hn1
  rw [q__law_draw, F__law_draw]
  by_cases h1 : big = 0 ∧ pos < ns.length
  · obtain ⟨rfl, h2⟩ := h1
    have d2 : decide ((pos : Int) < ((ns.map D.int).length : Int)) = true := by simp [h2]
    have ix := fun S => ix_ints (S := S) h2
    generalize ht : ns[pos] = t at ix
    by_cases h3 : t ≥ 1000000000000000000
    · have d3 : decide ((1000000000000000000 : Int) ≤ t) = true := by simpa using h3
      have d4 : decide ((0 : Int) < t) = true := by simp; omega
      refine ⟨t % k, encSt ns ((pos + 1 : Nat) : Int) (t / k) num, ?_, (fin t).1, (fin t).2, ns, pos + 1, t / k, num, rfl, h2, Int.ediv_nonneg (by omega) (by omega), hn0, hn1, hl⟩
      have e1 : ((pos + 1 : Nat) : Int) = (pos : Int) + 1 := by simp
      rw [e1]
      clear fin em ht hn0 hn1 hp hb hl h2 h3
      walk_at "evh"
    · have d3 : decide ((1000000000000000000 : Int) ≤ t) = false := by simp; omega
      obtain ⟨r, er, r0, r1⟩ := em t
      obtain ⟨r2, er2, r20, r21⟩ := e_mixed C ((pos : Int) + 1) r0 (by omega)
      refine ⟨(r2 / 16) % k, encSt ns ((pos + 1 : Nat) : Int) 0 r2, ?_, (fin _).1, (fin _).2, ns, pos + 1, 0, r2, rfl, h2, by omega, r20, by omega, hl⟩
      have e1 : ((pos + 1 : Nat) : Int) = (pos : Int) + 1 := by simp
      rw [e1]
      clear fin em ht hn0 hn1 hp hb hl h2 h3 r0 r1 r20 r21
      walk_at "evh"
  · have d1 : (if (big == 0) = true then decide ((pos : Int) < ((ns.map D.int).length : Int)) else false) = false := by
      by_cases hz : big = 0
      · have : ¬ pos < ns.length := fun z => h1 ⟨hz, z⟩
        simp [hz]; omega
      · simp [hz]
    by_cases h4 : 0 < big
    · have d4 : decide ((0 : Int) < big) = true := by simpa using h4
      refine ⟨big % k, encSt ns pos (big / k) num, ?_, (fin _).1, (fin _).2, ns, pos, big / k, num, rfl, hp, Int.ediv_nonneg (by omega) (by omega), hn0, hn1, hl⟩
      have d5 : (big == 0) = false := by simp; omega
      clear fin em hn0 hn1 hp hb hl h1 h4 d1
      walk_at "evh"
    · have hz : big = 0 := by omega
      subst hz
      have d5 : decide ((pos : Int) < ((ns.map D.int).length : Int)) = false := by simpa using d1
      obtain ⟨r2, er2, r20, r21⟩ := em (pos : Int)
      refine ⟨(r2 / 16) % k, encSt ns pos 0 r2, ?_, (fin _).1, (fin _).2, ns, pos, 0, r2, rfl, hp, by omega, r20, by omega, hl⟩
      clear fin em hn0 hn1 hp hb hl h1 h4 d1 r20 r21
      walk_at "evh"
theorem gcd5_loop {S : Store} {t b : Option W} : ∀ (n : Nat) (x y : Nat) (r : Option W), y ≤ n → ∃ r', whileN (dB (d2 oGt (dVar 3) (dC (.int 0)))) (sSeq (sSet 4 (d2 oMod (dCB (b1 oInt) (aCons (dVar 2) (aNil))) (dVar 3))) (sSeq (sSet 2 (dVar 3)) (sSet 3 (dVar 4)))) (n + 1) [t, b, some (.d (.int x)), some (.d (.int y)), r] S = some (.ok (.nx [t, b, some (.d (.int (Nat.gcd x y : Nat))), some (.d (.int 0)), r']), S)
  | n, x, 0, r, _ => ⟨r, by simp [whileN, sE, dB, d2, dVar, dC, Rs.bind, oI0, asB]⟩
  | 0, x, y + 1, r, h => by omega
  | n + 1, x, y + 1, r, h => by
    have hlt : x % (y + 1) < y + 1 := Nat.mod_lt x (by omega)
    obtain ⟨r', ih⟩ := gcd5_loop (S := S) (t := t) (b := b) n (y + 1) (x % (y + 1)) (some (.d (.int ((x % (y + 1) : Nat) : Int)))) (by omega)
    have hpos : (0 : Int) < ((y + 1 : Nat) : Int) := by omega
    refine ⟨r', ?_⟩
    rw [whileN]
    have e1 : (dB (d2 oGt (dVar 3) (dC (.int 0)))) [t, b, some (.d (.int (x : Int))), some (.d (.int ((y + 1 : Nat) : Int))), r] S = some (.ok true, S) := by
      simp only [dB, d2, dVar, dC, Rs.bind, oI0, asB, List.getElem?_cons_succ, List.getElem?_cons_zero, decide_eq_true hpos]
    have e0 : ((x % (y + 1) : Nat) : Int) = (x : Int) % ((y + 1 : Nat) : Int) := rfl
    have e2 : (sSeq (sSet 4 (d2 oMod (dCB (b1 oInt) (aCons (dVar 2) (aNil))) (dVar 3))) (sSeq (sSet 2 (dVar 3)) (sSet 3 (dVar 4)))) [t, b, some (.d (.int (x : Int))), some (.d (.int ((y + 1 : Nat) : Int))), r] S = some (.ok (.nx [t, b, some (.d (.int ((y + 1 : Nat) : Int))), some (.d (.int ((x % (y + 1) : Nat) : Int))), some (.d (.int ((x % (y + 1) : Nat) : Int)))]), S) := by
      rw [e0]
      generalize ((y + 1 : Nat) : Int) = z at hpos
      walk_at "evh"
    rw [e1]
    simp only [sE, if_true, e2]
    rw [ih]
    have e3 : Nat.gcd (y + 1) (x % (y + 1)) = Nat.gcd x (y + 1) := by rw [Nat.gcd_comm, ← Nat.gcd_rec, Nat.gcd_comm]
    rw [e3]
theorem e_law_low (C : Str → Addr) (S : Store) {t b : Int} {n : Nat} (h : 0 < b) (hb : Bd n b) (h0 : 0 < n) (h9 : n ≤ 9000) : g__law_low C [.d (.int t), .d (.int b)] S = some (.ok (.d (encF (low t b))), S) := by
  rw [q__law_low, F__law_low]
  have hn : ¬ b < 0 := by omega
  have c1 := gcd_div (t := t) h hb h0 h9 t
  have c2 := gcd_div (t := t) h hb h0 h9 b
  have d1 := decide_eq_false hn
  obtain ⟨r', hw⟩ := gcd5_loop (S := S) (t := some (.d (.int t))) (b := some (.d (.int b))) b.natAbs t.natAbs b.natAbs none (Nat.le_refl _)
  have hw2 := dWhile_of hw
  have eg : ((Nat.gcd t.natAbs b.natAbs : Nat) : Int) = gcd t b := rfl
  rw [eg] at hw2
  have a1 := abs_nat t
  have a2 := abs_nat b
  clear hw hn h hb h0 h9 eg
  walk_at "evh"
  rfl
theorem e_law_product (C : Str → Addr) (S : Store) {n m : Nat} {x y : Int × Int} (hx : FrB n x) (hy : FrB m y) (h0 : 0 < n := by decide) (h1 : 0 < m := by decide) (h9 : n + m ≤ 8000 := by decide) : g__law_product C [.d (encF x), .d (encF y)] S = some (.ok (.d (encF (ftimes x y))), S) := by
  rw [q__law_product, F__law_product]
  have c1 := hx.b1.mulOk hy.b1 h0 h1 (by omega)
  have c3 := hx.b2.mulOk hy.b2 h0 h1 (by omega)
  have e := fun S => e_law_low C S (t := x.1 * y.1) (pos2 hx.fr hy.fr) (hx.b2.mul hy.b2) (by omega) (by omega)
  walk_at "evh"
  rfl
theorem e_plus (C : Str → Addr) (S : Store) {n m : Nat} {x y : Int × Int} (hx : FrB n x) (hy : FrB m y) (h0 : 0 < n := by decide) (h1 : 0 < m := by decide) (h9 : n + m ≤ 8000 := by decide) : g_plus C [.d (encF x), .d (encF y)] S = some (.ok (.d (encF (fplus x y))), S) := by
  rw [q_plus, F_plus]
  have c1 := hx.b1.mulOk hy.b2 h0 h1 (by omega)
  have c2 := hy.b1.mulOk hx.b2 h1 h0 (by omega)
  have c3 := hx.b2.mulOk hy.b2 h0 h1 (by omega)
  have e := fun S => e_lowest C S (t := x.1 * y.2 + y.1 * x.2) (pos2 hx.fr hy.fr) (hx.b2.mul hy.b2) (by omega) (by omega)
  walk_at "evh"
  rfl
theorem e_minus (C : Str → Addr) (S : Store) {n m : Nat} {x y : Int × Int} (hx : FrB n x) (hy : FrB m y) (h0 : 0 < n := by decide) (h1 : 0 < m := by decide) (h9 : n + m ≤ 8000 := by decide) : g_minus C [.d (encF x), .d (encF y)] S = some (.ok (.d (encF (fminus x y))), S) := by
  rw [q_minus, F_minus]
  have c1 := hx.b1.mulOk hy.b2 h0 h1 (by omega)
  have c2 := hy.b1.mulOk hx.b2 h1 h0 (by omega)
  have c3 := hx.b2.mulOk hy.b2 h0 h1 (by omega)
  have e := fun S => e_lowest C S (t := x.1 * y.2 - y.1 * x.2) (pos2 hx.fr hy.fr) (hx.b2.mul hy.b2) (by omega) (by omega)
  walk_at "evh"
  rfl
theorem e_times (C : Str → Addr) (S : Store) {n m : Nat} {x y : Int × Int} (hx : FrB n x) (hy : FrB m y) (h0 : 0 < n := by decide) (h1 : 0 < m := by decide) (h9 : n + m ≤ 8000 := by decide) : g_times C [.d (encF x), .d (encF y)] S = some (.ok (.d (encF (ftimes x y))), S) := by
  rw [q_times, F_times]
  have c1 := hx.b1.mulOk hy.b1 h0 h1 (by omega)
  have c3 := hx.b2.mulOk hy.b2 h0 h1 (by omega)
  have e := fun S => e_lowest C S (t := x.1 * y.1) (pos2 hx.fr hy.fr) (hx.b2.mul hy.b2) (by omega) (by omega)
  walk_at "evh"
  rfl
theorem e_is_fraction (C : Str → Addr) (S : Store) {p : Int × Int} (h : Fr p) : g_is_fraction C [.d (encF p)] S = some (.ok (.d (.bl true)), S) := by
  rw [q_is_fraction, F_is_fraction]
  have e1 := e_is_integer C
  have e2 := e_divisor C
  have d1 : decide ((1 : Int) ≤ p.2) = true := by have := h.1; simp; omega
  have g1 : gcd p.1 p.2 = 1 := by unfold gcd; rw [h.2]; rfl
  clear h
  walk_at "evh"
theorem e_law_is_fraction (C : Str → Addr) (S : Store) {n : Nat} {p : Int × Int} (h : FrB n p) (h0 : 0 < n := by decide) (h9 : n ≤ 9000 := by decide) : g__law_is_fraction C [.d (encF p)] S = some (.ok (.d (.bl true)), S) := by
  rw [q__law_is_fraction, F__law_is_fraction]
  have e1 := e_law_is_integer C
  have e2 := fun S => e_law_low C S (t := p.1) h.fr.1 h.b2 h0 h9
  have d1 : decide (p.2 < (1 : Int)) = false := by have := h.fr.1; simp; omega
  have g1 := low_id h.fr
  clear h h0 h9
  walk_at "evh"
theorem all_true {α : Type} {xs : List α} : (xs.all fun _ => true) = true := by simp
theorem e_is_unit_of (C : Str → Addr) (S : Store) {us : List (Int × Int)} (h : ∀ p ∈ us, Fr p) (hl : us.length ≤ 3) : g_is_unit_of C [.d (.int (us.length : Int)), .d (encU us)] S = some (.ok (.d (.bl true)), S) := by
  rw [q_is_unit_of, F_is_unit_of]
  have e : ∀ δ2, dLc lcF (dSeq (dVar 1)) (tgN 2) ftYes (dCall 1 (g_is_fraction C) (aCons (dVar 2) aNil)) [2] [some (.d (.int (us.length : Int))), some (.d (encU us)), δ2] S = some (.ok (.d (.lst (us.map fun _ => D.bl true))), S) := fun δ2 =>
    dLc_map (wf := fun p => W.d (encF p)) (f := fun _ => D.bl true) (seqU rfl) (by omega) fun p hp => by
      have e := e_is_fraction C S (h p hp)
      refine ⟨_, rfl, ?_⟩
      walk_at "evh"
  have a := all_lst (S := S) (fun _ => true) us
  have t := all_true (xs := us)
  clear h hl
  walk_at "evh"
theorem e_is_any_unit (C : Str → Addr) (S : Store) {n : Nat} {us : List (Int × Int)} (h : UnB n us) : g_is_any_unit C [.d (encU us)] S = some (.ok (.d (.bl true)), S) := by
  have e := e_is_unit_of C S h.frs h.l3
  have d1 : decide ((1 : Int) ≤ (us.length : Int)) = true := by have := h.l1; simp; omega
  have d2 : decide ((us.length : Int) ≤ (3 : Int)) = true := by have := h.l3; simp; omega
  rw [q_is_any_unit, F_is_any_unit]
  clear h
  walk_at "evh"
theorem e_check_unit (C : Str → Addr) (S : Store) {n : Nat} {us : List (Int × Int)} (h : UnB n us) : g_check_unit C [.d (encU us)] S = some (.ok (.d .non), S) := by
  have e := e_is_any_unit C S h
  rw [q_check_unit, F_check_unit]
  clear h
  walk_at "evh"
theorem e_check_two (C : Str → Addr) (S : Store) {n m : Nat} {us vs : List (Int × Int)} (h : UnB n us) (g : UnB m vs) (hl : us.length = vs.length) : g_check_two C [.d (encU us), .d (encU vs)] S = some (.ok (.d .non), S) := by
  have e := e_check_unit C S h
  have e2 := e_check_unit C S g
  rw [q_check_two, F_check_two]
  have b1 : (((us.length : Int)) == (vs.length : Int)) = true := by simp [hl]
  clear h g hl
  walk_at "evh"
theorem zip_len {us vs : List (Int × Int)} (h : us.length ≤ 3) : (us.zip vs).length ≤ 1000 := by simp [List.length_zip]; omega
theorem e_unit_plus (C : Str → Addr) (S : Store) {n m : Nat} {us vs : List (Int × Int)} (h : UnB n us) (g : UnB m vs) (h0 : 0 < n := by decide) (h1 : 0 < m := by decide) (h9 : n + m ≤ 8000 := by decide) : g_unit_plus C [.d (encU us), .d (encU vs)] S = some (.ok (.d (encU (uplus us vs))), S) := by
  rw [q_unit_plus, F_unit_plus]
  have e : dLc lcF (dIt oZip (aCons (dVar 0) (aCons (dVar 1) (aNil)))) (tgT 2 (tgCons (tgN 2) (tgCons (tgN 3) (tgNil)))) (ftYes) (dCall 2 (g_plus C) (aCons (dVar 2) (aCons (dVar 3) (aNil)))) [2, 3] [some (.d (encU us)), some (.d (encU vs)), none, none] S = some (.ok (.d (.lst ((us.zip vs).map fun p => encF (fplus p.1 p.2)))), S) := by
    refine dLc_map (wf := fun p => W.d (.tup [encF p.1, encF p.2])) (f := fun p => encF (fplus p.1 p.2)) ?_ (zip_len h.l3) fun p hp => ?_
    · unfold dIt
      walk_at "ev"
    have z := zip_mem h g hp
    have e := e_plus C S z.1 z.2 h0 h1 h9
    refine ⟨_, rfl, ?_⟩
    clear z h g h0 h1 h9 hp
    walk_at "evh"
  have eu : D.tup ((us.zip vs).map fun p => encF (fplus p.1 p.2)) = encU (uplus us vs) := by simp [encU, uplus, Function.comp_def]
  clear h g h0 h1 h9
  walk_at "evh"
theorem e_unit_minus (C : Str → Addr) (S : Store) {n m : Nat} {us vs : List (Int × Int)} (h : UnB n us) (g : UnB m vs) (h0 : 0 < n := by decide) (h1 : 0 < m := by decide) (h9 : n + m ≤ 8000 := by decide) : g_unit_minus C [.d (encU us), .d (encU vs)] S = some (.ok (.d (encU (uminus us vs))), S) := by
  rw [q_unit_minus, F_unit_minus]
  have e : dLc lcF (dIt oZip (aCons (dVar 0) (aCons (dVar 1) (aNil)))) (tgT 2 (tgCons (tgN 2) (tgCons (tgN 3) (tgNil)))) (ftYes) (dCall 2 (g_minus C) (aCons (dVar 2) (aCons (dVar 3) (aNil)))) [2, 3] [some (.d (encU us)), some (.d (encU vs)), none, none] S = some (.ok (.d (.lst ((us.zip vs).map fun p => encF (fminus p.1 p.2)))), S) := by
    refine dLc_map (wf := fun p => W.d (.tup [encF p.1, encF p.2])) (f := fun p => encF (fminus p.1 p.2)) ?_ (zip_len h.l3) fun p hp => ?_
    · unfold dIt
      walk_at "ev"
    have z := zip_mem h g hp
    have e := e_minus C S z.1 z.2 h0 h1 h9
    refine ⟨_, rfl, ?_⟩
    clear z h g h0 h1 h9 hp
    walk_at "evh"
  have eu : D.tup ((us.zip vs).map fun p => encF (fminus p.1 p.2)) = encU (uminus us vs) := by simp [encU, uminus, Function.comp_def]
  clear h g h0 h1 h9
  walk_at "evh"
theorem e_times_unit (C : Str → Addr) (S : Store) {n m : Nat} {us vs : List (Int × Int)} (h : UnB n us) (g : UnB m vs) (hl : us.length = vs.length) (h0 : 0 < n := by decide) (h1 : 0 < m := by decide) (h9 : n + m ≤ 8000 := by decide) : g_times_unit C [.d (encU us), .d (encU vs)] S = some (.ok (.d (encU (uplus us vs))), S) := by
  have e1 := e_check_two C S h g hl
  have e2 := e_unit_plus C S h g h0 h1 h9
  rw [q_times_unit, F_times_unit]
  clear h g h0 h1 h9 hl
  walk_at "evh"
theorem e_by_unit (C : Str → Addr) (S : Store) {n m : Nat} {us vs : List (Int × Int)} (h : UnB n us) (g : UnB m vs) (hl : us.length = vs.length) (h0 : 0 < n := by decide) (h1 : 0 < m := by decide) (h9 : n + m ≤ 8000 := by decide) : g_by_unit C [.d (encU us), .d (encU vs)] S = some (.ok (.d (encU (uminus us vs))), S) := by
  have e1 := e_check_two C S h g hl
  have e2 := e_unit_minus C S h g h0 h1 h9
  rw [q_by_unit, F_by_unit]
  clear h g h0 h1 h9 hl
  walk_at "evh"
theorem all_enc {ds : List D} {n : Nat} (h : ∀ d ∈ ds, ∃ p, d = encF p ∧ FrB n p) : ∃ us : List (Int × Int), ds = us.map encF ∧ ∀ p ∈ us, FrB n p := by
  induction ds with
  | nil => exact ⟨[], rfl, by simp⟩
  | cons d ds ih =>
    obtain ⟨p, rfl, hp⟩ := h d List.mem_cons_self
    obtain ⟨us, rfl, hu⟩ := ih fun e he => h e (List.mem_cons_of_mem _ he)
    refine ⟨p :: us, rfl, fun q hq => ?_⟩
    rcases List.mem_cons.mp hq with rfl | hq
    · exact hp
    · exact hu q hq
theorem giveS_nil {x : D} {S1 : Store} : giveS [] (.d x) S1 = some (.ok (.d x), []) := by
  unfold giveS
  rw [if_pos ⟨by simp, fun i q hi e => by simp at hi⟩]
  rfl
theorem e_law_state (C : Str → Addr) (ns : List Int) : g__law_state C [.d (.lst (ns.map D.int)), .d (.int 2)] [] = some (.ok (.loc 0), [encSt ns 0 0 3]) := by
  rw [q__law_state, F__law_state]
  walk_at "ev"
  exact giveM_new (S := []) (ws := [.d (.lst (ns.map D.int)), .d (.int 0), .d (.int 0), .d (.int 3)]) (fun w hw => by
    simp at hw
    rcases hw with rfl | rfl | rfl <;> trivial)
end P02
set_option Elab.async false
set_option linter.all false
set_option maxRecDepth 100000
set_option maxHeartbeats 4000000
namespace P02
open PySem L2 DL
local macro_rules | `(tactic| walk_at "ev") => `(tactic| simp (config := { decide := false, implicitDefEqProofs := false }) only [bind_ok, bind_err, sE_ok, sE_err, bnd_nx, bnd_rt, bnd_bk, bnd_ct, bnd_err, sSeq_eq, dEnd_rt, dEnd_nx, dEnd_err, giveS_d, giveS_dA,
  dVar, dC, d2, d1, dB, dChain, dAnd, dOr, dNot, dTru, dAndV, dOrV, dNotV, dIf, aNil, aCons, dTup, dLst, dLoc, dCall, dCB, b1, sNx, sBk, sCt, sRet, sRetN, sDrop, sSet, sIf, sPar, truth_bl, asB_bl, oI0_eq, oIsi, ty_int, ty_bl, ty_str, ty_non, ty_tup, ty_lst, isi_ii, isi_ib, isi_it, isi_tt, isi_ti, isi_tb,
  oAbs, oInt, oNeg, oEq_int, oNe_int,
  List.map_cons, List.map_nil, List.length_cons, List.length_nil, List.getElem?_cons_zero, List.getElem?_cons_succ, List.set_cons_zero, List.set_cons_succ, List.cons_append, List.nil_append, List.append_nil, Nat.reduceAdd, Nat.reduceSub, Nat.zero_add, if_true, if_false, Bool.not_true, Bool.not_false, Bool.false_eq_true, reduceIte, List.replicate_zero, List.replicate_succ, Nat.sub_self, beq_self_eq_true, Int.reduceLT, Int.reduceLE, Int.reduceAdd, Int.reduceSub, Int.reduceMul, Int.reduceNeg, Int.reducePow, Int.reduceToNat, Int.reduceEq, Int.reduceBEq, decide_true, decide_false, mkTup1, mkTup2, mkTup3, mkLst2, mkLst5, ix20, ix21, ixF0, ixF1, len_tup, len_lst, lenF, tyF, lenU, tyU, oEqF, oEqU, oNeU, zipU, tgN, tgT, tgCons, tgNil, wipeE, Option.bind_some, tuple_lst, list_lst, st0, st1, st2, st3, se1, se2, se3, giveS_st, tgIx, sAsg, Option.map_some, oMod_eq])
local macro_rules | `(tactic| walk_at "evh") => `(tactic| simp (config := { decide := false, implicitDefEqProofs := false }) only [bind_ok, bind_err, sE_ok, sE_err, bnd_nx, bnd_rt, bnd_bk, bnd_ct, bnd_err, sSeq_eq, dEnd_rt, dEnd_nx, dEnd_err, giveS_d, giveS_dA,
  dVar, dC, d2, d1, dB, dChain, dAnd, dOr, dNot, dTru, dAndV, dOrV, dNotV, dIf, aNil, aCons, dTup, dLst, dLoc, dCall, dCB, b1, sNx, sBk, sCt, sRet, sRetN, sDrop, sSet, sIf, sPar, truth_bl, asB_bl, oI0_eq, oIsi, ty_int, ty_bl, ty_str, ty_non, ty_tup, ty_lst, isi_ii, isi_ib, isi_it, isi_tt, isi_ti, isi_tb,
  oAbs, oInt, oNeg, oEq_int, oNe_int,
  List.map_cons, List.map_nil, List.length_cons, List.length_nil, List.getElem?_cons_zero, List.getElem?_cons_succ, List.set_cons_zero, List.set_cons_succ, List.cons_append, List.nil_append, List.append_nil, Nat.reduceAdd, Nat.reduceSub, Nat.zero_add, if_true, if_false, Bool.not_true, Bool.not_false, Bool.false_eq_true, reduceIte, List.replicate_zero, List.replicate_succ, Nat.sub_self, beq_self_eq_true, Int.reduceLT, Int.reduceLE, Int.reduceAdd, Int.reduceSub, Int.reduceMul, Int.reduceNeg, Int.reducePow, Int.reduceToNat, Int.reduceEq, Int.reduceBEq, decide_true, decide_false, mkTup1, mkTup2, mkTup3, mkLst2, mkLst5, ix20, ix21, ixF0, ixF1, len_tup, len_lst, lenF, tyF, lenU, tyU, oEqF, oEqU, oNeU, zipU, tgN, tgT, tgCons, tgNil, wipeE, Option.bind_some, tuple_lst, list_lst, st0, st1, st2, st3, se1, se2, se3, giveS_st, tgIx, sAsg, Option.map_some, oMod_eq, oMul_eq, oDiv_eq, oPow_eq, *])



theorem pw_even (f b : Int × Int) (q : Nat) : fmul f (pw (fmul b b) q) = fmul f (pw b (2 * q)) := by
  unfold pw fmul
  dsimp only
  rw [Int.pow_mul, Int.pow_mul, Int.pow_succ, Int.pow_succ, Int.pow_succ, Int.pow_succ]
  simp
theorem pw_odd (f b : Int × Int) (q : Nat) : fmul (fmul f b) (pw (fmul b b) q) = fmul f (pw b (2 * q + 1)) := by
  have e := pw_even f b q
  have e1 : pw b (2 * q + 1) = fmul b (pw b (2 * q)) := by
    unfold pw fmul
    dsimp only
    rw [Int.pow_succ, Int.pow_succ, Int.mul_comm, Int.mul_comm (b.2 ^ (2 * q))]
  have e2 : ∀ x y z : Int × Int, fmul (fmul x y) z = fmul y (fmul x z) := fun x y z => by
    unfold fmul
    refine Prod.ext ?_ ?_ <;> dsimp only <;> grind
  rw [e2, e, ← e2, e1, fmul_assoc]
theorem raised_loop {S : Store} {x0 x1 : Option W} : ∀ (n left : Nat) (f b : Int × Int) (kf kb : Nat), left ≤ n → Bd kf f.1 → Bd kf f.2 → Bd kb b.1 → Bd kb b.2 → 0 < kf → 0 < kb → kf + kb * left ≤ 300000 →
    ∃ b', whileN (dB (d2 oGt (dVar 3) (dC (.int 0)))) (sSeq (sIf (dB (d2 oEq (d2 oMod (dVar 3) (dC (.int 2))) (dC (.int 1)))) (sSet 4 (dTup (aCons (d2 oMul (d2 oIx (dVar 4) (dC (.int 0))) (d2 oIx (dVar 2) (dC (.int 0)))) (aCons (d2 oMul (d2 oIx (dVar 4) (dC (.int 1))) (d2 oIx (dVar 2) (dC (.int 1)))) (aNil))))) (sNx))
    (sSeq (sSet 2 (dTup (aCons (d2 oMul (d2 oIx (dVar 2) (dC (.int 0))) (d2 oIx (dVar 2) (dC (.int 0)))) (aCons (d2 oMul (d2 oIx (dVar 2) (dC (.int 1))) (d2 oIx (dVar 2) (dC (.int 1)))) (aNil)))))
    (sSet 3 (d2 oDiv (dVar 3) (dC (.int 2)))))) (n + 1) [x0, x1, some (.d (encF b)), some (.d (.int (left : Int))), some (.d (encF f))] S = some (.ok (.nx [x0, x1, b', some (.d (.int 0)), some (.d (encF (fmul f (pw b left))))]), S)
  | n, 0, f, b, kf, kb, _, _, _, _, _, _, _, _ => ⟨some (.d (encF b)), by
    have e : fmul f (pw b 0) = f := by simp [fmul, pw]
    rw [e]
    simp [whileN, sE, dB, d2, dVar, dC, Rs.bind, oI0, asB]⟩
  | 0, left + 1, _, _, _, _, h, _, _, _, _, _, _, _ => by omega
  | n + 1, left + 1, f, b, kf, kb, h, f1, f2, b1, b2, k0, k1, hk => by
    have hkb : kb ≤ kb * (left + 1) := Nat.le_mul_of_pos_right kb (by omega)
    have c1 := f1.mulOk b1 k0 k1 (by omega)
    have c2 := f2.mulOk b2 k0 k1 (by omega)
    have c3 := b1.mulOk b1 k1 k1 (by omega)
    have c4 := b2.mulOk b2 k1 k1 (by omega)
    have c5 : CDivW ((left + 1 : Nat) : Int) 2 := wide_div (b := 2) (by decide) (by decide) (by decide) (by decide)
    have hpos : (0 : Int) < ((left + 1 : Nat) : Int) := by omega
    have e0 : (((left + 1) / 2 : Nat) : Int) = ((left + 1 : Nat) : Int) / 2 := by omega
    rw [whileN]
    have e1 : (dB (d2 oGt (dVar 3) (dC (.int 0)))) [x0, x1, some (.d (encF b)), some (.d (.int ((left + 1 : Nat) : Int))), some (.d (encF f))] S = some (.ok true, S) := by
      simp only [dB, d2, dVar, dC, Rs.bind, oI0, asB, List.getElem?_cons_succ, List.getElem?_cons_zero, decide_eq_true hpos]
    rw [e1]
    simp only [sE, if_true]
    by_cases hp : (left + 1) % 2 = 1
    · have hq : left + 1 = 2 * ((left + 1) / 2) + 1 := by omega
      obtain ⟨b', ih⟩ := raised_loop (S := S) (x0 := x0) (x1 := x1) n ((left + 1) / 2) (fmul f b) (fmul b b) (kf + kb) (kb + kb) (by omega) (f1.mul b1) (f2.mul b2) (b1.mul b1) (b2.mul b2) (by omega) (by omega) (by
        have : kb * (left + 1) = kb * (2 * ((left + 1) / 2) + 1) := by rw [← hq]
        have : kb * (2 * ((left + 1) / 2) + 1) = (kb + kb) * ((left + 1) / 2) + kb := by grind
        omega)
      rw [pw_odd, ← hq] at ih
      refine ⟨b', ?_⟩
      have hpar : ((((left + 1 : Nat) : Int) % 2) == 1) = true := by
        have : ((left + 1 : Nat) : Int) % 2 = 1 := by omega
        rw [this]; rfl
      have e2 : (sSeq (sIf (dB (d2 oEq (d2 oMod (dVar 3) (dC (.int 2))) (dC (.int 1)))) (sSet 4 (dTup (aCons (d2 oMul (d2 oIx (dVar 4) (dC (.int 0))) (d2 oIx (dVar 2) (dC (.int 0)))) (aCons (d2 oMul (d2 oIx (dVar 4) (dC (.int 1))) (d2 oIx (dVar 2) (dC (.int 1)))) (aNil))))) (sNx)) (sSeq (sSet 2 (dTup (aCons (d2 oMul (d2 oIx (dVar 2) (dC (.int 0))) (d2 oIx (dVar 2) (dC (.int 0)))) (aCons (d2 oMul (d2 oIx (dVar 2) (dC (.int 1))) (d2 oIx (dVar 2) (dC (.int 1)))) (aNil))))) (sSet 3 (d2 oDiv (dVar 3) (dC (.int 2)))))) [x0, x1, some (.d (encF b)), some (.d (.int ((left + 1 : Nat) : Int))), some (.d (encF f))] S = some (.ok (.nx [x0, x1, some (.d (encF (fmul b b))), some (.d (.int (((left + 1) / 2 : Nat) : Int))), some (.d (encF (fmul f b)))]), S) := by
        rw [e0]
        clear ih e1 e0 hk hkb hp hq f1 f2 b1 b2 k0 k1 h
        generalize ((left + 1 : Nat) : Int) = z at *
        walk_at "evh"
        rfl
      rw [e2]
      exact ih
    · have hq : left + 1 = 2 * ((left + 1) / 2) := by omega
      obtain ⟨b', ih⟩ := raised_loop (S := S) (x0 := x0) (x1 := x1) n ((left + 1) / 2) f (fmul b b) kf (kb + kb) (by omega) f1 f2 (b1.mul b1) (b2.mul b2) (by omega) (by omega) (by
        have : kb * (left + 1) = kb * (2 * ((left + 1) / 2)) := by rw [← hq]
        have : kb * (2 * ((left + 1) / 2)) = (kb + kb) * ((left + 1) / 2) := by grind
        omega)
      rw [pw_even, ← hq] at ih
      refine ⟨b', ?_⟩
      have hpar : ((((left + 1 : Nat) : Int) % 2) == 1) = false := by
        have : ((left + 1 : Nat) : Int) % 2 = 0 := by omega
        rw [this]; rfl
      have e2 : (sSeq (sIf (dB (d2 oEq (d2 oMod (dVar 3) (dC (.int 2))) (dC (.int 1)))) (sSet 4 (dTup (aCons (d2 oMul (d2 oIx (dVar 4) (dC (.int 0))) (d2 oIx (dVar 2) (dC (.int 0)))) (aCons (d2 oMul (d2 oIx (dVar 4) (dC (.int 1))) (d2 oIx (dVar 2) (dC (.int 1)))) (aNil))))) (sNx)) (sSeq (sSet 2 (dTup (aCons (d2 oMul (d2 oIx (dVar 2) (dC (.int 0))) (d2 oIx (dVar 2) (dC (.int 0)))) (aCons (d2 oMul (d2 oIx (dVar 2) (dC (.int 1))) (d2 oIx (dVar 2) (dC (.int 1)))) (aNil))))) (sSet 3 (d2 oDiv (dVar 3) (dC (.int 2)))))) [x0, x1, some (.d (encF b)), some (.d (.int ((left + 1 : Nat) : Int))), some (.d (encF f))] S = some (.ok (.nx [x0, x1, some (.d (encF (fmul b b))), some (.d (.int (((left + 1) / 2 : Nat) : Int))), some (.d (encF f))]), S) := by
        rw [e0]
        clear ih e1 e0 hk hkb hp hq f1 f2 b1 b2 k0 k1 h
        generalize ((left + 1 : Nat) : Int) = z at *
        walk_at "evh"
        rfl
      rw [e2]
      exact ih
theorem fmul_one (p : Int × Int) : fmul (1, 1) p = p := by simp [fmul]
theorem e_raised (C : Str → Addr) (S : Store) {n : Nat} {r : Int × Int} {k : Int} (h1 : Bd n r.1) (h2 : Bd n r.2) (h0 : 0 < n) (hk : n * k.natAbs ≤ 200000) : g_raised C [.d (encF r), .d (.int k)] S = some (.ok (.d (encF (rz r k))), S) := by
  rw [q_raised, F_raised]
  obtain ⟨b', hw⟩ := raised_loop (S := S) (x0 := some (.d (encF r))) (x1 := some (.d (.int k))) k.natAbs k.natAbs (1, 1) (sw r k) 1 n (Nat.le_refl _) (by decide) (by decide) (bd_sw h1 h2 k).1 (bd_sw h1 h2 k).2 (by decide) h0 (by omega)
  have hw2 := dWhile_of hw
  rw [fmul_one] at hw2
  have er : pw (sw r k) k.natAbs = rz r k := rfl
  rw [er] at hw2
  have o1 : encF (1, 1) = .tup [.int 1, .int 1] := rfl
  rw [o1] at hw2
  have a1 := abs_nat k
  clear hw h1 h2 h0 hk er o1
  by_cases hn : k < 0
  · have d1 : decide ((0 : Int) ≤ k) = false := by simp; omega
    have es : encF (sw r k) = .tup [.int r.2, .int r.1] := by unfold sw; rw [if_pos hn]; rfl
    rw [es] at hw2
    clear es hn
    walk_at "evh"
  · have d1 : decide ((0 : Int) ≤ k) = true := by simp; omega
    have es : sw r k = r := by unfold sw; rw [if_neg hn]
    rw [es] at hw2
    clear es hn
    walk_at "evh"
theorem e_is_above (C : Str → Addr) (S : Store) {p : Int × Int} (h : Fr p) (h1 : 0 < p.1) : g_is_above C [.d (encF p)] S = some (.ok (.d (.bl true)), S) := by
  have e := e_is_fraction C S h
  have d1 := decide_eq_true h1
  rw [q_is_above, F_is_above]
  clear h h1
  walk_at "evh"
theorem any_lst {S : Store} {α : Type} (f : α → Bool) (xs : List α) : oAny (.d (.lst (xs.map fun x => D.bl (f x)))) S = some (.ok (.d (.bl (xs.any f))), S) := by
  have e : List.map W.d (xs.map fun x => D.bl (f x)) = xs.map fun x => W.d (.bl (f x)) := by simp
  simp only [oAny, seqW, e, boolsMap]
  congr 4
  simp [List.any_map, Function.comp_def]
theorem any_false {α : Type} {xs : List α} : (xs.any fun _ => false) = false := by simp
theorem e_check_roots (C : Str → Addr) (S : Store) {rs : List (Int × Int)} {b : Int} (h : ∀ p ∈ rs, Fr p ∧ 0 < p.1) (hl : rs.length ≤ 3) (hb : b = (rs.length : Int)) : g_check_roots C [.d (.int b), .d (encU rs)] S = some (.ok (.d .non), S) := by
  subst hb
  rw [q_check_roots, F_check_roots]
  have e : dLc lcF (dSeq (dVar 1)) (tgN 2) (ftYes) (dCall 1 (g_is_above C) (aCons (dVar 2) (aNil))) [2] [some (.d (.int (rs.length : Int))), some (.d (encU rs)), none] S = some (.ok (.d (.lst (rs.map fun _ => D.bl true))), S) :=
    dLc_map (wf := fun p => W.d (encF p)) (f := fun _ => D.bl true) (seqU rfl) (by omega) fun p hp => by
      have e := e_is_above C S (h p hp).1 (h p hp).2
      refine ⟨_, rfl, ?_⟩
      walk_at "evh"
  have a := all_lst (S := S) (fun _ => true) rs
  have t := all_true (xs := rs)
  clear h hl
  walk_at "evh"
/-- what a factor is reckoned of -/
structure FacOk (k n M : Nat) (s : Int) (us rs : List (Int × Int)) : Prop where
  hu : UnB k us
  hr : ∀ r ∈ rs, FrB n r ∧ 0 < r.1
  hl : us.length = rs.length
  hs : 1 ≤ s
  sb : Bd 8 s
  hd : ∀ e ∈ us, s % e.2 = 0
  hM : ∀ e ∈ us, (ex s e).natAbs ≤ M
  k0 : 0 < k
  k9 : k ≤ 100
  n0 : 0 < n
  nM : n * M + 1 ≤ 2500
def fz (s : Int) (z : (Int × Int) × (Int × Int)) : Int × Int := rz z.2 (ex s z.1)
section
variable {k n M : Nat} {s : Int} {us rs : List (Int × Int)}
theorem FacOk.mem (h : FacOk k n M s us rs) {z : (Int × Int) × (Int × Int)} (hz : z ∈ us.zip rs) : FrB k z.1 ∧ FrB n z.2 ∧ 0 < z.2.1 ∧ s % z.1.2 = 0 ∧ (ex s z.1).natAbs ≤ M := by
  obtain ⟨a, b⟩ := z
  have := List.of_mem_zip hz
  exact ⟨h.hu.fr a this.1, (h.hr b this.2).1, (h.hr b this.2).2, h.hd a this.1, h.hM a this.1⟩
theorem FacOk.fzb (h : FacOk k n M s us rs) {z : (Int × Int) × (Int × Int)} (hz : z ∈ us.zip rs) : FrB 2500 (fz s z) := by
  have m := h.mem hz
  refine (frb_rz m.2.1 m.2.2.1 (ex s z.1)).up ?_
  have := Nat.mul_le_mul_left n m.2.2.2.2
  have := h.nM
  omega
theorem FacOk.pos (h : FacOk k n M s us rs) {z : (Int × Int) × (Int × Int)} (hz : z ∈ us.zip rs) : Pos (fz s z) := Pos.rz ⟨(h.mem hz).2.2.1, (h.mem hz).2.1.fr.1⟩ _
theorem FacOk.len (h : FacOk k n M s us rs) : (us.zip rs).length = us.length := by rw [List.length_zip, ← h.hl]; exact Nat.min_self _
theorem FacOk.acc (h : FacOk k n M s us rs) {i : Nat} (hi : i < (us.zip rs).length) : FrB 5001 (fac (fz s) ((us.zip rs).take i)) := by
  have h3 := h.hu.l3
  have hl := h.len
  have := fac_bd (f := fz s) (n := 2500) (xs := (us.zip rs).take i) (a := (1, 1)) (m := 1) ⟨⟨by decide, by decide⟩, by decide, by decide⟩ fun x hx => h.fzb (List.mem_of_mem_take hx)
  refine this.up ?_
  rw [List.length_take]
  omega
theorem FacOk.bd (h : FacOk k n M s us rs) : FrB 7501 (fac (fz s) (us.zip rs)) := by
  have h3 := h.hu.l3
  have hl := h.len
  have := fac_bd (f := fz s) (n := 2500) (xs := us.zip rs) (a := (1, 1)) (m := 1) ⟨⟨by decide, by decide⟩, by decide, by decide⟩ fun x hx => h.fzb hx
  exact this.up (by omega)
theorem fac_step {f : (Int × Int) × (Int × Int) → Int × Int} {zs : List ((Int × Int) × (Int × Int))} {i : Nat} (hi : i < zs.length) : fac f (zs.take (i + 1)) = ftimes (fac f (zs.take i)) (f zs[i]) := by
  rw [List.take_succ_eq_append_getElem hi]
  unfold fac
  rw [List.foldl_append]
  rfl
theorem e_raw_factor (C : Str → Addr) (S : Store) (h : FacOk k n M s us rs) : g_raw_factor C [.d (encU us), .d (encU rs), .d (.int s)] S = some (.ok (.d (encF (fac (fz s) (us.zip rs)))), S) := by
  rw [q_raw_factor, F_raw_factor]
  have hz : dIt oZip (aCons (dVar 0) (aCons (dVar 1) (aNil))) [some (.d (encU us)), some (.d (encU rs)), some (.d (.int s)), some (.d (.tup [.int 1, .int 1])), none, none, none] S = some (.ok ((us.zip rs).map fun p => W.d (.tup [encF p.1, encF p.2]), none), S) := by
    unfold dIt
    walk_at "ev"
  obtain ⟨δ', hf, x4, x5, x6, rfl⟩ := dFor_inv (P := fun i δ => ∃ x4 x5 x6, δ = [some (.d (encU us)), some (.d (encU rs)), some (.d (.int s)), some (.d (encF (fac (fz s) ((us.zip rs).take i)))), x4, x5, x6]) (tf := tgT 2 (tgCons (tgT 2 (tgCons (tgN 5) (tgCons (tgN 6) (tgNil)))) (tgCons (tgN 4) (tgNil)))) (fb := sSet 3 (dCall 2 (g_times C) (aCons (dVar 3) (aCons (dCall 2 (g_raised C) (aCons (dVar 4) (aCons (d2 oDiv (d2 oMul (dVar 5) (dVar 2)) (dVar 6)) (aNil)))) (aNil))))) (xs := us.zip rs) (wf := fun (p : (Int × Int) × (Int × Int)) => W.d (.tup [encF p.1, encF p.2])) hz (by
    rintro i hi δ ⟨x4, x5, x6, rfl⟩
    refine ⟨_, [some (.d (encU us)), some (.d (encU rs)), some (.d (.int s)), some (.d (encF (fac (fz s) ((us.zip rs).take (i + 1))))), some (.d (encF (us.zip rs)[i].2)), some (.d (.int (us.zip rs)[i].1.1)), some (.d (.int (us.zip rs)[i].1.2))], rfl, ?_, _, _, _, rfl⟩
    have hm := List.getElem_mem hi
    have m := h.mem hm
    rw [fac_step hi]
    have ha := h.acc hi
    have hb := h.fzb hm
    have e2 := e_times C S ha hb
    have nM := h.nM
    have e1 := e_raised C S (k := ex s (us.zip rs)[i].1) m.2.1.b1 m.2.1.b2 h.n0 (by have := Nat.mul_le_mul_left n m.2.2.2.2; omega)
    have c1 := m.1.b1.mulOk h.sb h.k0 (by decide) (by have := h.k9; omega)
    have c2 : CDivW ((us.zip rs)[i].1.1 * s) (us.zip rs)[i].1.2 := wide_div m.1.fr.1 m.1.b2 h.k0 (by have := h.k9; omega)
    unfold fz at e2 ⊢
    unfold ex at e1 e2 ⊢
    generalize (us.zip rs)[i] = z at *
    clear h m ha hb hm nM
    walk_at "evh") ⟨none, none, none, rfl⟩
  rw [List.take_length] at hf
  clear hz
  walk_at "evh"
theorem e_factor (C : Str → Addr) (S : Store) (h : FacOk k n M s us rs) : g_factor C [.d (encU us), .d (encU rs), .d (.int s)] S = some (.ok (.d (encF (fac (fz s) (us.zip rs)))), S) := by
  have e1 := e_check_unit C S h.hu
  have e2 := e_check_roots C S (rs := rs) (b := (us.length : Int)) (fun p hp => ⟨(h.hr p hp).1.fr, (h.hr p hp).2⟩) (by have := h.hu.l3; have := h.hl; omega) (by rw [h.hl])
  have e3 := e_raw_factor C S h
  have e4 := e_is_integer C
  have d1 : decide (s < (1 : Int)) = false := by have := h.hs; simp; omega
  have e : dLc lcF (dSeq (dVar 0)) (tgT 2 (tgCons (tgN 3) (tgCons (tgN 4) (tgNil)))) (ftYes) (d2 oNe (d2 oMod (dVar 2) (dVar 4)) (dC (.int 0))) [3, 4] [some (.d (encU us)), some (.d (encU rs)), some (.d (.int s)), none, none] S = some (.ok (.d (.lst (us.map fun _ => D.bl false))), S) :=
    dLc_map (wf := fun p => W.d (encF p)) (f := fun _ => D.bl false) (seqU rfl) (by have := h.hu.l3; omega) fun p hp => by
      have hp2 := (h.hu.fr p hp).fr.1
      have hd := h.hd p hp
      have b1 : (s % p.2 == 0) = true := by simp [hd]
      refine ⟨_, rfl, ?_⟩
      clear hd h e1 e2 e3 e4 d1 hp
      walk_at "evh"
  have a := any_lst (S := S) (fun _ => false) us
  have t := any_false (xs := us)
  rw [q_factor, F_factor]
  clear h
  walk_at "evh"
end
end P02
set_option Elab.async false
set_option linter.all false
set_option maxRecDepth 100000
set_option maxHeartbeats 4000000
namespace P02
open PySem L2 DL
local macro_rules | `(tactic| walk_at "ev") => `(tactic| simp (config := { decide := false, implicitDefEqProofs := false }) only [bind_ok, bind_err, sE_ok, sE_err, bnd_nx, bnd_rt, bnd_bk, bnd_ct, bnd_err, sSeq_eq, dEnd_rt, dEnd_nx, dEnd_err, giveS_d, giveS_dA,
  dVar, dC, d2, d1, dB, dChain, dAnd, dOr, dNot, dTru, dAndV, dOrV, dNotV, dIf, aNil, aCons, dTup, dLst, dLoc, dCall, dCB, b1, sNx, sBk, sCt, sRet, sRetN, sDrop, sSet, sIf, sPar, truth_bl, asB_bl, oI0_eq, oIsi, ty_int, ty_bl, ty_str, ty_non, ty_tup, ty_lst, isi_ii, isi_ib, isi_it, isi_tt, isi_ti, isi_tb,
  oAbs, oInt, oNeg, oEq_int, oNe_int,
  List.map_cons, List.map_nil, List.length_cons, List.length_nil, List.getElem?_cons_zero, List.getElem?_cons_succ, List.set_cons_zero, List.set_cons_succ, List.cons_append, List.nil_append, List.append_nil, Nat.reduceAdd, Nat.reduceSub, Nat.zero_add, if_true, if_false, Bool.not_true, Bool.not_false, Bool.false_eq_true, reduceIte, List.replicate_zero, List.replicate_succ, Nat.sub_self, beq_self_eq_true, Int.reduceLT, Int.reduceLE, Int.reduceAdd, Int.reduceSub, Int.reduceMul, Int.reduceNeg, Int.reducePow, Int.reduceToNat, Int.reduceEq, Int.reduceBEq, decide_true, decide_false, mkTup1, mkTup2, mkTup3, mkLst2, mkLst5, ix20, ix21, ixF0, ixF1, len_tup, len_lst, lenF, tyF, lenU, tyU, oEqF, oEqU, oNeU, zipU, tgN, tgT, tgCons, tgNil, wipeE, Option.bind_some, tuple_lst, list_lst, st0, st1, st2, st3, se1, se2, se3, giveS_st, tgIx, sAsg, Option.map_some, oMod_eq])
local macro_rules | `(tactic| walk_at "evh") => `(tactic| simp (config := { decide := false, implicitDefEqProofs := false }) only [bind_ok, bind_err, sE_ok, sE_err, bnd_nx, bnd_rt, bnd_bk, bnd_ct, bnd_err, sSeq_eq, dEnd_rt, dEnd_nx, dEnd_err, giveS_d, giveS_dA,
  dVar, dC, d2, d1, dB, dChain, dAnd, dOr, dNot, dTru, dAndV, dOrV, dNotV, dIf, aNil, aCons, dTup, dLst, dLoc, dCall, dCB, b1, sNx, sBk, sCt, sRet, sRetN, sDrop, sSet, sIf, sPar, truth_bl, asB_bl, oI0_eq, oIsi, ty_int, ty_bl, ty_str, ty_non, ty_tup, ty_lst, isi_ii, isi_ib, isi_it, isi_tt, isi_ti, isi_tb,
  oAbs, oInt, oNeg, oEq_int, oNe_int,
  List.map_cons, List.map_nil, List.length_cons, List.length_nil, List.getElem?_cons_zero, List.getElem?_cons_succ, List.set_cons_zero, List.set_cons_succ, List.cons_append, List.nil_append, List.append_nil, Nat.reduceAdd, Nat.reduceSub, Nat.zero_add, if_true, if_false, Bool.not_true, Bool.not_false, Bool.false_eq_true, reduceIte, List.replicate_zero, List.replicate_succ, Nat.sub_self, beq_self_eq_true, Int.reduceLT, Int.reduceLE, Int.reduceAdd, Int.reduceSub, Int.reduceMul, Int.reduceNeg, Int.reducePow, Int.reduceToNat, Int.reduceEq, Int.reduceBEq, decide_true, decide_false, mkTup1, mkTup2, mkTup3, mkLst2, mkLst5, ix20, ix21, ixF0, ixF1, len_tup, len_lst, lenF, tyF, lenU, tyU, oEqF, oEqU, oNeU, zipU, tgN, tgT, tgCons, tgNil, wipeE, Option.bind_some, tuple_lst, list_lst, st0, st1, st2, st3, se1, se2, se3, giveS_st, tgIx, sAsg, Option.map_some, oMod_eq, oMul_eq, oDiv_eq, oPow_eq, *])



theorem e_law_power (C : Str → Addr) (S : Store) {n : Nat} {r : Int × Int} {k : Int} (h1 : Bd n r.1) (h2 : Bd n r.2) (h0 : 0 < n) (hk : n * k.natAbs ≤ 200000) (hn : n ≤ 10000) : g__law_power C [.d (encF r), .d (.int k)] S = some (.ok (.d (encF (rz r k))), S) := by
  rw [q__law_power, F__law_power]
  have b12 := bd_sw h1 h2 k
  have hka : k.natAbs ≤ 1000000 := by have := Nat.le_mul_of_pos_left k.natAbs h0; omega
  have ea : ∀ x3, dIt oRng1 (aCons (dCB (b1 oAbs) (aCons (dVar 1) (aNil))) (aNil)) [some (.d (encF r)), some (.d (.int k)), some (.d (.tup [.int 1, .int 1])), x3, none] S = some (.ok ((List.range k.natAbs).map fun (j : Nat) => W.d (.int (j : Int)), none), S) := fun x3 => by
    have r := oRng1_nat (S := S) hka
    have a1 := abs_nat k
    clear b12 hka h1 h2 h0 hk hn
    unfold dIt
    walk_at "evh"
  have hf : ∃ δ', dFor (dIt oRng1 (aCons (dCB (b1 oAbs) (aCons (dVar 1) (aNil))) (aNil))) (tgN 4) (sSet 2 (dTup (aCons (d2 oMul (d2 oIx (dVar 2) (dC (.int 0))) (d2 oIx (dVar 3) (dC (.int 0)))) (aCons (d2 oMul (d2 oIx (dVar 2) (dC (.int 1))) (d2 oIx (dVar 3) (dC (.int 1)))) (aNil))))) [some (.d (encF r)), some (.d (.int k)), some (.d (.tup [.int 1, .int 1])), some (.d (encF (sw r k))), none] S = some (.ok (.nx δ'), S) ∧ ∃ x4, δ' = [some (.d (encF r)), some (.d (.int k)), some (.d (encF (pw (sw r k) k.natAbs))), some (.d (encF (sw r k))), x4] := by
    have := dFor_inv (P := fun i δ => ∃ x4, δ = [some (.d (encF r)), some (.d (.int k)), some (.d (encF (pw (sw r k) i))), some (.d (encF (sw r k))), x4]) (xs := List.range k.natAbs) (tf := tgN 4) (fb := sSet 2 (dTup (aCons (d2 oMul (d2 oIx (dVar 2) (dC (.int 0))) (d2 oIx (dVar 3) (dC (.int 0)))) (aCons (d2 oMul (d2 oIx (dVar 2) (dC (.int 1))) (d2 oIx (dVar 3) (dC (.int 1)))) (aNil))))) (ea (some (.d (encF (sw r k))))) (by
      rintro i hi δ ⟨x4, rfl⟩
      have hi2 : i < k.natAbs := by simpa using hi
      have hni : n * i ≤ 200000 := Nat.le_trans (Nat.mul_le_mul_left n (by omega)) hk
      have c1 := (b12.1.pow i).mulOk b12.1 (by omega) h0 (by omega)
      have c2 := (b12.2.pow i).mulOk b12.2 (by omega) h0 (by omega)
      refine ⟨_, [some (.d (encF r)), some (.d (.int k)), some (.d (encF (pw (sw r k) (i + 1)))), some (.d (encF (sw r k))), some (.d (.int ((List.range k.natAbs)[i] : Nat)))], rfl, ?_, _, rfl⟩
      have c3 : CMulW (pw (sw r k) i).1 (sw r k).1 := c1
      have c4 : CMulW (pw (sw r k) i).2 (sw r k).2 := c2
      have ep : encF (pw (sw r k) (i + 1)) = .tup [.int ((pw (sw r k) i).1 * (sw r k).1), .int ((pw (sw r k) i).2 * (sw r k).2)] := by
        unfold pw encF
        rw [Int.pow_succ, Int.pow_succ]
      rw [ep]
      generalize (List.range k.natAbs)[i] = jj
      clear ea hni hi hi2 b12 hka h1 h2 h0 hk hn c1 c2 ep
      walk_at "evh") ⟨none, by rw [show pw (sw r k) 0 = (1, 1) from by simp [pw]]; rfl⟩
    rw [List.length_range] at this
    exact this
  obtain ⟨δ', hf, x4, rfl⟩ := hf
  have er : pw (sw r k) k.natAbs = rz r k := rfl
  rw [er] at hf
  clear ea b12 hka h1 h2 h0 hk hn er
  by_cases hn : k < 0
  · have d1 := decide_eq_true hn
    have es : encF (sw r k) = .tup [.int r.2, .int r.1] := by unfold sw; rw [if_pos hn]; rfl
    rw [es] at hf
    clear es hn
    walk_at "evh"
  · have d1 := decide_eq_false hn
    have es : sw r k = r := by unfold sw; rw [if_neg hn]
    rw [es] at hf
    clear es hn
    walk_at "evh"
section
variable {k n M : Nat} {s : Int} {us rs : List (Int × Int)}
theorem e_law_due (C : Str → Addr) (S : Store) (h : FacOk k n M s us rs) (hn : n ≤ 10000) : g__law_due C [.d (encU us), .d (encU rs), .d (.int s)] S = some (.ok (.d (encF (fac (fz s) (us.zip rs)))), S) := by
  rw [q__law_due, F__law_due]
  have h3 := h.hu.l3
  have hl := h.hl
  have hzl := h.len
  have ea : dIt oRng1 (aCons (dCB (b1 oLen) (aCons (dVar 0) (aNil))) (aNil)) [some (.d (encU us)), some (.d (encU rs)), some (.d (.int s)), some (.d (.tup [.int 1, .int 1])), none] S = some (.ok ((List.range us.length).map fun (j : Nat) => W.d (.int (j : Int)), none), S) := by
    have r := oRng1_nat (S := S) (n := us.length) (by omega)
    show (aCons _ aNil _ S).bind oRng1 = _
    have q : aCons (dCB (b1 oLen) (aCons (dVar 0) (aNil))) aNil [some (.d (encU us)), some (.d (encU rs)), some (.d (.int s)), some (.d (.tup [.int 1, .int 1])), none] S = some (.ok [.d (.int (us.length : Int))], S) := by walk_at "ev"
    rw [q, bind_ok, r]
  obtain ⟨δ', hf, x4, rfl⟩ := dFor_inv (P := fun i δ => ∃ x4, δ = [some (.d (encU us)), some (.d (encU rs)), some (.d (.int s)), some (.d (encF (fac (fz s) ((us.zip rs).take i)))), x4]) (tf := tgN 4) (fb := sSet 3 (dCall 2 (g__law_product C) (aCons (dVar 3) (aCons (dCall 2 (g__law_power C) (aCons (d2 oIx (dVar 1) (dVar 4)) (aCons (d2 oDiv (d2 oMul (d2 oIx (d2 oIx (dVar 0) (dVar 4)) (dC (.int 0))) (dVar 2)) (d2 oIx (d2 oIx (dVar 0) (dVar 4)) (dC (.int 1)))) (aNil)))) (aNil))))) (xs := List.range us.length) (wf := fun (j : Nat) => W.d (.int (j : Int))) ea (by
    rintro i hi δ ⟨x4, rfl⟩
    have hi2 : i < us.length := by simpa using hi
    have hi3 : i < rs.length := by omega
    have hi4 : i < (us.zip rs).length := by omega
    have gi : (List.range us.length)[i] = i := by simp
    rw [gi]
    refine ⟨_, [some (.d (encU us)), some (.d (encU rs)), some (.d (.int s)), some (.d (encF (fac (fz s) ((us.zip rs).take (i + 1))))), some (.d (.int (i : Int)))], rfl, ?_, _, rfl⟩
    have hm := List.getElem_mem hi4
    have m := h.mem hm
    rw [fac_step hi4]
    have ha := h.acc hi4
    have hb := h.fzb hm
    have ez : (us.zip rs)[i] = (us[i], rs[i]) := List.getElem_zip
    rw [ez] at hb m ⊢
    dsimp only at m
    have e2 := e_law_product C S ha hb
    have nM := h.nM
    have e1 := e_law_power C S (k := ex s us[i]) m.2.1.b1 m.2.1.b2 h.n0 (by have := Nat.mul_le_mul_left n m.2.2.2.2; omega) hn
    have c1 := m.1.b1.mulOk h.sb h.k0 (by decide) (by have := h.k9; omega)
    have c2 : CDivW (us[i].1 * s) us[i].2 := wide_div m.1.fr.1 m.1.b2 h.k0 (by have := h.k9; omega)
    have i1 := ixU (S := S) hi2
    have i2 := ixU (S := S) hi3
    unfold fz at e2 ⊢
    unfold ex at e1 e2 ⊢
    dsimp only at e1 e2 c1 c2 ⊢
    clear h m ha hb hm nM ez ea hl hzl h3 gi hi hi4 hn
    walk_at "evh") ⟨none, rfl⟩
  rw [List.length_range, ← hzl, List.take_length] at hf
  clear ea h h3 hl hn
  walk_at "evh"
end
/-- a small exponent -/
def Ep (p : Int × Int) : Prop := FrB 3 p ∧ p.1.natAbs ≤ 6 ∧ p.2 ≤ 4
theorem e_law_exponent (C : Str → Addr) (T : Store) {m : M} (hm : DrSt m) : ∃ p m', g__law_exponent C [.loc 0] (m :: T) = some (.ok (.d (encF p)), m' :: T) ∧ Ep p ∧ DrSt m' := by
  obtain ⟨b, m1, e1, b0, b1, h1⟩ := e_draw C T hm (k := 4) (by decide) (by decide)
  obtain ⟨t, m2, e2, t0, t1, h2⟩ := e_draw C T h1 (k := 13) (by decide) (by decide)
  have hb : 0 < 1 + b := by omega
  have bb : Bd 3 (1 + b) := bd_nn (by omega) (by omega)
  have bt : Bd 3 (t - 6) := by unfold Bd; omega
  have e := e_law_low C (m2 :: T) (t := t - 6) hb bb (by decide) (by decide)
  have lb := low_bd bt bb
  have gv := fun x => giveS_hd0 (m := m) (T := T) (x := x) (h2.below (n := (m :: T).length))
  have d1 : (low (t - 6) (1 + b)).1.natAbs ≤ (t - 6).natAbs := Int.natAbs_ediv_le_natAbs _ _
  have d2 : (low (t - 6) (1 + b)).2.natAbs ≤ (1 + b).natAbs := Int.natAbs_ediv_le_natAbs _ _
  refine ⟨low (t - 6) (1 + b), m2, ?_, ⟨⟨low_fr hb, lb.1, lb.2⟩, by omega, by omega⟩, h2⟩
  rw [q__law_exponent, F__law_exponent]
  clear b0 b1 t0 t1 hb bb bt lb d1 d2
  walk_at "evh"
theorem e_law_unit (C : Str → Addr) (T : Store) {m : M} (hm : DrSt m) {b : Int} (b1 : 1 ≤ b) (b3 : b ≤ 3) : ∃ us m', g__law_unit C [.loc 0, .d (.int b)] (m :: T) = some (.ok (.d (encU us)), m' :: T) ∧ (us.length : Int) = b ∧ (∀ p ∈ us, Ep p) ∧ DrSt m' := by
  obtain ⟨us, m', e, hl, hu, h'⟩ := dLc_drawn (fi := dIt oRng1 (aCons (dVar 1) (aNil))) (tf := tgN 2) (fe := dCall 1 (g__law_exponent C) (aCons (dVar 0) (aNil))) (vs := [2]) (δ := [some (.loc 0), some (.d (.int b)), none]) (T := T) (m := m) (b := b) (Q := Ep) (by omega) (by omega) hm (by
    have r2 := oRng1_eq (S := m :: T) (j := b) (by omega) (by omega)
    unfold dIt
    clear b1 b3 hm
    walk_at "evh") (fun w m hm => by
    obtain ⟨p, m', e, hp, h'⟩ := e_law_exponent C T hm
    refine ⟨_, p, m', rfl, ?_, h', hp⟩
    clear hp h' hm b1 b3
    walk_at "evh")
  have gv := fun x => giveS_hd0 (m := m) (T := T) (x := x) (h'.below (n := (m :: T).length))
  refine ⟨us, m', ?_, hl, hu, h'⟩
  have eu : D.tup (us.map encF) = encU us := rfl
  rw [q__law_unit, F__law_unit]
  clear hl hu b1 b3 hm
  walk_at "evh"
theorem e_law_root (C : Str → Addr) (T : Store) {m : M} (hm : DrSt m) {n : Nat} {b : Int} (b1 : 1 ≤ b) (bb : Bd n b) (n0 : 0 < n) (n9 : n ≤ 200) : ∃ p m', g__law_root C [.loc 0, .d (.int b)] (m :: T) = some (.ok (.d (encF p)), m' :: T) ∧ (FrB n p ∧ 0 < p.1) ∧ DrSt m' := by
  obtain ⟨t, m1, e1, t0, t1, h1⟩ := e_draw C T hm (k := b) (by omega) (bb.up n9)
  obtain ⟨u, m2, e2, u0, u1, h2⟩ := e_draw C T h1 (k := b) (by omega) (bb.up n9)
  have bt : Bd n (1 + t) := bb.le (by omega)
  have bu : Bd n (1 + u) := bb.le (by omega)
  have hu : 0 < 1 + u := by omega
  have e := e_law_low C (m2 :: T) (t := 1 + t) hu bu n0 (by omega)
  have lb := low_bd bt bu
  have gv := fun x => giveS_hd0 (m := m) (T := T) (x := x) (h2.below (n := (m :: T).length))
  refine ⟨low (1 + t) (1 + u), m2, ?_, ⟨⟨low_fr hu, lb.1, lb.2⟩, (lo_pos (p := (1 + t, 1 + u)) ⟨by dsimp only; omega, hu⟩).1⟩, h2⟩
  rw [q__law_root, F__law_root]
  clear t0 t1 u0 u1 bt bu hu lb b1 bb n0 n9
  walk_at "evh"
end P02
set_option Elab.async false
set_option linter.all false
set_option maxRecDepth 100000
set_option maxHeartbeats 4000000
namespace P02
open PySem L2 DL
local macro_rules | `(tactic| walk_at "ev") => `(tactic| simp (config := { decide := false, implicitDefEqProofs := false }) only [bind_ok, bind_err, sE_ok, sE_err, bnd_nx, bnd_rt, bnd_bk, bnd_ct, bnd_err, sSeq_eq, dEnd_rt, dEnd_nx, dEnd_err, giveS_d, giveS_dA,
  dVar, dC, d2, d1, dB, dChain, dAnd, dOr, dNot, dTru, dAndV, dOrV, dNotV, dIf, aNil, aCons, dTup, dLst, dLoc, dCall, dCB, b1, sNx, sBk, sCt, sRet, sRetN, sDrop, sSet, sIf, sPar, truth_bl, asB_bl, oI0_eq, oIsi, ty_int, ty_bl, ty_str, ty_non, ty_tup, ty_lst, isi_ii, isi_ib, isi_it, isi_tt, isi_ti, isi_tb,
  oAbs, oInt, oNeg, oEq_int, oNe_int,
  List.map_cons, List.map_nil, List.length_cons, List.length_nil, List.getElem?_cons_zero, List.getElem?_cons_succ, List.set_cons_zero, List.set_cons_succ, List.cons_append, List.nil_append, List.append_nil, Nat.reduceAdd, Nat.reduceSub, Nat.zero_add, if_true, if_false, Bool.not_true, Bool.not_false, Bool.false_eq_true, reduceIte, List.replicate_zero, List.replicate_succ, Nat.sub_self, beq_self_eq_true, Int.reduceLT, Int.reduceLE, Int.reduceAdd, Int.reduceSub, Int.reduceMul, Int.reduceNeg, Int.reducePow, Int.reduceToNat, Int.reduceEq, Int.reduceBEq, decide_true, decide_false, mkTup1, mkTup2, mkTup3, mkLst2, mkLst5, ix20, ix21, ixF0, ixF1, len_tup, len_lst, lenF, tyF, lenU, tyU, oEqF, oEqU, oNeU, zipU, tgN, tgT, tgCons, tgNil, wipeE, Option.bind_some, tuple_lst, list_lst, st0, st1, st2, st3, se1, se2, se3, giveS_st, tgIx, sAsg, Option.map_some, oMod_eq])
local macro_rules | `(tactic| walk_at "evh") => `(tactic| simp (config := { decide := false, implicitDefEqProofs := false }) only [bind_ok, bind_err, sE_ok, sE_err, bnd_nx, bnd_rt, bnd_bk, bnd_ct, bnd_err, sSeq_eq, dEnd_rt, dEnd_nx, dEnd_err, giveS_d, giveS_dA,
  dVar, dC, d2, d1, dB, dChain, dAnd, dOr, dNot, dTru, dAndV, dOrV, dNotV, dIf, aNil, aCons, dTup, dLst, dLoc, dCall, dCB, b1, sNx, sBk, sCt, sRet, sRetN, sDrop, sSet, sIf, sPar, truth_bl, asB_bl, oI0_eq, oIsi, ty_int, ty_bl, ty_str, ty_non, ty_tup, ty_lst, isi_ii, isi_ib, isi_it, isi_tt, isi_ti, isi_tb,
  oAbs, oInt, oNeg, oEq_int, oNe_int,
  List.map_cons, List.map_nil, List.length_cons, List.length_nil, List.getElem?_cons_zero, List.getElem?_cons_succ, List.set_cons_zero, List.set_cons_succ, List.cons_append, List.nil_append, List.append_nil, Nat.reduceAdd, Nat.reduceSub, Nat.zero_add, if_true, if_false, Bool.not_true, Bool.not_false, Bool.false_eq_true, reduceIte, List.replicate_zero, List.replicate_succ, Nat.sub_self, beq_self_eq_true, Int.reduceLT, Int.reduceLE, Int.reduceAdd, Int.reduceSub, Int.reduceMul, Int.reduceNeg, Int.reducePow, Int.reduceToNat, Int.reduceEq, Int.reduceBEq, decide_true, decide_false, mkTup1, mkTup2, mkTup3, mkLst2, mkLst5, ix20, ix21, ixF0, ixF1, len_tup, len_lst, lenF, tyF, lenU, tyU, oEqF, oEqU, oNeU, zipU, tgN, tgT, tgCons, tgNil, wipeE, Option.bind_some, tuple_lst, list_lst, st0, st1, st2, st3, se1, se2, se3, giveS_st, tgIx, sAsg, Option.map_some, oMod_eq, oMul_eq, oDiv_eq, oPow_eq, *])



noncomputable def restL (C : Str → Addr) : FS :=
  (sSeq (sSet 8 (dCB (b1 oTuple) (aCons (dLc lcF (dIt oRng1 (aCons (dVar 2) (aNil))) (tgN 14) (ftYes) (dCall 2 (g__law_root C) (aCons (dVar 1) (aCons (dVar 5) (aNil)))) [14]) (aNil))))
    (sSeq (sSet 9 (dCB (b1 oTuple) (aCons (dLc lcF (dIt oRng1 (aCons (dVar 2) (aNil))) (tgN 14) (ftYes) (dCall 2 (g__law_root C) (aCons (dVar 1) (aCons (dC (.int 7)) (aNil)))) [14]) (aNil))))
    (sSeq (sSet 10 (d2 oAdd (dC (.int 1)) (dCall 2 (g__law_draw C) (aCons (dVar 1) (aCons (dC (.int 5)) (aNil))))))
    (sSeq (sSet 11 (dCall 3 (g_factor C) (aCons (dVar 6) (aCons (dVar 8) (aCons (dVar 4) (aNil))))))
    (sSeq (sIf (dOr (dNot (dTru (dCall 1 (g__law_is_fraction C) (aCons (dVar 11) (aNil))))) (dB (d2 oNe (dVar 11) (dCall 3 (g__law_due C) (aCons (dVar 6) (aCons (dVar 8) (aCons (dVar 4) (aNil)))))))) (sRet (dC (.bl false))) (sNx))
    (sSeq (sIf (dB (d2 oNe (dCall 3 (g_factor C) (aCons (dCall 2 (g_by_unit C) (aCons (dVar 6) (aCons (dVar 6) (aNil)))) (aCons (dVar 8) (aCons (dVar 4) (aNil))))) (dTup (aCons (dC (.int 1)) (aCons (dC (.int 1)) (aNil)))))) (sRet (dC (.bl false))) (sNx))
    (sSeq (sSet 12 (dCall 3 (g_factor C) (aCons (dVar 7) (aCons (dVar 9) (aCons (dVar 4) (aNil))))))
    (sSeq (sIf (dB (d2 oNe (dVar 12) (dCall 3 (g__law_due C) (aCons (dVar 7) (aCons (dVar 9) (aCons (dVar 4) (aNil))))))) (sRet (dC (.bl false))) (sNx))
    (sSeq (sIf (dB (d2 oNe (dCall 3 (g_factor C) (aCons (dCall 2 (g_times_unit C) (aCons (dVar 6) (aCons (dVar 7) (aNil)))) (aCons (dVar 9) (aCons (dVar 4) (aNil))))) (dCall 2 (g__law_product C) (aCons (dCall 3 (g_factor C) (aCons (dVar 6) (aCons (dVar 9) (aCons (dVar 4) (aNil))))) (aCons (dVar 12) (aNil)))))) (sRet (dC (.bl false))) (sNx))
    (sSeq (sSet 13 (dCB (b1 oTuple) (aCons (dLc lcF (dIt oRng1 (aCons (dVar 2) (aNil))) (tgN 14) (ftYes) (dCall 2 (g__law_product C) (aCons (d2 oIx (dVar 8) (dVar 14)) (aCons (d2 oIx (dVar 9) (dVar 14)) (aNil)))) [14]) (aNil))))
    (sSeq (sIf (dB (d2 oNe (dCall 3 (g_factor C) (aCons (dVar 6) (aCons (dVar 13) (aCons (dVar 4) (aNil))))) (dCall 2 (g__law_product C) (aCons (dVar 11) (aCons (dCall 3 (g_factor C) (aCons (dVar 6) (aCons (dVar 9) (aCons (dVar 4) (aNil))))) (aNil)))))) (sRet (dC (.bl false))) (sNx))
    (sRet (d2 oEq (dCall 3 (g_factor C) (aCons (dVar 7) (aCons (dVar 9) (aCons (d2 oMul (dVar 4) (dVar 10)) (aNil))))) (dCall 2 (g__law_power C) (aCons (dVar 12) (aCons (dVar 10) (aNil)))))))))))))))))
noncomputable def headL (C : Str → Addr) (g : FS) : FS :=
  sSeq (sSet 1 (dCall 2 (g__law_state C) (aCons (dVar 0) (aCons (dC (.int 2)) (aNil)))))
    (sSeq (sSet 2 (d2 oAdd (dC (.int 1)) (dCall 2 (g__law_draw C) (aCons (dVar 1) (aCons (dC (.int 3)) (aNil))))))
    (sSeq (sSet 3 (d2 oEq (dCall 2 (g__law_draw C) (aCons (dVar 1) (aCons (dC (.int 3)) (aNil)))) (dC (.int 1))))
    (sSeq (sSet 4 (dC (.int 12)))
    (sSeq (sSet 5 (d2 oSub (d2 oPow (dC (.int 10)) (dC (.int 39))) (dC (.int 1))))
    (sSeq (sIf (dNot (dTru (dVar 3))) (sSeq (sSet 4 (d2 oMul (dC (.int 12)) (d2 oAdd (dC (.int 1)) (dCall 2 (g__law_draw C) (aCons (dVar 1) (aCons (dC (.int 2)) (aNil)))))))
    (sSet 5 (d2 oIx (dLst (aCons (dC (.int 1)) (aCons (dC (.int 10)) (aCons (dC (.int 100)) (aCons (dC (.int 1000)) (aNil)))))) (dCall 2 (g__law_draw C) (aCons (dVar 1) (aCons (dC (.int 4)) (aNil))))))) (sNx))
    (sSeq (sSet 6 (dCall 2 (g__law_unit C) (aCons (dVar 1) (aCons (dVar 2) (aNil)))))
    (sSeq (sSet 7 (dCall 2 (g__law_unit C) (aCons (dVar 1) (aCons (dVar 2) (aNil)))))
    (sSeq (sIf (dTru (dVar 3)) (sSet 6 (dCB (b1 oTuple) (aCons (dLc lcF (dSeq (dVar 6)) (tgN 15) (ftYes) (dIf (dB (d2 oEq (d2 oMod (dCB (b1 oInt) (aCons (d2 oIx (dVar 15) (dC (.int 0))) (aNil))) (dC (.int 2))) (dC (.int 1)))) (dTup (aCons (d2 oIx (dVar 15) (dC (.int 0))) (aCons (dC (.int 4)) (aNil)))) (dTup (aCons (dC (.int 0)) (aCons (dC (.int 1)) (aNil))))) [15]) (aNil)))) (sNx))
    g))))))))
theorem law_parts (C : Str → Addr) : F_law C = headL C (restL C) := rfl
/-! ### products of factors -/
theorem zips {us vs ms : List (Int × Int)} (l1 : us.length = vs.length) (l2 : us.length = ms.length) :
    us.zip ms = ((us.zip vs).zip ms).map (fun x => (x.1.1, x.2)) ∧ vs.zip ms = ((us.zip vs).zip ms).map (fun x => (x.1.2, x.2)) ∧ (uplus us vs).zip ms = ((us.zip vs).zip ms).map fun x => (fplus x.1.1 x.1.2, x.2) := by
  induction us generalizing vs ms with
  | nil => cases vs with
    | nil => exact ⟨rfl, rfl, rfl⟩
    | cons v vs => simp at l1
  | cons u us ih => cases vs with
    | nil => simp at l1
    | cons v vs => cases ms with
      | nil => simp at l2
      | cons m ms =>
        obtain ⟨h1, h2, h3⟩ := ih (vs := vs) (ms := ms) (by simpa using l1) (by simpa using l2)
        exact ⟨congrArg (fun t => (u, m) :: t) h1, congrArg (fun t => (v, m) :: t) h2, congrArg (fun t => (fplus u v, m) :: t) h3⟩
def both (rs ms : List (Int × Int)) : List (Int × Int) := (rs.zip ms).map fun p => ftimes p.1 p.2
theorem zipsR {us rs ms : List (Int × Int)} (l1 : us.length = rs.length) (l2 : us.length = ms.length) :
    us.zip rs = (us.zip (rs.zip ms)).map (fun x => (x.1, x.2.1)) ∧ us.zip ms = (us.zip (rs.zip ms)).map (fun x => (x.1, x.2.2)) ∧ us.zip (both rs ms) = (us.zip (rs.zip ms)).map fun x => (x.1, ftimes x.2.1 x.2.2) := by
  induction us generalizing rs ms with
  | nil => exact ⟨rfl, rfl, rfl⟩
  | cons u us ih => cases rs with
    | nil => simp at l1
    | cons v vs => cases ms with
      | nil => simp at l2
      | cons m ms =>
        obtain ⟨h1, h2, h3⟩ := ih (rs := vs) (ms := ms) (by simpa using l1) (by simpa using l2)
        exact ⟨congrArg (fun t => (u, v) :: t) h1, congrArg (fun t => (u, m) :: t) h2, congrArg (fun t => (u, ftimes v m) :: t) h3⟩
theorem fac_units {k k' n M M' : Nat} {s : Int} {us vs ms : List (Int × Int)} (h : FacOk k n M s us ms) (g : FacOk k' n M' s vs ms) : fac (fz s) ((uplus us vs).zip ms) = ftimes (fac (fz s) (us.zip ms)) (fac (fz s) (vs.zip ms)) := by
  obtain ⟨z1, z2, z3⟩ := zips (us := us) (vs := vs) (ms := ms) (by rw [h.hl, g.hl]) h.hl
  have m1 : ∀ x ∈ (us.zip vs).zip ms, (x.1.1, x.2) ∈ us.zip ms := fun x hx => by rw [z1]; exact List.mem_map_of_mem hx
  have m2 : ∀ x ∈ (us.zip vs).zip ms, (x.1.2, x.2) ∈ vs.zip ms := fun x hx => by rw [z2]; exact List.mem_map_of_mem hx
  rw [z1, z2, z3, fac_map, fac_map, fac_map]
  refine fac_mul (fun x hx => h.pos (m1 x hx)) (fun x hx => g.pos (m2 x hx)) (fun x hx => ?_) fun x hx => ?_
  · have e := h.mem (m1 x hx)
    exact Pos.rz ⟨e.2.2.1, e.2.1.fr.1⟩ _
  · have e := h.mem (m1 x hx)
    have d := g.mem (m2 x hx)
    have q := (ex_plus e.1.fr d.1.fr e.2.2.2.1 d.2.2.2.1).2
    have r := rz_add (p := x.2) ⟨e.2.2.1, e.2.1.fr.1⟩ (ex s x.1.1) (ex s x.1.2)
    unfold fz
    dsimp only
    dsimp only at q
    rw [q]
    exact r
theorem fac_roots {k k' n n' M M' : Nat} {s : Int} {us rs ms : List (Int × Int)} (h : FacOk k n M s us rs) (g : FacOk k' n' M' s us ms) : fac (fz s) (us.zip (both rs ms)) = ftimes (fac (fz s) (us.zip rs)) (fac (fz s) (us.zip ms)) := by
  obtain ⟨z1, z2, z3⟩ := zipsR (us := us) (rs := rs) (ms := ms) h.hl g.hl
  have m1 : ∀ x ∈ us.zip (rs.zip ms), (x.1, x.2.1) ∈ us.zip rs := fun x hx => by rw [z1]; exact List.mem_map_of_mem hx
  have m2 : ∀ x ∈ us.zip (rs.zip ms), (x.1, x.2.2) ∈ us.zip ms := fun x hx => by rw [z2]; exact List.mem_map_of_mem hx
  rw [z1, z2, z3, fac_map, fac_map, fac_map]
  refine fac_mul (fun x hx => h.pos (m1 x hx)) (fun x hx => g.pos (m2 x hx)) (fun x hx => ?_) fun x hx => ?_
  · have e := h.mem (m1 x hx)
    have d := g.mem (m2 x hx)
    exact Pos.rz (ftimes_pos ⟨e.2.2.1, e.2.1.fr.1⟩ ⟨d.2.2.1, d.2.1.fr.1⟩) _
  · unfold fz
    dsimp only
    have r := (eqv_lo (fmul x.2.1 x.2.2)).rz (ex s x.1)
    rw [rz_mul] at r
    exact r
theorem fac_none {s : Int} {us rs : List (Int × Int)} (h : ∀ p ∈ us, Fr p) : fac (fz s) ((uminus us us).zip rs) = (1, 1) := by
  refine fac_one fun z hz => ?_
  obtain ⟨a, b⟩ := z
  have ha := (List.of_mem_zip hz).1
  unfold uminus at ha
  rw [self_zip] at ha
  obtain ⟨e, he, rfl⟩ := List.mem_map.mp ha
  unfold fz
  dsimp only
  rw [fminus_self (h e he)]
  have e0 : ex s (0, 1) = 0 := by unfold ex; simp
  rw [e0]
  unfold rz sw pw
  simp
theorem fac_scale {k n M : Nat} {s : Int} {us rs : List (Int × Int)} (h : FacOk k n M s us rs) {m : Nat} (hm : 0 < m) : fac (fz (s * (m : Int))) (us.zip rs) = rz (fac (fz s) (us.zip rs)) (m : Int) := by
  rw [fac_pow (f := fz s) (m := m) (fun x hx => h.pos hx) fun x hx => ?_]
  · unfold rz sw
    rw [if_neg (by omega), Int.natAbs_natCast]
  · have e := h.mem hx
    unfold fz
    rw [ex_scale e.1.fr.1 e.2.2.2.1, rz_mulN _ _ hm]
/-! ### what is small -/
theorem ep_div {p : Int × Int} (h : Ep p) {s : Int} (hs : s = 12 ∨ s = 24) : s % p.2 = 0 := by
  have h1 := h.1.fr.1
  have h2 := h.2.2
  have : p.2 = 1 ∨ p.2 = 2 ∨ p.2 = 3 ∨ p.2 = 4 := by omega
  rcases hs with rfl | rfl <;> rcases this with e | e | e | e <;> rw [e] <;> decide
theorem ep_ex {p : Int × Int} (h : Ep p) {s : Int} (hs : s = 12 ∨ s = 24) : (ex s p).natAbs ≤ 144 := by
  have h1 : (ex s p).natAbs ≤ (p.1 * s).natAbs := Int.natAbs_ediv_le_natAbs _ _
  have h2 := h.2.1
  rw [Int.natAbs_mul] at h1
  have h3 : s.natAbs ≤ 24 := by omega
  have := Nat.mul_le_mul h2 h3
  omega
def gr (p : Int × Int) : Int × Int := if (p.1 % 2 == 1) = true then (p.1, 4) else (0, 1)
theorem gr_ok {p : Int × Int} (h : Ep p) : Ep (gr p) ∧ (ex 12 (gr p)).natAbs ≤ 18 := by
  have h2 := h.2.1
  have : p.1 = -6 ∨ p.1 = -5 ∨ p.1 = -4 ∨ p.1 = -3 ∨ p.1 = -2 ∨ p.1 = -1 ∨ p.1 = 0 ∨ p.1 = 1 ∨ p.1 = 2 ∨ p.1 = 3 ∨ p.1 = 4 ∨ p.1 = 5 ∨ p.1 = 6 := by omega
  unfold gr
  rcases this with e | e | e | e | e | e | e | e | e | e | e | e | e <;> rw [e] <;> exact ⟨⟨⟨⟨by decide, by decide⟩, by decide, by decide⟩, by decide, by decide⟩, by decide⟩
theorem unB_ep {us : List (Int × Int)} {b : Int} (h : ∀ p ∈ us, Ep p) (hl : (us.length : Int) = b) (b1 : 1 ≤ b) (b3 : b ≤ 3) : UnB 3 us := ⟨fun p hp => (h p hp).1, by omega, by omega⟩
theorem FacOk.bd3 {k n M : Nat} {s : Int} {us rs : List (Int × Int)} (h : FacOk k n M s us rs) : FrB (1 + 3 * (n * M + 1)) (fac (fz s) (us.zip rs)) := by
  have h3 := h.hu.l3
  have hl := h.len
  have := fac_bd (f := fz s) (n := n * M + 1) (xs := us.zip rs) (a := (1, 1)) (m := 1) ⟨⟨by decide, by decide⟩, by decide, by decide⟩ fun x hx => by
    have m := h.mem hx
    exact (frb_rz m.2.1 m.2.2.1 (ex s x.1)).up (by have := Nat.mul_le_mul_left n m.2.2.2.2; omega)
  refine this.up ?_
  rw [hl]
  have := Nat.mul_le_mul_right (n * M + 1) h3
  omega
theorem both_ok {n m : Nat} {rs ms : List (Int × Int)} (h : ∀ r ∈ rs, FrB n r ∧ 0 < r.1) (g : ∀ r ∈ ms, FrB m r ∧ 0 < r.1) : ∀ r ∈ both rs ms, FrB (n + m) r ∧ 0 < r.1 := by
  intro r hr
  obtain ⟨⟨a, b⟩, hp, rfl⟩ := List.mem_map.mp hr
  have := List.of_mem_zip hp
  have ha := h a this.1
  have hb := g b this.2
  exact ⟨ftimes_ok ha.1 hb.1, (ftimes_pos ⟨ha.2, ha.1.fr.1⟩ ⟨hb.2, hb.1.fr.1⟩).1⟩
theorem both_len {rs ms : List (Int × Int)} (h : rs.length = ms.length) : (both rs ms).length = rs.length := by simp [both, h]
theorem e_rest (C : Str → Addr) {m : M} (hm : DrSt m) {b s most : Int} {n M : Nat} {us vs : List (Int × Int)} {gb : Bool} {x0 : D} (b1 : 1 ≤ b) (b3 : b ≤ 3) (hul : (us.length : Int) = b) (hvl : (vs.length : Int) = b)
    (hu : ∀ p ∈ us, Ep p) (hv : ∀ p ∈ vs, Ep p) (hs : s = 12 ∨ s = 24) (h1 : 1 ≤ most) (hn : Bd n most) (n0 : 0 < n) (n9 : n ≤ 200) (hM : ∀ e ∈ us, (ex s e).natAbs ≤ M) (hnM : (n + 3) * M + 1 ≤ 2500) :
    ∃ m', restL C [some (.d x0), some (.loc 0), some (.d (.int b)), some (.d (.bl gb)), some (.d (.int s)), some (.d (.int most)), some (.d (encU us)), some (.d (encU vs)), none, none, none, none, none, none, none, none] [m] = some (.ok (.rt (.d (.bl true))), [m']) := by
  obtain ⟨rs, m1, e1, hrl, hr, hm1⟩ := dLc_drawn (fi := dIt oRng1 (aCons (dVar 2) (aNil))) (tf := tgN 14) (fe := dCall 2 (g__law_root C) (aCons (dVar 1) (aCons (dVar 5) (aNil)))) (vs := [14]) (δ := [some (.d x0), some (.loc 0), some (.d (.int b)), some (.d (.bl gb)), some (.d (.int s)), some (.d (.int most)), some (.d (encU us)), some (.d (encU vs)), none, none, none, none, none, none, none, none]) (T := []) (m := m) (b := b) (Q := fun p => FrB n p ∧ 0 < p.1) (by omega) (by omega) hm (by
    have r2 := oRng1_eq (S := [m]) (j := b) (by omega) (by omega)
    unfold dIt
    clear b1 b3 hm hul hvl hu hv hs h1 hn n0 n9 hM hnM
    walk_at "evh") (fun w m hm => by
    obtain ⟨p, m', e, hp, h'⟩ := e_law_root C [] hm h1 hn n0 n9
    refine ⟨_, p, m', rfl, ?_, h', hp⟩
    clear hp h' hm b1 b3 hul hvl hu hv hs h1 hn n0 n9 hM hnM
    walk_at "evh")
  obtain ⟨ms, m2, e2, hml, hms, hm2⟩ := dLc_drawn (fi := dIt oRng1 (aCons (dVar 2) (aNil))) (tf := tgN 14) (fe := dCall 2 (g__law_root C) (aCons (dVar 1) (aCons (dC (.int 7)) (aNil)))) (vs := [14]) (δ := [some (.d x0), some (.loc 0), some (.d (.int b)), some (.d (.bl gb)), some (.d (.int s)), some (.d (.int most)), some (.d (encU us)), some (.d (encU vs)), some (.d (encU rs)), none, none, none, none, none, none, none]) (T := []) (m := m1) (b := b) (Q := fun p => FrB 3 p ∧ 0 < p.1) (by omega) (by omega) hm1 (by
    have r2 := oRng1_eq (S := [m1]) (j := b) (by omega) (by omega)
    unfold dIt
    clear b1 b3 hm hul hvl hu hv hs h1 hn n0 n9 hM hnM e1 hr hrl hm1
    walk_at "evh") (fun w m hm => by
    obtain ⟨p, m', e, hp, h'⟩ := e_law_root C [] (n := 3) (b := 7) hm (by decide) (by decide) (by decide) (by decide)
    refine ⟨_, p, m', rfl, ?_, h', hp⟩
    clear hp h' hm b1 b3 hul hvl hu hv hs h1 hn n0 n9 hM hnM e1 hr hrl hm1
    walk_at "evh")
  obtain ⟨mm, m3, e3, mm0, mm1, hm3⟩ := e_draw C [] hm2 (k := 5) (by decide) (by decide)
  refine ⟨m3, ?_⟩
  have hm1' : M ≤ 2499 := by have := Nat.le_mul_of_pos_left M (show 0 < n + 3 by omega); omega
  have eM : (n + 3) * M = n * M + 3 * M := Nat.add_mul _ _ _
  have uu := unB_ep hu hul b1 b3
  have uv := unB_ep hv hvl b1 b3
  have s1 : 1 ≤ s := by omega
  have sb : Bd 8 s := by rcases hs with rfl | rfl <;> decide
  have fA : FacOk 3 n M s us rs := ⟨uu, hr, by omega, s1, sb, fun e he => ep_div (hu e he) hs, hM, by decide, by decide, n0, by omega⟩
  have fE : FacOk 3 3 M s us ms := ⟨uu, hms, by omega, s1, sb, fun e he => ep_div (hu e he) hs, hM, by decide, by decide, by decide, by omega⟩
  have fC : FacOk 3 3 144 s vs ms := ⟨uv, hms, by omega, s1, sb, fun e he => ep_div (hv e he) hs, fun e he => ep_ex (hv e he) hs, by decide, by decide, by decide, by decide⟩
  have fE' : FacOk 3 3 144 s us ms := ⟨uu, hms, by omega, s1, sb, fun e he => ep_div (hu e he) hs, fun e he => ep_ex (hu e he) hs, by decide, by decide, by decide, by decide⟩
  have l1 : us.length = vs.length := by omega
  have fB : FacOk 7 n 0 s (uminus us us) rs := ⟨uminus_ok uu uu rfl, hr, by rw [uminus_len rfl]; omega, s1, sb, fun e he => by
      unfold uminus at he
      rw [self_zip] at he
      obtain ⟨q, hq, rfl⟩ := List.mem_map.mp he
      rw [fminus_self (hu q hq).1.fr]
      exact Int.emod_one s, fun e he => by
      unfold uminus at he
      rw [self_zip] at he
      obtain ⟨q, hq, rfl⟩ := List.mem_map.mp he
      rw [fminus_self (hu q hq).1.fr]
      unfold ex
      simp, by decide, by decide, n0, by omega⟩
  have hpl : ∀ e ∈ uplus us vs, s % e.2 = 0 ∧ (ex s e).natAbs ≤ 288 := fun e he => by
    obtain ⟨⟨p, q⟩, hz, rfl⟩ := List.mem_map.mp he
    have hp := hu p (List.of_mem_zip hz).1
    have hq := hv q (List.of_mem_zip hz).2
    have x := ex_plus hp.1.fr hq.1.fr (ep_div hp hs) (ep_div hq hs)
    refine ⟨x.1, ?_⟩
    rw [x.2]
    have a1 := ep_ex hp hs
    have a2 := ep_ex hq hs
    omega
  have fD : FacOk 7 3 288 s (uplus us vs) ms := ⟨uplus_ok uu uv l1, hms, by rw [uplus_len l1]; omega, s1, sb, fun e he => (hpl e he).1, fun e he => (hpl e he).2, by decide, by decide, by decide, by decide⟩
  have lb : (both rs ms).length = rs.length := both_len (by omega)
  have fF : FacOk 3 (n + 3) M s us (both rs ms) := ⟨uu, both_ok hr hms, by omega, s1, sb, fun e he => ep_div (hu e he) hs, hM, by decide, by decide, by omega, by omega⟩
  obtain ⟨mn, hmn⟩ : ∃ mn : Nat, 1 + mm = (mn : Int) := ⟨(1 + mm).toNat, by omega⟩
  have mn0 : 0 < mn := by omega
  have mn5 : mn ≤ 5 := by omega
  have fG : FacOk 3 3 720 (s * (mn : Int)) vs ms := ⟨uv, hms, by omega, by have := Int.mul_le_mul s1 (show (1 : Int) ≤ (mn : Int) by omega) (by decide) (by omega); simpa using this, (by
      have hh : mn = 1 ∨ mn = 2 ∨ mn = 3 ∨ mn = 4 ∨ mn = 5 := by omega
      rcases hs with rfl | rfl <;> rcases hh with rfl | rfl | rfl | rfl | rfl <;> decide), fun e he => by
      have := ep_div (hv e he) hs
      exact Int.emod_eq_zero_of_dvd (Int.dvd_trans (Int.dvd_of_emod_eq_zero this) (Int.dvd_mul_right _ _)), fun e he => by
      rw [ex_scale (hv e he).1.fr.1 (ep_div (hv e he) hs), Int.natAbs_mul, Int.natAbs_natCast]
      have := Nat.mul_le_mul (ep_ex (hv e he) hs) mn5
      omega, by decide, by decide, by decide, by decide⟩
  have gA := e_factor C [m3] fA
  have gA2 := e_law_due C [m3] fA (by omega)
  have gA3 := e_law_is_fraction C [m3] fA.bd
  have gB0 := e_by_unit C [m3] uu uu rfl
  have gB := e_factor C [m3] fB
  rw [fac_none fun p hp => (hu p hp).1.fr] at gB
  have gC := e_factor C [m3] fC
  have gC2 := e_law_due C [m3] fC (by decide)
  have gD0 := e_times_unit C [m3] uu uv l1
  have gD := e_factor C [m3] fD
  rw [fac_units fE' fC] at gD
  have gE := e_factor C [m3] fE
  have gP := e_law_product C [m3] fE'.bd3 fC.bd3
  have gF := e_factor C [m3] fF
  rw [fac_roots fA fE] at gF
  have gQ := e_law_product C [m3] fA.bd3 fE.bd3 (by omega) (by omega) (by omega)
  have gG := e_factor C [m3] fG
  rw [fac_scale fC mn0] at gG
  have gR := e_law_power C [m3] (n := 1 + 3 * (3 * 144 + 1)) (k := (mn : Int)) fC.bd3.b1 fC.bd3.b2 (by decide) (by rw [Int.natAbs_natCast]; omega) (by decide)
  have c1 : CMulW s (mn : Int) := sb.mulOk (m := 4) (by unfold Bd; omega)
  have bt : dLc lcF (dIt oRng1 (aCons (dVar 2) (aNil))) (tgN 14) (ftYes) (dCall 2 (g__law_product C) (aCons (d2 oIx (dVar 8) (dVar 14)) (aCons (d2 oIx (dVar 9) (dVar 14)) (aNil)))) [14] [some (.d x0), some (.loc 0), some (.d (.int b)), some (.d (.bl gb)), some (.d (.int s)), some (.d (.int most)), some (.d (encU us)), some (.d (encU vs)), some (.d (encU rs)), some (.d (encU ms)), some (.d (.int (mn : Int))), some (.d (encF (fac (fz s) (us.zip rs)))), some (.d (encF (fac (fz s) (vs.zip ms)))), none, none, none] [m3] = some (.ok (.d (.lst ((List.range rs.length).map fun k => encF (ftimes (rs.getD k (0, 1)) (ms.getD k (0, 1)))))), [m3]) := by
    refine dLc_map (wf := fun (k : Nat) => W.d (.int (k : Int))) (f := fun k => encF (ftimes (rs.getD k (0, 1)) (ms.getD k (0, 1)))) ?_ (by simp; omega) fun k hk => ?_
    · have r := oRng1_nat (S := [m3]) (n := rs.length) (by omega)
      rw [hrl] at r
      show (aCons _ aNil _ [m3]).bind oRng1 = _
      rw [show aCons (dVar 2) aNil [some (.d x0), some (.loc 0), some (.d (.int b)), some (.d (.bl gb)), some (.d (.int s)), some (.d (.int most)), some (.d (encU us)), some (.d (encU vs)), some (.d (encU rs)), some (.d (encU ms)), some (.d (.int (mn : Int))), some (.d (encF (fac (fz s) (us.zip rs)))), some (.d (encF (fac (fz s) (vs.zip ms)))), none, none, none] [m3] = some (.ok [.d (.int b)], [m3]) from by walk_at "ev", bind_ok, r]
    · have hk1 : k < rs.length := by simpa using hk
      have hk2 : k < ms.length := by omega
      have i1 := ixU (S := [m3]) hk1
      have i2 := ixU (S := [m3]) hk2
      have g1 : rs.getD k (0, 1) = rs[k] := by simp [List.getD, hk1]
      have g2 : ms.getD k (0, 1) = ms[k] := by simp [List.getD, hk2]
      have e := e_law_product C [m3] (hr rs[k] (List.getElem_mem _)).1 (hms ms[k] (List.getElem_mem _)).1 n0 (by decide) (by omega)
      refine ⟨_, rfl, ?_⟩
      rw [g1, g2]
      clear hk g1 g2 gA gA2 gA3 gB0 gB gC gC2 gD0 gD gE gP gF gQ gG gR c1 fA fB fC fD fE fE' fF fG hpl hu hv hm hul hvl hM hnM hr hms eM e1 e2 e3 hm1 hm2 hm3 hmn hrl hml lb
      walk_at "evh"
  have eb : D.tup ((List.range rs.length).map fun k => encF (ftimes (rs.getD k (0, 1)) (ms.getD k (0, 1)))) = encU (both rs ms) := by
    rw [map_range_zip (fun a b => encF (ftimes a b)) rs ms (by omega) (0, 1)]
    simp [encU, both, Function.comp_def]
  have er : D.tup (rs.map encF) = encU rs := rfl
  have em : D.tup (ms.map encF) = encU ms := rfl
  have o1 : encF (1, 1) = .tup [.int 1, .int 1] := rfl
  have ne1 : ∀ S : Store, oNe (.d (.tup [.int 1, .int 1])) (.d (.tup [.int 1, .int 1])) S = some (.ok (.d (.bl false)), S) := fun S => oNe_refl (pl_encF (1, 1)) (by decide)
  have neF : ∀ (p : Int × Int) (S : Store), oNe (.d (encF p)) (.d (encF p)) S = some (.ok (.d (.bl false)), S) := fun p S => oNe_refl (pl_encF p) (by decide)
  rw [o1] at gB
  clear fA fB fC fD fE fE' fF fG hpl hu hv hm hul hvl hM hnM hr hms eM hm1 hm2 hm3 hrl hml lb uu uv s1 sb hs h1 hn n0 n9 b1 b3 mm0 mm1 l1 mn0 mn5 o1 hm1'
  unfold restL
  walk_at "evh"
theorem ix4 {j : Int} (h0 : 0 ≤ j) (h5 : j < 4) : ∃ v, (∀ S, oIx (.d (.lst [.int 1, .int 10, .int 100, .int 1000])) (.d (.int j)) S = some (.ok (.d (.int v)), S)) ∧ 1 ≤ v ∧ Bd 10 v := by
  have hj : j = 0 ∨ j = 1 ∨ j = 2 ∨ j = 3 := by omega
  rcases hj with rfl | rfl | rfl | rfl
  · exact ⟨1, fun _ => rfl, by decide, by decide⟩
  · exact ⟨10, fun _ => rfl, by decide, by decide⟩
  · exact ⟨100, fun _ => rfl, by decide, by decide⟩
  · exact ⟨1000, fun _ => rfl, by decide, by decide⟩
theorem pure_law (C : Str → Addr) (ns : List Int) (hl : ns.length ≤ 63) : ∃ S', g_law C [.d (.lst (ns.map D.int))] [] = some (.ok (.d (.bl true)), S') := by
  refine ⟨[], ?_⟩
  have s0 := e_law_state C ns
  have h0 : DrSt (encSt ns 0 0 3) := ⟨ns, 0, 0, 3, rfl, Nat.zero_le _, by decide, by decide, by decide, hl⟩
  generalize encSt ns 0 0 3 = m0 at s0 h0
  obtain ⟨r, m1, e1, r0, r1, h1⟩ := e_draw C [] h0 (k := 3) (by decide) (by decide)
  obtain ⟨g, m2, e2, g0, g1, h2⟩ := e_draw C [] h1 (k := 3) (by decide) (by decide)
  have q39 : CPow 10 39 := by decide
  have gn := fun x S1 => giveS_nil (x := x) (S1 := S1)
  rw [q_law, law_parts]
  by_cases hg : g = 1
  · subst hg
    obtain ⟨us, m3, e3, hul, hu, h3⟩ := e_law_unit C [] h2 (b := 1 + r) (by omega) (by omega)
    obtain ⟨vs, m4, e4, hvl, hv, h4⟩ := e_law_unit C [] h3 (b := 1 + r) (by omega) (by omega)
    have eg : dLc lcF (dSeq (dVar 6)) (tgN 15) (ftYes) (dIf (dB (d2 oEq (d2 oMod (dCB (b1 oInt) (aCons (d2 oIx (dVar 15) (dC (.int 0))) (aNil))) (dC (.int 2))) (dC (.int 1)))) (dTup (aCons (d2 oIx (dVar 15) (dC (.int 0))) (aCons (dC (.int 4)) (aNil)))) (dTup (aCons (dC (.int 0)) (aCons (dC (.int 1)) (aNil))))) [15] [some (.d (.lst (ns.map D.int))), some (.loc 0), some (.d (.int (1 + r))), some (.d (.bl true)), some (.d (.int 12)), some (.d (.int 999999999999999999999999999999999999999)), some (.d (encU us)), some (.d (encU vs)), none, none, none, none, none, none, none, none] [m4] = some (.ok (.d (.lst (us.map fun p => encF (gr p)))), [m4]) := by
      refine dLc_map (wf := fun p => W.d (encF p)) (f := fun p => encF (gr p)) (seqU rfl) (by omega) fun p hp => ?_
      refine ⟨_, rfl, ?_⟩
      clear hp hu hv hul hvl h0 h1 h2 h3 h4 e1 e2 e3 e4 s0 gn q39 r0 r1 g0 g1 hl
      by_cases hb : (p.1 % 2 == 1) = true
      · have : encF (gr p) = .tup [.int p.1, .int 4] := by unfold gr; rw [if_pos hb]; rfl
        rw [this]
        clear this
        walk_at "evh"
      · have : encF (gr p) = .tup [.int 0, .int 1] := by unfold gr; rw [if_neg hb]; rfl
        rw [this]
        simp only [Bool.not_eq_true] at hb
        clear this
        walk_at "evh"
    have eu : D.tup (us.map fun p => encF (gr p)) = encU (us.map gr) := by simp [encU, Function.comp_def]
    obtain ⟨m5, e5⟩ := e_rest C h4 (b := 1 + r) (s := 12) (most := 999999999999999999999999999999999999999) (n := 130) (M := 18) (us := us.map gr) (vs := vs) (gb := true) (x0 := .lst (ns.map D.int)) (by omega) (by omega) (by simpa using hul) hvl (fun p hp => by
      obtain ⟨q, hq, rfl⟩ := List.mem_map.mp hp
      exact (gr_ok (hu q hq)).1) hv (.inl rfl) (by decide) (by decide) (by decide) (by decide) (fun p hp => by
      obtain ⟨q, hq, rfl⟩ := List.mem_map.mp hp
      exact (gr_ok (hu q hq)).2) (by decide)
    clear h0 h1 h2 h3 h4 hu hv hul hvl r0 r1 g0 g1 hl
    unfold headL
    walk_at "evh"
  · have hb : (g == 1) = false := by simpa using hg
    obtain ⟨d, m3, e3, d0, d1, h3⟩ := e_draw C [] h2 (k := 2) (by decide) (by decide)
    obtain ⟨j, m4, e4, j0, j1, h4⟩ := e_draw C [] h3 (k := 4) (by decide) (by decide)
    obtain ⟨v, ev, v1, vb⟩ := ix4 j0 j1
    obtain ⟨us, m5, e5, hul, hu, h5⟩ := e_law_unit C [] h4 (b := 1 + r) (by omega) (by omega)
    obtain ⟨vs, m6, e6, hvl, hv, h6⟩ := e_law_unit C [] h5 (b := 1 + r) (by omega) (by omega)
    have hs : 12 * (1 + d) = 12 ∨ 12 * (1 + d) = 24 := by omega
    have ml : ∀ S : Store, mkLst [.d (.int 1), .d (.int 10), .d (.int 100), .d (.int 1000)] S = some (.ok (.d (.lst [.int 1, .int 10, .int 100, .int 1000])), S) := fun _ => rfl
    obtain ⟨m7, e7⟩ := e_rest C h6 (b := 1 + r) (s := 12 * (1 + d)) (most := v) (n := 10) (M := 144) (us := us) (vs := vs) (gb := false) (x0 := .lst (ns.map D.int)) (by omega) (by omega) hul hvl hu hv hs v1 vb (by decide) (by decide) (fun p hp => ep_ex (hu p hp) hs) (by decide)
    have c1 : CMulW 12 (1 + d) := Bd.mulOk (n := 5) (m := 3) (by decide) (by unfold Bd; omega)
    clear h0 h1 h2 h3 h4 h5 h6 hu hv hul hvl r0 r1 g0 g1 hl d0 d1 j0 j1 v1 vb hs hg
    unfold headL
    walk_at "evh"
end P02
set_option Elab.async false
set_option linter.all false
set_option maxRecDepth 100000
set_option maxHeartbeats 4000000
namespace P02
open PySem PySem.Spec PyProof.Rows L2 DL
/-! what the top has left -/
structure Txt (K : PySem.W.Frag) (mg : Str → Option Value) : Prop where
  d_is_integer : ∃ fd, FunD K "is_integer" "is_integer" (defArgs s_is_integer) (defBody s_is_integer) (defScope s_is_integer) [] [] (He.ga K "is_integer") fd
  m_is_integer : mg "is_integer" = some (.ref (He.ga K "is_integer"))
  d_divisor : ∃ fd, FunD K "divisor" "divisor" (defArgs s_divisor) (defBody s_divisor) (defScope s_divisor) [] [] (He.ga K "divisor") fd
  m_divisor : mg "divisor" = some (.ref (He.ga K "divisor"))
  d_lowest : ∃ fd, FunD K "lowest" "lowest" (defArgs s_lowest) (defBody s_lowest) (defScope s_lowest) [] [] (He.ga K "lowest") fd
  m_lowest : mg "lowest" = some (.ref (He.ga K "lowest"))
  d_is_fraction : ∃ fd, FunD K "is_fraction" "is_fraction" (defArgs s_is_fraction) (defBody s_is_fraction) (defScope s_is_fraction) [] [] (He.ga K "is_fraction") fd
  m_is_fraction : mg "is_fraction" = some (.ref (He.ga K "is_fraction"))
  d_is_above : ∃ fd, FunD K "is_above" "is_above" (defArgs s_is_above) (defBody s_is_above) (defScope s_is_above) [] [] (He.ga K "is_above") fd
  m_is_above : mg "is_above" = some (.ref (He.ga K "is_above"))
  d_plus : ∃ fd, FunD K "plus" "plus" (defArgs s_plus) (defBody s_plus) (defScope s_plus) [] [] (He.ga K "plus") fd
  m_plus : mg "plus" = some (.ref (He.ga K "plus"))
  d_minus : ∃ fd, FunD K "minus" "minus" (defArgs s_minus) (defBody s_minus) (defScope s_minus) [] [] (He.ga K "minus") fd
  m_minus : mg "minus" = some (.ref (He.ga K "minus"))
  d_times : ∃ fd, FunD K "times" "times" (defArgs s_times) (defBody s_times) (defScope s_times) [] [] (He.ga K "times") fd
  m_times : mg "times" = some (.ref (He.ga K "times"))
  d_raised : ∃ fd, FunD K "raised" "raised" (defArgs s_raised) (defBody s_raised) (defScope s_raised) [] [] (He.ga K "raised") fd
  m_raised : mg "raised" = some (.ref (He.ga K "raised"))
  d_is_unit_of : ∃ fd, FunD K "is_unit_of" "is_unit_of" (defArgs s_is_unit_of) (defBody s_is_unit_of) (defScope s_is_unit_of) [] [] (He.ga K "is_unit_of") fd
  m_is_unit_of : mg "is_unit_of" = some (.ref (He.ga K "is_unit_of"))
  d_is_any_unit : ∃ fd, FunD K "is_any_unit" "is_any_unit" (defArgs s_is_any_unit) (defBody s_is_any_unit) (defScope s_is_any_unit) [] [] (He.ga K "is_any_unit") fd
  m_is_any_unit : mg "is_any_unit" = some (.ref (He.ga K "is_any_unit"))
  d_unit_plus : ∃ fd, FunD K "unit_plus" "unit_plus" (defArgs s_unit_plus) (defBody s_unit_plus) (defScope s_unit_plus) [] [] (He.ga K "unit_plus") fd
  m_unit_plus : mg "unit_plus" = some (.ref (He.ga K "unit_plus"))
  d_unit_minus : ∃ fd, FunD K "unit_minus" "unit_minus" (defArgs s_unit_minus) (defBody s_unit_minus) (defScope s_unit_minus) [] [] (He.ga K "unit_minus") fd
  m_unit_minus : mg "unit_minus" = some (.ref (He.ga K "unit_minus"))
  d_check_unit : ∃ fd, FunD K "check_unit" "check_unit" (defArgs s_check_unit) (defBody s_check_unit) (defScope s_check_unit) [] [] (He.ga K "check_unit") fd
  m_check_unit : mg "check_unit" = some (.ref (He.ga K "check_unit"))
  d_check_two : ∃ fd, FunD K "check_two" "check_two" (defArgs s_check_two) (defBody s_check_two) (defScope s_check_two) [] [] (He.ga K "check_two") fd
  m_check_two : mg "check_two" = some (.ref (He.ga K "check_two"))
  d_times_unit : ∃ fd, FunD K "times_unit" "times_unit" (defArgs s_times_unit) (defBody s_times_unit) (defScope s_times_unit) [] [] (He.ga K "times_unit") fd
  m_times_unit : mg "times_unit" = some (.ref (He.ga K "times_unit"))
  d_by_unit : ∃ fd, FunD K "by_unit" "by_unit" (defArgs s_by_unit) (defBody s_by_unit) (defScope s_by_unit) [] [] (He.ga K "by_unit") fd
  m_by_unit : mg "by_unit" = some (.ref (He.ga K "by_unit"))
  d_check_roots : ∃ fd, FunD K "check_roots" "check_roots" (defArgs s_check_roots) (defBody s_check_roots) (defScope s_check_roots) [] [] (He.ga K "check_roots") fd
  m_check_roots : mg "check_roots" = some (.ref (He.ga K "check_roots"))
  d_raw_factor : ∃ fd, FunD K "raw_factor" "raw_factor" (defArgs s_raw_factor) (defBody s_raw_factor) (defScope s_raw_factor) [] [] (He.ga K "raw_factor") fd
  m_raw_factor : mg "raw_factor" = some (.ref (He.ga K "raw_factor"))
  d_factor : ∃ fd, FunD K "factor" "factor" (defArgs s_factor) (defBody s_factor) (defScope s_factor) [] [] (He.ga K "factor") fd
  m_factor : mg "factor" = some (.ref (He.ga K "factor"))
  d__law_is_integer : ∃ fd, FunD K "_law_is_integer" "_law_is_integer" (defArgs s__law_is_integer) (defBody s__law_is_integer) (defScope s__law_is_integer) [] [] (He.ga K "_law_is_integer") fd
  m__law_is_integer : mg "_law_is_integer" = some (.ref (He.ga K "_law_is_integer"))
  d__law_state : ∃ fd, FunD K "_law_state" "_law_state" (defArgs s__law_state) (defBody s__law_state) (defScope s__law_state) [] [] (He.ga K "_law_state") fd
  m__law_state : mg "_law_state" = some (.ref (He.ga K "_law_state"))
  d__law_mixed : ∃ fd, FunD K "_law_mixed" "_law_mixed" (defArgs s__law_mixed) (defBody s__law_mixed) (defScope s__law_mixed) [] [] (He.ga K "_law_mixed") fd
  m__law_mixed : mg "_law_mixed" = some (.ref (He.ga K "_law_mixed"))
  d__law_draw : ∃ fd, FunD K "_law_draw" "_law_draw" (defArgs s__law_draw) (defBody s__law_draw) (defScope s__law_draw) [] [] (He.ga K "_law_draw") fd
  m__law_draw : mg "_law_draw" = some (.ref (He.ga K "_law_draw"))
  d__law_low : ∃ fd, FunD K "_law_low" "_law_low" (defArgs s__law_low) (defBody s__law_low) (defScope s__law_low) [] [] (He.ga K "_law_low") fd
  m__law_low : mg "_law_low" = some (.ref (He.ga K "_law_low"))
  d__law_product : ∃ fd, FunD K "_law_product" "_law_product" (defArgs s__law_product) (defBody s__law_product) (defScope s__law_product) [] [] (He.ga K "_law_product") fd
  m__law_product : mg "_law_product" = some (.ref (He.ga K "_law_product"))
  d__law_exponent : ∃ fd, FunD K "_law_exponent" "_law_exponent" (defArgs s__law_exponent) (defBody s__law_exponent) (defScope s__law_exponent) [] [] (He.ga K "_law_exponent") fd
  m__law_exponent : mg "_law_exponent" = some (.ref (He.ga K "_law_exponent"))
  d__law_unit : ∃ fd, FunD K "_law_unit" "_law_unit" (defArgs s__law_unit) (defBody s__law_unit) (defScope s__law_unit) [] [] (He.ga K "_law_unit") fd
  m__law_unit : mg "_law_unit" = some (.ref (He.ga K "_law_unit"))
  d__law_is_fraction : ∃ fd, FunD K "_law_is_fraction" "_law_is_fraction" (defArgs s__law_is_fraction) (defBody s__law_is_fraction) (defScope s__law_is_fraction) [] [] (He.ga K "_law_is_fraction") fd
  m__law_is_fraction : mg "_law_is_fraction" = some (.ref (He.ga K "_law_is_fraction"))
  d__law_root : ∃ fd, FunD K "_law_root" "_law_root" (defArgs s__law_root) (defBody s__law_root) (defScope s__law_root) [] [] (He.ga K "_law_root") fd
  m__law_root : mg "_law_root" = some (.ref (He.ga K "_law_root"))
  d__law_power : ∃ fd, FunD K "_law_power" "_law_power" (defArgs s__law_power) (defBody s__law_power) (defScope s__law_power) [] [] (He.ga K "_law_power") fd
  m__law_power : mg "_law_power" = some (.ref (He.ga K "_law_power"))
  d__law_due : ∃ fd, FunD K "_law_due" "_law_due" (defArgs s__law_due) (defBody s__law_due) (defScope s__law_due) [] [] (He.ga K "_law_due") fd
  m__law_due : mg "_law_due" = some (.ref (He.ga K "_law_due"))
  d_law : ∃ fd, FunD K "law" "law" (defArgs s_law) (defBody s_law) (defScope s_law) [] [] (He.ga K "law") fd
  m_law : mg "law" = some (.ref (He.ga K "law"))
  b_abs : mg "abs" = none
  b_all : mg "all" = none
  b_any : mg "any" = none
  b_bool : mg "bool" = none
  b_int : mg "int" = none
  b_isinstance : mg "isinstance" = none
  b_len : mg "len" = none
  b_list : mg "list" = none
  b_range : mg "range" = none
  b_tuple : mg "tuple" = none
  b_zip : mg "zip" = none
  i_MOST_BASES : ∃ t, mg "MOST_BASES" = some (.int 3 t)
section
variable {P : Program} {w : World} {K : PySem.W.Frag} {mg : Str → Option Value} {base : Heap}
theorem sc_is_integer : FnScope ["thing"] ["thing"] (defScope s_is_integer) := ⟨rfl, rfl, rfl, by decide +kernel, rfl, by decide +kernel, by decide +kernel⟩
theorem ok_is_integer (T : Txt K mg) : FnD P w K mg base 1 "is_integer" 1 (g_is_integer (He.ga K)) := by
  obtain ⟨fd, F⟩ := T.d_is_integer
  have hb : ∀ (kV doc pm : Value) (an : Option Addr) (cdv ct : Value) (us : List Value), us.length = (["thing"] : List Str).length → bindArgs (PySem.W.fnOf "is_integer" "is_integer" (defArgs s_is_integer) (defBody s_is_integer) (defScope s_is_integer) .none kV doc pm an cdv ct) ⟨us, []⟩ = pure ((["thing"] : List Str).zip us) := (fun _ _ _ _ _ _ us hl => match us, hl with | [_], _ => rfl)
  refine FnD.as (g := dDef giveS 1 (["thing"] : List Str).length (F_is_integer (He.ga K))) ?_ rfl
  refine fnD_mk (k := 0) (fb := F_is_integer (He.ga K)) giveS_ok F T.m_is_integer sc_is_integer rfl hb ?_
  intro cdv A outer s H E c
  exact dss_one (ds_ret (de_and (de_callB call_isi oIsi_ok T.b_isinstance bt_isinstance (da_cons (de_var (pv 0)) (da_cons (de_ty T.b_int bt_int) (da_nil)))) (de_one (de_not (de_callB call_isi oIsi_ok T.b_isinstance bt_isinstance (da_cons (de_var (pv 0)) (da_cons (de_ty T.b_bool bt_bool) (da_nil))))))))
theorem sc_divisor : FnScope ["one", "other"] ["one", "other"] (defScope s_divisor) := ⟨rfl, rfl, rfl, by decide +kernel, rfl, by decide +kernel, by decide +kernel⟩
theorem ok_divisor (T : Txt K mg) : FnD P w K mg base 1 "divisor" 2 (g_divisor (He.ga K)) := by
  obtain ⟨fd, F⟩ := T.d_divisor
  have hb : ∀ (kV doc pm : Value) (an : Option Addr) (cdv ct : Value) (us : List Value), us.length = (["one", "other"] : List Str).length → bindArgs (PySem.W.fnOf "divisor" "divisor" (defArgs s_divisor) (defBody s_divisor) (defScope s_divisor) .none kV doc pm an cdv ct) ⟨us, []⟩ = pure ((["one", "other"] : List Str).zip us) := (fun _ _ _ _ _ _ us hl => match us, hl with | [_, _], _ => rfl)
  refine FnD.as (g := dDef giveS 2 (["one", "other"] : List Str).length (F_divisor (He.ga K))) ?_ rfl
  refine fnD_mk (k := 0) (fb := F_divisor (He.ga K)) giveS_ok F T.m_divisor sc_divisor rfl hb ?_
  intro cdv A outer s H E c
  exact dss_cons (ds_par 0 1 rfl c.nd (de_callB call_abs oAbs_ok T.b_abs bt_abs (da_cons (de_var (pv 0)) (da_nil))) (de_callB call_abs oAbs_ok T.b_abs bt_abs (da_cons (de_var (pv 1)) (da_nil))))
    (dss_cons (ds_while c.po (dt_cmp op_gt oGt_ok (de_var (pv 1)) (de_int)) (dss_one (ds_par 0 1 rfl c.nd (de_var (pv 1)) (de_op op_mod oMod_ok (de_var (pv 0)) (de_var (pv 1))))))
    (dss_one (ds_ret (de_var (pv 0)))))
theorem sc_lowest : FnScope ["top", "bottom", "common"] ["top", "bottom"] (defScope s_lowest) := ⟨rfl, rfl, rfl, by decide +kernel, rfl, by decide +kernel, by decide +kernel⟩
theorem ok_lowest (T : Txt K mg) : FnD P w K mg base 2 "lowest" 2 (g_lowest (He.ga K)) := by
  obtain ⟨fd, F⟩ := T.d_lowest
  have hb : ∀ (kV doc pm : Value) (an : Option Addr) (cdv ct : Value) (us : List Value), us.length = (["top", "bottom"] : List Str).length → bindArgs (PySem.W.fnOf "lowest" "lowest" (defArgs s_lowest) (defBody s_lowest) (defScope s_lowest) .none kV doc pm an cdv ct) ⟨us, []⟩ = pure ((["top", "bottom"] : List Str).zip us) := (fun _ _ _ _ _ _ us hl => match us, hl with | [_, _], _ => rfl)
  refine FnD.as (g := dDef giveS 2 (["top", "bottom", "common"] : List Str).length (F_lowest (He.ga K))) ?_ rfl
  refine fnD_mk (k := 1) (fb := F_lowest (He.ga K)) giveS_ok F T.m_lowest sc_lowest rfl hb ?_
  intro cdv A outer s H E c
  exact dss_cons (ds_set 2 c.nd (de_call (ok_divisor T) c.tk (c.room.mono (by decide)) (da_cons (de_var (pv 0)) (da_cons (de_var (pv 1)) (da_nil)))))
    (dss_cons (ds_if (dt_cmp op_lt oLt_ok (de_var (pv 1)) (de_int)) (dss_one (ds_set 2 c.nd (de_neg (de_var (pv 2))))) (dss_nil))
    (dss_one (ds_ret (de_tup (da_cons (de_op op_fdivW oDiv_ok (de_var (pv 0)) (de_var (pv 2))) (da_cons (de_op op_fdivW oDiv_ok (de_var (pv 1)) (de_var (pv 2))) (da_nil)))))))
theorem sc_is_fraction : FnScope ["thing"] ["thing"] (defScope s_is_fraction) := ⟨rfl, rfl, rfl, by decide +kernel, rfl, by decide +kernel, by decide +kernel⟩
theorem ok_is_fraction (T : Txt K mg) : FnD P w K mg base 2 "is_fraction" 1 (g_is_fraction (He.ga K)) := by
  obtain ⟨fd, F⟩ := T.d_is_fraction
  have hb : ∀ (kV doc pm : Value) (an : Option Addr) (cdv ct : Value) (us : List Value), us.length = (["thing"] : List Str).length → bindArgs (PySem.W.fnOf "is_fraction" "is_fraction" (defArgs s_is_fraction) (defBody s_is_fraction) (defScope s_is_fraction) .none kV doc pm an cdv ct) ⟨us, []⟩ = pure ((["thing"] : List Str).zip us) := (fun _ _ _ _ _ _ us hl => match us, hl with | [_], _ => rfl)
  refine FnD.as (g := dDef giveS 1 (["thing"] : List Str).length (F_is_fraction (He.ga K))) ?_ rfl
  refine fnD_mk (k := 1) (fb := F_is_fraction (He.ga K)) giveS_ok F T.m_is_fraction sc_is_fraction rfl hb ?_
  intro cdv A outer s H E c
  exact dss_cons (ds_if (L2.PW.pt (dw_or (dt_not (dt_tru (de_callB call_isi oIsi_ok T.b_isinstance bt_isinstance (da_cons (de_var (pv 0)) (da_cons (de_ty T.b_tuple bt_tuple) (da_nil)))))) (dw_or (dt_cmp (op_neD c.room.units) oNe_ok (de_callB call_len_seq oLen_ok T.b_len bt_len (da_cons (de_var (pv 0)) (da_nil))) (de_int)) (dw_or (dt_not (dt_tru (de_call (ok_is_integer T) c.tk (c.room.mono (by decide)) (da_cons (de_ix ix_seq oIx_ok (de_var (pv 0)) (de_int)) (da_nil))))) (dw_or1 (dt_not (dt_tru (de_call (ok_is_integer T) c.tk (c.room.mono (by decide)) (da_cons (de_ix ix_seq oIx_ok (de_var (pv 0)) (de_int)) (da_nil)))))))))) (dss_one (ds_ret (de_bl))) (dss_nil))
    (dss_one (ds_ret (de_and (de_cmp op_ge oGe_ok (de_ix ix_seq oIx_ok (de_var (pv 0)) (de_int)) (de_int)) (de_one (de_cmp (op_eqD c.room.units) oEq_ok (de_call (ok_divisor T) c.tk (c.room.mono (by decide)) (da_cons (de_ix ix_seq oIx_ok (de_var (pv 0)) (de_int)) (da_cons (de_ix ix_seq oIx_ok (de_var (pv 0)) (de_int)) (da_nil)))) (de_int))))))
theorem sc_is_above : FnScope ["thing"] ["thing"] (defScope s_is_above) := ⟨rfl, rfl, rfl, by decide +kernel, rfl, by decide +kernel, by decide +kernel⟩
theorem ok_is_above (T : Txt K mg) : FnD P w K mg base 3 "is_above" 1 (g_is_above (He.ga K)) := by
  obtain ⟨fd, F⟩ := T.d_is_above
  have hb : ∀ (kV doc pm : Value) (an : Option Addr) (cdv ct : Value) (us : List Value), us.length = (["thing"] : List Str).length → bindArgs (PySem.W.fnOf "is_above" "is_above" (defArgs s_is_above) (defBody s_is_above) (defScope s_is_above) .none kV doc pm an cdv ct) ⟨us, []⟩ = pure ((["thing"] : List Str).zip us) := (fun _ _ _ _ _ _ us hl => match us, hl with | [_], _ => rfl)
  refine FnD.as (g := dDef giveS 1 (["thing"] : List Str).length (F_is_above (He.ga K))) ?_ rfl
  refine fnD_mk (k := 2) (fb := F_is_above (He.ga K)) giveS_ok F T.m_is_above sc_is_above rfl hb ?_
  intro cdv A outer s H E c
  exact dss_one (ds_ret (de_and (de_call (ok_is_fraction T) c.tk (c.room.mono (by decide)) (da_cons (de_var (pv 0)) (da_nil))) (de_one (de_cmp op_gt oGt_ok (de_ix ix_seq oIx_ok (de_var (pv 0)) (de_int)) (de_int)))))
theorem sc_plus : FnScope ["one", "other"] ["one", "other"] (defScope s_plus) := ⟨rfl, rfl, rfl, by decide +kernel, rfl, by decide +kernel, by decide +kernel⟩
theorem ok_plus (T : Txt K mg) : FnD P w K mg base 3 "plus" 2 (g_plus (He.ga K)) := by
  obtain ⟨fd, F⟩ := T.d_plus
  have hb : ∀ (kV doc pm : Value) (an : Option Addr) (cdv ct : Value) (us : List Value), us.length = (["one", "other"] : List Str).length → bindArgs (PySem.W.fnOf "plus" "plus" (defArgs s_plus) (defBody s_plus) (defScope s_plus) .none kV doc pm an cdv ct) ⟨us, []⟩ = pure ((["one", "other"] : List Str).zip us) := (fun _ _ _ _ _ _ us hl => match us, hl with | [_, _], _ => rfl)
  refine FnD.as (g := dDef giveS 2 (["one", "other"] : List Str).length (F_plus (He.ga K))) ?_ rfl
  refine fnD_mk (k := 2) (fb := F_plus (He.ga K)) giveS_ok F T.m_plus sc_plus rfl hb ?_
  intro cdv A outer s H E c
  exact dss_one (ds_ret (de_call (ok_lowest T) c.tk (c.room.mono (by decide)) (da_cons (de_op op_add oAdd_ok (de_op op_mulW oMul_ok (de_ix ix_seq oIx_ok (de_var (pv 0)) (de_int)) (de_ix ix_seq oIx_ok (de_var (pv 1)) (de_int))) (de_op op_mulW oMul_ok (de_ix ix_seq oIx_ok (de_var (pv 1)) (de_int)) (de_ix ix_seq oIx_ok (de_var (pv 0)) (de_int)))) (da_cons (de_op op_mulW oMul_ok (de_ix ix_seq oIx_ok (de_var (pv 0)) (de_int)) (de_ix ix_seq oIx_ok (de_var (pv 1)) (de_int))) (da_nil)))))
theorem sc_minus : FnScope ["one", "other"] ["one", "other"] (defScope s_minus) := ⟨rfl, rfl, rfl, by decide +kernel, rfl, by decide +kernel, by decide +kernel⟩
theorem ok_minus (T : Txt K mg) : FnD P w K mg base 3 "minus" 2 (g_minus (He.ga K)) := by
  obtain ⟨fd, F⟩ := T.d_minus
  have hb : ∀ (kV doc pm : Value) (an : Option Addr) (cdv ct : Value) (us : List Value), us.length = (["one", "other"] : List Str).length → bindArgs (PySem.W.fnOf "minus" "minus" (defArgs s_minus) (defBody s_minus) (defScope s_minus) .none kV doc pm an cdv ct) ⟨us, []⟩ = pure ((["one", "other"] : List Str).zip us) := (fun _ _ _ _ _ _ us hl => match us, hl with | [_, _], _ => rfl)
  refine FnD.as (g := dDef giveS 2 (["one", "other"] : List Str).length (F_minus (He.ga K))) ?_ rfl
  refine fnD_mk (k := 2) (fb := F_minus (He.ga K)) giveS_ok F T.m_minus sc_minus rfl hb ?_
  intro cdv A outer s H E c
  exact dss_one (ds_ret (de_call (ok_lowest T) c.tk (c.room.mono (by decide)) (da_cons (de_op op_sub oSub_ok (de_op op_mulW oMul_ok (de_ix ix_seq oIx_ok (de_var (pv 0)) (de_int)) (de_ix ix_seq oIx_ok (de_var (pv 1)) (de_int))) (de_op op_mulW oMul_ok (de_ix ix_seq oIx_ok (de_var (pv 1)) (de_int)) (de_ix ix_seq oIx_ok (de_var (pv 0)) (de_int)))) (da_cons (de_op op_mulW oMul_ok (de_ix ix_seq oIx_ok (de_var (pv 0)) (de_int)) (de_ix ix_seq oIx_ok (de_var (pv 1)) (de_int))) (da_nil)))))
theorem sc_times : FnScope ["one", "other"] ["one", "other"] (defScope s_times) := ⟨rfl, rfl, rfl, by decide +kernel, rfl, by decide +kernel, by decide +kernel⟩
theorem ok_times (T : Txt K mg) : FnD P w K mg base 3 "times" 2 (g_times (He.ga K)) := by
  obtain ⟨fd, F⟩ := T.d_times
  have hb : ∀ (kV doc pm : Value) (an : Option Addr) (cdv ct : Value) (us : List Value), us.length = (["one", "other"] : List Str).length → bindArgs (PySem.W.fnOf "times" "times" (defArgs s_times) (defBody s_times) (defScope s_times) .none kV doc pm an cdv ct) ⟨us, []⟩ = pure ((["one", "other"] : List Str).zip us) := (fun _ _ _ _ _ _ us hl => match us, hl with | [_, _], _ => rfl)
  refine FnD.as (g := dDef giveS 2 (["one", "other"] : List Str).length (F_times (He.ga K))) ?_ rfl
  refine fnD_mk (k := 2) (fb := F_times (He.ga K)) giveS_ok F T.m_times sc_times rfl hb ?_
  intro cdv A outer s H E c
  exact dss_one (ds_ret (de_call (ok_lowest T) c.tk (c.room.mono (by decide)) (da_cons (de_op op_mulW oMul_ok (de_ix ix_seq oIx_ok (de_var (pv 0)) (de_int)) (de_ix ix_seq oIx_ok (de_var (pv 1)) (de_int))) (da_cons (de_op op_mulW oMul_ok (de_ix ix_seq oIx_ok (de_var (pv 0)) (de_int)) (de_ix ix_seq oIx_ok (de_var (pv 1)) (de_int))) (da_nil)))))
theorem sc_raised : FnScope ["fraction", "power", "base", "left", "found"] ["fraction", "power"] (defScope s_raised) := ⟨rfl, rfl, rfl, by decide +kernel, rfl, by decide +kernel, by decide +kernel⟩
theorem ok_raised (T : Txt K mg) : FnD P w K mg base 1 "raised" 2 (g_raised (He.ga K)) := by
  obtain ⟨fd, F⟩ := T.d_raised
  have hb : ∀ (kV doc pm : Value) (an : Option Addr) (cdv ct : Value) (us : List Value), us.length = (["fraction", "power"] : List Str).length → bindArgs (PySem.W.fnOf "raised" "raised" (defArgs s_raised) (defBody s_raised) (defScope s_raised) .none kV doc pm an cdv ct) ⟨us, []⟩ = pure ((["fraction", "power"] : List Str).zip us) := (fun _ _ _ _ _ _ us hl => match us, hl with | [_, _], _ => rfl)
  refine FnD.as (g := dDef giveS 2 (["fraction", "power", "base", "left", "found"] : List Str).length (F_raised (He.ga K))) ?_ rfl
  refine fnD_mk (k := 0) (fb := F_raised (He.ga K)) giveS_ok F T.m_raised sc_raised rfl hb ?_
  intro cdv A outer s H E c
  exact dss_cons (ds_set 2 c.nd (de_if (dt_cmp op_ge oGe_ok (de_var (pv 1)) (de_int)) (de_var (pv 0)) (de_tup (da_cons (de_ix ix_seq oIx_ok (de_var (pv 0)) (de_int)) (da_cons (de_ix ix_seq oIx_ok (de_var (pv 0)) (de_int)) (da_nil))))))
    (dss_cons (ds_set 3 c.nd (de_callB call_abs oAbs_ok T.b_abs bt_abs (da_cons (de_var (pv 1)) (da_nil))))
    (dss_cons (ds_set 4 c.nd (de_tup (da_cons (de_int) (da_cons (de_int) (da_nil)))))
    (dss_cons (ds_while c.po (dt_cmp op_gt oGt_ok (de_var (pv 3)) (de_int)) (dss_cons (ds_if (dt_cmp (op_eqD c.room.units) oEq_ok (de_op op_mod oMod_ok (de_var (pv 3)) (de_int)) (de_int)) (dss_one (ds_set 4 c.nd (de_tup (da_cons (de_op op_mulW oMul_ok (de_ix ix_seq oIx_ok (de_var (pv 4)) (de_int)) (de_ix ix_seq oIx_ok (de_var (pv 2)) (de_int))) (da_cons (de_op op_mulW oMul_ok (de_ix ix_seq oIx_ok (de_var (pv 4)) (de_int)) (de_ix ix_seq oIx_ok (de_var (pv 2)) (de_int))) (da_nil)))))) (dss_nil))
    (dss_cons (ds_set 2 c.nd (de_tup (da_cons (de_op op_mulW oMul_ok (de_ix ix_seq oIx_ok (de_var (pv 2)) (de_int)) (de_ix ix_seq oIx_ok (de_var (pv 2)) (de_int))) (da_cons (de_op op_mulW oMul_ok (de_ix ix_seq oIx_ok (de_var (pv 2)) (de_int)) (de_ix ix_seq oIx_ok (de_var (pv 2)) (de_int))) (da_nil)))))
    (dss_one (ds_set 3 c.nd (de_op op_fdivW oDiv_ok (de_var (pv 3)) (de_int)))))))
    (dss_one (ds_ret (de_var (pv 4)))))))
theorem sc_is_unit_of : FnScope ["bases", "thing", "item"] ["bases", "thing"] (defScope s_is_unit_of) := ⟨rfl, rfl, rfl, by decide +kernel, rfl, by decide +kernel, by decide +kernel⟩
theorem ok_is_unit_of (T : Txt K mg) : FnD P w K mg base 3 "is_unit_of" 2 (g_is_unit_of (He.ga K)) := by
  obtain ⟨fd, F⟩ := T.d_is_unit_of
  have hb : ∀ (kV doc pm : Value) (an : Option Addr) (cdv ct : Value) (us : List Value), us.length = (["bases", "thing"] : List Str).length → bindArgs (PySem.W.fnOf "is_unit_of" "is_unit_of" (defArgs s_is_unit_of) (defBody s_is_unit_of) (defScope s_is_unit_of) .none kV doc pm an cdv ct) ⟨us, []⟩ = pure ((["bases", "thing"] : List Str).zip us) := (fun _ _ _ _ _ _ us hl => match us, hl with | [_, _], _ => rfl)
  refine FnD.as (g := dDef giveS 2 (["bases", "thing", "item"] : List Str).length (F_is_unit_of (He.ga K))) ?_ rfl
  refine fnD_mk (k := 2) (fb := F_is_unit_of (He.ga K)) giveS_ok F T.m_is_unit_of sc_is_unit_of rfl hb ?_
  intro cdv A outer s H E c
  exact dss_one (ds_ret (de_and (de_callB call_isi oIsi_ok T.b_isinstance bt_isinstance (da_cons (de_var (pv 1)) (da_cons (de_ty T.b_tuple bt_tuple) (da_nil)))) (de_and (de_cmp (op_eqD c.room.units) oEq_ok (de_callB call_len_seq oLen_ok T.b_len bt_len (da_cons (de_var (pv 1)) (da_nil))) (de_var (pv 0))) (de_one (de_callB (cr_all rfl) oAll_ok T.b_all bt_all (da_cons (de_lc lcF_ok rfl c.nd (blkOk_by (own := [("item", 2)]) (N := ["bases", "thing", "item"]) (sc := defScope s_is_unit_of) (by decide +kernel)) (di_seq (de_var (pv 1))) (fun _ _ _ _ _ => dg_name 2 c.nd) (fun _ _ _ _ _ => dts_yes) (fun _ _ _ _ _ => de_call (ok_is_fraction T) takes0 (c.room.mono (by decide)) (da_cons (de_var (pv 2)) (da_nil)))) (da_nil)))))))
theorem sc_is_any_unit : FnScope ["thing"] ["thing"] (defScope s_is_any_unit) := ⟨rfl, rfl, rfl, by decide +kernel, rfl, by decide +kernel, by decide +kernel⟩
theorem ok_is_any_unit (T : Txt K mg) : FnD P w K mg base 4 "is_any_unit" 1 (g_is_any_unit (He.ga K)) := by
  obtain ⟨fd, F⟩ := T.d_is_any_unit
  have hb : ∀ (kV doc pm : Value) (an : Option Addr) (cdv ct : Value) (us : List Value), us.length = (["thing"] : List Str).length → bindArgs (PySem.W.fnOf "is_any_unit" "is_any_unit" (defArgs s_is_any_unit) (defBody s_is_any_unit) (defScope s_is_any_unit) .none kV doc pm an cdv ct) ⟨us, []⟩ = pure ((["thing"] : List Str).zip us) := (fun _ _ _ _ _ _ us hl => match us, hl with | [_], _ => rfl)
  refine FnD.as (g := dDef giveS 1 (["thing"] : List Str).length (F_is_any_unit (He.ga K))) ?_ rfl
  refine fnD_mk (k := 3) (fb := F_is_any_unit (He.ga K)) giveS_ok F T.m_is_any_unit sc_is_any_unit rfl hb ?_
  intro cdv A outer s H E c
  exact dss_one (ds_ret (de_and (de_callB call_isi oIsi_ok T.b_isinstance bt_isinstance (da_cons (de_var (pv 0)) (da_cons (de_ty T.b_tuple bt_tuple) (da_nil)))) (de_and (de_chain op_le op_le oLe_ok oLe_ok (de_int) (de_callB call_len_seq oLen_ok T.b_len bt_len (da_cons (de_var (pv 0)) (da_nil))) (de_gint (Exists.choose_spec T.i_MOST_BASES))) (de_one (de_call (ok_is_unit_of T) c.tk (c.room.mono (by decide)) (da_cons (de_callB call_len_seq oLen_ok T.b_len bt_len (da_cons (de_var (pv 0)) (da_nil))) (da_cons (de_var (pv 0)) (da_nil))))))))
theorem sc_unit_plus : FnScope ["one", "other", "first", "second"] ["one", "other"] (defScope s_unit_plus) := ⟨rfl, rfl, rfl, by decide +kernel, rfl, by decide +kernel, by decide +kernel⟩
theorem ok_unit_plus (T : Txt K mg) : FnD P w K mg base 4 "unit_plus" 2 (g_unit_plus (He.ga K)) := by
  obtain ⟨fd, F⟩ := T.d_unit_plus
  have hb : ∀ (kV doc pm : Value) (an : Option Addr) (cdv ct : Value) (us : List Value), us.length = (["one", "other"] : List Str).length → bindArgs (PySem.W.fnOf "unit_plus" "unit_plus" (defArgs s_unit_plus) (defBody s_unit_plus) (defScope s_unit_plus) .none kV doc pm an cdv ct) ⟨us, []⟩ = pure ((["one", "other"] : List Str).zip us) := (fun _ _ _ _ _ _ us hl => match us, hl with | [_, _], _ => rfl)
  refine FnD.as (g := dDef giveS 2 (["one", "other", "first", "second"] : List Str).length (F_unit_plus (He.ga K))) ?_ rfl
  refine fnD_mk (k := 3) (fb := F_unit_plus (He.ga K)) giveS_ok F T.m_unit_plus sc_unit_plus rfl hb ?_
  intro cdv A outer s H E c
  exact dss_one (ds_ret (de_callTy call_tuple_of oTuple_ok T.b_tuple bt_tuple (da_cons (de_lc lcF_ok rfl c.nd (blkOk_by (own := [("first", 2), ("second", 3)]) (N := ["one", "other", "first", "second"]) (sc := defScope s_unit_plus) (by decide +kernel)) (di_zip T.b_zip (da_cons (de_var (pv 0)) (da_cons (de_var (pv 1)) (da_nil)))) (fun _ _ _ _ _ => dg_tup rfl (dgs_cons (dg_name 2 c.nd) (dgs_cons (dg_name 3 c.nd) (dgs_nil)))) (fun _ _ _ _ _ => dts_yes) (fun _ _ _ _ _ => de_call (ok_plus T) takes0 (c.room.mono (by decide)) (da_cons (de_var (pv 2)) (da_cons (de_var (pv 3)) (da_nil))))) (da_nil))))
theorem sc_unit_minus : FnScope ["one", "other", "first", "second"] ["one", "other"] (defScope s_unit_minus) := ⟨rfl, rfl, rfl, by decide +kernel, rfl, by decide +kernel, by decide +kernel⟩
theorem ok_unit_minus (T : Txt K mg) : FnD P w K mg base 4 "unit_minus" 2 (g_unit_minus (He.ga K)) := by
  obtain ⟨fd, F⟩ := T.d_unit_minus
  have hb : ∀ (kV doc pm : Value) (an : Option Addr) (cdv ct : Value) (us : List Value), us.length = (["one", "other"] : List Str).length → bindArgs (PySem.W.fnOf "unit_minus" "unit_minus" (defArgs s_unit_minus) (defBody s_unit_minus) (defScope s_unit_minus) .none kV doc pm an cdv ct) ⟨us, []⟩ = pure ((["one", "other"] : List Str).zip us) := (fun _ _ _ _ _ _ us hl => match us, hl with | [_, _], _ => rfl)
  refine FnD.as (g := dDef giveS 2 (["one", "other", "first", "second"] : List Str).length (F_unit_minus (He.ga K))) ?_ rfl
  refine fnD_mk (k := 3) (fb := F_unit_minus (He.ga K)) giveS_ok F T.m_unit_minus sc_unit_minus rfl hb ?_
  intro cdv A outer s H E c
  exact dss_one (ds_ret (de_callTy call_tuple_of oTuple_ok T.b_tuple bt_tuple (da_cons (de_lc lcF_ok rfl c.nd (blkOk_by (own := [("first", 2), ("second", 3)]) (N := ["one", "other", "first", "second"]) (sc := defScope s_unit_minus) (by decide +kernel)) (di_zip T.b_zip (da_cons (de_var (pv 0)) (da_cons (de_var (pv 1)) (da_nil)))) (fun _ _ _ _ _ => dg_tup rfl (dgs_cons (dg_name 2 c.nd) (dgs_cons (dg_name 3 c.nd) (dgs_nil)))) (fun _ _ _ _ _ => dts_yes) (fun _ _ _ _ _ => de_call (ok_minus T) takes0 (c.room.mono (by decide)) (da_cons (de_var (pv 2)) (da_cons (de_var (pv 3)) (da_nil))))) (da_nil))))
theorem sc_check_unit : FnScope ["thing"] ["thing"] (defScope s_check_unit) := ⟨rfl, rfl, rfl, by decide +kernel, rfl, by decide +kernel, by decide +kernel⟩
theorem ok_check_unit (T : Txt K mg) : FnD P w K mg base 5 "check_unit" 1 (g_check_unit (He.ga K)) := by
  obtain ⟨fd, F⟩ := T.d_check_unit
  have hb : ∀ (kV doc pm : Value) (an : Option Addr) (cdv ct : Value) (us : List Value), us.length = (["thing"] : List Str).length → bindArgs (PySem.W.fnOf "check_unit" "check_unit" (defArgs s_check_unit) (defBody s_check_unit) (defScope s_check_unit) .none kV doc pm an cdv ct) ⟨us, []⟩ = pure ((["thing"] : List Str).zip us) := (fun _ _ _ _ _ _ us hl => match us, hl with | [_], _ => rfl)
  refine FnD.as (g := dDef giveS 1 (["thing"] : List Str).length (F_check_unit (He.ga K))) ?_ rfl
  refine fnD_mk (k := 4) (fb := F_check_unit (He.ga K)) giveS_ok F T.m_check_unit sc_check_unit rfl hb ?_
  intro cdv A outer s H E c
  exact dss_one (ds_if (dt_not (dt_tru (de_call (ok_is_any_unit T) c.tk (c.room.mono (by decide)) (da_cons (de_var (pv 0)) (da_nil))))) (dss_never) (dss_nil))
theorem sc_check_two : FnScope ["one", "other"] ["one", "other"] (defScope s_check_two) := ⟨rfl, rfl, rfl, by decide +kernel, rfl, by decide +kernel, by decide +kernel⟩
theorem ok_check_two (T : Txt K mg) : FnD P w K mg base 6 "check_two" 2 (g_check_two (He.ga K)) := by
  obtain ⟨fd, F⟩ := T.d_check_two
  have hb : ∀ (kV doc pm : Value) (an : Option Addr) (cdv ct : Value) (us : List Value), us.length = (["one", "other"] : List Str).length → bindArgs (PySem.W.fnOf "check_two" "check_two" (defArgs s_check_two) (defBody s_check_two) (defScope s_check_two) .none kV doc pm an cdv ct) ⟨us, []⟩ = pure ((["one", "other"] : List Str).zip us) := (fun _ _ _ _ _ _ us hl => match us, hl with | [_, _], _ => rfl)
  refine FnD.as (g := dDef giveS 2 (["one", "other"] : List Str).length (F_check_two (He.ga K))) ?_ rfl
  refine fnD_mk (k := 5) (fb := F_check_two (He.ga K)) giveS_ok F T.m_check_two sc_check_two rfl hb ?_
  intro cdv A outer s H E c
  exact dss_cons (ds_drop (de_call (ok_check_unit T) c.tk (c.room.mono (by decide)) (da_cons (de_var (pv 0)) (da_nil))))
    (dss_cons (ds_drop (de_call (ok_check_unit T) c.tk (c.room.mono (by decide)) (da_cons (de_var (pv 1)) (da_nil))))
    (dss_one (ds_if (dt_cmp (op_neD c.room.units) oNe_ok (de_callB call_len_seq oLen_ok T.b_len bt_len (da_cons (de_var (pv 0)) (da_nil))) (de_callB call_len_seq oLen_ok T.b_len bt_len (da_cons (de_var (pv 1)) (da_nil)))) (dss_never) (dss_nil))))
theorem sc_times_unit : FnScope ["one", "other"] ["one", "other"] (defScope s_times_unit) := ⟨rfl, rfl, rfl, by decide +kernel, rfl, by decide +kernel, by decide +kernel⟩
theorem ok_times_unit (T : Txt K mg) : FnD P w K mg base 7 "times_unit" 2 (g_times_unit (He.ga K)) := by
  obtain ⟨fd, F⟩ := T.d_times_unit
  have hb : ∀ (kV doc pm : Value) (an : Option Addr) (cdv ct : Value) (us : List Value), us.length = (["one", "other"] : List Str).length → bindArgs (PySem.W.fnOf "times_unit" "times_unit" (defArgs s_times_unit) (defBody s_times_unit) (defScope s_times_unit) .none kV doc pm an cdv ct) ⟨us, []⟩ = pure ((["one", "other"] : List Str).zip us) := (fun _ _ _ _ _ _ us hl => match us, hl with | [_, _], _ => rfl)
  refine FnD.as (g := dDef giveS 2 (["one", "other"] : List Str).length (F_times_unit (He.ga K))) ?_ rfl
  refine fnD_mk (k := 6) (fb := F_times_unit (He.ga K)) giveS_ok F T.m_times_unit sc_times_unit rfl hb ?_
  intro cdv A outer s H E c
  exact dss_cons (ds_drop (de_call (ok_check_two T) c.tk (c.room.mono (by decide)) (da_cons (de_var (pv 0)) (da_cons (de_var (pv 1)) (da_nil)))))
    (dss_one (ds_ret (de_call (ok_unit_plus T) c.tk (c.room.mono (by decide)) (da_cons (de_var (pv 0)) (da_cons (de_var (pv 1)) (da_nil))))))
theorem sc_by_unit : FnScope ["one", "other"] ["one", "other"] (defScope s_by_unit) := ⟨rfl, rfl, rfl, by decide +kernel, rfl, by decide +kernel, by decide +kernel⟩
theorem ok_by_unit (T : Txt K mg) : FnD P w K mg base 7 "by_unit" 2 (g_by_unit (He.ga K)) := by
  obtain ⟨fd, F⟩ := T.d_by_unit
  have hb : ∀ (kV doc pm : Value) (an : Option Addr) (cdv ct : Value) (us : List Value), us.length = (["one", "other"] : List Str).length → bindArgs (PySem.W.fnOf "by_unit" "by_unit" (defArgs s_by_unit) (defBody s_by_unit) (defScope s_by_unit) .none kV doc pm an cdv ct) ⟨us, []⟩ = pure ((["one", "other"] : List Str).zip us) := (fun _ _ _ _ _ _ us hl => match us, hl with | [_, _], _ => rfl)
  refine FnD.as (g := dDef giveS 2 (["one", "other"] : List Str).length (F_by_unit (He.ga K))) ?_ rfl
  refine fnD_mk (k := 6) (fb := F_by_unit (He.ga K)) giveS_ok F T.m_by_unit sc_by_unit rfl hb ?_
  intro cdv A outer s H E c
  exact dss_cons (ds_drop (de_call (ok_check_two T) c.tk (c.room.mono (by decide)) (da_cons (de_var (pv 0)) (da_cons (de_var (pv 1)) (da_nil)))))
    (dss_one (ds_ret (de_call (ok_unit_minus T) c.tk (c.room.mono (by decide)) (da_cons (de_var (pv 0)) (da_cons (de_var (pv 1)) (da_nil))))))
theorem sc_check_roots : FnScope ["bases", "thing", "item"] ["bases", "thing"] (defScope s_check_roots) := ⟨rfl, rfl, rfl, by decide +kernel, rfl, by decide +kernel, by decide +kernel⟩
theorem ok_check_roots (T : Txt K mg) : FnD P w K mg base 4 "check_roots" 2 (g_check_roots (He.ga K)) := by
  obtain ⟨fd, F⟩ := T.d_check_roots
  have hb : ∀ (kV doc pm : Value) (an : Option Addr) (cdv ct : Value) (us : List Value), us.length = (["bases", "thing"] : List Str).length → bindArgs (PySem.W.fnOf "check_roots" "check_roots" (defArgs s_check_roots) (defBody s_check_roots) (defScope s_check_roots) .none kV doc pm an cdv ct) ⟨us, []⟩ = pure ((["bases", "thing"] : List Str).zip us) := (fun _ _ _ _ _ _ us hl => match us, hl with | [_, _], _ => rfl)
  refine FnD.as (g := dDef giveS 2 (["bases", "thing", "item"] : List Str).length (F_check_roots (He.ga K))) ?_ rfl
  refine fnD_mk (k := 3) (fb := F_check_roots (He.ga K)) giveS_ok F T.m_check_roots sc_check_roots rfl hb ?_
  intro cdv A outer s H E c
  exact dss_one (ds_if (L2.PW.pt (dw_or (dt_not (dt_tru (de_callB call_isi oIsi_ok T.b_isinstance bt_isinstance (da_cons (de_var (pv 1)) (da_cons (de_ty T.b_tuple bt_tuple) (da_nil)))))) (dw_or (dt_cmp (op_neD c.room.units) oNe_ok (de_callB call_len_seq oLen_ok T.b_len bt_len (da_cons (de_var (pv 1)) (da_nil))) (de_var (pv 0))) (dw_or1 (dt_not (dt_tru (de_callB (cr_all rfl) oAll_ok T.b_all bt_all (da_cons (de_lc lcF_ok rfl c.nd (blkOk_by (own := [("item", 2)]) (N := ["bases", "thing", "item"]) (sc := defScope s_check_roots) (by decide +kernel)) (di_seq (de_var (pv 1))) (fun _ _ _ _ _ => dg_name 2 c.nd) (fun _ _ _ _ _ => dts_yes) (fun _ _ _ _ _ => de_call (ok_is_above T) takes0 (c.room.mono (by decide)) (da_cons (de_var (pv 2)) (da_nil)))) (da_nil))))))))) (dss_never) (dss_nil))
theorem sc_raw_factor : FnScope ["unit", "roots", "scale", "found", "root", "top", "bottom"] ["unit", "roots", "scale"] (defScope s_raw_factor) := ⟨rfl, rfl, rfl, by decide +kernel, rfl, by decide +kernel, by decide +kernel⟩
theorem ok_raw_factor (T : Txt K mg) : FnD P w K mg base 4 "raw_factor" 3 (g_raw_factor (He.ga K)) := by
  obtain ⟨fd, F⟩ := T.d_raw_factor
  have hb : ∀ (kV doc pm : Value) (an : Option Addr) (cdv ct : Value) (us : List Value), us.length = (["unit", "roots", "scale"] : List Str).length → bindArgs (PySem.W.fnOf "raw_factor" "raw_factor" (defArgs s_raw_factor) (defBody s_raw_factor) (defScope s_raw_factor) .none kV doc pm an cdv ct) ⟨us, []⟩ = pure ((["unit", "roots", "scale"] : List Str).zip us) := (fun _ _ _ _ _ _ us hl => match us, hl with | [_, _, _], _ => rfl)
  refine FnD.as (g := dDef giveS 3 (["unit", "roots", "scale", "found", "root", "top", "bottom"] : List Str).length (F_raw_factor (He.ga K))) ?_ rfl
  refine fnD_mk (k := 3) (fb := F_raw_factor (He.ga K)) giveS_ok F T.m_raw_factor sc_raw_factor rfl hb ?_
  intro cdv A outer s H E c
  exact dss_cons (ds_set 3 c.nd (de_tup (da_cons (de_int) (da_cons (de_int) (da_nil)))))
    (dss_cons (ds_for (vs := [4, 5, 6]) c.po rfl (di_zip T.b_zip (da_cons (de_var (pv 0)) (da_cons (de_var (pv 1)) (da_nil)))) (dg_tup rfl (dgs_cons (dg_tup rfl (dgs_cons (dg_name 5 c.nd) (dgs_cons (dg_name 6 c.nd) (dgs_nil)))) (dgs_cons (dg_name 4 c.nd) (dgs_nil)))) (dss_one (ds_set 3 c.nd (de_call (ok_times T) c.tk (c.room.mono (by decide)) (da_cons (de_var (pv 3)) (da_cons (de_call (ok_raised T) c.tk (c.room.mono (by decide)) (da_cons (de_var (pv 4)) (da_cons (de_op op_fdivW oDiv_ok (de_op op_mulW oMul_ok (de_var (pv 5)) (de_var (pv 2))) (de_var (pv 6))) (da_nil)))) (da_nil)))))))
    (dss_one (ds_ret (de_var (pv 3)))))
theorem sc_factor : FnScope ["unit", "roots", "scale", "top", "bottom"] ["unit", "roots", "scale"] (defScope s_factor) := ⟨rfl, rfl, rfl, by decide +kernel, rfl, by decide +kernel, by decide +kernel⟩
theorem ok_factor (T : Txt K mg) : FnD P w K mg base 6 "factor" 3 (g_factor (He.ga K)) := by
  obtain ⟨fd, F⟩ := T.d_factor
  have hb : ∀ (kV doc pm : Value) (an : Option Addr) (cdv ct : Value) (us : List Value), us.length = (["unit", "roots", "scale"] : List Str).length → bindArgs (PySem.W.fnOf "factor" "factor" (defArgs s_factor) (defBody s_factor) (defScope s_factor) .none kV doc pm an cdv ct) ⟨us, []⟩ = pure ((["unit", "roots", "scale"] : List Str).zip us) := (fun _ _ _ _ _ _ us hl => match us, hl with | [_, _, _], _ => rfl)
  refine FnD.as (g := dDef giveS 3 (["unit", "roots", "scale", "top", "bottom"] : List Str).length (F_factor (He.ga K))) ?_ rfl
  refine fnD_mk (k := 5) (fb := F_factor (He.ga K)) giveS_ok F T.m_factor sc_factor rfl hb ?_
  intro cdv A outer s H E c
  exact dss_cons (ds_drop (de_call (ok_check_unit T) c.tk (c.room.mono (by decide)) (da_cons (de_var (pv 0)) (da_nil))))
    (dss_cons (ds_drop (de_call (ok_check_roots T) c.tk (c.room.mono (by decide)) (da_cons (de_callB call_len_seq oLen_ok T.b_len bt_len (da_cons (de_var (pv 0)) (da_nil))) (da_cons (de_var (pv 1)) (da_nil)))))
    (dss_cons (ds_if (L2.PW.pt (dw_or (dt_not (dt_tru (de_call (ok_is_integer T) c.tk (c.room.mono (by decide)) (da_cons (de_var (pv 2)) (da_nil))))) (dw_or (dt_cmp op_lt oLt_ok (de_var (pv 2)) (de_int)) (dw_or1 (dt_tru (de_callB (cr_any rfl) oAny_ok T.b_any bt_any (da_cons (de_lc lcF_ok rfl c.nd (blkOk_by (own := [("top", 3), ("bottom", 4)]) (N := ["unit", "roots", "scale", "top", "bottom"]) (sc := defScope s_factor) (by decide +kernel)) (di_seq (de_var (pv 0))) (fun _ _ _ _ _ => dg_tup rfl (dgs_cons (dg_name 3 c.nd) (dgs_cons (dg_name 4 c.nd) (dgs_nil)))) (fun _ _ _ _ _ => dts_yes) (fun _ _ _ _ _ => de_cmp (op_neD c.room.units) oNe_ok (de_op op_mod oMod_ok (de_var (pv 2)) (de_var (pv 4))) (de_int))) (da_nil)))))))) (dss_never) (dss_nil))
    (dss_one (ds_ret (de_call (ok_raw_factor T) c.tk (c.room.mono (by decide)) (da_cons (de_var (pv 0)) (da_cons (de_var (pv 1)) (da_cons (de_var (pv 2)) (da_nil)))))))))
theorem sc__law_is_integer : FnScope ["_law_thing"] ["_law_thing"] (defScope s__law_is_integer) := ⟨rfl, rfl, rfl, by decide +kernel, rfl, by decide +kernel, by decide +kernel⟩
theorem ok__law_is_integer (T : Txt K mg) : FnD P w K mg base 1 "_law_is_integer" 1 (g__law_is_integer (He.ga K)) := by
  obtain ⟨fd, F⟩ := T.d__law_is_integer
  have hb : ∀ (kV doc pm : Value) (an : Option Addr) (cdv ct : Value) (us : List Value), us.length = (["_law_thing"] : List Str).length → bindArgs (PySem.W.fnOf "_law_is_integer" "_law_is_integer" (defArgs s__law_is_integer) (defBody s__law_is_integer) (defScope s__law_is_integer) .none kV doc pm an cdv ct) ⟨us, []⟩ = pure ((["_law_thing"] : List Str).zip us) := (fun _ _ _ _ _ _ us hl => match us, hl with | [_], _ => rfl)
  refine FnD.as (g := dDef giveS 1 (["_law_thing"] : List Str).length (F__law_is_integer (He.ga K))) ?_ rfl
  refine fnD_mk (k := 0) (fb := F__law_is_integer (He.ga K)) giveS_ok F T.m__law_is_integer sc__law_is_integer rfl hb ?_
  intro cdv A outer s H E c
  exact dss_one (ds_ret (de_and (de_callB call_isi oIsi_ok T.b_isinstance bt_isinstance (da_cons (de_var (pv 0)) (da_cons (de_ty T.b_int bt_int) (da_nil)))) (de_one (de_not (de_callB call_isi oIsi_ok T.b_isinstance bt_isinstance (da_cons (de_var (pv 0)) (da_cons (de_ty T.b_bool bt_bool) (da_nil))))))))
theorem sc__law_state : FnScope ["_law_script", "_law_turn"] ["_law_script", "_law_turn"] (defScope s__law_state) := ⟨rfl, rfl, rfl, by decide +kernel, rfl, by decide +kernel, by decide +kernel⟩
theorem ok__law_state (T : Txt K mg) : FnD P w K mg base 1 "_law_state" 2 (g__law_state (He.ga K)) := by
  obtain ⟨fd, F⟩ := T.d__law_state
  have hb : ∀ (kV doc pm : Value) (an : Option Addr) (cdv ct : Value) (us : List Value), us.length = (["_law_script", "_law_turn"] : List Str).length → bindArgs (PySem.W.fnOf "_law_state" "_law_state" (defArgs s__law_state) (defBody s__law_state) (defScope s__law_state) .none kV doc pm an cdv ct) ⟨us, []⟩ = pure ((["_law_script", "_law_turn"] : List Str).zip us) := (fun _ _ _ _ _ _ us hl => match us, hl with | [_, _], _ => rfl)
  refine FnD.as (g := dDef giveM 2 (["_law_script", "_law_turn"] : List Str).length (F__law_state (He.ga K))) ?_ rfl
  refine fnD_mk (k := 0) (fb := F__law_state (He.ga K)) giveM_ok F T.m__law_state sc__law_state rfl hb ?_
  intro cdv A outer s H E c
  exact dss_one (ds_ret (de_loc (da_cons (de_callTy call_list_of oList_ok T.b_list bt_list (da_cons (de_var (pv 0)) (da_nil))) (da_cons (de_int) (da_cons (de_int) (da_cons (de_op op_add oAdd_ok (de_int) (de_var (pv 1))) (da_nil)))))))
theorem sc__law_mixed : FnScope ["_law_number", "_law_more"] ["_law_number", "_law_more"] (defScope s__law_mixed) := ⟨rfl, rfl, rfl, by decide +kernel, rfl, by decide +kernel, by decide +kernel⟩
theorem ok__law_mixed (T : Txt K mg) : FnD P w K mg base 1 "_law_mixed" 2 (g__law_mixed (He.ga K)) := by
  obtain ⟨fd, F⟩ := T.d__law_mixed
  have hb : ∀ (kV doc pm : Value) (an : Option Addr) (cdv ct : Value) (us : List Value), us.length = (["_law_number", "_law_more"] : List Str).length → bindArgs (PySem.W.fnOf "_law_mixed" "_law_mixed" (defArgs s__law_mixed) (defBody s__law_mixed) (defScope s__law_mixed) .none kV doc pm an cdv ct) ⟨us, []⟩ = pure ((["_law_number", "_law_more"] : List Str).zip us) := (fun _ _ _ _ _ _ us hl => match us, hl with | [_, _], _ => rfl)
  refine FnD.as (g := dDef giveS 2 (["_law_number", "_law_more"] : List Str).length (F__law_mixed (He.ga K))) ?_ rfl
  refine fnD_mk (k := 0) (fb := F__law_mixed (He.ga K)) giveS_ok F T.m__law_mixed sc__law_mixed rfl hb ?_
  intro cdv A outer s H E c
  exact dss_cons (ds_set 0 c.nd (de_op op_mod oMod_ok (de_callTy call_int1 oInt_ok T.b_int bt_int (da_cons (de_op op_add oAdd_ok (de_op op_add oAdd_ok (de_op op_mulW oMul_ok (de_var (pv 0)) (de_int)) (de_op op_mulW oMul_ok (de_op op_mod oMod_ok (de_callTy call_int1 oInt_ok T.b_int bt_int (da_cons (de_var (pv 1)) (da_nil))) (de_int)) (de_int))) (de_int)) (da_nil))) (de_int)))
    (dss_cons (ds_set 0 c.nd (de_op op_mod oMod_ok (de_callTy call_int1 oInt_ok T.b_int bt_int (da_cons (de_op op_mulW oMul_ok (de_var (pv 0)) (de_op op_add oAdd_ok (de_op op_fdivW oDiv_ok (de_var (pv 0)) (de_int)) (de_int))) (da_nil))) (de_int)))
    (dss_one (ds_ret (de_op op_mod oMod_ok (de_callTy call_int1 oInt_ok T.b_int bt_int (da_cons (de_op op_mulW oMul_ok (de_var (pv 0)) (de_op op_add oAdd_ok (de_op op_fdivW oDiv_ok (de_var (pv 0)) (de_int)) (de_int))) (da_nil))) (de_int)))))
theorem sc__law_draw : FnScope ["_law_state_here", "_law_many", "_law_taken", "_law_found"] ["_law_state_here", "_law_many"] (defScope s__law_draw) := ⟨rfl, rfl, rfl, by decide +kernel, rfl, by decide +kernel, by decide +kernel⟩
theorem ok__law_draw (T : Txt K mg) : FnD P w K mg base 2 "_law_draw" 2 (g__law_draw (He.ga K)) := by
  obtain ⟨fd, F⟩ := T.d__law_draw
  have hb : ∀ (kV doc pm : Value) (an : Option Addr) (cdv ct : Value) (us : List Value), us.length = (["_law_state_here", "_law_many"] : List Str).length → bindArgs (PySem.W.fnOf "_law_draw" "_law_draw" (defArgs s__law_draw) (defBody s__law_draw) (defScope s__law_draw) .none kV doc pm an cdv ct) ⟨us, []⟩ = pure ((["_law_state_here", "_law_many"] : List Str).zip us) := (fun _ _ _ _ _ _ us hl => match us, hl with | [_, _], _ => rfl)
  refine FnD.as (g := dDef giveS 2 (["_law_state_here", "_law_many", "_law_taken", "_law_found"] : List Str).length (F__law_draw (He.ga K))) ?_ rfl
  refine fnD_mk (k := 1) (fb := F__law_draw (He.ga K)) giveS_ok F T.m__law_draw sc__law_draw rfl hb ?_
  intro cdv A outer s H E c
  exact dss_cons (ds_if (L2.PW.pt (dw_and (dt_cmp (op_eqD c.room.units) oEq_ok (de_ix ix_seq oIx_ok (de_var (pv 0)) (de_int)) (de_int)) (dw_and1 (dt_cmp op_lt oLt_ok (de_ix ix_seq oIx_ok (de_var (pv 0)) (de_int)) (de_callB call_len_seq oLen_ok T.b_len bt_len (da_cons (de_ix ix_seq oIx_ok (de_var (pv 0)) (de_int)) (da_nil))))))) (dss_cons (ds_set 2 c.nd (de_ix ix_seq oIx_ok (de_ix ix_seq oIx_ok (de_var (pv 0)) (de_int)) (de_ix ix_seq oIx_ok (de_var (pv 0)) (de_int))))
    (dss_cons (ds_asg (vs := []) (de_op op_add oAdd_ok (de_ix ix_seq oIx_ok (de_var (pv 0)) (de_int)) (de_int)) (dg_ix (Wx := WF) (de_var (pv 0)) (de_int)))
    (dss_one (ds_if (dt_cmp op_ge oGe_ok (de_var (pv 2)) (de_op op_pow oPow_ok (de_int) (de_int))) (dss_one (ds_asg (vs := []) (de_var (pv 2)) (dg_ix (Wx := WF) (de_var (pv 0)) (de_int)))) (dss_one (ds_asg (vs := []) (de_call (ok__law_mixed T) c.tk (c.room.mono (by decide)) (da_cons (de_ix ix_seq oIx_ok (de_var (pv 0)) (de_int)) (da_cons (de_var (pv 2)) (da_nil)))) (dg_ix (Wx := WF) (de_var (pv 0)) (de_int)))))))) (dss_nil))
    (dss_cons (ds_if (dt_cmp op_gt oGt_ok (de_ix ix_seq oIx_ok (de_var (pv 0)) (de_int)) (de_int)) (dss_cons (ds_set 3 c.nd (de_op op_mod oMod_ok (de_callTy call_int1 oInt_ok T.b_int bt_int (da_cons (de_ix ix_seq oIx_ok (de_var (pv 0)) (de_int)) (da_nil))) (de_var (pv 1))))
    (dss_cons (ds_asg (vs := []) (de_op op_fdivW oDiv_ok (de_ix ix_seq oIx_ok (de_var (pv 0)) (de_int)) (de_var (pv 1))) (dg_ix (Wx := WF) (de_var (pv 0)) (de_int)))
    (dss_one (ds_ret (de_var (pv 3)))))) (dss_nil))
    (dss_cons (ds_asg (vs := []) (de_call (ok__law_mixed T) c.tk (c.room.mono (by decide)) (da_cons (de_ix ix_seq oIx_ok (de_var (pv 0)) (de_int)) (da_cons (de_ix ix_seq oIx_ok (de_var (pv 0)) (de_int)) (da_nil)))) (dg_ix (Wx := WF) (de_var (pv 0)) (de_int)))
    (dss_one (ds_ret (de_op op_mod oMod_ok (de_op op_fdivW oDiv_ok (de_callTy call_int1 oInt_ok T.b_int bt_int (da_cons (de_ix ix_seq oIx_ok (de_var (pv 0)) (de_int)) (da_nil))) (de_int)) (de_var (pv 1)))))))
theorem sc__law_low : FnScope ["_law_top", "_law_bottom", "_law_one", "_law_other", "_law_rest"] ["_law_top", "_law_bottom"] (defScope s__law_low) := ⟨rfl, rfl, rfl, by decide +kernel, rfl, by decide +kernel, by decide +kernel⟩
theorem ok__law_low (T : Txt K mg) : FnD P w K mg base 1 "_law_low" 2 (g__law_low (He.ga K)) := by
  obtain ⟨fd, F⟩ := T.d__law_low
  have hb : ∀ (kV doc pm : Value) (an : Option Addr) (cdv ct : Value) (us : List Value), us.length = (["_law_top", "_law_bottom"] : List Str).length → bindArgs (PySem.W.fnOf "_law_low" "_law_low" (defArgs s__law_low) (defBody s__law_low) (defScope s__law_low) .none kV doc pm an cdv ct) ⟨us, []⟩ = pure ((["_law_top", "_law_bottom"] : List Str).zip us) := (fun _ _ _ _ _ _ us hl => match us, hl with | [_, _], _ => rfl)
  refine FnD.as (g := dDef giveS 2 (["_law_top", "_law_bottom", "_law_one", "_law_other", "_law_rest"] : List Str).length (F__law_low (He.ga K))) ?_ rfl
  refine fnD_mk (k := 0) (fb := F__law_low (He.ga K)) giveS_ok F T.m__law_low sc__law_low rfl hb ?_
  intro cdv A outer s H E c
  exact dss_cons (ds_set 2 c.nd (de_callB call_abs oAbs_ok T.b_abs bt_abs (da_cons (de_var (pv 0)) (da_nil))))
    (dss_cons (ds_set 3 c.nd (de_callB call_abs oAbs_ok T.b_abs bt_abs (da_cons (de_var (pv 1)) (da_nil))))
    (dss_cons (ds_while c.po (dt_cmp op_gt oGt_ok (de_var (pv 3)) (de_int)) (dss_cons (ds_set 4 c.nd (de_op op_mod oMod_ok (de_callTy call_int1 oInt_ok T.b_int bt_int (da_cons (de_var (pv 2)) (da_nil))) (de_var (pv 3))))
    (dss_cons (ds_set 2 c.nd (de_var (pv 3)))
    (dss_one (ds_set 3 c.nd (de_var (pv 4)))))))
    (dss_cons (ds_if (dt_cmp op_lt oLt_ok (de_var (pv 1)) (de_int)) (dss_one (ds_set 2 c.nd (de_neg (de_var (pv 2))))) (dss_nil))
    (dss_one (ds_ret (de_tup (da_cons (de_op op_fdivW oDiv_ok (de_var (pv 0)) (de_var (pv 2))) (da_cons (de_op op_fdivW oDiv_ok (de_var (pv 1)) (de_var (pv 2))) (da_nil)))))))))
theorem sc__law_product : FnScope ["_law_one", "_law_other"] ["_law_one", "_law_other"] (defScope s__law_product) := ⟨rfl, rfl, rfl, by decide +kernel, rfl, by decide +kernel, by decide +kernel⟩
theorem ok__law_product (T : Txt K mg) : FnD P w K mg base 2 "_law_product" 2 (g__law_product (He.ga K)) := by
  obtain ⟨fd, F⟩ := T.d__law_product
  have hb : ∀ (kV doc pm : Value) (an : Option Addr) (cdv ct : Value) (us : List Value), us.length = (["_law_one", "_law_other"] : List Str).length → bindArgs (PySem.W.fnOf "_law_product" "_law_product" (defArgs s__law_product) (defBody s__law_product) (defScope s__law_product) .none kV doc pm an cdv ct) ⟨us, []⟩ = pure ((["_law_one", "_law_other"] : List Str).zip us) := (fun _ _ _ _ _ _ us hl => match us, hl with | [_, _], _ => rfl)
  refine FnD.as (g := dDef giveS 2 (["_law_one", "_law_other"] : List Str).length (F__law_product (He.ga K))) ?_ rfl
  refine fnD_mk (k := 1) (fb := F__law_product (He.ga K)) giveS_ok F T.m__law_product sc__law_product rfl hb ?_
  intro cdv A outer s H E c
  exact dss_one (ds_ret (de_call (ok__law_low T) c.tk (c.room.mono (by decide)) (da_cons (de_op op_mulW oMul_ok (de_ix ix_seq oIx_ok (de_var (pv 0)) (de_int)) (de_ix ix_seq oIx_ok (de_var (pv 1)) (de_int))) (da_cons (de_op op_mulW oMul_ok (de_ix ix_seq oIx_ok (de_var (pv 0)) (de_int)) (de_ix ix_seq oIx_ok (de_var (pv 1)) (de_int))) (da_nil)))))
theorem sc__law_exponent : FnScope ["_law_state_here", "_law_bottom"] ["_law_state_here"] (defScope s__law_exponent) := ⟨rfl, rfl, rfl, by decide +kernel, rfl, by decide +kernel, by decide +kernel⟩
theorem ok__law_exponent (T : Txt K mg) : FnD P w K mg base 3 "_law_exponent" 1 (g__law_exponent (He.ga K)) := by
  obtain ⟨fd, F⟩ := T.d__law_exponent
  have hb : ∀ (kV doc pm : Value) (an : Option Addr) (cdv ct : Value) (us : List Value), us.length = (["_law_state_here"] : List Str).length → bindArgs (PySem.W.fnOf "_law_exponent" "_law_exponent" (defArgs s__law_exponent) (defBody s__law_exponent) (defScope s__law_exponent) .none kV doc pm an cdv ct) ⟨us, []⟩ = pure ((["_law_state_here"] : List Str).zip us) := (fun _ _ _ _ _ _ us hl => match us, hl with | [_], _ => rfl)
  refine FnD.as (g := dDef giveS 1 (["_law_state_here", "_law_bottom"] : List Str).length (F__law_exponent (He.ga K))) ?_ rfl
  refine fnD_mk (k := 2) (fb := F__law_exponent (He.ga K)) giveS_ok F T.m__law_exponent sc__law_exponent rfl hb ?_
  intro cdv A outer s H E c
  exact dss_cons (ds_set 1 c.nd (de_op op_add oAdd_ok (de_int) (de_call (ok__law_draw T) c.tk (c.room.mono (by decide)) (da_cons (de_var (pv 0)) (da_cons (de_int) (da_nil))))))
    (dss_one (ds_ret (de_call (ok__law_low T) c.tk (c.room.mono (by decide)) (da_cons (de_op op_sub oSub_ok (de_call (ok__law_draw T) c.tk (c.room.mono (by decide)) (da_cons (de_var (pv 0)) (da_cons (de_int) (da_nil)))) (de_int)) (da_cons (de_var (pv 1)) (da_nil))))))
theorem sc__law_unit : FnScope ["_law_state_here", "_law_bases", "_law_k"] ["_law_state_here", "_law_bases"] (defScope s__law_unit) := ⟨rfl, rfl, rfl, by decide +kernel, rfl, by decide +kernel, by decide +kernel⟩
theorem ok__law_unit (T : Txt K mg) : FnD P w K mg base 4 "_law_unit" 2 (g__law_unit (He.ga K)) := by
  obtain ⟨fd, F⟩ := T.d__law_unit
  have hb : ∀ (kV doc pm : Value) (an : Option Addr) (cdv ct : Value) (us : List Value), us.length = (["_law_state_here", "_law_bases"] : List Str).length → bindArgs (PySem.W.fnOf "_law_unit" "_law_unit" (defArgs s__law_unit) (defBody s__law_unit) (defScope s__law_unit) .none kV doc pm an cdv ct) ⟨us, []⟩ = pure ((["_law_state_here", "_law_bases"] : List Str).zip us) := (fun _ _ _ _ _ _ us hl => match us, hl with | [_, _], _ => rfl)
  refine FnD.as (g := dDef giveS 2 (["_law_state_here", "_law_bases", "_law_k"] : List Str).length (F__law_unit (He.ga K))) ?_ rfl
  refine fnD_mk (k := 3) (fb := F__law_unit (He.ga K)) giveS_ok F T.m__law_unit sc__law_unit rfl hb ?_
  intro cdv A outer s H E c
  exact dss_one (ds_ret (de_callTy call_tuple_of oTuple_ok T.b_tuple bt_tuple (da_cons (de_lc lcF_ok rfl c.nd (blkOk_by (own := [("_law_k", 2)]) (N := ["_law_state_here", "_law_bases", "_law_k"]) (sc := defScope s__law_unit) (by decide +kernel)) (di_rng1 T.b_range (da_cons (de_var (pv 1)) (da_nil))) (fun _ _ _ _ _ => dg_name 2 c.nd) (fun _ _ _ _ _ => dts_yes) (fun _ _ _ _ _ => de_call (ok__law_exponent T) takes0 (c.room.mono (by decide)) (da_cons (de_var (pv 0)) (da_nil)))) (da_nil))))
theorem sc__law_is_fraction : FnScope ["_law_thing"] ["_law_thing"] (defScope s__law_is_fraction) := ⟨rfl, rfl, rfl, by decide +kernel, rfl, by decide +kernel, by decide +kernel⟩
theorem ok__law_is_fraction (T : Txt K mg) : FnD P w K mg base 2 "_law_is_fraction" 1 (g__law_is_fraction (He.ga K)) := by
  obtain ⟨fd, F⟩ := T.d__law_is_fraction
  have hb : ∀ (kV doc pm : Value) (an : Option Addr) (cdv ct : Value) (us : List Value), us.length = (["_law_thing"] : List Str).length → bindArgs (PySem.W.fnOf "_law_is_fraction" "_law_is_fraction" (defArgs s__law_is_fraction) (defBody s__law_is_fraction) (defScope s__law_is_fraction) .none kV doc pm an cdv ct) ⟨us, []⟩ = pure ((["_law_thing"] : List Str).zip us) := (fun _ _ _ _ _ _ us hl => match us, hl with | [_], _ => rfl)
  refine FnD.as (g := dDef giveS 1 (["_law_thing"] : List Str).length (F__law_is_fraction (He.ga K))) ?_ rfl
  refine fnD_mk (k := 1) (fb := F__law_is_fraction (He.ga K)) giveS_ok F T.m__law_is_fraction sc__law_is_fraction rfl hb ?_
  intro cdv A outer s H E c
  exact dss_cons (ds_if (L2.PW.pt (dw_or (dt_not (dt_tru (de_callB call_isi oIsi_ok T.b_isinstance bt_isinstance (da_cons (de_var (pv 0)) (da_cons (de_ty T.b_tuple bt_tuple) (da_nil)))))) (dw_or1 (dt_cmp (op_neD c.room.units) oNe_ok (de_callB call_len_seq oLen_ok T.b_len bt_len (da_cons (de_var (pv 0)) (da_nil))) (de_int))))) (dss_one (ds_ret (de_bl))) (dss_nil))
    (dss_cons (ds_if (L2.PW.pt (dw_or (dt_not (dt_tru (de_call (ok__law_is_integer T) c.tk (c.room.mono (by decide)) (da_cons (de_ix ix_seq oIx_ok (de_var (pv 0)) (de_int)) (da_nil))))) (dw_or (dt_not (dt_tru (de_call (ok__law_is_integer T) c.tk (c.room.mono (by decide)) (da_cons (de_ix ix_seq oIx_ok (de_var (pv 0)) (de_int)) (da_nil))))) (dw_or1 (dt_cmp op_lt oLt_ok (de_ix ix_seq oIx_ok (de_var (pv 0)) (de_int)) (de_int)))))) (dss_one (ds_ret (de_bl))) (dss_nil))
    (dss_one (ds_ret (de_cmp (op_eqD c.room.units) oEq_ok (de_call (ok__law_low T) c.tk (c.room.mono (by decide)) (da_cons (de_ix ix_seq oIx_ok (de_var (pv 0)) (de_int)) (da_cons (de_ix ix_seq oIx_ok (de_var (pv 0)) (de_int)) (da_nil)))) (de_var (pv 0))))))
theorem sc__law_root : FnScope ["_law_state_here", "_law_most", "_law_top"] ["_law_state_here", "_law_most"] (defScope s__law_root) := ⟨rfl, rfl, rfl, by decide +kernel, rfl, by decide +kernel, by decide +kernel⟩
theorem ok__law_root (T : Txt K mg) : FnD P w K mg base 3 "_law_root" 2 (g__law_root (He.ga K)) := by
  obtain ⟨fd, F⟩ := T.d__law_root
  have hb : ∀ (kV doc pm : Value) (an : Option Addr) (cdv ct : Value) (us : List Value), us.length = (["_law_state_here", "_law_most"] : List Str).length → bindArgs (PySem.W.fnOf "_law_root" "_law_root" (defArgs s__law_root) (defBody s__law_root) (defScope s__law_root) .none kV doc pm an cdv ct) ⟨us, []⟩ = pure ((["_law_state_here", "_law_most"] : List Str).zip us) := (fun _ _ _ _ _ _ us hl => match us, hl with | [_, _], _ => rfl)
  refine FnD.as (g := dDef giveS 2 (["_law_state_here", "_law_most", "_law_top"] : List Str).length (F__law_root (He.ga K))) ?_ rfl
  refine fnD_mk (k := 2) (fb := F__law_root (He.ga K)) giveS_ok F T.m__law_root sc__law_root rfl hb ?_
  intro cdv A outer s H E c
  exact dss_cons (ds_set 2 c.nd (de_op op_add oAdd_ok (de_int) (de_call (ok__law_draw T) c.tk (c.room.mono (by decide)) (da_cons (de_var (pv 0)) (da_cons (de_var (pv 1)) (da_nil))))))
    (dss_one (ds_ret (de_call (ok__law_low T) c.tk (c.room.mono (by decide)) (da_cons (de_var (pv 2)) (da_cons (de_op op_add oAdd_ok (de_int) (de_call (ok__law_draw T) c.tk (c.room.mono (by decide)) (da_cons (de_var (pv 0)) (da_cons (de_var (pv 1)) (da_nil))))) (da_nil))))))
theorem sc__law_power : FnScope ["_law_root_here", "_law_many", "_law_found", "_law_used", "_law_k"] ["_law_root_here", "_law_many"] (defScope s__law_power) := ⟨rfl, rfl, rfl, by decide +kernel, rfl, by decide +kernel, by decide +kernel⟩
theorem ok__law_power (T : Txt K mg) : FnD P w K mg base 1 "_law_power" 2 (g__law_power (He.ga K)) := by
  obtain ⟨fd, F⟩ := T.d__law_power
  have hb : ∀ (kV doc pm : Value) (an : Option Addr) (cdv ct : Value) (us : List Value), us.length = (["_law_root_here", "_law_many"] : List Str).length → bindArgs (PySem.W.fnOf "_law_power" "_law_power" (defArgs s__law_power) (defBody s__law_power) (defScope s__law_power) .none kV doc pm an cdv ct) ⟨us, []⟩ = pure ((["_law_root_here", "_law_many"] : List Str).zip us) := (fun _ _ _ _ _ _ us hl => match us, hl with | [_, _], _ => rfl)
  refine FnD.as (g := dDef giveS 2 (["_law_root_here", "_law_many", "_law_found", "_law_used", "_law_k"] : List Str).length (F__law_power (He.ga K))) ?_ rfl
  refine fnD_mk (k := 0) (fb := F__law_power (He.ga K)) giveS_ok F T.m__law_power sc__law_power rfl hb ?_
  intro cdv A outer s H E c
  exact dss_cons (ds_set 2 c.nd (de_tup (da_cons (de_int) (da_cons (de_int) (da_nil)))))
    (dss_cons (ds_set 3 c.nd (de_var (pv 0)))
    (dss_cons (ds_if (dt_cmp op_lt oLt_ok (de_var (pv 1)) (de_int)) (dss_one (ds_set 3 c.nd (de_tup (da_cons (de_ix ix_seq oIx_ok (de_var (pv 0)) (de_int)) (da_cons (de_ix ix_seq oIx_ok (de_var (pv 0)) (de_int)) (da_nil)))))) (dss_nil))
    (dss_cons (ds_for (vs := [4]) c.po rfl (di_rng1 T.b_range (da_cons (de_callB call_abs oAbs_ok T.b_abs bt_abs (da_cons (de_var (pv 1)) (da_nil))) (da_nil))) (dg_name 4 c.nd) (dss_one (ds_set 2 c.nd (de_tup (da_cons (de_op op_mulW oMul_ok (de_ix ix_seq oIx_ok (de_var (pv 2)) (de_int)) (de_ix ix_seq oIx_ok (de_var (pv 3)) (de_int))) (da_cons (de_op op_mulW oMul_ok (de_ix ix_seq oIx_ok (de_var (pv 2)) (de_int)) (de_ix ix_seq oIx_ok (de_var (pv 3)) (de_int))) (da_nil)))))))
    (dss_one (ds_ret (de_var (pv 2)))))))
theorem sc__law_due : FnScope ["_law_unit_here", "_law_roots", "_law_scale", "_law_found", "_law_k"] ["_law_unit_here", "_law_roots", "_law_scale"] (defScope s__law_due) := ⟨rfl, rfl, rfl, by decide +kernel, rfl, by decide +kernel, by decide +kernel⟩
theorem ok__law_due (T : Txt K mg) : FnD P w K mg base 3 "_law_due" 3 (g__law_due (He.ga K)) := by
  obtain ⟨fd, F⟩ := T.d__law_due
  have hb : ∀ (kV doc pm : Value) (an : Option Addr) (cdv ct : Value) (us : List Value), us.length = (["_law_unit_here", "_law_roots", "_law_scale"] : List Str).length → bindArgs (PySem.W.fnOf "_law_due" "_law_due" (defArgs s__law_due) (defBody s__law_due) (defScope s__law_due) .none kV doc pm an cdv ct) ⟨us, []⟩ = pure ((["_law_unit_here", "_law_roots", "_law_scale"] : List Str).zip us) := (fun _ _ _ _ _ _ us hl => match us, hl with | [_, _, _], _ => rfl)
  refine FnD.as (g := dDef giveS 3 (["_law_unit_here", "_law_roots", "_law_scale", "_law_found", "_law_k"] : List Str).length (F__law_due (He.ga K))) ?_ rfl
  refine fnD_mk (k := 2) (fb := F__law_due (He.ga K)) giveS_ok F T.m__law_due sc__law_due rfl hb ?_
  intro cdv A outer s H E c
  exact dss_cons (ds_set 3 c.nd (de_tup (da_cons (de_int) (da_cons (de_int) (da_nil)))))
    (dss_cons (ds_for (vs := [4]) c.po rfl (di_rng1 T.b_range (da_cons (de_callB call_len_seq oLen_ok T.b_len bt_len (da_cons (de_var (pv 0)) (da_nil))) (da_nil))) (dg_name 4 c.nd) (dss_one (ds_set 3 c.nd (de_call (ok__law_product T) c.tk (c.room.mono (by decide)) (da_cons (de_var (pv 3)) (da_cons (de_call (ok__law_power T) c.tk (c.room.mono (by decide)) (da_cons (de_ix ix_seq oIx_ok (de_var (pv 1)) (de_var (pv 4))) (da_cons (de_op op_fdivW oDiv_ok (de_op op_mulW oMul_ok (de_ix ix_seq oIx_ok (de_ix ix_seq oIx_ok (de_var (pv 0)) (de_var (pv 4))) (de_int)) (de_var (pv 2))) (de_ix ix_seq oIx_ok (de_ix ix_seq oIx_ok (de_var (pv 0)) (de_var (pv 4))) (de_int))) (da_nil)))) (da_nil)))))))
    (dss_one (ds_ret (de_var (pv 3)))))
theorem sc_law : FnScope ["_law_script", "_law_state_here", "_law_bases", "_law_is_great", "_law_scale", "_law_most", "_law_one", "_law_other", "_law_roots", "_law_more", "_law_many", "_law_found", "_law_second", "_law_both", "_law_k", "_law_exponent_here"] ["_law_script"] (defScope s_law) := ⟨rfl, rfl, rfl, by decide +kernel, rfl, by decide +kernel, by decide +kernel⟩
theorem law_fn (T : Txt K mg) : ∃ fd, (∀ (s : Shared) (us : List Value), us.length = 1 → BindsTo s fd ⟨us, []⟩ ((["_law_script"] : List Str).zip us)) ∧ ∀ base : Heap, FnOk P w K mg base (L2.CX P w) 8 (He.ga K "law") fd ["_law_script"] (spD K 1 (g_law (He.ga K))) := by
  obtain ⟨fd, F⟩ := T.d_law
  have hb : ∀ (kV doc pm : Value) (an : Option Addr) (cdv ct : Value) (us : List Value), us.length = (["_law_script"] : List Str).length → bindArgs (PySem.W.fnOf "law" "law" (defArgs s_law) (defBody s_law) (defScope s_law) .none kV doc pm an cdv ct) ⟨us, []⟩ = pure ((["_law_script"] : List Str).zip us) := (fun _ _ _ _ _ _ us hl => match us, hl with | [_], _ => rfl)
  refine ⟨fd, fun s us hl => F.bindsA hb s us hl, fun base => ?_⟩
  show FnOk P w K mg base (L2.CX P w) 8 (He.ga K "law") fd ["_law_script"] (spD K 1 (dDef giveS 1 (["_law_script", "_law_state_here", "_law_bases", "_law_is_great", "_law_scale", "_law_most", "_law_one", "_law_other", "_law_roots", "_law_more", "_law_many", "_law_found", "_law_second", "_law_both", "_law_k", "_law_exponent_here"] : List Str).length (F_law (He.ga K))))
  refine fn_mk (k := 7) (fb := F_law (He.ga K)) giveS_ok F sc_law rfl ?_
  intro cdv A outer s H E c
  exact dss_cons (ds_set 1 c.nd (de_call (ok__law_state T) c.tk (c.room.mono (by decide)) (da_cons (de_var (pv 0)) (da_cons (de_int) (da_nil)))))
    (dss_cons (ds_set 2 c.nd (de_op op_add oAdd_ok (de_int) (de_call (ok__law_draw T) c.tk (c.room.mono (by decide)) (da_cons (de_var (pv 1)) (da_cons (de_int) (da_nil))))))
    (dss_cons (ds_set 3 c.nd (de_cmp (op_eqD c.room.units) oEq_ok (de_call (ok__law_draw T) c.tk (c.room.mono (by decide)) (da_cons (de_var (pv 1)) (da_cons (de_int) (da_nil)))) (de_int)))
    (dss_cons (ds_set 4 c.nd (de_int))
    (dss_cons (ds_set 5 c.nd (de_op op_sub oSub_ok (de_op op_pow oPow_ok (de_int) (de_int)) (de_int)))
    (dss_cons (ds_if (dt_not (dt_tru (de_var (pv 3)))) (dss_cons (ds_set 4 c.nd (de_op op_mulW oMul_ok (de_int) (de_op op_add oAdd_ok (de_int) (de_call (ok__law_draw T) c.tk (c.room.mono (by decide)) (da_cons (de_var (pv 1)) (da_cons (de_int) (da_nil)))))))
    (dss_one (ds_set 5 c.nd (de_ix ix_seq oIx_ok (de_lst (da_cons (de_int) (da_cons (de_int) (da_cons (de_int) (da_cons (de_int) (da_nil)))))) (de_call (ok__law_draw T) c.tk (c.room.mono (by decide)) (da_cons (de_var (pv 1)) (da_cons (de_int) (da_nil)))))))) (dss_nil))
    (dss_cons (ds_set 6 c.nd (de_call (ok__law_unit T) c.tk (c.room.mono (by decide)) (da_cons (de_var (pv 1)) (da_cons (de_var (pv 2)) (da_nil)))))
    (dss_cons (ds_set 7 c.nd (de_call (ok__law_unit T) c.tk (c.room.mono (by decide)) (da_cons (de_var (pv 1)) (da_cons (de_var (pv 2)) (da_nil)))))
    (dss_cons (ds_if (dt_tru (de_var (pv 3))) (dss_one (ds_set 6 c.nd (de_callTy call_tuple_of oTuple_ok T.b_tuple bt_tuple (da_cons (de_lc lcF_ok rfl c.nd (blkOk_by (own := [("_law_exponent_here", 15)]) (N := ["_law_script", "_law_state_here", "_law_bases", "_law_is_great", "_law_scale", "_law_most", "_law_one", "_law_other", "_law_roots", "_law_more", "_law_many", "_law_found", "_law_second", "_law_both", "_law_k", "_law_exponent_here"]) (sc := defScope s_law) (by decide +kernel)) (di_seq (de_var (pv 6))) (fun _ _ _ _ _ => dg_name 15 c.nd) (fun _ _ _ _ _ => dts_yes) (fun _ _ _ _ _ => de_if (dt_cmp (op_eqD c.room.units) oEq_ok (de_op op_mod oMod_ok (de_callTy call_int1 oInt_ok T.b_int bt_int (da_cons (de_ix ix_seq oIx_ok (de_var (pv 15)) (de_int)) (da_nil))) (de_int)) (de_int)) (de_tup (da_cons (de_ix ix_seq oIx_ok (de_var (pv 15)) (de_int)) (da_cons (de_int) (da_nil)))) (de_tup (da_cons (de_int) (da_cons (de_int) (da_nil)))))) (da_nil))))) (dss_nil))
    (dss_cons (ds_set 8 c.nd (de_callTy call_tuple_of oTuple_ok T.b_tuple bt_tuple (da_cons (de_lc lcF_ok rfl c.nd (blkOk_by (own := [("_law_k", 14)]) (N := ["_law_script", "_law_state_here", "_law_bases", "_law_is_great", "_law_scale", "_law_most", "_law_one", "_law_other", "_law_roots", "_law_more", "_law_many", "_law_found", "_law_second", "_law_both", "_law_k", "_law_exponent_here"]) (sc := defScope s_law) (by decide +kernel)) (di_rng1 T.b_range (da_cons (de_var (pv 2)) (da_nil))) (fun _ _ _ _ _ => dg_name 14 c.nd) (fun _ _ _ _ _ => dts_yes) (fun _ _ _ _ _ => de_call (ok__law_root T) takes0 (c.room.mono (by decide)) (da_cons (de_var (pv 1)) (da_cons (de_var (pv 5)) (da_nil))))) (da_nil))))
    (dss_cons (ds_set 9 c.nd (de_callTy call_tuple_of oTuple_ok T.b_tuple bt_tuple (da_cons (de_lc lcF_ok rfl c.nd (blkOk_by (own := [("_law_k", 14)]) (N := ["_law_script", "_law_state_here", "_law_bases", "_law_is_great", "_law_scale", "_law_most", "_law_one", "_law_other", "_law_roots", "_law_more", "_law_many", "_law_found", "_law_second", "_law_both", "_law_k", "_law_exponent_here"]) (sc := defScope s_law) (by decide +kernel)) (di_rng1 T.b_range (da_cons (de_var (pv 2)) (da_nil))) (fun _ _ _ _ _ => dg_name 14 c.nd) (fun _ _ _ _ _ => dts_yes) (fun _ _ _ _ _ => de_call (ok__law_root T) takes0 (c.room.mono (by decide)) (da_cons (de_var (pv 1)) (da_cons (de_int) (da_nil))))) (da_nil))))
    (dss_cons (ds_set 10 c.nd (de_op op_add oAdd_ok (de_int) (de_call (ok__law_draw T) c.tk (c.room.mono (by decide)) (da_cons (de_var (pv 1)) (da_cons (de_int) (da_nil))))))
    (dss_cons (ds_set 11 c.nd (de_call (ok_factor T) c.tk (c.room.mono (by decide)) (da_cons (de_var (pv 6)) (da_cons (de_var (pv 8)) (da_cons (de_var (pv 4)) (da_nil))))))
    (dss_cons (ds_if (L2.PW.pt (dw_or (dt_not (dt_tru (de_call (ok__law_is_fraction T) c.tk (c.room.mono (by decide)) (da_cons (de_var (pv 11)) (da_nil))))) (dw_or1 (dt_cmp (op_neD c.room.units) oNe_ok (de_var (pv 11)) (de_call (ok__law_due T) c.tk (c.room.mono (by decide)) (da_cons (de_var (pv 6)) (da_cons (de_var (pv 8)) (da_cons (de_var (pv 4)) (da_nil))))))))) (dss_one (ds_ret (de_bl))) (dss_nil))
    (dss_cons (ds_if (dt_cmp (op_neD c.room.units) oNe_ok (de_call (ok_factor T) c.tk (c.room.mono (by decide)) (da_cons (de_call (ok_by_unit T) c.tk (c.room.mono (by decide)) (da_cons (de_var (pv 6)) (da_cons (de_var (pv 6)) (da_nil)))) (da_cons (de_var (pv 8)) (da_cons (de_var (pv 4)) (da_nil))))) (de_tup (da_cons (de_int) (da_cons (de_int) (da_nil))))) (dss_one (ds_ret (de_bl))) (dss_nil))
    (dss_cons (ds_set 12 c.nd (de_call (ok_factor T) c.tk (c.room.mono (by decide)) (da_cons (de_var (pv 7)) (da_cons (de_var (pv 9)) (da_cons (de_var (pv 4)) (da_nil))))))
    (dss_cons (ds_if (dt_cmp (op_neD c.room.units) oNe_ok (de_var (pv 12)) (de_call (ok__law_due T) c.tk (c.room.mono (by decide)) (da_cons (de_var (pv 7)) (da_cons (de_var (pv 9)) (da_cons (de_var (pv 4)) (da_nil)))))) (dss_one (ds_ret (de_bl))) (dss_nil))
    (dss_cons (ds_if (dt_cmp (op_neD c.room.units) oNe_ok (de_call (ok_factor T) c.tk (c.room.mono (by decide)) (da_cons (de_call (ok_times_unit T) c.tk (c.room.mono (by decide)) (da_cons (de_var (pv 6)) (da_cons (de_var (pv 7)) (da_nil)))) (da_cons (de_var (pv 9)) (da_cons (de_var (pv 4)) (da_nil))))) (de_call (ok__law_product T) c.tk (c.room.mono (by decide)) (da_cons (de_call (ok_factor T) c.tk (c.room.mono (by decide)) (da_cons (de_var (pv 6)) (da_cons (de_var (pv 9)) (da_cons (de_var (pv 4)) (da_nil))))) (da_cons (de_var (pv 12)) (da_nil))))) (dss_one (ds_ret (de_bl))) (dss_nil))
    (dss_cons (ds_set 13 c.nd (de_callTy call_tuple_of oTuple_ok T.b_tuple bt_tuple (da_cons (de_lc lcF_ok rfl c.nd (blkOk_by (own := [("_law_k", 14)]) (N := ["_law_script", "_law_state_here", "_law_bases", "_law_is_great", "_law_scale", "_law_most", "_law_one", "_law_other", "_law_roots", "_law_more", "_law_many", "_law_found", "_law_second", "_law_both", "_law_k", "_law_exponent_here"]) (sc := defScope s_law) (by decide +kernel)) (di_rng1 T.b_range (da_cons (de_var (pv 2)) (da_nil))) (fun _ _ _ _ _ => dg_name 14 c.nd) (fun _ _ _ _ _ => dts_yes) (fun _ _ _ _ _ => de_call (ok__law_product T) takes0 (c.room.mono (by decide)) (da_cons (de_ix ix_seq oIx_ok (de_var (pv 8)) (de_var (pv 14))) (da_cons (de_ix ix_seq oIx_ok (de_var (pv 9)) (de_var (pv 14))) (da_nil))))) (da_nil))))
    (dss_cons (ds_if (dt_cmp (op_neD c.room.units) oNe_ok (de_call (ok_factor T) c.tk (c.room.mono (by decide)) (da_cons (de_var (pv 6)) (da_cons (de_var (pv 13)) (da_cons (de_var (pv 4)) (da_nil))))) (de_call (ok__law_product T) c.tk (c.room.mono (by decide)) (da_cons (de_var (pv 11)) (da_cons (de_call (ok_factor T) c.tk (c.room.mono (by decide)) (da_cons (de_var (pv 6)) (da_cons (de_var (pv 9)) (da_cons (de_var (pv 4)) (da_nil))))) (da_nil))))) (dss_one (ds_ret (de_bl))) (dss_nil))
    (dss_one (ds_ret (de_cmp (op_eqD c.room.units) oEq_ok (de_call (ok_factor T) c.tk (c.room.mono (by decide)) (da_cons (de_var (pv 7)) (da_cons (de_var (pv 9)) (da_cons (de_op op_mulW oMul_ok (de_var (pv 4)) (de_var (pv 10))) (da_nil))))) (de_call (ok__law_power T) c.tk (c.room.mono (by decide)) (da_cons (de_var (pv 12)) (da_cons (de_var (pv 10)) (da_nil))))))))))))))))))))))))))
end
end P02
set_option Elab.async false
set_option linter.all false
set_option maxRecDepth 100000
set_option maxHeartbeats 4000000
namespace P02
open PySem PySem.Spec PyProof.Rows L2 DL
/-! ### the head -/
def dd_is_integer : He.DefD := ⟨("is_integer", none), "is_integer", "is_integer", defArgs s_is_integer, defBody s_is_integer, defScope s_is_integer, [], []⟩
def dd_divisor : He.DefD := ⟨("divisor", none), "divisor", "divisor", defArgs s_divisor, defBody s_divisor, defScope s_divisor, [], []⟩
def dd_lowest : He.DefD := ⟨("lowest", none), "lowest", "lowest", defArgs s_lowest, defBody s_lowest, defScope s_lowest, [], []⟩
def dd_is_fraction : He.DefD := ⟨("is_fraction", none), "is_fraction", "is_fraction", defArgs s_is_fraction, defBody s_is_fraction, defScope s_is_fraction, [], []⟩
def dd_is_above : He.DefD := ⟨("is_above", none), "is_above", "is_above", defArgs s_is_above, defBody s_is_above, defScope s_is_above, [], []⟩
def dd_plus : He.DefD := ⟨("plus", none), "plus", "plus", defArgs s_plus, defBody s_plus, defScope s_plus, [], []⟩
def dd_minus : He.DefD := ⟨("minus", none), "minus", "minus", defArgs s_minus, defBody s_minus, defScope s_minus, [], []⟩
def dd_times : He.DefD := ⟨("times", none), "times", "times", defArgs s_times, defBody s_times, defScope s_times, [], []⟩
def dd_raised : He.DefD := ⟨("raised", none), "raised", "raised", defArgs s_raised, defBody s_raised, defScope s_raised, [], []⟩
def dd_is_unit_of : He.DefD := ⟨("is_unit_of", none), "is_unit_of", "is_unit_of", defArgs s_is_unit_of, defBody s_is_unit_of, defScope s_is_unit_of, [], []⟩
def dd_is_any_unit : He.DefD := ⟨("is_any_unit", none), "is_any_unit", "is_any_unit", defArgs s_is_any_unit, defBody s_is_any_unit, defScope s_is_any_unit, [], []⟩
def dd_unit_plus : He.DefD := ⟨("unit_plus", none), "unit_plus", "unit_plus", defArgs s_unit_plus, defBody s_unit_plus, defScope s_unit_plus, [], []⟩
def dd_unit_minus : He.DefD := ⟨("unit_minus", none), "unit_minus", "unit_minus", defArgs s_unit_minus, defBody s_unit_minus, defScope s_unit_minus, [], []⟩
def dd_check_unit : He.DefD := ⟨("check_unit", none), "check_unit", "check_unit", defArgs s_check_unit, defBody s_check_unit, defScope s_check_unit, [], []⟩
def dd_check_two : He.DefD := ⟨("check_two", none), "check_two", "check_two", defArgs s_check_two, defBody s_check_two, defScope s_check_two, [], []⟩
def dd_times_unit : He.DefD := ⟨("times_unit", none), "times_unit", "times_unit", defArgs s_times_unit, defBody s_times_unit, defScope s_times_unit, [], []⟩
def dd_by_unit : He.DefD := ⟨("by_unit", none), "by_unit", "by_unit", defArgs s_by_unit, defBody s_by_unit, defScope s_by_unit, [], []⟩
def dd_check_roots : He.DefD := ⟨("check_roots", none), "check_roots", "check_roots", defArgs s_check_roots, defBody s_check_roots, defScope s_check_roots, [], []⟩
def dd_raw_factor : He.DefD := ⟨("raw_factor", none), "raw_factor", "raw_factor", defArgs s_raw_factor, defBody s_raw_factor, defScope s_raw_factor, [], []⟩
def dd_factor : He.DefD := ⟨("factor", none), "factor", "factor", defArgs s_factor, defBody s_factor, defScope s_factor, [], []⟩
def dd__law_is_integer : He.DefD := ⟨("_law_is_integer", none), "_law_is_integer", "_law_is_integer", defArgs s__law_is_integer, defBody s__law_is_integer, defScope s__law_is_integer, [], []⟩
def dd__law_state : He.DefD := ⟨("_law_state", none), "_law_state", "_law_state", defArgs s__law_state, defBody s__law_state, defScope s__law_state, [], []⟩
def dd__law_mixed : He.DefD := ⟨("_law_mixed", none), "_law_mixed", "_law_mixed", defArgs s__law_mixed, defBody s__law_mixed, defScope s__law_mixed, [], []⟩
def dd__law_draw : He.DefD := ⟨("_law_draw", none), "_law_draw", "_law_draw", defArgs s__law_draw, defBody s__law_draw, defScope s__law_draw, [], []⟩
def dd__law_low : He.DefD := ⟨("_law_low", none), "_law_low", "_law_low", defArgs s__law_low, defBody s__law_low, defScope s__law_low, [], []⟩
def dd__law_product : He.DefD := ⟨("_law_product", none), "_law_product", "_law_product", defArgs s__law_product, defBody s__law_product, defScope s__law_product, [], []⟩
def dd__law_exponent : He.DefD := ⟨("_law_exponent", none), "_law_exponent", "_law_exponent", defArgs s__law_exponent, defBody s__law_exponent, defScope s__law_exponent, [], []⟩
def dd__law_unit : He.DefD := ⟨("_law_unit", none), "_law_unit", "_law_unit", defArgs s__law_unit, defBody s__law_unit, defScope s__law_unit, [], []⟩
def dd__law_is_fraction : He.DefD := ⟨("_law_is_fraction", none), "_law_is_fraction", "_law_is_fraction", defArgs s__law_is_fraction, defBody s__law_is_fraction, defScope s__law_is_fraction, [], []⟩
def dd__law_root : He.DefD := ⟨("_law_root", none), "_law_root", "_law_root", defArgs s__law_root, defBody s__law_root, defScope s__law_root, [], []⟩
def dd__law_power : He.DefD := ⟨("_law_power", none), "_law_power", "_law_power", defArgs s__law_power, defBody s__law_power, defScope s__law_power, [], []⟩
def dd__law_due : He.DefD := ⟨("_law_due", none), "_law_due", "_law_due", defArgs s__law_due, defBody s__law_due, defScope s__law_due, [], []⟩
def dd_law : He.DefD := ⟨("law", none), "law", "law", defArgs s_law, defBody s_law, defScope s_law, [], []⟩
def fn : List He.DefD := [dd_is_integer, dd_divisor, dd_lowest, dd_is_fraction, dd_is_above, dd_plus, dd_minus, dd_times, dd_raised, dd_is_unit_of, dd_is_any_unit, dd_unit_plus, dd_unit_minus, dd_check_unit, dd_check_two, dd_times_unit, dd_by_unit, dd_check_roots, dd_raw_factor, dd_factor, dd__law_is_integer, dd__law_state, dd__law_mixed, dd__law_draw, dd__law_low, dd__law_product, dd__law_exponent, dd__law_unit, dd__law_is_fraction, dd__law_root, dd__law_power, dd__law_due, dd_law]
def fa : List He.Fa := [.glo "is_integer", .glo "divisor", .glo "lowest", .glo "is_fraction", .glo "is_above", .glo "plus", .glo "minus", .glo "times", .glo "raised", .glo "is_unit_of", .glo "is_any_unit", .glo "unit_plus", .glo "unit_minus", .glo "check_unit", .glo "check_two", .glo "times_unit", .glo "by_unit", .glo "check_roots", .glo "raw_factor", .glo "factor", .glo "_law_is_integer", .glo "_law_state", .glo "_law_mixed", .glo "_law_draw", .glo "_law_low", .glo "_law_product", .glo "_law_exponent", .glo "_law_unit", .glo "_law_is_fraction", .glo "_law_root", .glo "_law_power", .glo "_law_due", .glo "law", .free "abs", .free "all", .free "any", .free "bool", .free "int", .free "isinstance", .free "len", .free "list", .free "range", .free "tuple", .free "zip", .int "MOST_BASES" 3]
theorem txt {K : PySem.W.Frag} {h : Heap} {mg : Str → Option Value} (X : K.In h) (G : h.Ns mainGlobals mg) (c : He.SaysD fa fn K) : Txt K mg where
  d_is_integer := c.def_ 0 (d := dd_is_integer) rfl
  m_is_integer := He.glo_ok X G (c.fact 0 (f := .glo "is_integer") rfl)
  d_divisor := c.def_ 1 (d := dd_divisor) rfl
  m_divisor := He.glo_ok X G (c.fact 1 (f := .glo "divisor") rfl)
  d_lowest := c.def_ 2 (d := dd_lowest) rfl
  m_lowest := He.glo_ok X G (c.fact 2 (f := .glo "lowest") rfl)
  d_is_fraction := c.def_ 3 (d := dd_is_fraction) rfl
  m_is_fraction := He.glo_ok X G (c.fact 3 (f := .glo "is_fraction") rfl)
  d_is_above := c.def_ 4 (d := dd_is_above) rfl
  m_is_above := He.glo_ok X G (c.fact 4 (f := .glo "is_above") rfl)
  d_plus := c.def_ 5 (d := dd_plus) rfl
  m_plus := He.glo_ok X G (c.fact 5 (f := .glo "plus") rfl)
  d_minus := c.def_ 6 (d := dd_minus) rfl
  m_minus := He.glo_ok X G (c.fact 6 (f := .glo "minus") rfl)
  d_times := c.def_ 7 (d := dd_times) rfl
  m_times := He.glo_ok X G (c.fact 7 (f := .glo "times") rfl)
  d_raised := c.def_ 8 (d := dd_raised) rfl
  m_raised := He.glo_ok X G (c.fact 8 (f := .glo "raised") rfl)
  d_is_unit_of := c.def_ 9 (d := dd_is_unit_of) rfl
  m_is_unit_of := He.glo_ok X G (c.fact 9 (f := .glo "is_unit_of") rfl)
  d_is_any_unit := c.def_ 10 (d := dd_is_any_unit) rfl
  m_is_any_unit := He.glo_ok X G (c.fact 10 (f := .glo "is_any_unit") rfl)
  d_unit_plus := c.def_ 11 (d := dd_unit_plus) rfl
  m_unit_plus := He.glo_ok X G (c.fact 11 (f := .glo "unit_plus") rfl)
  d_unit_minus := c.def_ 12 (d := dd_unit_minus) rfl
  m_unit_minus := He.glo_ok X G (c.fact 12 (f := .glo "unit_minus") rfl)
  d_check_unit := c.def_ 13 (d := dd_check_unit) rfl
  m_check_unit := He.glo_ok X G (c.fact 13 (f := .glo "check_unit") rfl)
  d_check_two := c.def_ 14 (d := dd_check_two) rfl
  m_check_two := He.glo_ok X G (c.fact 14 (f := .glo "check_two") rfl)
  d_times_unit := c.def_ 15 (d := dd_times_unit) rfl
  m_times_unit := He.glo_ok X G (c.fact 15 (f := .glo "times_unit") rfl)
  d_by_unit := c.def_ 16 (d := dd_by_unit) rfl
  m_by_unit := He.glo_ok X G (c.fact 16 (f := .glo "by_unit") rfl)
  d_check_roots := c.def_ 17 (d := dd_check_roots) rfl
  m_check_roots := He.glo_ok X G (c.fact 17 (f := .glo "check_roots") rfl)
  d_raw_factor := c.def_ 18 (d := dd_raw_factor) rfl
  m_raw_factor := He.glo_ok X G (c.fact 18 (f := .glo "raw_factor") rfl)
  d_factor := c.def_ 19 (d := dd_factor) rfl
  m_factor := He.glo_ok X G (c.fact 19 (f := .glo "factor") rfl)
  d__law_is_integer := c.def_ 20 (d := dd__law_is_integer) rfl
  m__law_is_integer := He.glo_ok X G (c.fact 20 (f := .glo "_law_is_integer") rfl)
  d__law_state := c.def_ 21 (d := dd__law_state) rfl
  m__law_state := He.glo_ok X G (c.fact 21 (f := .glo "_law_state") rfl)
  d__law_mixed := c.def_ 22 (d := dd__law_mixed) rfl
  m__law_mixed := He.glo_ok X G (c.fact 22 (f := .glo "_law_mixed") rfl)
  d__law_draw := c.def_ 23 (d := dd__law_draw) rfl
  m__law_draw := He.glo_ok X G (c.fact 23 (f := .glo "_law_draw") rfl)
  d__law_low := c.def_ 24 (d := dd__law_low) rfl
  m__law_low := He.glo_ok X G (c.fact 24 (f := .glo "_law_low") rfl)
  d__law_product := c.def_ 25 (d := dd__law_product) rfl
  m__law_product := He.glo_ok X G (c.fact 25 (f := .glo "_law_product") rfl)
  d__law_exponent := c.def_ 26 (d := dd__law_exponent) rfl
  m__law_exponent := He.glo_ok X G (c.fact 26 (f := .glo "_law_exponent") rfl)
  d__law_unit := c.def_ 27 (d := dd__law_unit) rfl
  m__law_unit := He.glo_ok X G (c.fact 27 (f := .glo "_law_unit") rfl)
  d__law_is_fraction := c.def_ 28 (d := dd__law_is_fraction) rfl
  m__law_is_fraction := He.glo_ok X G (c.fact 28 (f := .glo "_law_is_fraction") rfl)
  d__law_root := c.def_ 29 (d := dd__law_root) rfl
  m__law_root := He.glo_ok X G (c.fact 29 (f := .glo "_law_root") rfl)
  d__law_power := c.def_ 30 (d := dd__law_power) rfl
  m__law_power := He.glo_ok X G (c.fact 30 (f := .glo "_law_power") rfl)
  d__law_due := c.def_ 31 (d := dd__law_due) rfl
  m__law_due := He.glo_ok X G (c.fact 31 (f := .glo "_law_due") rfl)
  d_law := c.def_ 32 (d := dd_law) rfl
  m_law := He.glo_ok X G (c.fact 32 (f := .glo "law") rfl)
  b_abs := He.free_ok X G (c.fact 33 (f := .free "abs") rfl)
  b_all := He.free_ok X G (c.fact 34 (f := .free "all") rfl)
  b_any := He.free_ok X G (c.fact 35 (f := .free "any") rfl)
  b_bool := He.free_ok X G (c.fact 36 (f := .free "bool") rfl)
  b_int := He.free_ok X G (c.fact 37 (f := .free "int") rfl)
  b_isinstance := He.free_ok X G (c.fact 38 (f := .free "isinstance") rfl)
  b_len := He.free_ok X G (c.fact 39 (f := .free "len") rfl)
  b_list := He.free_ok X G (c.fact 40 (f := .free "list") rfl)
  b_range := He.free_ok X G (c.fact 41 (f := .free "range") rfl)
  b_tuple := He.free_ok X G (c.fact 42 (f := .free "tuple") rfl)
  b_zip := He.free_ok X G (c.fact 43 (f := .free "zip") rfl)
  i_MOST_BASES := He.int_ok X G (c.fact 44 (f := .int "MOST_BASES" 3) rfl)
def loose : List Str := (["GridError", "NoUnit", "OtherBases", "NoRoots", "NoScale", "MOST_BASES", "is_integer", "divisor", "lowest", "is_fraction", "is_above", "plus", "minus", "times", "raised", "is_unit_of", "is_any_unit", "unit_plus", "unit_minus", "check_unit", "check_two", "times_unit", "by_unit", "check_roots", "raw_factor", "factor", "_law_is_integer", "_law_state", "_law_mixed", "_law_draw"] : List Str) ++ (["_law_low", "_law_product", "_law_exponent", "_law_unit", "_law_is_fraction", "_law_root", "_law_power", "_law_due", "__name__"] : List Str)
abbrev R : PySem.W.OpenRow := PySem.W.OpenLaw.row PySem.Challenge.rw_unitgrids_k02_whole_factors
abbrev hk : PySem.W.Hook := He.hookD 4 fa fn
def ob (s : PySem.W.SharedT) : He.AlD := He.obsDG 4 fa fn (HandSHeadRun.getT s)
theorem ob_eq (s : PySem.W.SharedT) : ob s = hk.obs s.abs := He.obsDG_eq (HandSHeadRun.getT_eq s)
theorem run (w : World) : HandSHeadRun.RunEq R (PySem.W.view R.prog [42]) hk ob 3000 loose w := by
  intro os
  kernel_rfl
end P02
/-! the pure law: a text of its own gives NS.pure_law -/
open PySem PySem.W PySem.Calls PyProof.Rows in
theorem PySem.Challenge.cw_unitgrids_k02_whole_factors_holds : PySem.Challenge.rw_unitgrids_k02_whole_factors.Holds := by
  w_on; o_law
  refine HandSHeadRun.head_any (r := OpenLaw.row PySem.Challenge.rw_unitgrids_k02_whole_factors) (q := view (OpenLaw.row PySem.Challenge.rw_unitgrids_k02_whole_factors).prog [42]) (H := P02.hk) (ob := P02.ob) (M := 3000) (loose := P02.loose) (d := HandSHeadRun.topDef (OpenLaw.row PySem.Challenge.rw_unitgrids_k02_whole_factors).prog 42) (kwd := []) P02.ob_eq
    (by kernel_rfl) (fun s => by kernel_rfl) P02.run (by kernel_rfl) (by kernel_rfl) (by kernel_rfl) (by rfl) (by first | assumption | decide +kernel) (by decide +kernel) ⟨rfl, rfl, rfl, rfl, rfl, by decide +kernel⟩ ?hw ?hc
  case hw => w_witness2
  case hc =>
    refine L2.walk_ofE (l := PySem.Challenge.rw_unitgrids_k02_whole_factors) (n := 63) (k := 8) (x := "_law_script") (CX := L2.CX0) rfl (by decide) (by kernel_rfl) ⟨rfl, by decide, by decide⟩ ?F (fun _ _ _ _ z => z)
    intro w mg f h Y G hmg0
    obtain ⟨K, KX, c⟩ := Y
    have hmg : mg ("law" : PySem.Str) = some (.ref f) := by
      have e : (HandSHeadRun.topDef (OpenLaw.row PySem.Challenge.rw_unitgrids_k02_whole_factors).prog 42).name = ("law" : PySem.Str) := by kernel_rfl
      rw [← e]
      exact hmg0
    have T := P02.txt KX G c
    obtain ⟨fd, hF⟩ := P02.law_fn (P := (PySem.Challenge.rw_unitgrids_k02_whole_factors).prog) (w := w) T
    have e := hmg.symm.trans T.m_law
    cases e
    exact ⟨K, fd, (fun vs H Q _ => DL.spD K 1 (P02.g_law (He.ga K)) vs H Q fun _ _ _ => False), KX, fun s v => hF.1 s [v] rfl, fun H a ns hl _ hS => DL.law_sp hS (P02.pure_law (He.ga K) ns hl).choose_spec, fun base _ _ => DL.fn_noex (hF.2 base)⟩
